import PyProof.Rows.All
import Wide.All
import OpenK.AllK
import Wide.FinOn
import KE.KStateDown
import Lean
import HandS.ForMost
import HandS.More
import HandS.WordsExc
import HandS.Defaults
import HandS.Head0
import HandS.Head1
import HandS.Head2
import HandS.HeadEnd
import HandS.HeadHook1
import HandS.HeadHook2
import KE.KExcIs
import PyProof.StrBlock2
import PyProof.AutoSeq1
import KE.GoesMore
import HandS.TupAny
import HandS.Deep
import HandS.IsInst
import HandS.CallSlots
import HandS.TryOnly
import HandS.Rev
import HandS.RevRange
import HandS.Zip
import HandS.RaiseMore
import HandS.ExcInit
import HandS.Small
import HandS.HeadHook3
import HandS.Codes
import HandS.ExcField
import HandS.ExcIs
import HandS.Text
import HandS.Iter
import PySem.Challenge.RW_heardsaid_k08_moves_that_may_come
set_option Elab.async false
set_option linter.all false
set_option maxRecDepth 100000
set_option maxHeartbeats 4000000
/-! ML: a layer of our own over HandS. W: values without addresses; Rho: a frame's slots as W; a mirror is a function Rho -> R.
F is a ghost: the addresses of lists (dicts) that nobody changes any more; a slot that is own holds a list that nobody else holds. -/
namespace ML
open PySem PySem.Spec PyProof.Rows L2

inductive W where
  | non | bl (b : Bool) | int (i : Int) | str (s : Str)
  | tup (l : List W) | lst (l : List W) | frl (l : List W) | dK (ks : List Key) (l : List W) | fn (x : Str) | ty (n : String) | obj (c : Str) (ns : List Str) (l : List W)

abbrev Fz := Addr → Prop
def LstK (K : PySem.W.Frag) (a : Addr) (vs : List V) : Prop :=
  ∃ (o : Obj) (its : Array Value) (n : Nat), K.lookup a = some o ∧ o.cls = .type "list" ∧ o.dict = none ∧ o.data = .seq its n ∧ its.size ≤ sizeLine ∧ Vals vs its.toList
/-- the script, a list of the text: never changed -/
def FrlL (K : PySem.W.Frag) (H : Hp) (a : Addr) (vs : List V) : Prop := (∃ o, H a = some (.frz o (.lst vs))) ∨ LstK K a vs
theorem FrlL.seq {K : PySem.W.Frag} {H : Hp} {a : Addr} {vs : List V} (h : FrlL K H a vs) : SqL K H a vs := by
  rcases h with h | h
  · exact .inl (.inr h)
  · exact .inr h
def TupK (K : PySem.W.Frag) (a : Addr) (vs : List V) : Prop :=
  ∃ (o : Obj) (its : Array Value) (n : Nat), K.lookup a = some o ∧ o.cls = .type "tuple" ∧ o.data = .seq its n ∧ its.size ≤ sizeLine ∧ Vals vs its.toList
/-- a tuple of the call's own, or of the text -/
def SqU (K : PySem.W.Frag) (H : Hp) (a : Addr) (vs : List V) : Prop := H a = some (.tup vs) ∨ TupK K a vs
theorem SqU.seq {K : PySem.W.Frag} {H : Hp} {a : Addr} {vs : List V} (h : SqU K H a vs) : SqT K H a vs := by
  rcases h with h | h
  · exact .inl (.inl h)
  · exact .inr h
mutual
def Rep (K : PySem.W.Frag) (F : Fz) (H : Hp) : W → V → Prop
  | .non, v => v = .non
  | .bl b, v => v = .bl b
  | .int i, v => v = .int i
  | .str s, v => v = .str s
  | .fn x, v => v = .ref (He.ga K x)
  | .ty n, v => v = .ty n
  | .tup l, v => ∃ a vs, v = .ref a ∧ SqU K H a vs ∧ RepL K F H l vs
  | .lst l, v => ∃ a vs, v = .ref a ∧ F a ∧ H a = some (.lst vs) ∧ RepL K F H l vs
  | .frl l, v => ∃ a vs, v = .ref a ∧ FrlL K H a vs ∧ RepL K F H l vs
  | .dK ks l, v => ∃ a vs, v = .ref a ∧ F a ∧ H a = some (.dK (ks.zip vs)) ∧ ks.length = vs.length ∧ RepL K F H l vs
  | .obj c ns l, v => ∃ a dx vs, v = .ref a ∧ F a ∧ H a = some (.ins (He.ga K c) dx (ns.zip vs)) ∧ ns.length = vs.length ∧ RepL K F H l vs
def RepL (K : PySem.W.Frag) (F : Fz) (H : Hp) : List W → List V → Prop
  | [], vs => vs = []
  | w :: l, vs => ∃ v r, vs = v :: r ∧ Rep K F H w v ∧ RepL K F H l r
end
/-- what is not to change stays: the frozen, and what never changes -/
structure Keeps (F : Fz) (H : Hp) (F' : Fz) (H' : Hp) : Prop where
  f : ∀ a, F a → F' a
  h : ∀ a o, H a = some o → (F a ∨ ¬ Mut (some o)) → H' a = some o
section
variable {K : PySem.W.Frag} {F F' F1 F2 : Fz} {H H' H1 H2 : Hp}
theorem Keeps.refl : Keeps F H F H := ⟨fun _ h => h, fun _ _ h _ => h⟩
theorem Keeps.trans (a : Keeps F H F1 H1) (b : Keeps F1 H1 F2 H2) : Keeps F H F2 H2 :=
  ⟨fun x h => b.f x (a.f x h), fun x o h m => b.h x o (a.h x o h m) (m.imp (a.f x) id)⟩
theorem Keeps.sqU (k : Keeps F H F' H') {a : Addr} {vs : List V} (h : SqU K H a vs) : SqU K H' a vs := by
  rcases h with h | h
  · exact .inl (k.h a _ h (.inr (fun q => q)))
  · exact .inr h
theorem Keeps.frl (k : Keeps F H F' H') {a : Addr} {vs : List V} (h : FrlL K H a vs) : FrlL K H' a vs := by
  rcases h with ⟨o, h⟩ | h
  · exact .inl ⟨o, k.h a _ h (.inr (fun q => q))⟩
  · exact .inr h
mutual
theorem Rep.mono (k : Keeps F H F' H') : ∀ (w : W) {v : V}, Rep K F H w v → Rep K F' H' w v
  | .non, _, h => h
  | .bl _, _, h => h
  | .int _, _, h => h
  | .str _, _, h => h
  | .fn _, _, h => h
  | .ty _, _, h => h
  | .tup l, _, h => by
    obtain ⟨a, vs, e, s, r⟩ := h
    exact ⟨a, vs, e, k.sqU s, RepL.mono k l r⟩
  | .lst l, _, h => by
    obtain ⟨a, vs, e, f, s, r⟩ := h
    exact ⟨a, vs, e, k.f a f, k.h a _ s (.inl f), RepL.mono k l r⟩
  | .frl l, _, h => by
    obtain ⟨a, vs, e, s, r⟩ := h
    exact ⟨a, vs, e, k.frl s, RepL.mono k l r⟩
  | .dK ks l, _, h => by
    obtain ⟨a, vs, e, f, s, n, r⟩ := h
    exact ⟨a, vs, e, k.f a f, k.h a _ s (.inl f), n, RepL.mono k l r⟩
  | .obj c ns l, _, h => by
    obtain ⟨a, dx, vs, e, f, s, n, r⟩ := h
    exact ⟨a, dx, vs, e, k.f a f, k.h a _ s (.inl f), n, RepL.mono k l r⟩
theorem RepL.mono (k : Keeps F H F' H') : ∀ (l : List W) {vs : List V}, RepL K F H l vs → RepL K F' H' l vs
  | [], _, h => h
  | w :: l, _, h => by
    obtain ⟨v, r, e, h1, h2⟩ := h
    exact ⟨v, r, e, Rep.mono k w h1, RepL.mono k l h2⟩
end
theorem RepL.len : ∀ {l : List W} {vs : List V}, RepL K F H l vs → l.length = vs.length
  | [], _, h => by cases h; rfl
  | w :: l, _, h => by
    obtain ⟨v, r, rfl, _, h2⟩ := h
    rw [List.length_cons, List.length_cons, RepL.len h2]
theorem RepL.get : ∀ {l : List W} {vs : List V} {i : Nat} {w : W}, RepL K F H l vs → l[i]? = some w → ∃ v, vs[i]? = some v ∧ Rep K F H w v
  | [], _, _, _, _, e => by simp at e
  | w :: l, _, 0, u, h, e => by
    obtain ⟨v, r, rfl, h1, h2⟩ := h
    have e1 : w = u := Option.some.inj e
    subst e1
    exact ⟨v, rfl, h1⟩
  | w :: l, _, i + 1, u, h, e => by
    obtain ⟨v, r, rfl, h1, h2⟩ := h
    have q := RepL.get (l := l) (vs := r) (i := i) (w := u) h2 e
    exact q
theorem RepL.append : ∀ {l m : List W} {vs us : List V}, RepL K F H l vs → RepL K F H m us → RepL K F H (l ++ m) (vs ++ us)
  | [], _, _, _, h, h' => by cases h; exact h'
  | w :: l, _, _, _, h, h' => by
    obtain ⟨v, r, rfl, h1, h2⟩ := h
    exact ⟨v, r ++ _, rfl, h1, RepL.append h2 h'⟩
theorem RepL.nil : RepL K F H [] [] := rfl
theorem RepL.cons {w : W} {l : List W} {v : V} {vs : List V} (h : Rep K F H w v) (r : RepL K F H l vs) : RepL K F H (w :: l) (v :: vs) := ⟨v, vs, rfl, h, r⟩
theorem RepL.take : ∀ {l : List W} {vs : List V} (n : Nat), RepL K F H l vs → RepL K F H (l.take n) (vs.take n)
  | _, _, 0, _ => rfl
  | [], _, n + 1, h => by cases h; rfl
  | w :: l, _, n + 1, h => by
    obtain ⟨v, r, rfl, h1, h2⟩ := h
    exact ⟨v, _, rfl, h1, RepL.take n h2⟩
theorem RepL.drop : ∀ {l : List W} {vs : List V} (n : Nat), RepL K F H l vs → RepL K F H (l.drop n) (vs.drop n)
  | _, _, 0, h => h
  | [], _, n + 1, h => by cases h; rfl
  | w :: l, _, n + 1, h => by
    obtain ⟨v, r, rfl, h1, h2⟩ := h
    exact RepL.drop (l := l) n h2
theorem RepL.reverse : ∀ {l : List W} {vs : List V}, RepL K F H l vs → RepL K F H l.reverse vs.reverse
  | [], _, h => by cases h; rfl
  | w :: l, _, h => by
    obtain ⟨v, r, rfl, h1, h2⟩ := h
    rw [List.reverse_cons, List.reverse_cons]
    exact RepL.append (RepL.reverse h2) (RepL.cons h1 RepL.nil)
theorem RepL.set : ∀ {l : List W} {vs : List V} (n : Nat) {w : W} {v : V}, RepL K F H l vs → Rep K F H w v → RepL K F H (l.set n w) (vs.set n v)
  | [], _, _, _, _, h, _ => by cases h; rfl
  | x :: l, _, 0, _, _, h, hv => by
    obtain ⟨u, r, rfl, _, h2⟩ := h
    exact ⟨_, r, rfl, hv, h2⟩
  | x :: l, _, n + 1, _, _, h, hv => by
    obtain ⟨u, r, rfl, h1, h2⟩ := h
    exact ⟨u, _, rfl, h1, RepL.set n h2 hv⟩
theorem RepL.get' {l : List W} {vs : List V} {i : Nat} {v : V} (h : RepL K F H l vs) (e : vs[i]? = some v) : ∃ w, l[i]? = some w ∧ Rep K F H w v := by
  have hi := (List.getElem?_eq_some_iff.mp e).1
  rw [← h.len] at hi
  obtain ⟨u, eu, r⟩ := h.get (List.getElem?_eq_getElem hi)
  rw [e] at eu
  cases eu
  exact ⟨_, List.getElem?_eq_getElem hi, r⟩
end
/-! ### the frame -/
inductive Sl where
  | no | exn | val (w : W) | own (w : W)
abbrev Rho := List Sl
/-- the frame's entry: the heap, the frozen, the slots whose lists the caller lent -/
structure Bd where
  H0 : Hp
  F0 : Fz
  I : List (Nat × Addr)
  ea : Addr := 0
def Bd.kept (B : Bd) (a : Addr) : Prop := B.H0 a ≠ none ∧ ∀ p ∈ B.I, p.2 ≠ a
/-- the object at a is w's, to be changed -/
def OwnR (K : PySem.W.Frag) (F : Fz) (H : Hp) (w : W) (a : Addr) : Prop := match w with
  | .lst l => ∃ vs, H a = some (.lst vs) ∧ RepL K F H l vs
  | .dK ks l => ∃ vs, H a = some (.dK (ks.zip vs)) ∧ ks.length = vs.length ∧ RepL K F H l vs
  | .obj c ns l => ∃ dx vs, H a = some (.ins (He.ga K c) dx (ns.zip vs)) ∧ ns.length = vs.length ∧ RepL K F H l vs
  | _ => False
def SlR (K : PySem.W.Frag) (B : Bd) (F : Fz) (H : Hp) : Sl → Option (Option V) → Prop
  | .no, _ => True
  | .exn, o => o = some (some (.ref B.ea))
  | .val w, o => ∃ v, o = some (some v) ∧ Rep K F H w v
  | .own w, o => ∃ a, o = some (some (.ref a)) ∧ OwnR K F H w a ∧ ¬ F a ∧ ¬ B.kept a
structure SR (K : PySem.W.Frag) (B : Bd) (F : Fz) (H : Hp) (σ : L2.St) (ρ : Rho) : Prop where
  len : σ.length = ρ.length
  slot : ∀ (i : Nat) (s : Sl), ρ[i]? = some s → SlR K B F H s σ[i]?
  sep : ∀ (i j : Nat) (w w' : W) (a : Addr), ρ[i]? = some (.own w) → ρ[j]? = some (.own w') → σ[i]? = some (some (.ref a)) → σ[j]? = some (some (.ref a)) → i = j
  lent : ∀ p ∈ B.I, σ[p.1]? = some (some (.ref p.2)) ∧ ∃ w, ρ[p.1]? = some (.own w)
  ext : ∀ a o, B.kept a → B.H0 a = some o → H a = some o
  alive : ∀ a, B.H0 a ≠ none → H a ≠ none
  f0 : ∀ a, B.F0 a → F a
  f1 : ∀ a, F a → B.F0 a ∨ B.H0 a = none
  f2 : ∀ a, F a → H a ≠ none
/-- all that was tracked stands (but at I); new frozen are new -/
structure Ext (I : List Addr) (F : Fz) (H : Hp) (F' : Fz) (H' : Hp) : Prop where
  h : ∀ a o, a ∉ I → H a = some o → H' a = some o
  f : ∀ a, F a → F' a
  g : ∀ a, F' a → F a ∨ H a = none
  t : ∀ a, F' a → H' a ≠ none
section
variable {K : PySem.W.Frag} {B : Bd} {F F' F1 F2 : Fz} {H H' H1 H2 : Hp} {σ : L2.St} {ρ : Rho}
theorem Ext.keeps (e : Ext [] F H F' H') : Keeps F H F' H' := ⟨e.f, fun a o h _ => e.h a o (by simp) h⟩
theorem Ext.refl (t : ∀ a, F a → H a ≠ none) : Ext [] F H F H := ⟨fun _ _ _ h => h, fun _ h => h, fun _ h => .inl h, t⟩
theorem Ext.trans (a : Ext [] F H F1 H1) (b : Ext [] F1 H1 F2 H2) : Ext [] F H F2 H2 :=
  ⟨fun x o n h => b.h x o n (a.h x o n h), fun x h => b.f x (a.f x h), fun x h => (by
    rcases b.g x h with q | q
    · exact a.g x q
    · right
      cases e : H x with
      | none => rfl
      | some o => rw [a.h x o (by simp) e] at q; cases q), b.t⟩
/-- a new object -/
theorem Ext.new {a : Addr} {o : HO} (n : H a = none) (t : ∀ a, F a → H a ≠ none) : Ext [] F H F (upd H a o) :=
  ⟨fun x u _ h => by rw [upd_ne (ne_of_none h n)]; exact h, fun _ h => h, fun _ h => .inl h, fun x h => by
    by_cases e : x = a
    · rw [e, upd_same]; exact fun q => nomatch q
    · rw [upd_ne e]; exact t x h⟩
theorem OwnR.mono {w : W} {a : Addr} (e : Ext [] F H F' H') (h : OwnR K F H w a) : OwnR K F' H' w a := by
  cases w with
  | lst l => obtain ⟨vs, h1, h2⟩ := h; exact ⟨vs, e.h a _ (by simp) h1, h2.mono e.keeps⟩
  | dK ks l => obtain ⟨vs, h1, n, h2⟩ := h; exact ⟨vs, e.h a _ (by simp) h1, n, h2.mono e.keeps⟩
  | obj c ns l => obtain ⟨dx, vs, h1, n, h2⟩ := h; exact ⟨dx, vs, e.h a _ (by simp) h1, n, h2.mono e.keeps⟩
  | _ => exact h
theorem OwnR.some {w : W} {a : Addr} (h : OwnR K F H w a) : ∃ o, H a = some o ∧ Mut (some o) := by
  cases w with
  | lst l => obtain ⟨vs, h1, h2⟩ := h; exact ⟨_, h1, trivial⟩
  | dK ks l => obtain ⟨vs, h1, n, h2⟩ := h; exact ⟨_, h1, trivial⟩
  | obj c ns l => obtain ⟨dx, vs, h1, n, h2⟩ := h; exact ⟨_, h1, trivial⟩
  | _ => exact h.elim
theorem OwnR.rep {w : W} {a : Addr} (h : OwnR K F H w a) (f : F a) : Rep K F H w (.ref a) := by
  cases w with
  | lst l => obtain ⟨vs, h1, h2⟩ := h; exact ⟨a, vs, rfl, f, h1, h2⟩
  | dK ks l => obtain ⟨vs, h1, n, h2⟩ := h; exact ⟨a, vs, rfl, f, h1, n, h2⟩
  | obj c ns l => obtain ⟨dx, vs, h1, n, h2⟩ := h; exact ⟨a, dx, vs, rfl, f, h1, n, h2⟩
  | _ => exact h.elim
theorem SR.grow (S : SR K B F H σ ρ) (e : Ext [] F H F' H') : SR K B F' H' σ ρ where
  len := S.len
  slot := fun i s h => by
    have q := S.slot i s h
    cases s with
    | no => trivial
    | exn => exact q
    | val w => obtain ⟨v, e1, r⟩ := q; exact ⟨v, e1, r.mono e.keeps⟩
    | own w =>
      obtain ⟨a, e1, o, nf, nk⟩ := q
      refine ⟨a, e1, o.mono e, fun f => ?_, nk⟩
      rcases e.g a f with f | f
      · exact nf f
      · obtain ⟨u, hu, _⟩ := o.some
        rw [hu] at f; cases f
  sep := S.sep
  lent := S.lent
  ext := fun a o k h => e.h a o (by simp) (S.ext a o k h)
  f0 := fun a h => e.f a (S.f0 a h)
  alive := fun a h q => S.alive a h (by
    cases e1 : H a with
    | none => rfl
    | some o => rw [e.h a o (by simp) e1] at q; cases q)
  f1 := fun a h => by
    rcases e.g a h with q | q
    · exact S.f1 a q
    · right
      cases e1 : B.H0 a with
      | none => rfl
      | some o => exact absurd q (S.alive a (by rw [e1]; exact fun z => nomatch z))
  f2 := e.t
/-! ### values of expressions -/
inductive Md where
  | val | fre | bor (i : Nat)
def Fre (K : PySem.W.Frag) (B : Bd) (F : Fz) (H : Hp) (σ : L2.St) (ρ : Rho) (w : W) (v : V) : Prop :=
  ∃ a, v = .ref a ∧ OwnR K F H w a ∧ ¬ F a ∧ B.H0 a = none ∧ ∀ (i : Nat) (w' : W), ρ[i]? = some (.own w') → σ[i]? ≠ some (some (.ref a))
def VR (K : PySem.W.Frag) (B : Bd) (F : Fz) (H : Hp) (σ : L2.St) (ρ : Rho) (m : Md) (w : W) (v : V) : Prop := match m with
  | .val => Rep K F H w v
  | .fre => Fre K B F H σ ρ w v
  | .bor i => ρ[i]? = some (.own w) ∧ σ[i]? = some (some v)
/-- freeze the list at a, that nobody has in a slot -/
theorem SR.freeze (S : SR K B F H σ ρ) {a : Addr} (n : ¬ F a) (h : H a ≠ none) (h0 : B.H0 a = none) (hs : ∀ (i : Nat) (w' : W), ρ[i]? = some (.own w') → σ[i]? ≠ some (some (.ref a))) :
    SR K B (fun b => F b ∨ b = a) H σ ρ ∧ Keeps F H (fun b => F b ∨ b = a) H := by
  have k : Keeps F H (fun b => F b ∨ b = a) H := ⟨fun _ h => .inl h, fun _ _ h _ => h⟩
  refine ⟨⟨S.len, fun i s h => ?_, S.sep, S.lent, S.ext, S.alive, fun b h => .inl (S.f0 b h), fun b h => ?_, fun b h => ?_⟩, k⟩
  · have q := S.slot i s h
    cases s with
    | no => trivial
    | exn => exact q
    | val w => obtain ⟨v, e1, r⟩ := q; exact ⟨v, e1, r.mono k⟩
    | own w =>
      obtain ⟨b, e1, o, nf, nk⟩ := q
      refine ⟨b, e1, ?_, fun f => ?_, nk⟩
      · cases w with
        | lst l => obtain ⟨vs, h1, h2⟩ := o; exact ⟨vs, h1, h2.mono k⟩
        | dK ks l => obtain ⟨vs, h1, n, h2⟩ := o; exact ⟨vs, h1, n, h2.mono k⟩
        | obj c ns l => obtain ⟨dx, vs, h1, n, h2⟩ := o; exact ⟨dx, vs, h1, n, h2.mono k⟩
        | _ => exact o
      · rcases f with f | f
        · exact nf f
        · rw [f] at e1
          exact hs i w h e1
  · rcases h with h | h
    · exact S.f1 b h
    · rw [h]; exact .inr h0
  · rcases h with h | h
    · exact S.f2 b h
    · rw [h]; assumption
/-- a slot is forgotten -/
def unlent (B : Bd) (i : Nat) : Prop := i ∉ B.I.map (·.1)
theorem SR.lent_set (S : SR K B F H σ ρ) {i : Nat} (u : unlent B i) (s : Sl) : ∀ p ∈ B.I, σ[p.1]? = some (some (.ref p.2)) ∧ ∃ w, (ρ.set i s)[p.1]? = some (.own w) := fun p hp => by
  obtain ⟨h1, w, h2⟩ := S.lent p hp
  have n : i ≠ p.1 := fun e => u (List.mem_map.mpr ⟨p, hp, e.symm⟩)
  exact ⟨h1, w, by rw [List.getElem?_set_ne n]; exact h2⟩
theorem SR.drop (S : SR K B F H σ ρ) {i : Nat} (u : unlent B i) : SR K B F H σ (ρ.set i .no) := by
  have hh : ∀ j s, (ρ.set i .no)[j]? = some s → s = .no ∨ (j ≠ i ∧ ρ[j]? = some s) := fun j s h => by
    by_cases e : j = i
    · subst e
      rw [List.getElem?_set] at h
      split at h
      · split at h
        · left; exact (Option.some.inj h).symm
        · cases h
      · rename_i n; exact absurd rfl n
    · right
      rw [List.getElem?_set_ne (Ne.symm e)] at h
      exact ⟨e, h⟩
  refine ⟨by rw [List.length_set]; exact S.len, fun j s h => ?_, fun j k w w' a h1 h2 e1 e2 => ?_, S.lent_set u _, S.ext, S.alive, S.f0, S.f1, S.f2⟩
  · rcases hh j s h with e | ⟨_, e⟩
    · subst e; trivial
    · exact S.slot j s e
  · rcases hh j _ h1 with e | ⟨_, g1⟩
    · cases e
    · rcases hh k _ h2 with e | ⟨_, g2⟩
      · cases e
      · exact S.sep j k w w' a g1 g2 e1 e2
/-- a slot bears another word about the same value -/
theorem SR.again (S : SR K B F H σ ρ) {i : Nat} {w : W} (u : unlent B i) (h : SlR K B F H (.val w) σ[i]?) : SR K B F H σ (ρ.set i (.val w)) := by
  have hh : ∀ j s, (ρ.set i (.val w))[j]? = some s → (j = i ∧ s = .val w) ∨ (j ≠ i ∧ ρ[j]? = some s) := fun j s h => by
    by_cases e : j = i
    · subst e
      rw [List.getElem?_set] at h
      split at h
      · split at h
        · left; exact ⟨rfl, (Option.some.inj h).symm⟩
        · cases h
      · rename_i n; exact absurd rfl n
    · right
      rw [List.getElem?_set_ne (Ne.symm e)] at h
      exact ⟨e, h⟩
  refine ⟨by rw [List.length_set]; exact S.len, fun j s h' => ?_, fun j k z z' a h1 h2 e1 e2 => ?_, S.lent_set u _, S.ext, S.alive, S.f0, S.f1, S.f2⟩
  · rcases hh j s h' with ⟨e, e'⟩ | ⟨_, e⟩
    · subst e; subst e'; exact h
    · exact S.slot j s e
  · rcases hh j _ h1 with ⟨_, e⟩ | ⟨_, g1⟩
    · cases e
    · rcases hh k _ h2 with ⟨_, e⟩ | ⟨_, g2⟩
      · cases e
      · exact S.sep j k z z' a g1 g2 e1 e2
/-- an own slot that is not lent holds a list made behind the entry -/
theorem SR.new_of (S : SR K B F H σ ρ) {i : Nat} {w : W} {a : Addr} (h : ρ[i]? = some (.own w)) (e : σ[i]? = some (some (.ref a))) (ui : unlent B i) : B.H0 a = none := by
  obtain ⟨b, eb, _, _, nk⟩ := S.slot i _ h
  rw [e] at eb
  cases eb
  cases q : B.H0 a with
  | none => rfl
  | some o =>
    exfalso
    refine nk ⟨by rw [q]; exact (fun z => nomatch z), fun p hp z => ?_⟩
    obtain ⟨h1, w', h2⟩ := S.lent p hp
    exact ui (List.mem_map.mpr ⟨p, hp, S.sep p.1 i w' w a h2 h (by rw [h1, z]) e⟩)
end
/-! ### results -/
inductive R (α : Type) where
  | ok (a : α) (ρ : Rho)
  | exc (c : Str) (ns : List Str) (ws : List W) (ρ : Rho)
  | stk
def R.bind {α β : Type} (r : R α) (k : α → Rho → R β) : R β := match r with
  | .ok a ρ => k a ρ
  | .exc c ns ws ρ => .exc c ns ws ρ
  | .stk => .stk
def lift {α : Type} (o : Option α) (ρ : Rho) : R α := match o with
  | some a => .ok a ρ
  | none => .stk
/-- an exception's fields in its own dict -/
def ExF (K : PySem.W.Frag) (F : Fz) (H : Hp) (ns : List Str) (ws : List W) (d : Option Addr) : Prop := match ns with
  | [] => d = none ∧ ws = []
  | _ => ∃ dd vs, d = some dd ∧ H dd = some (.xd (ns.zip vs)) ∧ ns.length = vs.length ∧ RepL K F H ws vs
/-- where one stands: classes of errors by names, the entry, what is wanted of an error, the lent slots -/
structure Yx (I : List Nat) where
  ct : Str → Addr
  B : Bd
  wx : WX
  hI : B.I.map (·.1) = I
variable {I : List Nat}
theorem Yx.un (Y : Yx I) {i : Nat} (h : i ∉ I) : unlent Y.B i := by
  unfold unlent
  rw [Y.hI]
  exact h
def RunG {β : Type} (K : PySem.W.Frag) (Y : Yx I) (F : Fz) (H : Hp) (σ : L2.St) (r : R β) (P : β → Rho → Fz → Hp → Prop) : Prop := match r with
  | .ok b ρ' => ∀ F' H', SR K Y.B F' H' σ ρ' → Keeps F H F' H' → P b ρ' F' H'
  | .exc c ns ws ρ' => ∀ F' H' d, SR K Y.B F' H' σ ρ' → ExF K F' H' ns ws d → Y.wx (.ref (Y.ct c)) d σ H'
  | .stk => False
section
variable {K : PySem.W.Frag} {Y : Yx I} {F F' F1 F2 : Fz} {H H' H1 H2 : Hp} {σ : L2.St} {ρ : Rho} {β γ : Type}
theorem RunG.rebase {r : R β} {P : β → Rho → Fz → Hp → Prop} (h : RunG K Y F H σ r P) (k : Keeps F H F1 H1) : RunG K Y F1 H1 σ r P := by
  cases r with
  | ok b ρ' => exact fun F' H' S k' => h F' H' S (k.trans k')
  | exc c ns ws ρ' => exact h
  | stk => exact h
theorem RunG.bind {r : R β} {k : β → Rho → R γ} {P : γ → Rho → Fz → Hp → Prop} (h : RunG K Y F H σ (r.bind k) P) : RunG K Y F H σ r fun b ρ1 F1 H1 => RunG K Y F1 H1 σ (k b ρ1) P := by
  cases r with
  | ok b ρ' => exact fun F' H' S k' => RunG.rebase (show RunG K Y F H σ (k b ρ') P from h) k'
  | exc c ns ws ρ' => exact h
  | stk => exact h
theorem RunG.imp {r : R β} {P P' : β → Rho → Fz → Hp → Prop} (h : RunG K Y F H σ r P) (q : ∀ b ρ' F' H', SR K Y.B F' H' σ ρ' → Keeps F H F' H' → P b ρ' F' H' → P' b ρ' F' H') : RunG K Y F H σ r P' := by
  cases r with
  | ok b ρ' => exact fun F' H' S k' => q _ _ _ _ S k' (h F' H' S k')
  | exc c ns ws ρ' => exact h
  | stk => exact h
/-- an expression's reading by its mirror -/
def tM (K : PySem.W.Frag) (Y : Yx I) (f : Rho → R (Md × W)) : TE := fun σ H Q => ∃ F ρ, SR K Y.B F H σ ρ ∧ RunG K Y F H σ (f ρ) fun b ρ' F' H' => ∀ v, VR K Y.B F' H' σ ρ' b.1 b.2 v → Q v H'
def PEM (X : Cx) (Y : Yx I) (e : Expr) (f : Rho → R (Md × W)) : Prop := PE X e (tM X.K Y f)
theorem pe_weak {X : Cx} {e : Expr} {t t' : TE} (h : PE X e t) (q : ∀ σ H Q, t' σ H Q → t σ H Q) : PE X e t' := ⟨fun pins s σ H Q I hq => h.run pins s σ H Q I (q _ _ _ hq)⟩
/-! ### held, peeked, kept values -/
def Held (σ : L2.St) (K : PySem.W.Frag) (F : Fz) (H : Hp) (m : Md) (w : W) (v : V) : Prop := match m with
  | .val => Rep K F H w v
  | .fre => Rep K F H w v
  | .bor i => σ[i]? = some (some v)
theorem SR.hold (S : SR K Y.B F H σ ρ) {m : Md} {w : W} {v : V} (h : VR K Y.B F H σ ρ m w v) : ∃ F', SR K Y.B F' H σ ρ ∧ Keeps F H F' H ∧ Held σ K F' H m w v := by
  cases m with
  | val => exact ⟨F, S, .refl, h⟩
  | fre =>
    obtain ⟨a, rfl, o, nf, h0, hs⟩ := h
    obtain ⟨u, hu, _⟩ := o.some
    obtain ⟨S', k⟩ := S.freeze nf (by rw [hu]; exact (fun z => nomatch z)) h0 hs
    refine ⟨_, S', k, ?_⟩
    have o' : OwnR K (fun b => F b ∨ b = a) H w a := by
      cases w with
      | lst l => obtain ⟨vs, h1, h2⟩ := o; exact ⟨vs, h1, h2.mono k⟩
      | dK ks l => obtain ⟨vs, h1, n, h2⟩ := o; exact ⟨vs, h1, n, h2.mono k⟩
      | obj c ns l => obtain ⟨dx, vs, h1, n, h2⟩ := o; exact ⟨dx, vs, h1, n, h2.mono k⟩
      | _ => exact o
    exact o'.rep (.inr rfl)
  | bor i => exact ⟨F, S, .refl, h.2⟩
def PkR (K : PySem.W.Frag) (F : Fz) (H : Hp) (w : W) (v : V) : Prop := Rep K F H w v ∨ ∃ a, v = .ref a ∧ OwnR K F H w a
def peek (m : Md) (w : W) (ρ : Rho) : Option W := match m with
  | .val => some w
  | .fre => some w
  | .bor i => match ρ[i]? with
    | some (.own u) => some u
    | some (.val u) => some u
    | _ => none
theorem SR.peek (S : SR K Y.B F H σ ρ) {m : Md} {w u : W} {v : V} (h : Held σ K F1 H1 m w v) (k : Keeps F1 H1 F H) (e : peek m w ρ = some u) : PkR K F H u v := by
  cases m with
  | val => cases e; exact .inl (Rep.mono k w h)
  | fre => cases e; exact .inl (Rep.mono k w h)
  | bor i =>
    have h' : σ[i]? = some (some v) := h
    unfold ML.peek at e
    dsimp only at e
    cases q : ρ[i]? with
    | none => rw [q] at e; cases e
    | some s =>
      rw [q] at e
      have z := S.slot i s q
      cases s with
      | no => cases e
      | exn => cases e
      | val x =>
        cases e
        obtain ⟨v', e1, r⟩ := z
        rw [h'] at e1
        cases e1
        exact .inl r
      | own x =>
        cases e
        obtain ⟨a, e1, o, _, _⟩ := z
        rw [h'] at e1
        cases e1
        exact .inr ⟨a, rfl, o⟩
/-- made a value: nobody changes it any more -/
def toVal (I : List Nat) (b : Md × W) (ρ : Rho) : R W := match b.1 with
  | .val => .ok b.2 ρ
  | .fre => .ok b.2 ρ
  | .bor i => match ρ[i]? with
    | some (.own u) => if i ∈ I then .stk else .ok u (ρ.set i (.val u))
    | some (.val u) => .ok u ρ
    | _ => .stk
theorem SR.toValH (S : SR K Y.B F H σ ρ) {b : Md × W} {v : V} (h : Held σ K F1 H1 b.1 b.2 v) (k1 : Keeps F1 H1 F H) {P : W → Rho → Fz → Hp → Prop} (q : RunG K Y F H σ (toVal I b ρ) P) : ∃ F' w ρ', SR K Y.B F' H σ ρ' ∧ Keeps F H F' H ∧ Rep K F' H w v ∧ P w ρ' F' H := by
  obtain ⟨m, w⟩ := b
  cases m with
  | val => exact ⟨F, w, ρ, S, .refl, Rep.mono k1 w h, q F H S .refl⟩
  | fre => exact ⟨F, w, ρ, S, .refl, Rep.mono k1 w h, q F H S .refl⟩
  | bor i =>
    have h2' : σ[i]? = some (some v) := h
    unfold ML.toVal at q
    dsimp only at q
    cases g : ρ[i]? with
    | none => rw [g] at q; exact q.elim
    | some sl =>
      rw [g] at q
      cases sl with
      | no => exact q.elim
      | exn => exact q.elim
      | val u =>
        obtain ⟨v', e1, r⟩ := S.slot i _ g
        rw [h2'] at e1
        cases e1
        exact ⟨F, u, ρ, S, .refl, r, q F H S .refl⟩
      | own u =>
        dsimp only at q
        split at q
        · exact q.elim
        · rename_i n
          have ui := Y.un n
          obtain ⟨a, e1, o, nf, nk⟩ := S.slot i _ g
          rw [h2'] at e1
          cases e1
          have h0 := S.new_of g h2' ui
          have Sd := S.drop ui
          obtain ⟨z, hu, _⟩ := o.some
          have hs : ∀ (j : Nat) (w' : W), (ρ.set i .no)[j]? = some (.own w') → σ[j]? ≠ some (some (.ref a)) := fun j w' hj ej => by
            by_cases e : i = j
            · subst e
              rw [List.getElem?_set] at hj
              split at hj
              · split at hj <;> cases hj
              · rename_i n; exact n rfl
            · rw [List.getElem?_set_ne e] at hj
              exact e (S.sep i j _ _ a g hj h2' ej)
          obtain ⟨S', k⟩ := Sd.freeze nf (by rw [hu]; exact (fun z => nomatch z)) h0 hs
          have o' : OwnR K (fun b => F b ∨ b = a) H u a := by
            cases u with
            | lst l => obtain ⟨vs, h1, h2⟩ := o; exact ⟨vs, h1, h2.mono k⟩
            | dK ks l => obtain ⟨vs, h1, n, h2⟩ := o; exact ⟨vs, h1, n, h2.mono k⟩
            | obj c ns l => obtain ⟨dx, vs, h1, n, h2⟩ := o; exact ⟨dx, vs, h1, n, h2.mono k⟩
            | _ => exact o
          have r := o'.rep (.inr rfl)
          have S2 := S'.again (w := u) ui ⟨.ref a, h2', r⟩
          rw [List.set_set] at S2
          exact ⟨_, u, _, S2, k, r, q _ H S2 k⟩
theorem SR.toVal (S : SR K Y.B F H σ ρ) {b : Md × W} {v : V} (h : VR K Y.B F H σ ρ b.1 b.2 v) {P : W → Rho → Fz → Hp → Prop} (q : RunG K Y F H σ (toVal I b ρ) P) : ∃ F' w ρ', SR K Y.B F' H σ ρ' ∧ Keeps F H F' H ∧ Rep K F' H w v ∧ P w ρ' F' H := by
  obtain ⟨F1, S1, k1, h1⟩ := S.hold h
  obtain ⟨F2, w, ρ2, S2, k2, r, p⟩ := S1.toValH h1 .refl (q.rebase k1)
  exact ⟨F2, w, ρ2, S2, k1.trans k2, r, p⟩
/-- what an operation makes anew -/
def NewR (K : PySem.W.Frag) (H : Hp) (F' : Fz) (H' : Hp) (m : Md) (z : W) (v : V) : Prop := match m with
  | .val => Rep K F' H' z v
  | .fre => ∃ a, v = .ref a ∧ OwnR K F' H' z a ∧ ¬ F' a ∧ H a = none
  | .bor _ => False
theorem SR.newR (S : SR K Y.B F H σ ρ) (e : Ext [] F H F' H') {m : Md} {z : W} {v : V} (h : NewR K H F' H' m z v) : VR K Y.B F' H' σ ρ m z v := by
  cases m with
  | val => exact h
  | fre =>
    obtain ⟨a, rfl, o, nf, n⟩ := h
    refine ⟨a, rfl, o, nf, ?_, fun i w' hi ei => ?_⟩
    · cases q : Y.B.H0 a with
      | none => rfl
      | some u => exact absurd n (S.alive a (by rw [q]; exact (fun z => nomatch z)))
    · obtain ⟨b, eb, ob, _, _⟩ := S.slot i _ hi
      rw [ei] at eb
      cases eb
      obtain ⟨u, hu, _⟩ := ob.some
      rw [n] at hu; cases hu
  | bor i => exact h.elim
theorem lift_ok {o : Option β} {P : β → Rho → Fz → Hp → Prop} (h : RunG K Y F H σ (lift o ρ) P) : ∃ b, o = some b ∧ ∀ F' H', SR K Y.B F' H' σ ρ → Keeps F H F' H' → P b ρ F' H' := by
  cases o with
  | none => exact h.elim
  | some b => exact ⟨b, rfl, h⟩
end
end ML

set_option maxHeartbeats 4000000
namespace ML
open PySem PySem.Spec PyProof.Rows L2
variable {I : List Nat}
section
variable {X : Cx} {Y : Yx I} {e a b : Expr} {pos : Pos} {fa fb : Rho → R (Md × W)}
/-! ### names, constants -/
def mVar (i : Nat) : Rho → R (Md × W) := fun ρ => match ρ[i]? with
  | some (.val w) => .ok (.val, w) ρ
  | some (.own w) => .ok (.bor i, w) ρ
  | _ => .stk
theorem pem_var (i : Nat) (h : PE X e (tVar i)) : PEM X Y e (mVar i) := pe_weak h fun σ H Q hq => by
  obtain ⟨F, ρ, S, q⟩ := hq
  unfold mVar at q
  cases g : ρ[i]? with
  | none => rw [g] at q; exact q.elim
  | some sl =>
    rw [g] at q
    cases sl with
    | no => exact q.elim
    | exn => exact q.elim
    | val w =>
      obtain ⟨v, ev, r⟩ := S.slot i _ g
      exact ⟨v, ev, q F H S .refl v r⟩
    | own w =>
      obtain ⟨c, ev, _⟩ := S.slot i _ g
      exact ⟨_, ev, q F H S .refl _ ⟨g, ev⟩⟩
def mC (w : W) : Rho → R (Md × W) := fun ρ => .ok (.val, w) ρ
theorem pem_c {w : W} {v : V} (h : PE X e (tC v)) (r : ∀ F H, Rep X.K F H w v) : PEM X Y e (mC w) := pe_weak h fun σ H Q hq => by
  obtain ⟨F, ρ, S, q⟩ := hq
  exact q F H S .refl v (r F H)
theorem pem_int {i j pos} : PEM X Y (.Constant (.int i) j pos) (mC (.int i)) := pem_c pe_int fun _ _ => rfl
theorem pem_bl {b j pos} : PEM X Y (.Constant (.bool b) j pos) (mC (.bl b)) := pem_c pe_bl fun _ _ => rfl
theorem pem_non {j pos} : PEM X Y (.Constant .none j pos) (mC .non) := pem_c pe_non fun _ _ => rfl
theorem pem_str {x j pos} : PEM X Y (.Constant (.str x) j pos) (mC (.str x)) := pem_c pe_str fun _ _ => rfl
/-! ### operators -/
def Tight (F : Fz) (H : Hp) : Prop := ∀ a, F a → H a ≠ none
def OpW (K : PySem.W.Frag) (r : R2) (g : W → W → Option (Md × W)) : Prop := ∀ x y m z, g x y = some (m, z) → ∀ (F : Fz) (H : Hp) (vx vy : V) (Q : VK), Tight F H → PkR K F H x vx → PkR K F H y vy →
  (∀ F' H' v, Ext [] F H F' H' → NewR K H F' H' m z v → Q v H') → r vx vy H Q
def mOp (g : W → W → Option (Md × W)) (fa fb : Rho → R (Md × W)) : Rho → R (Md × W) := fun ρ => (fa ρ).bind fun x ρ1 => (fb ρ1).bind fun y ρ2 =>
  match peek x.1 x.2 ρ2, peek y.1 y.2 ρ2 with
  | some u, some v => lift (g u v) ρ2
  | _, _ => .stk
theorem tOp_of {K : PySem.W.Frag} {r : R2} {g : W → W → Option (Md × W)} (hg : OpW K r g) {σ : L2.St} {H : Hp} {Q : VK} (hq : tM K Y (mOp g fa fb) σ H Q) : tOp r (tM K Y fa) (tM K Y fb) σ H Q := by
  obtain ⟨F, ρ, S, q⟩ := hq
  refine ⟨F, ρ, S, (RunG.bind q).imp fun x ρ1 F1 H1 S1 k1 q1 v1 hv1 => ?_⟩
  obtain ⟨F1', S1', k1', hd1⟩ := S1.hold hv1
  refine ⟨F1', ρ1, S1', (RunG.bind (q1.rebase k1')).imp fun y ρ2 F2 H2 S2 k2 q2 v2 hv2 => ?_⟩
  obtain ⟨F2', S2', k2', hd2⟩ := S2.hold hv2
  have q3 := q2.rebase k2'
  cases e1 : peek x.1 x.2 ρ2 with
  | none => rw [e1] at q3; exact q3.elim
  | some u =>
    cases e2 : peek y.1 y.2 ρ2 with
    | none => rw [e1, e2] at q3; exact q3.elim
    | some w =>
      rw [e1, e2] at q3
      obtain ⟨⟨m, z⟩, ez, qz⟩ := lift_ok q3
      refine hg u w m z ez F2' H2 v1 v2 Q S2'.f2 (S2'.peek hd1 (k2.trans k2') e1) (S2'.peek hd2 .refl e2) fun F' H' v ee hn => ?_
      exact qz F' H' (S2'.grow ee) ee.keeps v (S2'.newR ee hn)
theorem pem_op {op : Operator} {r : R2} {g : W → W → Option (Md × W)} (ho : OpR X (binaryOp op) r) (hg : OpW X.K r g) (ha : PEM X Y a fa) (hb : PEM X Y b fb) : PEM X Y (.BinOp a op b pos) (mOp g fa fb) :=
  pe_weak (pe_op ho ha hb) fun σ H Q hq => tOp_of hg hq
theorem pem_cmp {op : CmpOp} {r : R2} {g : W → W → Option (Md × W)} (ho : OpR X (compareOp op) r) (hg : OpW X.K r g) (ha : PEM X Y a fa) (hb : PEM X Y b fb) (hm : behindInMarks op b = false) : PEM X Y (.Compare a [op] [b] pos) (mOp g fa fb) :=
  pe_weak (pe_cmpR ho ha hb hm) fun σ H Q hq => tOp_of hg hq
end
/-! ### the operators by W -/
section
variable {K : PySem.W.Frag} {F : Fz} {H : Hp}
/-- a list that is read (own or not), with its words -/
theorem PkR.lst {l : List W} {v : V} (h : PkR K F H (.lst l) v) : ∃ a vs, v = .ref a ∧ H a = some (.lst vs) ∧ RepL K F H l vs := by
  rcases h with ⟨a, vs, e, _, h1, h2⟩ | ⟨a, e, vs, h1, h2⟩
  · exact ⟨a, vs, e, h1, h2⟩
  · exact ⟨a, vs, e, h1, h2⟩
theorem PkR.dK {ks : List Key} {l : List W} {v : V} (h : PkR K F H (.dK ks l) v) : ∃ a vs, v = .ref a ∧ H a = some (.dK (ks.zip vs)) ∧ ks.length = vs.length ∧ RepL K F H l vs := by
  rcases h with ⟨a, vs, e, _, h1, n, h2⟩ | ⟨a, e, vs, h1, n, h2⟩
  · exact ⟨a, vs, e, h1, n, h2⟩
  · exact ⟨a, vs, e, h1, n, h2⟩
theorem PkR.rep {w : W} {v : V} (h : PkR K F H w v) (n : ∀ l, w ≠ .lst l) (m : ∀ ks l, w ≠ .dK ks l) (o : ∀ c ns l, w ≠ .obj c ns l) : Rep K F H w v := by
  rcases h with h | ⟨a, e, h⟩
  · exact h
  · cases w with
    | lst l => exact absurd rfl (n l)
    | dK ks l => exact absurd rfl (m ks l)
    | obj c ns l => exact absurd rfl (o c ns l)
    | _ => exact h.elim
theorem PkR.int {i : Int} {v : V} (h : PkR K F H (.int i) v) : v = .int i := h.rep (fun _ => W.noConfusion) (fun _ _ => W.noConfusion) fun _ _ _ => W.noConfusion
theorem PkR.bl {i : Bool} {v : V} (h : PkR K F H (.bl i) v) : v = .bl i := h.rep (fun _ => W.noConfusion) (fun _ _ => W.noConfusion) fun _ _ _ => W.noConfusion
theorem PkR.str {i : Str} {v : V} (h : PkR K F H (.str i) v) : v = .str i := h.rep (fun _ => W.noConfusion) (fun _ _ => W.noConfusion) fun _ _ _ => W.noConfusion
theorem PkR.non {v : V} (h : PkR K F H .non v) : v = .non := h.rep (fun _ => W.noConfusion) (fun _ _ => W.noConfusion) fun _ _ _ => W.noConfusion
theorem PkR.tup {l : List W} {v : V} (h : PkR K F H (.tup l) v) : ∃ a vs, v = .ref a ∧ SqU K H a vs ∧ RepL K F H l vs := h.rep (fun _ => W.noConfusion) (fun _ _ => W.noConfusion) fun _ _ _ => W.noConfusion
theorem PkR.frl {l : List W} {v : V} (h : PkR K F H (.frl l) v) : ∃ a vs, v = .ref a ∧ FrlL K H a vs ∧ RepL K F H l vs := h.rep (fun _ => W.noConfusion) (fun _ _ => W.noConfusion) fun _ _ _ => W.noConfusion
/-- the items of a list, a tuple -/
def itemsW : W → Option (List W)
  | .lst l => some l
  | .frl l => some l
  | .tup l => some l
  | _ => none
theorem PkR.seq {w : W} {l : List W} {v : V} (h : PkR K F H w v) (e : itemsW w = some l) : ∃ a vs, v = .ref a ∧ (SqL K H a vs ∨ SqT K H a vs) ∧ RepL K F H l vs := by
  cases w with
  | lst m => cases e; obtain ⟨a, vs, e1, h1, r⟩ := h.lst; exact ⟨a, vs, e1, .inl (.of h1), r⟩
  | frl m => cases e; obtain ⟨a, vs, e1, h1, r⟩ := h.frl; exact ⟨a, vs, e1, .inl h1.seq, r⟩
  | tup m => cases e; obtain ⟨a, vs, e1, h1, r⟩ := h.tup; exact ⟨a, vs, e1, .inr h1.seq, r⟩
  | _ => cases e
/-- a new list -/
theorem new_lst (t : Tight F H) {l : List W} {vs : List V} (r : RepL K F H l vs) {Q : VK} (q : ∀ F' H' v, Ext [] F H F' H' → NewR K H F' H' .fre (.lst l) v → Q v H') {p : Addr} (hp : H p = none) : Q (.ref p) (upd H p (.lst vs)) := by
  have e : Ext [] F H F (upd H p (.lst vs)) := Ext.new hp t
  exact q _ _ _ e ⟨p, rfl, ⟨vs, upd_same, r.mono e.keeps⟩, fun f => t p f hp, hp⟩
theorem new_tup (t : Tight F H) {l : List W} {vs : List V} (r : RepL K F H l vs) {Q : VK} (q : ∀ F' H' v, Ext [] F H F' H' → NewR K H F' H' .val (.tup l) v → Q v H') {p : Addr} (hp : H p = none) : Q (.ref p) (upd H p (.tup vs)) := by
  have e : Ext [] F H F (upd H p (.tup vs)) := Ext.new hp t
  exact q _ _ _ e ⟨p, vs, rfl, .inl upd_same, r.mono e.keeps⟩
theorem old_val (t : Tight F H) {z : W} {v : V} (r : Rep K F H z v) {Q : VK} (q : ∀ F' H' v, Ext [] F H F' H' → NewR K H F' H' .val z v → Q v H') : Q v H := q F H v (.refl t) r
theorem RepL.flatten {l : List W} {vs : List V} (r : RepL K F H l vs) : ∀ n, RepL K F H (List.replicate n l).flatten (List.replicate n vs).flatten
  | 0 => rfl
  | n + 1 => by
    rw [List.replicate_succ, List.replicate_succ, List.flatten_cons, List.flatten_cons]
    exact RepL.append r (RepL.flatten r n)
end
abbrev GW := W → W → Option (Md × W)
def gAdd : GW
  | .int i, .int j => some (.val, .int (i + j))
  | .str x, .str y => if x.length + y.length ≤ sizeLine then some (.val, .str (x ++ y)) else none
  | .lst l, .lst m => if l.length + m.length ≤ sizeLine then some (.fre, .lst (l ++ m)) else none
  | .tup l, .tup m => if l.length + m.length ≤ sizeLine then some (.val, .tup (l ++ m)) else none
  | _, _ => none
abbrev rAddS : R2 := fun x y H Q => ∃ i j, x = .str i ∧ y = .str j ∧ i.length + j.length ≤ sizeLine ∧ Q (.str (i ++ j)) H
def rAddM (K : PySem.W.Frag) : R2 := fun x y H Q => rI0 (fun i j => .int (i + j)) x y H Q ∨ rAddS x y H Q ∨ rCat x y H Q ∨ rCatA K x y H Q
theorem OpR.or {X : Cx} {f : Value → Value → Sem Value} {r r' : R2} (h : OpR X f r) (h' : OpR X f r') : OpR X f (fun x y H Q => r x y H Q ∨ r' x y H Q) := by
  intro pins s σ H x y v u Q I rx ry q
  rcases q with q | q
  · exact h pins s σ H x y v u Q I rx ry q
  · exact h' pins s σ H x y v u Q I rx ry q
theorem o_add {X : Cx} : OpR X (binaryOp .Add) (rAddM X.K) := OpR.or op_add (OpR.or op_add_str (OpR.or op_cat op_catA))
theorem g_add {K : PySem.W.Frag} : OpW K (rAddM K) gAdd := by
  intro x y m z e F H vx vy Q t px py q
  unfold gAdd at e
  split at e
  · cases e; cases px.int; cases py.int
    exact .inl ⟨_, _, rfl, rfl, old_val t (K := K) (z := .int _) rfl q⟩
  · split at e
    · rename_i hl
      cases e; cases px.str; cases py.str
      exact .inr (.inl ⟨_, _, rfl, rfl, hl, old_val t (K := K) (z := .str _) rfl q⟩)
    · cases e
  · split at e
    · rename_i hl
      cases e
      obtain ⟨a, vs, rfl, h1, r1⟩ := px.lst
      obtain ⟨b, us, rfl, h2, r2⟩ := py.lst
      refine .inr (.inr (.inl ⟨a, b, vs, us, rfl, rfl, h1, h2, by rw [← r1.len, ← r2.len]; exact hl, fun p hp => new_lst t (r1.append r2) q hp⟩))
    · cases e
  · split at e
    · rename_i hl
      cases e
      obtain ⟨a, vs, rfl, h1, r1⟩ := px.tup
      obtain ⟨b, us, rfl, h2, r2⟩ := py.tup
      refine .inr (.inr (.inr ⟨a, b, vs, us, rfl, rfl, h1.seq, h2.seq, by rw [← r1.len, ← r2.len]; exact hl, fun ex => ?_, fun _ ey => ?_, fun _ _ p hp => new_tup t (r1.append r2) q hp⟩))
      · subst ex
        have el := r1.len
        rw [List.length_nil, List.length_eq_zero_iff] at el
        subst el
        exact old_val t (show Rep K F H (.tup _) (.ref b) from ⟨b, us, rfl, h2, r2⟩) q
      · subst ey
        have el := r2.len
        rw [List.length_nil, List.length_eq_zero_iff] at el
        subst el
        exact old_val t (show Rep K F H (.tup _) (.ref a) from ⟨a, vs, rfl, h1, by rw [List.append_nil]; exact r1⟩) q
    · cases e
  · cases e
def gI (C : Int → Int → Bool) (f : Int → Int → Int) : GW
  | .int i, .int j => if C i j then some (.val, .int (f i j)) else none
  | _, _ => none
theorem g_I {K : PySem.W.Frag} {C : Int → Int → Bool} {f : Int → Int → Int} {CP : Int → Int → Prop} (hC : ∀ i j, C i j = true → CP i j) : OpW K (rI CP fun i j => .int (f i j)) (gI C f) := by
  intro x y m z e F H vx vy Q t px py q
  unfold gI at e
  split at e
  · split at e
    · rename_i hc
      cases e; cases px.int; cases py.int
      exact ⟨_, _, rfl, rfl, hC _ _ hc, old_val t (K := K) (z := .int _) rfl q⟩
    · cases e
  · cases e
def gSub : GW := gI (fun _ _ => true) fun i j => i - j
theorem o_sub {X : Cx} : OpR X (binaryOp .Sub) (rI (fun _ _ => True) fun i j => .int (i - j)) := fun pins s σ H x y v u Q I rx ry ⟨i, j, e1, e2, _, q⟩ => op_sub pins s σ H x y v u Q I rx ry ⟨i, j, e1, e2, q⟩
theorem g_sub {K : PySem.W.Frag} : OpW K (rI (fun _ _ => True) fun i j => .int (i - j)) gSub := g_I fun _ _ _ => trivial
def gMod : GW := gI (fun _ j => decide (0 < j)) fun i j => i % j
theorem g_mod {K : PySem.W.Frag} : OpW K (rI (fun _ j => 0 < j) fun i j => .int (i % j)) gMod := g_I fun _ _ h => of_decide_eq_true h
def gFdiv : GW := gI (fun _ j => decide (0 < j) && decide (j < 1073741824)) fun i j => i / j
theorem g_fdiv {K : PySem.W.Frag} : OpW K (rI CDiv fun i j => .int (i / j)) gFdiv := g_I fun i j h => by
  have h' : (decide (0 < j) && decide (j < 1073741824)) = true := h
  rw [Bool.and_eq_true_iff] at h'
  exact ⟨of_decide_eq_true h'.1, of_decide_eq_true h'.2⟩
def gPow : GW := gI (fun i j => decide (0 ≤ j) && (decide (j ≤ 1000000) && decide (i.natAbs < 2 ^ 64))) fun i j => i ^ j.toNat
theorem g_pow {K : PySem.W.Frag} : OpW K (rI CPow fun i j => .int (i ^ j.toNat)) gPow := g_I fun i j h => by
  have h' : (decide (0 ≤ j) && (decide (j ≤ 1000000) && decide (i.natAbs < 2 ^ 64))) = true := h
  rw [Bool.and_eq_true_iff, Bool.and_eq_true_iff] at h'
  exact ⟨of_decide_eq_true h'.1, of_decide_eq_true h'.2.1, of_decide_eq_true h'.2.2⟩
def okMul (i j : Int) : Bool := (decide (-(2 ^ 64) < i) && decide (i < 2 ^ 64)) || (decide (-(2 ^ 64) < j) && decide (j < 2 ^ 64))
def gMul : GW
  | .int i, .int j => if okMul i j then some (.val, .int (i * j)) else none
  | .lst l, .int k => if -(2 ^ 63) ≤ k ∧ k < 2 ^ 63 ∧ l.length * k.toNat ≤ sizeLine then some (.fre, .lst (List.replicate k.toNat l).flatten) else none
  | _, _ => none
def rMulM : R2 := fun x y H Q => rI CMul (fun i j => .int (i * j)) x y H Q ∨ rRep x y H Q
theorem o_mul {X : Cx} : OpR X (binaryOp .Mult) rMulM := OpR.or op_mul op_rep
theorem g_mul {K : PySem.W.Frag} : OpW K rMulM gMul := by
  intro x y m z e F H vx vy Q t px py q
  unfold gMul at e
  split at e
  · split at e
    · rename_i i j hc
      cases e; cases px.int; cases py.int
      refine .inl ⟨_, _, rfl, rfl, ?_, old_val t (K := K) (z := .int _) rfl q⟩
      have h' : ((decide (-(2 ^ 64) < i) && decide (i < 2 ^ 64)) || (decide (-(2 ^ 64) < j) && decide (j < 2 ^ 64))) = true := hc
      rw [Bool.or_eq_true_iff, Bool.and_eq_true_iff, Bool.and_eq_true_iff] at h'
      rcases h' with h' | h'
      · exact .inl ⟨of_decide_eq_true h'.1, of_decide_eq_true h'.2⟩
      · exact .inr ⟨of_decide_eq_true h'.1, of_decide_eq_true h'.2⟩
    · cases e
  · split at e
    · rename_i hc
      cases e; cases py.int
      obtain ⟨a, vs, rfl, h1, r1⟩ := px.lst
      exact .inr ⟨a, _, vs, rfl, rfl, h1, hc.1, hc.2.1, by rw [← r1.len]; exact hc.2.2, fun p hp => new_lst t (r1.flatten _) q hp⟩
    · cases e
  · cases e
def gLt : GW
  | .int i, .int j => some (.val, .bl (decide (i < j)))
  | _, _ => none
def gCmp (p : Int → Int → Bool) : GW
  | .int i, .int j => some (.val, .bl (p i j))
  | _, _ => none
theorem g_cmp {K : PySem.W.Frag} {p : Int → Int → Bool} : OpW K (rI0 fun i j => .bl (p i j)) (gCmp p) := by
  intro x y m z e F H vx vy Q t px py q
  unfold gCmp at e
  split at e
  · cases e; cases px.int; cases py.int
    exact ⟨_, _, rfl, rfl, old_val t (K := K) (z := .bl _) rfl q⟩
  · cases e
end ML

set_option maxHeartbeats 4000000
namespace ML
open PySem PySem.Spec PyProof.Rows L2
variable {I : List Nat}
/-! ### flat values, data -/
def toV : W → V
  | .bl b => .bl b
  | .int i => .int i
  | .str s => .str s
  | .ty n => .ty n
  | _ => .non
def flatW : W → Bool
  | .non => true
  | .bl _ => true
  | .int _ => true
  | .str _ => true
  | _ => false
mutual
def toD : W → Option PyData
  | .non => some .none
  | .bl b => some (.bool b)
  | .int i => some (.int i)
  | .str s => some (.str s)
  | .tup l => (toDL l).map .tuple
  | .lst l => (toDL l).map .list
  | .frl l => (toDL l).map .list
  | _ => none
def toDL : List W → Option (List PyData)
  | [] => some []
  | w :: l => match toD w, toDL l with
    | some d, some ds => some (d :: ds)
    | _, _ => none
end
section
variable {K : PySem.W.Frag} {F : Fz} {H : Hp}
theorem PkR.flat {w : W} {v : V} (h : PkR K F H w v) (f : flatW w = true) : v = toV w := by
  cases w with
  | non => exact h.non
  | bl b => exact h.bl
  | int b => exact h.int
  | str b => exact h.str
  | _ => cases f
theorem flat_toV {w : W} (f : flatW w = true) : flatV (toV w) = true := by
  cases w <;> first | rfl | cases f
theorem Rep.flat {w : W} {v : V} (h : Rep K F H w v) (f : flatW w = true) : v = toV w := PkR.flat (.inl h) f
theorem RepL.flat : ∀ {l : List W} {vs : List V}, RepL K F H l vs → l.all flatW = true → vs = l.map toV ∧ vs.all flatV = true
  | [], _, h, _ => by cases h; exact ⟨rfl, rfl⟩
  | w :: l, _, h, f => by
    obtain ⟨v, r, rfl, h1, h2⟩ := h
    rw [List.all_cons, Bool.and_eq_true_iff] at f
    obtain ⟨e1, e2⟩ := RepL.flat h2 f.2
    have e := h1.flat f.1
    rw [e, e1]
    refine ⟨rfl, ?_⟩
    rw [List.all_cons, flat_toV f.1, ← e1, e2]
    rfl
mutual
theorem toD_dp : ∀ (w : W) {d : PyData} {v : V}, toD w = some d → Rep K F H w v → Dp K H v d
  | .non, _, _, e, h => by cases e; cases h; exact .non
  | .bl b, _, _, e, h => by cases e; cases h; exact .bl b
  | .int b, _, _, e, h => by cases e; cases h; exact .int b
  | .str b, _, _, e, h => by cases e; cases h; exact .str b
  | .fn _, _, _, e, _ => by cases e
  | .ty _, _, _, e, _ => by cases e
  | .dK _ _, _, _, e, _ => by cases e
  | .obj _ _ _, _, _, e, _ => by cases e
  | .tup l, _, _, e, h => by
    obtain ⟨a, vs, rfl, s, r⟩ := h
    have e1 : (toDL l).map PyData.tuple = some _ := e
    obtain ⟨ds, q, rfl⟩ := Option.map_eq_some_iff.mp e1
    exact .tup s.seq (toDL_dp l q r)
  | .lst l, _, _, e, h => by
    obtain ⟨a, vs, rfl, _, s, r⟩ := h
    have e1 : (toDL l).map PyData.list = some _ := e
    obtain ⟨ds, q, rfl⟩ := Option.map_eq_some_iff.mp e1
    exact .lst (.of s) (toDL_dp l q r)
  | .frl l, _, _, e, h => by
    obtain ⟨a, vs, rfl, s, r⟩ := h
    have e1 : (toDL l).map PyData.list = some _ := e
    obtain ⟨ds, q, rfl⟩ := Option.map_eq_some_iff.mp e1
    exact .lst s.seq (toDL_dp l q r)
theorem toDL_dp : ∀ (l : List W) {ds : List PyData} {vs : List V}, toDL l = some ds → RepL K F H l vs → DpAll K H vs ds
  | [], _, _, e, h => by cases e; cases h; exact .nil
  | w :: l, ds, _, e, h => by
    obtain ⟨v, r, rfl, h1, h2⟩ := h
    have e1 : (match toD w, toDL l with
      | some d, some ds => some (d :: ds)
      | _, _ => none) = some ds := e
    cases q1 : toD w with
    | none => rw [q1] at e1; cases e1
    | some d =>
      cases q2 : toDL l with
      | none => rw [q1, q2] at e1; cases e1
      | some ds' =>
        rw [q1, q2] at e1
        cases e1
        exact .cons (toD_dp w q1 h1) (toDL_dp l q2 h2)
end
theorem PkR.dp {w : W} {d : PyData} {v : V} (h : PkR K F H w v) (e : toD w = some d) : Dp K H v d := by
  rcases h with h | ⟨a, rfl, o⟩
  · exact toD_dp w e h
  · cases w with
    | lst l =>
      obtain ⟨vs, s, r⟩ := o
      have e1 : (toDL l).map PyData.list = some _ := e
      obtain ⟨ds, q, rfl⟩ := Option.map_eq_some_iff.mp e1
      exact .lst (.of s) (toDL_dp l q r)
    | dK ks l => cases e
    | obj c ns l => cases e
    | _ => exact o.elim
end
/-! ### == != -/
def eqW (x y : W) : Option Bool := if flatW x && flatW y && scal (toV x) (toV y) then some (decide (toV x = toV y)) else match toD x, toD y with
  | some d, some e => if d.canLay0 && e.canLay0 && decide (min d.depth e.depth ≤ 150) then some (PyData.eqv d e) else none
  | _, _ => none
def gEq : GW := fun x y => (eqW x y).map fun b => (.val, .bl b)
def gNe : GW := fun x y => (eqW x y).map fun b => (.val, .bl (!b))
def rEqX (K : PySem.W.Frag) (n : Bool → Bool) : R2 := fun x y H Q => ∃ d e, Dp K H x d ∧ Dp K H y e ∧ d.canLay0 = true ∧ e.canLay0 = true ∧ min d.depth e.depth ≤ 150 ∧ Q (.bl (n (PyData.eqv d e))) H
section
variable {X : Cx}
theorem op_eqX (hu : X.A.units + 200 < cLine) : OpR X (compareOp .Eq) (rEqX X.K id) := by
  intro pins s σ H x y v u Q I rx ry h
  obtain ⟨d, e, hd, he, sd, se, sz, q⟩ := h
  obtain ⟨as, r1⟩ := Dp.reads I d x v hd rx
  obtain ⟨bs, r2⟩ := Dp.reads I e y u he ry
  exact SeqAt.compareEq_reads r1 r2 sd se (by omega) ⟨.bl _, H, I, rfl, q⟩
theorem op_neX (hu : X.A.units + 200 < cLine) : OpR X (compareOp .NotEq) (rEqX X.K not) := by
  intro pins s σ H x y v u Q I rx ry h
  obtain ⟨d, e, hd, he, sd, se, sz, q⟩ := h
  obtain ⟨as, r1⟩ := Dp.reads I d x v hd rx
  obtain ⟨bs, r2⟩ := Dp.reads I e y u he ry
  exact SeqAt.compareNe_reads r1 r2 sd se (by omega) ⟨.bl _, H, I, rfl, q⟩
theorem o_eq (hu : X.A.units + 200 < cLine) : OpR X (compareOp .Eq) (fun x y H Q => rEq x y H Q ∨ rEqX X.K id x y H Q) := OpR.or op_eq (op_eqX hu)
theorem o_ne (hu : X.A.units + 200 < cLine) : OpR X (compareOp .NotEq) (fun x y H Q => rNe x y H Q ∨ rEqX X.K not x y H Q) := OpR.or op_ne (op_neX hu)
end
theorem eq_cases {K : PySem.W.Frag} {x y : W} {b : Bool} (e : eqW x y = some b) {F : Fz} {H : Hp} {vx vy : V} (px : PkR K F H x vx) (py : PkR K F H y vy) :
    (scal vx vy = true ∧ b = decide (vx = vy)) ∨ ∃ d e, Dp K H vx d ∧ Dp K H vy e ∧ d.canLay0 = true ∧ e.canLay0 = true ∧ min d.depth e.depth ≤ 150 ∧ b = PyData.eqv d e := by
  unfold eqW at e
  split at e
  · rename_i h
    rw [Bool.and_eq_true_iff, Bool.and_eq_true_iff] at h
    cases e
    rw [px.flat h.1.1, py.flat h.1.2]
    exact .inl ⟨h.2, rfl⟩
  · cases q1 : toD x with
    | none => rw [q1] at e; cases e
    | some d =>
      cases q2 : toD y with
      | none => rw [q1, q2] at e; cases e
      | some d' =>
        rw [q1, q2] at e
        dsimp only at e
        split at e
        · rename_i h
          rw [Bool.and_eq_true_iff, Bool.and_eq_true_iff] at h
          cases e
          exact .inr ⟨d, d', px.dp q1, py.dp q2, h.1.1, h.1.2, of_decide_eq_true h.2, rfl⟩
        · cases e
theorem g_eq {K : PySem.W.Frag} : OpW K (fun x y H Q => rEq x y H Q ∨ rEqX K id x y H Q) gEq := by
  intro x y m z e F H vx vy Q t px py q
  obtain ⟨b, eb, e2⟩ := Option.map_eq_some_iff.mp (show (eqW x y).map _ = _ from e)
  cases e2
  have fin : Q (.bl b) H := old_val t (K := K) (z := .bl b) rfl q
  rcases eq_cases eb px py with ⟨h, rfl⟩ | ⟨d, d', h1, h2, h3, h4, h5, rfl⟩
  · exact .inl ⟨h, fin⟩
  · exact .inr ⟨d, d', h1, h2, h3, h4, h5, fin⟩
theorem g_ne {K : PySem.W.Frag} : OpW K (fun x y H Q => rNe x y H Q ∨ rEqX K not x y H Q) gNe := by
  intro x y m z e F H vx vy Q t px py q
  obtain ⟨b, eb, e2⟩ := Option.map_eq_some_iff.mp (show (eqW x y).map _ = _ from e)
  cases e2
  have fin : Q (.bl (!b)) H := old_val t (K := K) (z := .bl (!b)) rfl q
  rcases eq_cases eb px py with ⟨h, rfl⟩ | ⟨d, d', h1, h2, h3, h4, h5, rfl⟩
  · exact .inl ⟨h, fin⟩
  · exact .inr ⟨d, d', h1, h2, h3, h4, h5, fin⟩
/-! ### in, not in -/
def inW (neg : Bool) (x y : W) : Option Bool := match x, y with
  | .str s, .str z => if s.cps.size = 1 then some (if neg then !decide (s.cps.toList.headD 0 ∈ z.cps.toList) else decide (s.cps.toList.headD 0 ∈ z.cps.toList)) else none
  | x, y => match itemsW y with
    | some l => if flatW x && l.all flatW then some (if neg then !inV (toV x) (l.map toV) else inV (toV x) (l.map toV)) else none
    | none => none
def gIn (neg : Bool) : GW := fun x y => (inW neg x y).map fun b => (.val, .bl b)
def rInS (neg : Bool) : R2 := fun x y H Q => ∃ (c : Nat) (z : Str), x = .str ⟨#[c]⟩ ∧ y = .str z ∧ Q (.bl (if neg then !decide (c ∈ z.cps.toList) else decide (c ∈ z.cps.toList))) H
def rInM (K : PySem.W.Frag) (neg : Bool) : R2 := fun x y H Q => rInS neg x y H Q ∨ rIn K neg x y H Q
theorem o_in {X : Cx} : OpR X (compareOp .In) (rInM X.K false) := OpR.or (fun pins s σ H x y v u Q I rx ry ⟨c, z, e1, e2, q⟩ => op_in_sign pins s σ H x y v u Q I rx ry ⟨c, z, e1, e2, q⟩) op_in_seq
theorem o_notin {X : Cx} : OpR X (compareOp .NotIn) (rInM X.K true) := OpR.or (fun pins s σ H x y v u Q I rx ry ⟨c, z, e1, e2, q⟩ => op_notIn_sign pins s σ H x y v u Q I rx ry ⟨c, z, e1, e2, q⟩) op_notIn_seq
theorem str1 {s : Str} (h : s.cps.size = 1) : s = ⟨#[s.cps.toList.headD 0]⟩ := by
  obtain ⟨⟨l⟩⟩ := s
  match l, h with
  | [c], _ => rfl
theorem g_in {K : PySem.W.Frag} {neg : Bool} : OpW K (rInM K neg) (gIn neg) := by
  intro x y m z e F H vx vy Q t px py q
  obtain ⟨b, eb, e2⟩ := Option.map_eq_some_iff.mp (show (inW neg x y).map _ = _ from e)
  cases e2
  have fin : Q (.bl b) H := old_val t (K := K) (z := .bl b) rfl q
  unfold inW at eb
  split at eb
  · split at eb
    · rename_i s z h
      cases eb
      cases px.str
      cases py.str
      refine .inl ⟨s.cps.toList.headD 0, z, ?_, rfl, fin⟩
      rw [← str1 h]
    · cases eb
  · cases g : itemsW y with
    | none => rw [g] at eb; cases eb
    | some l =>
      rw [g] at eb
      dsimp only at eb
      split at eb
      · rename_i h
        rw [Bool.and_eq_true_iff] at h
        cases eb
        obtain ⟨a, vs, rfl, hs, r⟩ := py.seq g
        obtain ⟨e1, e2⟩ := r.flat h.2
        rw [px.flat h.1]
        exact .inr ⟨a, vs, rfl, hs, flat_toV h.1, e2, by rw [e1]; exact fin⟩
      · cases eb
/-! ### x is None -/
def nonW : W → Bool
  | .non => true
  | _ => false
def mIsN (n : Bool) (fa : Rho → R (Md × W)) : Rho → R (Md × W) := fun ρ => (fa ρ).bind fun x ρ1 => .ok (.val, .bl (if n then !nonW x.2 else nonW x.2)) ρ1
theorem VR.non_iff {K : PySem.W.Frag} {B : Bd} {F : Fz} {H : Hp} {σ : L2.St} {ρ : Rho} {m : Md} {w : W} {v : V} (S : SR K B F H σ ρ) (h : VR K B F H σ ρ m w v) : decide (v = .non) = nonW w := by
  have own : ∀ {a : Addr}, OwnR K F H w a → nonW w = false := fun {a} o => by cases w <;> first | rfl | exact o.elim
  cases m with
  | val =>
    have h' : Rep K F H w v := h
    cases w with
    | non => cases h'; rfl
    | bl _ => cases h'; rfl
    | int _ => cases h'; rfl
    | str _ => cases h'; rfl
    | fn _ => cases h'; rfl
    | ty _ => cases h'; rfl
    | tup _ => obtain ⟨a, vs, rfl, _⟩ := h'; rfl
    | lst _ => obtain ⟨a, vs, rfl, _⟩ := h'; rfl
    | frl _ => obtain ⟨a, vs, rfl, _⟩ := h'; rfl
    | dK _ _ => obtain ⟨a, vs, rfl, _⟩ := h'; rfl
    | obj _ _ _ => obtain ⟨a, dx, vs, rfl, _⟩ := h'; rfl
  | fre => obtain ⟨a, rfl, o, _⟩ := h; rw [own o]; rfl
  | bor i =>
    obtain ⟨h1, h2⟩ := h
    obtain ⟨a, e, o, _⟩ := S.slot i _ h1
    rw [h2] at e
    cases e
    rw [own o]
    rfl
section
variable {X : Cx} {Y : Yx I} {a : Expr} {pos : Pos} {fa : Rho → R (Md × W)}
theorem pem_isN {j pos'} (ha : PEM X Y a fa) : PEM X Y (.Compare a [.Is] [.Constant .none j pos'] pos) (mIsN false fa) := pe_weak (pe_cmp (pc_isN ha) (nomark _)) fun σ H Q hq => by
  obtain ⟨F, ρ, S, q⟩ := hq
  refine ⟨F, ρ, S, (RunG.bind q).imp fun x ρ1 F1 H1 S1 k1 q1 v1 hv1 => ?_⟩
  have z := q1 F1 H1 S1 .refl (.bl (decide (v1 = .non))) ?_
  · exact z
  · show V.bl _ = V.bl _
    rw [hv1.non_iff S1]
    rfl
theorem pem_notN {j pos'} (ha : PEM X Y a fa) : PEM X Y (.Compare a [.IsNot] [.Constant .none j pos'] pos) (mIsN true fa) := pe_weak (pe_cmp (pc_notN ha) (nomark _)) fun σ H Q hq => by
  obtain ⟨F, ρ, S, q⟩ := hq
  refine ⟨F, ρ, S, (RunG.bind q).imp fun x ρ1 F1 H1 S1 k1 q1 v1 hv1 => ?_⟩
  have z := q1 F1 H1 S1 .refl (.bl (!decide (v1 = .non))) ?_
  · exact z
  · show V.bl _ = V.bl _
    rw [hv1.non_iff S1]
    rfl
/-! ### minus -/
def mNeg (fa : Rho → R (Md × W)) : Rho → R (Md × W) := fun ρ => (fa ρ).bind fun x ρ1 => match x.1, x.2 with
  | .val, .int i => .ok (.val, .int (-i)) ρ1
  | _, _ => .stk
theorem pem_neg (ha : PEM X Y a fa) : PEM X Y (.UnaryOp .USub a pos) (mNeg fa) := pe_weak (pe_un un_neg ha) fun σ H Q hq => by
  obtain ⟨F, ρ, S, q⟩ := hq
  refine ⟨F, ρ, S, (RunG.bind q).imp fun x ρ1 F1 H1 S1 k1 q1 v1 hv1 => ?_⟩
  obtain ⟨m, w⟩ := x
  dsimp only at q1
  split at q1
  · cases (show v1 = .int _ from hv1)
    exact ⟨_, rfl, q1 F1 H1 S1 .refl _ rfl⟩
  · exact q1.elim
end
end ML

set_option maxHeartbeats 4000000
namespace ML
open PySem PySem.Spec PyProof.Rows L2
variable {I : List Nat}
/-! ### storing in slots -/
section
variable {K : PySem.W.Frag} {B : Bd} {F F' F1 F2 : Fz} {H H' H1 H2 : Hp} {σ : L2.St} {ρ : Rho}
theorem set_cases {α : Type} {l : List α} {i j : Nat} {x y : α} (h : (l.set i x)[j]? = some y) : (j = i ∧ y = x ∧ i < l.length) ∨ (j ≠ i ∧ l[j]? = some y) := by
  by_cases e : j = i
  · subst e
    rw [List.getElem?_set] at h
    split at h
    · split at h
      · rename_i q; left; exact ⟨rfl, (Option.some.inj h).symm, q⟩
      · cases h
    · rename_i n; exact absurd rfl n
  · right
    rw [List.getElem?_set_ne (Ne.symm e)] at h
    exact ⟨e, h⟩
theorem set_ne {α : Type} {l : List α} {i j : Nat} {x : α} (h : j ≠ i) : (l.set i x)[j]? = l[j]? := List.getElem?_set_ne (Ne.symm h)
theorem set_eq {α : Type} {l : List α} {i : Nat} {x : α} (h : i < l.length) : (l.set i x)[i]? = some x := by rw [List.getElem?_set, if_pos rfl, if_pos h]
theorem lent_set2 (S : SR K B F H σ ρ) {i : Nat} (u : unlent B i) (o : Option V) (s : Sl) : ∀ p ∈ B.I, (σ.set i o)[p.1]? = some (some (.ref p.2)) ∧ ∃ w, (ρ.set i s)[p.1]? = some (.own w) := fun p hp => by
  obtain ⟨h1, w, h2⟩ := S.lent p hp
  have n : p.1 ≠ i := fun e => u (List.mem_map.mpr ⟨p, hp, e⟩)
  exact ⟨by rw [set_ne n]; exact h1, w, by rw [set_ne n]; exact h2⟩
theorem SR.setVal (S : SR K B F H σ ρ) {i : Nat} {w : W} {v : V} (u : unlent B i) (h : Rep K F H w v) : SR K B F H (σ.set i (some v)) (ρ.set i (.val w)) := by
  refine ⟨by rw [List.length_set, List.length_set]; exact S.len, fun j s h' => ?_, fun j k z z' a h1 h2 e1 e2 => ?_, lent_set2 S u _ _, S.ext, S.alive, S.f0, S.f1, S.f2⟩
  · rcases set_cases h' with ⟨e, e', lt⟩ | ⟨n, e⟩
    · subst e; subst e'
      rw [set_eq (by rw [S.len]; exact lt)]
      exact ⟨v, rfl, h⟩
    · rw [set_ne n]
      exact S.slot j s e
  · rcases set_cases h1 with ⟨_, e, _⟩ | ⟨n1, g1⟩
    · cases e
    · rcases set_cases h2 with ⟨_, e, _⟩ | ⟨n2, g2⟩
      · cases e
      · rw [set_ne n1] at e1
        rw [set_ne n2] at e2
        exact S.sep j k z z' a g1 g2 e1 e2
theorem SR.setOwn (S : SR K B F H σ ρ) {i : Nat} {w : W} {v : V} (u : unlent B i) (h : Fre K B F H σ ρ w v) : SR K B F H (σ.set i (some v)) (ρ.set i (.own w)) := by
  obtain ⟨c, rfl, o, nf, h0, hs⟩ := h
  refine ⟨by rw [List.length_set, List.length_set]; exact S.len, fun j s h' => ?_, fun j k z z' a h1 h2 e1 e2 => ?_, lent_set2 S u _ _, S.ext, S.alive, S.f0, S.f1, S.f2⟩
  · rcases set_cases h' with ⟨e, e', lt⟩ | ⟨n, e⟩
    · subst e; subst e'
      rw [set_eq (by rw [S.len]; exact lt)]
      exact ⟨c, rfl, o, nf, fun k => k.1 h0⟩
    · rw [set_ne n]
      exact S.slot j s e
  · rcases set_cases h1 with ⟨j1, _, l1⟩ | ⟨n1, g1⟩
    · rcases set_cases h2 with ⟨j2, _, _⟩ | ⟨n2, g2⟩
      · rw [j1, j2]
      · exfalso
        rw [set_ne n2] at e2
        rw [j1, set_eq (by rw [S.len]; exact l1)] at e1
        cases e1
        exact hs k z' g2 e2
    · rcases set_cases h2 with ⟨j2, _, l2⟩ | ⟨n2, g2⟩
      · exfalso
        rw [set_ne n1] at e1
        rw [j2, set_eq (by rw [S.len]; exact l2)] at e2
        cases e2
        exact hs j z g1 e1
      · rw [set_ne n1] at e1
        rw [set_ne n2] at e2
        exact S.sep j k z z' a g1 g2 e1 e2
/-- the object of an own slot is changed -/
theorem SR.put (S : SR K B F H σ ρ) {i : Nat} {w w' : W} {a : Addr} {o : HO} (h : ρ[i]? = some (.own w)) (e : σ[i]? = some (some (.ref a))) (mu : Mut (some o)) (n : OwnR K F (upd H a o) w' a) :
    SR K B F (upd H a o) σ (ρ.set i (.own w')) ∧ Keeps F H F (upd H a o) := by
  obtain ⟨b, eb, ow, nf, nk⟩ := S.slot i _ h
  rw [e] at eb
  cases eb
  obtain ⟨u, hu, mu0⟩ := ow.some
  have il : i < ρ.length := (List.getElem?_eq_some_iff.mp h).1
  have k : Keeps F H F (upd H a o) := ⟨fun _ h => h, fun b x hb c => by
    have nb : b ≠ a := fun z => by
      subst z
      rcases c with c | c
      · exact nf c
      · rw [hu] at hb; cases hb; exact c mu0
    rw [upd_ne nb]
    exact hb⟩
  refine ⟨⟨by rw [List.length_set]; exact S.len, fun j s h' => ?_, fun j k z z' c h1 h2 e1 e2 => ?_, fun p hp => ?_, fun b x kb hb => ?_, fun b hb => ?_, S.f0, S.f1, fun b hb => ?_⟩, k⟩
  · rcases set_cases h' with ⟨ej, e', _⟩ | ⟨nj, ej⟩
    · subst ej; subst e'
      exact ⟨a, e, n, nf, nk⟩
    · have q := S.slot j s ej
      cases s with
      | no => trivial
      | exn => exact q
      | val z => obtain ⟨v, e1, r⟩ := q; exact ⟨v, e1, r.mono k⟩
      | own z =>
        obtain ⟨c, e1, oc, nfc, nkc⟩ := q
        have nc : c ≠ a := fun q => by
          subst q
          exact nj (S.sep j i z w c ej h e1 e)
        refine ⟨c, e1, ?_, nfc, nkc⟩
        cases z with
        | lst l => obtain ⟨vs, h1, h2⟩ := oc; exact ⟨vs, by rw [upd_ne nc]; exact h1, h2.mono k⟩
        | dK ks l => obtain ⟨vs, h1, m, h2⟩ := oc; exact ⟨vs, by rw [upd_ne nc]; exact h1, m, h2.mono k⟩
        | obj c ns l => obtain ⟨dx, vs, h1, m, h2⟩ := oc; exact ⟨dx, vs, by rw [upd_ne nc]; exact h1, m, h2.mono k⟩
        | _ => exact oc
  · have g1 : ∃ z, ρ[j]? = some (.own z) := by
      rcases set_cases h1 with ⟨ej, _, _⟩ | ⟨_, g⟩
      · exact ⟨w, by rw [ej]; exact h⟩
      · exact ⟨_, g⟩
    have g2 : ∃ z, ρ[k]? = some (.own z) := by
      rcases set_cases h2 with ⟨ej, _, _⟩ | ⟨_, g⟩
      · exact ⟨w, by rw [ej]; exact h⟩
      · exact ⟨_, g⟩
    obtain ⟨z1, g1⟩ := g1
    obtain ⟨z2, g2⟩ := g2
    exact S.sep j k z1 z2 c g1 g2 e1 e2
  · obtain ⟨h1, z, h2⟩ := S.lent p hp
    by_cases ep : p.1 = i
    · exact ⟨h1, w', by rw [ep, set_eq il]⟩
    · exact ⟨h1, z, by rw [set_ne ep]; exact h2⟩
  · have nb : b ≠ a := fun z => nk (by rw [← z]; exact kb)
    rw [upd_ne nb]
    exact S.ext b x kb hb
  · by_cases eb : b = a
    · rw [eb, upd_same]; exact (fun z => nomatch z)
    · rw [upd_ne eb]; exact S.alive b hb
  · by_cases eb : b = a
    · rw [eb, upd_same]; exact (fun z => nomatch z)
    · rw [upd_ne eb]; exact S.f2 b hb
end
/-! ### statements -/
inductive Fl where
  | nx | bk | ct | rt (m : Md) (w : W)
def RunS (K : PySem.W.Frag) (Y : Yx I) (F : Fz) (H : Hp) (r : R Fl) (D : Ends) : Prop := match r with
  | .ok fl ρ' => (match fl with
    | .nx => ∀ F' H' σ', SR K Y.B F' H' σ' ρ' → Keeps F H F' H' → D.nx σ' H'
    | .bk => ∀ F' H' σ', SR K Y.B F' H' σ' ρ' → Keeps F H F' H' → D.bk σ' H'
    | .ct => ∀ F' H' σ', SR K Y.B F' H' σ' ρ' → Keeps F H F' H' → D.ct σ' H'
    | .rt m w => ∀ F' H' σ' v, SR K Y.B F' H' σ' ρ' → VR K Y.B F' H' σ' ρ' m w v → D.rt v H')
  | .exc c ns ws ρ' => ∀ F' H' σ' d, SR K Y.B F' H' σ' ρ' → ExF K F' H' ns ws d → Y.wx (.ref (Y.ct c)) d σ' H'
  | .stk => False
section
variable {K : PySem.W.Frag} {Y : Yx I} {F F' F1 F2 : Fz} {H H' H1 H2 : Hp} {σ : L2.St} {ρ : Rho} {β : Type}
theorem RunS.rebase {r : R Fl} {D : Ends} (h : RunS K Y F H r D) (k : Keeps F H F1 H1) : RunS K Y F1 H1 r D := by
  cases r with
  | ok fl ρ' =>
    cases fl with
    | nx => exact fun F' H' σ' S k' => h F' H' σ' S (k.trans k')
    | bk => exact fun F' H' σ' S k' => h F' H' σ' S (k.trans k')
    | ct => exact fun F' H' σ' S k' => h F' H' σ' S (k.trans k')
    | rt m w => exact h
  | exc c ns ws ρ' => exact h
  | stk => exact h
/-- an expression, then what hangs on it -/
theorem RunS.bindE {r : R β} {k : β → Rho → R Fl} {D : Ends} (h : RunS K Y F H (r.bind k) D) : RunG K Y F H σ r fun b ρ1 F1 H1 => RunS K Y F1 H1 (k b ρ1) D := by
  cases r with
  | ok b ρ' => exact fun F' H' S k' => RunS.rebase (show RunS K Y F H (k b ρ') D from h) k'
  | exc c ns ws ρ' => exact fun F' H' d S x => h F' H' σ d S x
  | stk => exact h
def tMS (K : PySem.W.Frag) (Y : Yx I) (g : Rho → R Fl) : TS := fun D σ H => ∃ F ρ, SR K Y.B F H σ ρ ∧ RunS K Y F H (g ρ) D
def PSM (X : Cx) (Y : Yx I) (st : Stmt) (g : Rho → R Fl) : Prop := PS X st (tMS X.K Y g)
def PSMs (X : Cx) (Y : Yx I) (st : List Stmt) (g : Rho → R Fl) : Prop := PSs X st (tMS X.K Y g)
theorem ps_weak {X : Cx} {e : Stmt} {t t' : TS} (h : PS X e t) (q : ∀ D σ H, t' D σ H → t D σ H) : PS X e t' := ⟨fun pins s σ H D I hq => h.run pins s σ H D I (q _ _ _ hq)⟩
theorem pss_weak {X : Cx} {e : List Stmt} {t t' : TS} (h : PSs X e t) (q : ∀ D σ H, t' D σ H → t D σ H) : PSs X e t' := ⟨fun pins s σ H D I hq => h.run pins s σ H D I (q _ _ _ hq)⟩
end
section
variable {X : Cx} {Y : Yx I} {e a b : Expr} {st : Stmt} {sts : List Stmt} {pos : Pos} {f : Rho → R (Md × W)} {g g' : Rho → R Fl}
def mNext : Rho → R Fl := fun ρ => .ok .nx ρ
def thenF (r : R Fl) (k : Rho → R Fl) : R Fl := r.bind fun fl ρ => match fl with
  | .nx => k ρ
  | fl => .ok fl ρ
def mSeq (g g' : Rho → R Fl) : Rho → R Fl := fun ρ => thenF (g ρ) g'
theorem psm_nil : PSMs X Y [] mNext := pss_weak pss_nil fun D σ H hq => by
  obtain ⟨F, ρ, S, q⟩ := hq
  exact q F H σ S .refl
theorem seq_of {K : PySem.W.Frag} {D : Ends} {σ : L2.St} {H : Hp} (hq : tMS K Y (mSeq g g') D σ H) : tSeq (tMS K Y g) (tMS K Y g') D σ H := by
  obtain ⟨F, ρ, S, q⟩ := hq
  refine ⟨F, ρ, S, ?_⟩
  have q' : RunS K Y F H (thenF (g ρ) g') D := q
  unfold thenF at q'
  cases e : g ρ with
  | ok fl ρ1 =>
    rw [e] at q'
    cases fl with
    | nx => exact fun F' H' σ' S' k' => ⟨F', ρ1, S', RunS.rebase (show RunS K Y F H (g' ρ1) D from q') k'⟩
    | bk => exact q'
    | ct => exact q'
    | rt m w => exact q'
  | exc c ns ws ρ' => rw [e] at q'; exact q'
  | stk => rw [e] at q'; exact q'
theorem psm_cons (h1 : PSM X Y st g) (h2 : PSMs X Y sts g') : PSMs X Y (st :: sts) (mSeq g g') := pss_weak (pss_cons h1 h2) fun _ _ _ => seq_of
theorem psm_one (h1 : PSM X Y st g) : PSMs X Y [st] g := pss_one h1
theorem psm_pass : PSM X Y (.Pass pos) mNext := ps_weak ps_pass fun D σ H hq => by
  obtain ⟨F, ρ, S, q⟩ := hq
  exact q F H σ S .refl
def mBreak : Rho → R Fl := fun ρ => .ok .bk ρ
def mCont : Rho → R Fl := fun ρ => .ok .ct ρ
theorem psm_break : PSM X Y (.Break pos) mBreak := ps_weak ps_break fun D σ H hq => by
  obtain ⟨F, ρ, S, q⟩ := hq
  exact q F H σ S .refl
theorem psm_cont : PSM X Y (.Continue pos) mCont := ps_weak ps_continue fun D σ H hq => by
  obtain ⟨F, ρ, S, q⟩ := hq
  exact q F H σ S .refl
/-- x = e -/
def mStore (I : List Nat) (i : Nat) (b : Md × W) (ρ : Rho) : R Fl := if i ∈ I then .stk else match b.1 with
  | .fre => .ok .nx (ρ.set i (.own b.2))
  | m => (toVal I (m, b.2) ρ).bind fun w ρ1 => .ok .nx (ρ1.set i (.val w))
def mSet (I : List Nat) (i : Nat) (f : Rho → R (Md × W)) : Rho → R Fl := fun ρ => (f ρ).bind fun b ρ1 => mStore I i b ρ1
theorem store_of {K : PySem.W.Frag} {F : Fz} {H : Hp} {σ : L2.St} {ρ : Rho} {D : Ends} {i : Nat} {b : Md × W} {v : V} (S : SR K Y.B F H σ ρ) (h : VR K Y.B F H σ ρ b.1 b.2 v) (q : RunS K Y F H (mStore I i b ρ) D) : D.nx (σ.set i (some v)) H := by
  unfold mStore at q
  split at q
  · exact q.elim
  · rename_i n
    have u := Y.un n
    obtain ⟨m, w⟩ := b
    cases m with
    | fre => exact q F H _ (S.setOwn u h) .refl
    | val =>
      have qg := RunS.bindE (σ := σ) (show RunS K Y F H ((toVal I (.val, w) ρ).bind _) D from q)
      obtain ⟨F', w', ρ', S', k, r, q'⟩ := S.toVal (b := (.val, w)) h qg
      exact q' F' H _ (S'.setVal u r) .refl
    | bor j =>
      have qg := RunS.bindE (σ := σ) (show RunS K Y F H ((toVal I (.bor j, w) ρ).bind _) D from q)
      obtain ⟨F', w', ρ', S', k, r, q'⟩ := S.toVal (b := (.bor j, w)) h qg
      exact q' F' H _ (S'.setVal u r) .refl
theorem psm_set {i : Nat} {x : Str} {pos' : Pos} (hN : X.N.Nodup) (hi : X.N[i]? = some x) (hx : Loc X.env.scope x) (he : PEM X Y e f) (hs : swapsWith e (some (.Name x pos')) pos.line X.env = pure false := by rfl)
    (hf : X.fn x = true ∨ X.env.scope.names.lookup x = some .local := by first | exact .inl rfl | exact .inr rfl) : PSM X Y (.Assign [.Name x pos'] e pos) (mSet I i f) :=
  ps_weak (ps_set hN hi hx he hs) fun D σ H hq => by
    obtain ⟨F, ρ, S, q⟩ := hq
    exact ⟨F, ρ, S, (RunS.bindE q).imp fun b ρ1 F1 H1 S1 k1 q1 v hv => store_of S1 hv q1⟩
/-- a value is dropped -/
def mDrop (f : Rho → R (Md × W)) : Rho → R Fl := fun ρ => (f ρ).bind fun _ ρ1 => .ok .nx ρ1
theorem psm_expr (he : PEM X Y e f) (hs : swapsWith e none pos.line X.env = pure false := by rfl) : PSM X Y (.Expr e pos) (mDrop f) := ps_weak (ps_expr he hs) fun D σ H hq => by
  obtain ⟨F, ρ, S, q⟩ := hq
  exact ⟨F, ρ, S, (RunS.bindE q).imp fun b ρ1 F1 H1 S1 k1 q1 v hv => q1 F1 H1 σ S1 .refl⟩
/-- return e -/
def mRet (I : List Nat) (f : Rho → R (Md × W)) : Rho → R Fl := fun ρ => (f ρ).bind fun b ρ1 => match b.1 with
  | .val => .ok (.rt .val b.2) ρ1
  | .fre => .ok (.rt .fre b.2) ρ1
  | .bor i => if i ∈ I then .stk else .ok (.rt .fre b.2) (ρ1.set i .no)
theorem ret_of {K : PySem.W.Frag} {F : Fz} {H : Hp} {σ : L2.St} {ρ : Rho} {i : Nat} {w : W} {v : V} (S : SR K Y.B F H σ ρ) (u : unlent Y.B i) (h : VR K Y.B F H σ ρ (.bor i) w v) : SR K Y.B F H σ (ρ.set i .no) ∧ Fre K Y.B F H σ (ρ.set i .no) w v := by
  obtain ⟨h1, h2⟩ := h
  obtain ⟨a, e1, o, nf, nk⟩ := S.slot i _ h1
  rw [h2] at e1
  cases e1
  refine ⟨S.drop u, a, rfl, o, nf, S.new_of h1 h2 u, fun j w' hj ej => ?_⟩
  rcases set_cases hj with ⟨_, e, _⟩ | ⟨n, g⟩
  · cases e
  · exact n (S.sep j i w' w a g h1 ej h2)
theorem psm_ret (he : PEM X Y e f) : PSM X Y (.Return (some e) pos) (mRet I f) := ps_weak (ps_ret he) fun D σ H hq => by
  obtain ⟨F, ρ, S, q⟩ := hq
  refine ⟨F, ρ, S, (RunS.bindE q).imp fun b ρ1 F1 H1 S1 k1 q1 v hv => ?_⟩
  obtain ⟨m, w⟩ := b
  cases m with
  | val => exact q1 F1 H1 σ v S1 hv
  | fre => exact q1 F1 H1 σ v S1 hv
  | bor i =>
    dsimp only at q1
    split at q1
    · exact q1.elim
    · rename_i n
      obtain ⟨S2, fr⟩ := ret_of S1 (Y.un n) hv
      exact q1 F1 H1 σ v S2 fr
def mRetN : Rho → R Fl := fun ρ => .ok (.rt .val .non) ρ
theorem psm_retN : PSM X Y (.Return none pos) mRetN := ps_weak ps_retN fun D σ H hq => by
  obtain ⟨F, ρ, S, q⟩ := hq
  exact q F H σ .non S rfl
/-! ### tests -/
def tMT (K : PySem.W.Frag) (Y : Yx I) (f : Rho → R Bool) : TT := fun σ H Q => ∃ F ρ, SR K Y.B F H σ ρ ∧ RunG K Y F H σ (f ρ) fun b _ _ H' => Q b H'
def PTM (X : Cx) (Y : Yx I) (e : Expr) (f : Rho → R Bool) : Prop := PT X e (tMT X.K Y f)
def PWM (X : Cx) (Y : Yx I) (e : Expr) (f : Rho → R Bool) : Prop := PW X e (tMT X.K Y f)
theorem pt_weak {e : Expr} {t t' : TT} (h : PT X e t) (q : ∀ σ H Q, t' σ H Q → t σ H Q) : PT X e t' := ⟨fun pins s σ H Q I hq => h.run pins s σ H Q I (q _ _ _ hq)⟩
theorem pw_weak {e : Expr} {t t' : TT} (h : PW X e t) (q : ∀ σ H Q, t' σ H Q → t σ H Q) : PW X e t' := ⟨fun wh pins s σ H Q I hq => h.run wh pins s σ H Q I (q _ _ _ hq)⟩
/-- a bool -/
def boolOf (b : Md × W) (ρ : Rho) : R Bool := match b.2 with
  | .bl c => .ok c ρ
  | _ => .stk
def mTest (f : Rho → R (Md × W)) : Rho → R Bool := fun ρ => (f ρ).bind boolOf
theorem VR.bl {K : PySem.W.Frag} {B : Bd} {F : Fz} {H : Hp} {σ : L2.St} {ρ : Rho} {m : Md} {c : Bool} {v : V} (S : SR K B F H σ ρ) (h : VR K B F H σ ρ m (.bl c) v) : v = .bl c := by
  cases m with
  | val => exact h
  | fre => obtain ⟨a, rfl, o, _⟩ := h; exact o.elim
  | bor i =>
    obtain ⟨h1, h2⟩ := h
    obtain ⟨a, e, o, _⟩ := S.slot i _ h1
    exact o.elim
theorem test_of {K : PySem.W.Frag} {σ : L2.St} {H : Hp} {Q : Bool → Hp → Prop} (hq : tMT K Y (mTest f) σ H Q) : tTest (tM K Y f) σ H Q := by
  obtain ⟨F, ρ, S, q⟩ := hq
  refine ⟨F, ρ, S, (RunG.bind q).imp fun b ρ1 F1 H1 S1 k1 q1 v hv => ?_⟩
  obtain ⟨m, w⟩ := b
  unfold boolOf at q1
  dsimp only at q1
  split at q1
  · exact ⟨_, hv.bl S1, q1 F1 H1 S1 .refl⟩
  · exact q1.elim
end
end ML

set_option maxHeartbeats 4000000
namespace ML
open PySem PySem.Spec PyProof.Rows L2
variable {I : List Nat}
section
variable {X : Cx} {Y : Yx I} {e a b : Expr} {st : Stmt} {sts : List Stmt} {pos : Pos} {f fa fb : Rho → R (Md × W)} {g g' : Rho → R Fl} {c c' : Rho → R Bool}
/-! ### tests -/
theorem ptm_val (he : PEM X Y e f) (hw : ∀ whole, isTrue e X.env whole = (do let v ← whole; standAt e.pos; holding [v] (truthy v)) := by intro _; rfl) : PTM X Y e (mTest f) := pt_weak (pt_val he hw) fun _ _ _ => test_of
theorem ptm_cmp {op : CmpOp} {r : R2} {gw : W → W → Option (Md × W)} (ho : OpR X (compareOp op) r) (hg : OpW X.K r gw) (ha : PEM X Y a fa) (hb : PEM X Y b fb) (hm : behindInMarks op b = false) : PTM X Y (.Compare a [op] [b] pos) (mTest (mOp gw fa fb)) :=
  pt_weak (pt_cmpR ho ha hb hm) fun σ H Q hq => by
    obtain ⟨F, ρ, S, q⟩ := test_of hq
    exact tOp_of hg ⟨F, ρ, S, q⟩
theorem ptm_isN {j pos'} (ha : PEM X Y a fa) : PTM X Y (.Compare a [.Is] [.Constant .none j pos'] pos) (mTest (mIsN false fa)) := pt_weak (pt_cmp (pc_isN ha) (nomark _)) fun σ H Q hq => by
  obtain ⟨F, ρ, S, q⟩ := test_of hq
  refine ⟨F, ρ, S, (RunG.bind q).imp fun x ρ1 F1 H1 S1 k1 q1 v1 hv1 => ?_⟩
  have z := q1 F1 H1 S1 .refl (.bl (decide (v1 = .non))) ?_
  · exact z
  · show V.bl _ = V.bl _
    rw [hv1.non_iff S1]
    rfl
theorem ptm_notN {j pos'} (ha : PEM X Y a fa) : PTM X Y (.Compare a [.IsNot] [.Constant .none j pos'] pos) (mTest (mIsN true fa)) := pt_weak (pt_cmp (pc_notN ha) (nomark _)) fun σ H Q hq => by
  obtain ⟨F, ρ, S, q⟩ := test_of hq
  refine ⟨F, ρ, S, (RunG.bind q).imp fun x ρ1 F1 H1 S1 k1 q1 v1 hv1 => ?_⟩
  have z := q1 F1 H1 S1 .refl (.bl (!decide (v1 = .non))) ?_
  · exact z
  · show V.bl _ = V.bl _
    rw [hv1.non_iff S1]
    rfl
def mNot (c : Rho → R Bool) : Rho → R Bool := fun ρ => (c ρ).bind fun b ρ1 => .ok (!b) ρ1
theorem ptm_not (h : PTM X Y a c) : PTM X Y (.UnaryOp .Not a pos) (mNot c) := pt_weak (pt_not h) fun σ H Q hq => by
  obtain ⟨F, ρ, S, q⟩ := hq
  exact ⟨F, ρ, S, (RunG.bind q).imp fun b ρ1 F1 H1 S1 k1 q1 => q1 F1 H1 S1 .refl⟩
def mAnd (c c' : Rho → R Bool) : Rho → R Bool := fun ρ => (c ρ).bind fun b ρ1 => if b then c' ρ1 else .ok false ρ1
def mOr (c c' : Rho → R Bool) : Rho → R Bool := fun ρ => (c ρ).bind fun b ρ1 => if b then .ok true ρ1 else c' ρ1
theorem pwm_and1 (h : PTM X Y a c) : PWM X Y (.BoolOp .And [a] pos) c := pw_and1 h
theorem pwm_or1 (h : PTM X Y a c) : PWM X Y (.BoolOp .Or [a] pos) c := pw_or1 h
theorem pwm_and {rest : List Expr} (h : PTM X Y a c) (h' : PWM X Y (.BoolOp .And (b :: rest) pos) c') : PWM X Y (.BoolOp .And (a :: b :: rest) pos) (mAnd c c') := pw_weak (pw_and h h') fun σ H Q hq => by
  obtain ⟨F, ρ, S, q⟩ := hq
  refine ⟨F, ρ, S, (RunG.bind q).imp fun b ρ1 F1 H1 S1 k1 q1 => ?_⟩
  cases b with
  | true => exact ⟨F1, ρ1, S1, q1⟩
  | false => exact q1 F1 H1 S1 .refl
theorem pwm_or {rest : List Expr} (h : PTM X Y a c) (h' : PWM X Y (.BoolOp .Or (b :: rest) pos) c') : PWM X Y (.BoolOp .Or (a :: b :: rest) pos) (mOr c c') := pw_weak (pw_or h h') fun σ H Q hq => by
  obtain ⟨F, ρ, S, q⟩ := hq
  refine ⟨F, ρ, S, (RunG.bind q).imp fun b ρ1 F1 H1 S1 k1 q1 => ?_⟩
  cases b with
  | true => exact q1 F1 H1 S1 .refl
  | false => exact ⟨F1, ρ1, S1, q1⟩
/-- not, and, or of bools, as values -/
def mNotV (fa : Rho → R (Md × W)) : Rho → R (Md × W) := fun ρ => ((fa ρ).bind boolOf).bind fun b ρ1 => .ok (.val, .bl (!b)) ρ1
theorem pem_not (h : PEM X Y a fa) : PEM X Y (.UnaryOp .Not a pos) (mNotV fa) := pe_weak (pe_not h) fun σ H Q hq => by
  obtain ⟨F, ρ, S, q⟩ := hq
  refine ⟨F, ρ, S, (RunG.bind (RunG.bind q)).imp fun x ρ1 F1 H1 S1 k1 q1 v1 hv1 => ?_⟩
  obtain ⟨m, w⟩ := x
  unfold boolOf at q1
  dsimp only at q1
  split at q1
  · exact ⟨_, hv1.bl S1, q1 F1 H1 S1 .refl F1 H1 S1 .refl _ rfl⟩
  · exact q1.elim
def mAndV (fa fb : Rho → R (Md × W)) : Rho → R (Md × W) := fun ρ => ((fa ρ).bind boolOf).bind fun b ρ1 => if b then fb ρ1 else .ok (.val, .bl false) ρ1
def mOrV (fa fb : Rho → R (Md × W)) : Rho → R (Md × W) := fun ρ => ((fa ρ).bind boolOf).bind fun b ρ1 => if b then .ok (.val, .bl true) ρ1 else fb ρ1
theorem pem_one {op} (h : PEM X Y a fa) : PEM X Y (.BoolOp op [a] pos) fa := pe_one h
theorem pem_and {rest : List Expr} (h : PEM X Y a fa) (h' : PEM X Y (.BoolOp .And (b :: rest) pos) fb) : PEM X Y (.BoolOp .And (a :: b :: rest) pos) (mAndV fa fb) := pe_weak (pe_and h h') fun σ H Q hq => by
  obtain ⟨F, ρ, S, q⟩ := hq
  refine ⟨F, ρ, S, (RunG.bind (RunG.bind q)).imp fun x ρ1 F1 H1 S1 k1 q1 v1 hv1 => ?_⟩
  obtain ⟨m, w⟩ := x
  unfold boolOf at q1
  dsimp only at q1
  split at q1
  · rename_i c
    refine ⟨c, hv1.bl S1, ?_⟩
    have q2 := q1 F1 H1 S1 .refl
    cases c with
    | true => exact ⟨F1, ρ1, S1, q2⟩
    | false => exact q2 F1 H1 S1 .refl _ rfl
  · exact q1.elim
theorem pem_or {rest : List Expr} (h : PEM X Y a fa) (h' : PEM X Y (.BoolOp .Or (b :: rest) pos) fb) : PEM X Y (.BoolOp .Or (a :: b :: rest) pos) (mOrV fa fb) := pe_weak (pe_or h h') fun σ H Q hq => by
  obtain ⟨F, ρ, S, q⟩ := hq
  refine ⟨F, ρ, S, (RunG.bind (RunG.bind q)).imp fun x ρ1 F1 H1 S1 k1 q1 v1 hv1 => ?_⟩
  obtain ⟨m, w⟩ := x
  unfold boolOf at q1
  dsimp only at q1
  split at q1
  · rename_i c
    refine ⟨c, hv1.bl S1, ?_⟩
    have q2 := q1 F1 H1 S1 .refl
    cases c with
    | true => exact q2 F1 H1 S1 .refl _ rfl
    | false => exact ⟨F1, ρ1, S1, q2⟩
  · exact q1.elim
def mIfE (c : Rho → R Bool) (fa fb : Rho → R (Md × W)) : Rho → R (Md × W) := fun ρ => (c ρ).bind fun b ρ1 => if b then fa ρ1 else fb ρ1
theorem pem_ifE {t : Expr} (hc : PTM X Y t c) (ha : PEM X Y a fa) (hb : PEM X Y b fb) : PEM X Y (.IfExp t a b pos) (mIfE c fa fb) := pe_weak (pe_ifExp hc ha hb) fun σ H Q hq => by
  obtain ⟨F, ρ, S, q⟩ := hq
  refine ⟨F, ρ, S, (RunG.bind q).imp fun b ρ1 F1 H1 S1 k1 q1 => ?_⟩
  cases b with
  | true => exact ⟨F1, ρ1, S1, q1⟩
  | false => exact ⟨F1, ρ1, S1, q1⟩
/-! ### if -/
def mIf (c : Rho → R Bool) (g g' : Rho → R Fl) : Rho → R Fl := fun ρ => (c ρ).bind fun b ρ1 => if b then g ρ1 else g' ρ1
theorem psm_if {t : Expr} {xs ys : List Stmt} (hc : PTM X Y t c) (ha : PSMs X Y xs g) (hb : PSMs X Y ys g') : PSM X Y (.If t xs ys pos) (mIf c g g') := ps_weak (ps_if hc ha hb) fun D σ H hq => by
  obtain ⟨F, ρ, S, q⟩ := hq
  refine ⟨F, ρ, S, (RunS.bindE q).imp fun b ρ1 F1 H1 S1 k1 q1 => ?_⟩
  cases b with
  | true => exact ⟨F1, ρ1, S1, q1⟩
  | false => exact ⟨F1, ρ1, S1, q1⟩
/-! ### while -/
def loopF (r : R Fl) (k : Rho → R Fl) : R Fl := r.bind fun fl ρ => match fl with
  | .nx => k ρ
  | .ct => k ρ
  | .bk => .ok .nx ρ
  | .rt m w => .ok (.rt m w) ρ
def whileN (c : Rho → R Bool) (g : Rho → R Fl) : Nat → Rho → R Fl
  | 0, _ => .stk
  | n + 1, ρ => (c ρ).bind fun b ρ1 => if b then loopF (g ρ1) (whileN c g n) else .ok .nx ρ1
theorem bind_stk {α β : Type} {r : R α} {k k' : α → Rho → R β} (h : r.bind k ≠ .stk) (q : ∀ a ρ, k a ρ ≠ .stk → k' a ρ = k a ρ) : r.bind k' = r.bind k := by
  cases r with
  | ok a ρ => exact q a ρ h
  | exc c ns ws ρ => rfl
  | stk => exact absurd rfl h
theorem whileN_mono {c : Rho → R Bool} {g : Rho → R Fl} : ∀ (n m : Nat) (ρ : Rho), n ≤ m → whileN c g n ρ ≠ .stk → whileN c g m ρ = whileN c g n ρ
  | 0, _, _, _, h => absurd rfl h
  | n + 1, 0, _, l, _ => absurd l (by omega)
  | n + 1, m + 1, ρ, l, h => bind_stk h fun b ρ1 h1 => by
    cases b with
    | false => rfl
    | true =>
      refine bind_stk (show loopF (g ρ1) (whileN c g n) ≠ .stk from h1) fun fl ρ2 h2 => ?_
      cases fl with
      | nx => exact whileN_mono n m ρ2 (by omega) h2
      | ct => exact whileN_mono n m ρ2 (by omega) h2
      | bk => rfl
      | rt m w => rfl
open Classical in
/-- while c: g (as many turns as it takes; stk if it never ends) -/
noncomputable def mWhile (c : Rho → R Bool) (g : Rho → R Fl) : Rho → R Fl := fun ρ => if h : ∃ n, whileN c g n ρ ≠ .stk then whileN c g (Classical.choose h) ρ else .stk
theorem mWhile_of {c : Rho → R Bool} {g : Rho → R Fl} {n : Nat} {ρ : Rho} (h : whileN c g n ρ ≠ .stk) : mWhile c g ρ = whileN c g n ρ := by
  have e : ∃ n, whileN c g n ρ ≠ .stk := ⟨n, h⟩
  unfold mWhile
  rw [dif_pos e]
  have h2 := Classical.choose_spec e
  rcases Nat.le_total n (Classical.choose e) with l | l
  · exact whileN_mono _ _ _ l h
  · exact (whileN_mono _ _ _ l h2).symm
theorem mWhile_is {c : Rho → R Bool} {g : Rho → R Fl} {ρ : Rho} (h : mWhile c g ρ ≠ .stk) : ∃ n, mWhile c g ρ = whileN c g n ρ := by
  unfold mWhile at h ⊢
  split at h
  · rename_i e
    rw [dif_pos e]
    exact ⟨_, rfl⟩
  · exact absurd rfl h
/-- one turn -/
theorem mWhile_step {c : Rho → R Bool} {g : Rho → R Fl} {ρ : Rho} {r : R Fl} (hr : r ≠ .stk) (h : ((c ρ).bind fun b ρ1 => if b then loopF (g ρ1) (mWhile c g) else .ok .nx ρ1) = r) : mWhile c g ρ = r := by
  have key : ∃ n, whileN c g n ρ = r := by
    cases ec : c ρ with
    | stk => rw [ec] at h; exact absurd h.symm hr
    | exc cc ns ws ρ' => exact ⟨1, by show (c ρ).bind _ = r; rw [ec]; rw [ec] at h; exact h⟩
    | ok b ρ1 =>
      rw [ec] at h
      cases b with
      | false => exact ⟨1, by show (c ρ).bind _ = r; rw [ec]; exact h⟩
      | true =>
        have h1 : loopF (g ρ1) (mWhile c g) = r := h
        cases eg : g ρ1 with
        | stk => rw [eg] at h1; exact absurd h1.symm hr
        | exc cc ns ws ρ' => exact ⟨1, by show (c ρ).bind _ = r; rw [ec]; show loopF (g ρ1) _ = r; rw [eg]; rw [eg] at h1; exact h1⟩
        | ok fl ρ2 =>
          rw [eg] at h1
          have go : ∀ x : R Fl, mWhile c g ρ2 = x → x = r → ∃ n, whileN c g n ρ2 = r := fun x e1 e2 => by
            obtain ⟨n, en⟩ := mWhile_is (ρ := ρ2) (c := c) (g := g) (by rw [e1, e2]; exact hr)
            exact ⟨n, by rw [← en, e1, e2]⟩
          cases fl with
          | nx =>
            obtain ⟨n, en⟩ := go _ rfl h1
            exact ⟨n + 1, by show (c ρ).bind _ = r; rw [ec]; show loopF (g ρ1) _ = r; rw [eg]; exact en⟩
          | ct =>
            obtain ⟨n, en⟩ := go _ rfl h1
            exact ⟨n + 1, by show (c ρ).bind _ = r; rw [ec]; show loopF (g ρ1) _ = r; rw [eg]; exact en⟩
          | bk => exact ⟨1, by show (c ρ).bind _ = r; rw [ec]; show loopF (g ρ1) _ = r; rw [eg]; exact h1⟩
          | rt m w => exact ⟨1, by show (c ρ).bind _ = r; rw [ec]; show loopF (g ρ1) _ = r; rw [eg]; exact h1⟩
  obtain ⟨n, en⟩ := key
  rw [mWhile_of (n := n) (by rw [en]; exact hr), en]
theorem while_of {K : PySem.W.Frag} {D : Ends} : ∀ (n : Nat) {F : Fz} {H : Hp} {σ : L2.St} {ρ : Rho}, SR K Y.B F H σ ρ → RunS K Y F H (whileN c g n ρ) D → tWhile (tMT K Y c) (tMS K Y g) D σ H := by
  intro n F H σ ρ S q
  refine ⟨fun m σ H => ∃ F ρ, SR K Y.B F H σ ρ ∧ RunS K Y F H (whileN c g m ρ) D, ⟨n, F, ρ, S, q⟩, ?_⟩
  rintro m σ H ⟨F, ρ, S, q⟩
  cases m with
  | zero => exact q.elim
  | succ m =>
    refine ⟨F, ρ, S, (RunS.bindE q).imp fun b ρ1 F1 H1 S1 k1 q1 => ?_⟩
    cases b with
    | false => exact q1 F1 H1 σ S1 .refl
    | true =>
      refine ⟨fun σ H => ∃ F ρ, SR K Y.B F H σ ρ ∧ RunS K Y F H (whileN c g m ρ) D, fun σ' H' h => ⟨m, Nat.lt_succ_self m, h⟩, F1, ρ1, S1, ?_⟩
      have q2 : RunS K Y F1 H1 (loopF (g ρ1) (whileN c g m)) D := q1
      unfold loopF at q2
      cases e : g ρ1 with
      | stk => rw [e] at q2; exact q2.elim
      | exc cc ns ws ρ' => rw [e] at q2; exact q2
      | ok fl ρ2 =>
        rw [e] at q2
        cases fl with
        | nx => exact fun F' H' σ' S' k' => ⟨F', ρ2, S', RunS.rebase (show RunS K Y F1 H1 (whileN c g m ρ2) D from q2) k'⟩
        | ct => exact fun F' H' σ' S' k' => ⟨F', ρ2, S', RunS.rebase (show RunS K Y F1 H1 (whileN c g m ρ2) D from q2) k'⟩
        | bk => exact q2
        | rt m w => exact q2
theorem psm_while {t : Expr} {body : List Stmt} (hp : PassesOwn (model X.prog X.w) X.A X.env X.xe) (hc : PTM X Y t c) (hb : PSMs X Y body g) : PSM X Y (.While t body [] pos) (mWhile c g) := ps_weak (ps_while hp hc hb) fun D σ H hq => by
  obtain ⟨F, ρ, S, q⟩ := hq
  obtain ⟨n, en⟩ := mWhile_is (c := c) (g := g) (ρ := ρ) (fun z => by rw [z] at q; exact q)
  rw [en] at q
  exact while_of n S q
end
end ML

set_option maxHeartbeats 4000000
namespace ML
open PySem PySem.Spec PyProof.Rows L2
variable {I : List Nat}
/-! ### what a for walks -/
def Tg (F : Fz) (H : Hp) : Prop := ∀ a, F a → H a ≠ none
/-- the iterator J hands out the words ws, whatever else is made meanwhile -/
def ItR (K : PySem.W.Frag) (J : It) (F : Fz) (H : Hp) (ws : List W) : Prop := ∀ F' H', Keeps F H F' H' → Tight F' H' → ∀ i,
  (∀ w, ws[i]? = some w → J.go i H' ∧ ∀ x H'', J.yld i H' x H'' → ∃ F'', Ext [] F' H' F'' H'' ∧ Rep K F'' H'' w x) ∧ (ws.length ≤ i → J.stop i H')
def tMI (K : PySem.W.Frag) (Y : Yx I) (it : Rho → R (List W)) : TI := fun σ H R => ∃ F ρ, SR K Y.B F H σ ρ ∧ RunG K Y F H σ (it ρ) fun ws ρ' F' H' => ∀ J, ItR K J F' H' ws → R J H'
def PIM (X : Cx) (Y : Yx I) (tg iter : Expr) (it : Rho → R (List W)) : Prop := PI X tg iter (tMI X.K Y it)
theorem pi_weak {X : Cx} {tg e : Expr} {t t' : TI} (h : PI X tg e t) (q : ∀ σ H R, t' σ H R → t σ H R) : PI X tg e t' := ⟨fun pins s σ H R I hq => h.run pins s σ H R I (q _ _ _ hq)⟩
/-- the target of a for, of an assignment -/
def tMG (K : PySem.W.Frag) (Y : Yx I) (t : W → Rho → Option Rho) : TG := fun v σ H Q => ∃ F ρ w ρ', SR K Y.B F H σ ρ ∧ Rep K F H w v ∧ t w ρ = some ρ' ∧ ∀ F' H' σ', SR K Y.B F' H' σ' ρ' → Keeps F H F' H' → Q σ' H'
def PGM (X : Cx) (Y : Yx I) (tg : Expr) (t : W → Rho → Option Rho) : Prop := PG X tg (tMG X.K Y t)
theorem pg_weak {X : Cx} {e : Expr} {t t' : TG} (h : PG X e t) (q : ∀ v σ H Q, t' v σ H Q → t v σ H Q) : PG X e t' := ⟨fun pins s σ H v u Q I r hq => h.run pins s σ H v u Q I r (q _ _ _ _ hq)⟩
def gSet (I : List Nat) (i : Nat) (w : W) (ρ : Rho) : Option Rho := if i ∈ I then none else some (ρ.set i (.val w))
theorem pgm_name {X : Cx} {Y : Yx I} {e : Expr} {i : Nat} (h : PG X e (gName i)) : PGM X Y e (gSet I i) := pg_weak h fun v σ H Q hq => by
  obtain ⟨F, ρ, w, ρ', S, r, e, q⟩ := hq
  unfold gSet at e
  split at e
  · cases e
  · rename_i n
    cases e
    exact q F H _ (S.setVal (Y.un n) r) .refl
/-- a, b, ..: a tuple's items to targets -/
def gTups : List (W → Rho → Option Rho) → List W → Rho → Option Rho
  | [], [], ρ => some ρ
  | t :: ts, w :: ws, ρ => (t w ρ).bind fun ρ1 => gTups ts ws ρ1
  | _, _, _ => none
def tMGs (K : PySem.W.Frag) (Y : Yx I) (ts : List (W → Rho → Option Rho)) : TGs := fun vs σ H Q => ∃ F ρ ws ρ', SR K Y.B F H σ ρ ∧ RepL K F H ws vs ∧ gTups ts ws ρ = some ρ' ∧ ∀ F' H' σ', SR K Y.B F' H' σ' ρ' → Keeps F H F' H' → Q σ' H'
def PGMs (X : Cx) (Y : Yx I) (es : List Expr) (ts : List (W → Rho → Option Rho)) : Prop := PGs X es (tMGs X.K Y ts)
theorem pgs_weak {X : Cx} {e : List Expr} {t t' : TGs} (h : PGs X e t) (q : ∀ v σ H Q, t' v σ H Q → t v σ H Q) : PGs X e t' := ⟨fun pins s σ H v u Q I r hq => h.run pins s σ H v u Q I r (q _ _ _ _ hq)⟩
theorem pgms_nil {X : Cx} {Y : Yx I} : PGMs X Y [] [] := pgs_weak pgs_nil fun v σ H Q hq => by
  obtain ⟨F, ρ, ws, ρ', S, r, e, q⟩ := hq
  cases ws with
  | nil => cases e; cases r; exact ⟨rfl, q F H σ S .refl⟩
  | cons w l => cases e
theorem pgms_cons {X : Cx} {Y : Yx I} {e : Expr} {es : List Expr} {t : W → Rho → Option Rho} {ts : List (W → Rho → Option Rho)} (h1 : PGM X Y e t) (h2 : PGMs X Y es ts) (hs : (assignEach (e :: es) X.env).map (·.2) = assign e X.env :: (assignEach es X.env).map (·.2) := by rfl) : PGMs X Y (e :: es) (t :: ts) := pgs_weak (pgs_cons h1 h2 hs) fun v σ H Q hq => by
  obtain ⟨F, ρ, ws, ρ', S, r, e, q⟩ := hq
  cases ws with
  | nil => cases e
  | cons w l =>
    obtain ⟨v, vs, rfl, r1, r2⟩ := r
    obtain ⟨ρ1, e1, e2⟩ := Option.bind_eq_some_iff.mp (show (t w ρ).bind _ = _ from e)
    exact ⟨v, vs, rfl, F, ρ, w, ρ1, S, r1, e1, fun F' H' σ' S' k' => ⟨F', ρ1, l, ρ', S', r2.mono k', e2, fun F2 H2 σ2 S2 k2 => q F2 H2 σ2 S2 (k'.trans k2)⟩⟩
def gTup (ts : List (W → Rho → Option Rho)) (w : W) (ρ : Rho) : Option Rho := match w with
  | .tup l => gTups ts l ρ
  | _ => none
theorem gTups_len : ∀ {ts : List (W → Rho → Option Rho)} {ws : List W} {ρ ρ' : Rho}, gTups ts ws ρ = some ρ' → ws.length = ts.length
  | [], [], _, _, _ => rfl
  | t :: ts, w :: ws, ρ, ρ', h => by
    obtain ⟨ρ1, e1, e2⟩ := Option.bind_eq_some_iff.mp (show (t w ρ).bind _ = _ from h)
    rw [List.length_cons, List.length_cons, gTups_len e2]
  | [], _ :: _, _, _, h => by cases h
  | _ :: _, [], _, _, h => by cases h
theorem pgm_tup {X : Cx} {Y : Yx I} {e : Expr} {n : Nat} {ts : List (W → Rho → Option Rho)} (h : PG X e (L2.gTup X.K n (tMGs X.K Y ts))) (hn : ts.length = n) : PGM X Y e (gTup ts) := pg_weak h fun v σ H Q hq => by
  obtain ⟨F, ρ, w, ρ', S, r, e, q⟩ := hq
  cases w with
  | tup l =>
    obtain ⟨a, vs, rfl, hs, r2⟩ := r
    have e' : gTups ts l ρ = some ρ' := e
    exact ⟨a, vs, rfl, hs.seq, by rw [← r2.len, gTups_len e', hn], F, ρ, l, ρ', S, r2, e', q⟩
  | _ => cases e
/-- x, y = e -/
def mAsgT (I : List Nat) (t : W → Rho → Option Rho) (f : Rho → R (Md × W)) : Rho → R Fl := fun ρ => (f ρ).bind fun b ρ1 => (toVal I b ρ1).bind fun w ρ2 => match t w ρ2 with
  | some ρ3 => .ok .nx ρ3
  | none => .stk
theorem psm_asgT {X : Cx} {Y : Yx I} {st : Stmt} {t : W → Rho → Option Rho} {f : Rho → R (Md × W)} (h : PS X st (tAsg (tM X.K Y f) (tMG X.K Y t))) : PSM X Y st (mAsgT I t f) := ps_weak h fun D σ H hq => by
  obtain ⟨F, ρ, S, q⟩ := hq
  refine ⟨F, ρ, S, (RunS.bindE q).imp fun b ρ1 F1 H1 S1 k1 q1 v hv => ?_⟩
  obtain ⟨F2, w, ρ2, S2, k2, r, q2⟩ := S1.toVal hv (RunS.bindE (σ := σ) q1)
  cases e : t w ρ2 with
  | none => rw [e] at q2; exact q2.elim
  | some ρ3 =>
    rw [e] at q2
    exact ⟨F2, ρ2, w, ρ3, S2, r, e, q2⟩
/-! ### for -/
def forL (tg : W → Rho → Option Rho) (g : Rho → R Fl) : List W → Rho → R Fl
  | [], ρ => .ok .nx ρ
  | w :: ws, ρ => match tg w ρ with
    | some ρ1 => loopF (g ρ1) (forL tg g ws)
    | none => .stk
def mFor (it : Rho → R (List W)) (tg : W → Rho → Option Rho) (g : Rho → R Fl) : Rho → R Fl := fun ρ => (it ρ).bind fun ws ρ1 => forL tg g ws ρ1
theorem drop_get {α : Type} {l : List α} {i : Nat} {x : α} {r : List α} (h : l.drop i = x :: r) : l[i]? = some x ∧ l.drop (i + 1) = r := by
  have h1 : (l.drop i)[0]? = some x := by rw [h]; rfl
  rw [List.getElem?_drop, Nat.add_zero] at h1
  refine ⟨h1, ?_⟩
  rw [← List.drop_drop (i := 1) (j := i), h]
  rfl
theorem for_of {K : PySem.W.Frag} {Y : Yx I} {it : Rho → R (List W)} {tg : W → Rho → Option Rho} {g : Rho → R Fl} {D : Ends} {σ : L2.St} {H : Hp} (hq : tMS K Y (mFor it tg g) D σ H) : tFor (tMI K Y it) (tMG K Y tg) (tMS K Y g) D σ H := by
  obtain ⟨F, ρ, S, q⟩ := hq
  refine ⟨F, ρ, S, (RunS.bindE q).imp fun ws ρ1 F1 H1 S1 k1 q1 J hJ => ?_⟩
  refine ⟨fun i m σ H => ∃ F ρ, SR K Y.B F H σ ρ ∧ m = ws.length - i ∧ Keeps F1 H1 F H ∧ RunS K Y F H (forL tg g (ws.drop i) ρ) D, ⟨_, F1, ρ1, S1, rfl, .refl, q1⟩, ?_⟩
  rintro i m σ H ⟨F, ρ, S, rfl, k, q⟩
  have hi := hJ F H k S.f2 i
  cases e : ws.drop i with
  | nil =>
    rw [e] at q
    exact .inl ⟨hi.2 (List.drop_eq_nil_iff.mp e), q F H σ S .refl⟩
  | cons w r =>
    obtain ⟨ew, er⟩ := drop_get e
    obtain ⟨go, yl⟩ := hi.1 w ew
    have lt := (List.getElem?_eq_some_iff.mp ew).1
    refine .inr ⟨go, fun σ' H' => ∃ F ρ, SR K Y.B F H' σ' ρ ∧ Keeps F1 H1 F H' ∧ RunS K Y F H' (forL tg g (ws.drop (i + 1)) ρ) D, fun σ' H' ⟨F', ρ', S', k', q'⟩ => ⟨ws.length - (i + 1), by omega, F', ρ', S', rfl, k', q'⟩, fun x H'' y => ?_⟩
    obtain ⟨F2, ex, rx⟩ := yl x H'' y
    rw [e] at q
    have q2 : RunS K Y F H (match tg w ρ with
      | some ρ1 => loopF (g ρ1) (forL tg g r)
      | none => .stk) D := q
    cases et : tg w ρ with
    | none => rw [et] at q2; exact q2.elim
    | some ρ3 =>
      rw [et] at q2
      refine ⟨F2, ρ, w, ρ3, S.grow ex, rx, et, fun F3 H3 σ3 S3 k3 => ⟨F3, ρ3, S3, ?_⟩⟩
      have kk : Keeps F H F3 H3 := ex.keeps.trans k3
      have q3 : RunS K Y F3 H3 (loopF (g ρ3) (forL tg g r)) D := RunS.rebase q2 kk
      unfold loopF at q3
      cases eg : g ρ3 with
      | stk => rw [eg] at q3; exact q3.elim
      | exc cc ns us ρ' => rw [eg] at q3; exact q3
      | ok fl ρ4 =>
        rw [eg] at q3
        cases fl with
        | nx => exact fun F' H' σ' S' k' => ⟨F', ρ4, S', (k.trans kk).trans k', by rw [er]; exact RunS.rebase (show RunS K Y F3 H3 (forL tg g r ρ4) D from q3) k'⟩
        | ct => exact fun F' H' σ' S' k' => ⟨F', ρ4, S', (k.trans kk).trans k', by rw [er]; exact RunS.rebase (show RunS K Y F3 H3 (forL tg g r ρ4) D from q3) k'⟩
        | bk => exact q3
        | rt m w => exact q3
theorem psm_for {X : Cx} {Y : Yx I} {tgE iter : Expr} {body : List Stmt} {it : Rho → R (List W)} {tg : W → Rho → Option Rho} {g : Rho → R Fl} {pos : Pos} (hp : PassesOwn (model X.prog X.w) X.A X.env X.xe) (hc : X.calm = true) (hi : PIM X Y tgE iter it) (hg : PGM X Y tgE tg) (hb : PSMs X Y body g)
    (hs : ∀ x, foldedSetIterable iter X.env x = pure x := by intro _; rfl) : PSM X Y (.For tgE iter body [] pos) (mFor it tg g) := ps_weak (ps_for hp hc hi hg hb hs) fun _ _ _ => for_of
/-! ### over a list, a tuple -/
theorem it_list {K : PySem.W.Frag} {F : Fz} {H : Hp} {a : Addr} {ws : List W} {vs : List V} (hs : ∀ F' H', Keeps F H F' H' → SqL K H' a vs) (r : RepL K F H ws vs) : ItR K (Itl K a) F H ws := by
  intro F' H' k t i
  refine ⟨fun w ew => ?_, fun h => ⟨vs, hs F' H' k, by rw [← r.len]; exact h⟩⟩
  obtain ⟨v, ev, rv⟩ := r.get ew
  refine ⟨⟨vs, v, hs F' H' k, ev⟩, ?_⟩
  rintro x H'' ⟨rfl, y⟩
  have e := y vs (hs F' _ k)
  rw [ev] at e
  cases e
  exact ⟨F', .refl t, rv.mono k⟩
theorem it_tup {K : PySem.W.Frag} {F : Fz} {H : Hp} {a : Addr} {ws : List W} {vs : List V} (hs : SqU K H a vs) (r : RepL K F H ws vs) : ItR K (Itt K a) F H ws := by
  intro F' H' k t i
  refine ⟨fun w ew => ?_, fun h => ⟨vs, (k.sqU hs).seq, by rw [← r.len]; exact h⟩⟩
  obtain ⟨v, ev, rv⟩ := r.get ew
  refine ⟨⟨vs, v, (k.sqU hs).seq, ev⟩, ?_⟩
  rintro x H'' ⟨rfl, y⟩
  have e := y vs (k.sqU hs).seq
  rw [ev] at e
  cases e
  exact ⟨F', .refl t, rv.mono k⟩
/-- a list, a tuple, or a text -/
def iSeqM (K : PySem.W.Frag) (tl : TE) : TI := fun σ H R => tl σ H fun x H1 => (∃ y, x = .str y ∧ R (Its y) H1) ∨ ∃ a, x = .ref a ∧ ((∃ vs, SqL K H1 a vs ∧ R (Itl K a) H1) ∨ ∃ vs, SqT K H1 a vs ∧ R (Itt K a) H1)
theorem pi_seqM {X : Cx} {tg l : Expr} {tl : TE} (hl : PE X l tl) : PI X tg l (iSeqM X.K tl) := ⟨fun pins s0 σ H R J0 hq =>
  thn (hl.run pins s0 σ H _ J0 hq) fun u s1 ⟨x, H1, J1, rx, cs⟩ => by
    rcases cs with ⟨y, ey, q⟩ | ⟨a, ea, cs⟩
    · subst ey
      obtain ⟨t, rfl⟩ := rx
      cases ha : y.cps.all (· < 128)
      · exact wpAny_pyIter_wide ha (pi_one (tk := s1.toks) J1 _ (turn_str _ y t "str_iterator" (.inr rfl)) ⟨_, Heap.get?_push_size _ rfl, rfl, rfl⟩ q)
      · exact wpAny_pyIter_ascii ha (pi_one (tk := s1.toks) J1 _ (turn_str _ y t "str_ascii_iterator" (.inl rfl)) ⟨_, Heap.get?_push_size _ rfl, rfl, rfl⟩ q)
    subst ea
    cases rx
    rcases cs with ⟨vs, hv, r⟩ | ⟨vs, hv, r⟩
    · obtain ⟨ys, _, pl, _⟩ := J1.list hv
      exact wpAny_pyIter_list pl.isList (pi_one (tk := s1.toks) J1 _ (turn_list a _) ⟨_, Heap.get?_push_size _ rfl, rfl, rfl⟩ r)
    · obtain ⟨ys, _, pl, _⟩ := J1.tuple hv
      exact wpAny_pyIter_tuple pl (pi_one (tk := s1.toks) J1 _ (turn_tuple a _) ⟨_, Heap.get?_push_size _ rfl, rfl, rfl⟩ r)⟩
def itemsX : W → Option (List W)
  | .str z => some (z.cps.toList.map fun c => .str ⟨#[c]⟩)
  | w => itemsW w
theorem it_str {K : PySem.W.Frag} {F : Fz} {H : Hp} {z : Str} : ItR K (Its z) F H (z.cps.toList.map fun c => .str ⟨#[c]⟩) := by
  intro F' H' k t i
  refine ⟨fun w ew => ?_, fun h => ?_⟩
  · rw [List.getElem?_map, Option.map_eq_some_iff] at ew
    obtain ⟨c, ec, rfl⟩ := ew
    have ec' : z.cps[i]? = some c := by rw [← Array.getElem?_toList]; exact ec
    refine ⟨(Array.getElem?_eq_some_iff.mp ec').1, ?_⟩
    rintro x H'' ⟨rfl, c', e1, rfl⟩
    rw [ec'] at e1
    cases e1
    exact ⟨F', .refl t, rfl⟩
  · rw [List.length_map, Array.length_toList] at h
    exact h
def mItems (I : List Nat) (f : Rho → R (Md × W)) : Rho → R (List W) := fun ρ => (f ρ).bind fun b ρ1 => (toVal I b ρ1).bind fun w ρ2 => lift (itemsX w) ρ2
section
variable {X : Cx} {Y : Yx I} {tg e : Expr} {f : Rho → R (Md × W)}
theorem pim_seq (he : PEM X Y e f) : PIM X Y tg e (mItems I f) := pi_weak (pi_seqM he) fun σ H Q hq => by
  obtain ⟨F, ρ, S, q⟩ := hq
  refine ⟨F, ρ, S, (RunG.bind q).imp fun b ρ1 F1 H1 S1 k1 q1 v hv => ?_⟩
  obtain ⟨F2, w, ρ2, S2, k2, r, q2⟩ := S1.toVal hv (RunG.bind q1)
  obtain ⟨ws, ew, q3⟩ := lift_ok q2
  have q4 := q3 F2 H1 S2 .refl
  cases w with
  | str z =>
    cases ew
    cases r
    exact .inl ⟨z, rfl, q4 _ it_str⟩
  | tup l =>
    cases ew
    obtain ⟨a, vs, rfl, hs, rl⟩ := r
    exact .inr ⟨a, rfl, .inr ⟨vs, hs.seq, q4 _ (it_tup hs rl)⟩⟩
  | lst l =>
    cases ew
    obtain ⟨a, vs, rfl, fa, hs, rl⟩ := r
    exact .inr ⟨a, rfl, .inl ⟨vs, .of hs, q4 _ (it_list (fun F' H' k => .of (k.h a _ hs (.inl fa))) rl)⟩⟩
  | frl l =>
    cases ew
    obtain ⟨a, vs, rfl, hs, rl⟩ := r
    exact .inr ⟨a, rfl, .inl ⟨vs, hs.seq, q4 _ (it_list (fun F' H' k => (k.frl hs).seq) rl)⟩⟩
  | _ => cases ew
end
/-! ### arguments -/
def HeldL (σ : L2.St) (K : PySem.W.Frag) (F : Fz) (H : Hp) : List (Md × W) → List V → Prop
  | [], vs => vs = []
  | b :: bs, vs => ∃ v r, vs = v :: r ∧ Held σ K F H b.1 b.2 v ∧ HeldL σ K F H bs r
theorem Held.mono {σ : L2.St} {K : PySem.W.Frag} {F F' : Fz} {H H' : Hp} (k : Keeps F H F' H') {m : Md} {w : W} {v : V} (h : Held σ K F H m w v) : Held σ K F' H' m w v := by
  cases m with
  | val => exact Rep.mono k w h
  | fre => exact Rep.mono k w h
  | bor i => exact h
theorem HeldL.mono {σ : L2.St} {K : PySem.W.Frag} {F F' : Fz} {H H' : Hp} (k : Keeps F H F' H') : ∀ {bs : List (Md × W)} {vs : List V}, HeldL σ K F H bs vs → HeldL σ K F' H' bs vs
  | [], _, h => h
  | b :: bs, _, ⟨v, r, e, h1, h2⟩ => ⟨v, r, e, h1.mono k, HeldL.mono k h2⟩
def mHold : List (Rho → R (Md × W)) → Rho → R (List (Md × W))
  | [], ρ => .ok [] ρ
  | f :: fs, ρ => (f ρ).bind fun b ρ1 => (mHold fs ρ1).bind fun bs ρ2 => .ok (b :: bs) ρ2
def tMA (K : PySem.W.Frag) (Y : Yx I) (fs : List (Rho → R (Md × W))) : TA := fun σ H Q => ∃ F ρ, SR K Y.B F H σ ρ ∧ RunG K Y F H σ (mHold fs ρ) fun bs ρ' F' H' => ∀ F2 vs, SR K Y.B F2 H' σ ρ' → Keeps F' H' F2 H' → HeldL σ K F2 H' bs vs → Q vs H'
def PAM (X : Cx) (Y : Yx I) (es : List Expr) (fs : List (Rho → R (Md × W))) : Prop := PA X es (tMA X.K Y fs)
theorem pa_weak {X : Cx} {e : List Expr} {t t' : TA} (h : PA X e t) (q : ∀ σ H Q, t' σ H Q → t σ H Q) : PA X e t' := ⟨fun pos pins s σ H Q I hq => h.run pos pins s σ H Q I (q _ _ _ hq)⟩
section
variable {X : Cx} {Y : Yx I} {e : Expr} {es : List Expr} {f : Rho → R (Md × W)} {fs : List (Rho → R (Md × W))}
theorem pam_nil : PAM X Y [] [] := pa_weak pa_nil fun σ H Q hq => by
  obtain ⟨F, ρ, S, q⟩ := hq
  exact q F H S .refl F [] S .refl rfl
theorem pam_cons (h1 : PEM X Y e f) (h2 : PAM X Y es fs) (hs : starEach (e :: es) X.env = (false, eval e X.env) :: starEach es X.env := by rfl) : PAM X Y (e :: es) (f :: fs) := pa_weak (pa_cons h1 h2 hs) fun σ H Q hq => by
  obtain ⟨F, ρ, S, q⟩ := hq
  refine ⟨F, ρ, S, (RunG.bind q).imp fun b ρ1 F1 H1 S1 k1 q1 v hv => ?_⟩
  obtain ⟨F1', S1', k1', hd1⟩ := S1.hold hv
  refine ⟨F1', ρ1, S1', (RunG.bind (q1.rebase k1')).imp fun bs ρ2 F2 H2 S2 k2 q2 F3 vs S3 k3 hvs => ?_⟩
  exact q2 F2 H2 S2 .refl F3 (v :: vs) S3 k3 ⟨v, vs, rfl, hd1.mono (k2.trans k3), hvs⟩
end
/-- all peeked -/
def peekL : List (Md × W) → Rho → Option (List W)
  | [], _ => some []
  | b :: bs, ρ => match peek b.1 b.2 ρ, peekL bs ρ with
    | some w, some ws => some (w :: ws)
    | _, _ => none
def PkL (K : PySem.W.Frag) (F : Fz) (H : Hp) : List W → List V → Prop
  | [], vs => vs = []
  | w :: ws, vs => ∃ v r, vs = v :: r ∧ PkR K F H w v ∧ PkL K F H ws r
theorem SR.peekL {K : PySem.W.Frag} {Y : Yx I} {F : Fz} {H : Hp} {σ : L2.St} {ρ : Rho} (S : SR K Y.B F H σ ρ) : ∀ {bs : List (Md × W)} {ws : List W} {vs : List V}, HeldL σ K F H bs vs → peekL bs ρ = some ws → PkL K F H ws vs
  | [], _, _, h, e => by cases e; exact h
  | b :: bs, ws, _, ⟨v, r, e0, h1, h2⟩, e => by
    unfold ML.peekL at e
    split at e
    · rename_i w us e1 e2
      cases e
      exact ⟨v, r, e0, S.peek h1 .refl e1, SR.peekL S h2 e2⟩
    · cases e
/-- all made values -/
def valsL (I : List Nat) : List (Md × W) → Rho → R (List W)
  | [], ρ => .ok [] ρ
  | b :: bs, ρ => (toVal I b ρ).bind fun w ρ1 => (valsL I bs ρ1).bind fun ws ρ2 => .ok (w :: ws) ρ2
theorem SR.valsL {K : PySem.W.Frag} {Y : Yx I} {H : Hp} {σ : L2.St} : ∀ {bs : List (Md × W)} {vs : List V} {F : Fz} {ρ : Rho} {P : List W → Rho → Fz → Hp → Prop}, SR K Y.B F H σ ρ → HeldL σ K F H bs vs → RunG K Y F H σ (valsL I bs ρ) P →
    ∃ F' ws ρ', SR K Y.B F' H σ ρ' ∧ Keeps F H F' H ∧ RepL K F' H ws vs ∧ P ws ρ' F' H
  | [], _, F, ρ, _, S, h, q => ⟨F, [], ρ, S, .refl, h, q F H S .refl⟩
  | b :: bs, _, F, ρ, P, S, ⟨v, r, e0, h1, h2⟩, q => by
    obtain ⟨F1, w, ρ1, S1, k1, r1, q1⟩ := S.toValH h1 .refl (RunG.bind q)
    obtain ⟨F2, ws, ρ2, S2, k2, r2, q2⟩ := SR.valsL S1 (h2.mono k1) (RunG.bind q1)
    exact ⟨F2, w :: ws, ρ2, S2, k1.trans k2, ⟨v, r, e0, r1.mono k2, r2⟩, q2 F2 H S2 .refl⟩
/-! ### displays -/
def mTup (I : List Nat) (fs : List (Rho → R (Md × W))) : Rho → R (Md × W) := fun ρ => (mHold fs ρ).bind fun bs ρ1 => (valsL I bs ρ1).bind fun ws ρ2 => if ws.length ≤ sizeLine then .ok (.val, .tup ws) ρ2 else .stk
def mLst (I : List Nat) (fs : List (Rho → R (Md × W))) : Rho → R (Md × W) := fun ρ => (mHold fs ρ).bind fun bs ρ1 => (valsL I bs ρ1).bind fun ws ρ2 => if ws.length ≤ sizeLine then .ok (.fre, .lst ws) ρ2 else .stk
section
variable {X : Cx} {Y : Yx I} {es : List Expr} {fs : List (Rho → R (Md × W))} {pos : Pos}
theorem pem_tup {x1} (h : PAM X Y es fs) : PEM X Y (.Tuple es x1 pos) (mTup I fs) := pe_weak (pe_tup h) fun σ H Q hq => by
  obtain ⟨F, ρ, S, q⟩ := hq
  refine ⟨F, ρ, S, (RunG.bind q).imp fun bs ρ1 F1 H1 S1 k1 q1 F2 vs S2 k2 hvs => ?_⟩
  obtain ⟨F3, ws, ρ3, S3, k3, r, q3⟩ := S2.valsL hvs ((RunG.bind q1).rebase k2)
  split at q3
  · rename_i l
    refine ⟨by rw [← r.len]; exact l, fun p hp => ?_⟩
    exact new_tup (Q := Q) S3.f2 r (fun F' H' v e n => q3 F' H' (S3.grow e) e.keeps v (S3.newR e n)) hp
  · exact q3.elim
theorem pem_lst (h : PAM X Y es fs) : PEM X Y (.List es pos) (mLst I fs) := pe_weak (pe_lst h) fun σ H Q hq => by
  obtain ⟨F, ρ, S, q⟩ := hq
  refine ⟨F, ρ, S, (RunG.bind q).imp fun bs ρ1 F1 H1 S1 k1 q1 F2 vs S2 k2 hvs => ?_⟩
  obtain ⟨F3, ws, ρ3, S3, k3, r, q3⟩ := S2.valsL hvs ((RunG.bind q1).rebase k2)
  split at q3
  · rename_i l
    refine ⟨by rw [← r.len]; exact l, fun p hp => ?_⟩
    exact new_lst (Q := Q) S3.f2 r (fun F' H' v e n => q3 F' H' (S3.grow e) e.keeps v (S3.newR e n)) hp
  · exact q3.elim
end
/-! ### built-ins by values -/
abbrev GC := List W → Option (Md × W)
def CallW (K : PySem.W.Frag) (r : List V → Hp → VK → Prop) (g : GC) : Prop := ∀ xs m z, g xs = some (m, z) → ∀ (F : Fz) (H : Hp) (vs : List V) (Q : VK), Tight F H → PkL K F H xs vs → (∀ F' H' v, Ext [] F H F' H' → NewR K H F' H' m z v → Q v H') → r vs H Q
def mCB (g : GC) (fs : List (Rho → R (Md × W))) : Rho → R (Md × W) := fun ρ => (mHold fs ρ).bind fun bs ρ1 => match peekL bs ρ1 with
  | some ws => lift (g ws) ρ1
  | none => .stk
theorem tCB_of {K : PySem.W.Frag} {Y : Yx I} {r : List V → Hp → VK → Prop} {g : GC} {fs : List (Rho → R (Md × W))} {σ : L2.St} {H : Hp} {Q : VK} (hg : CallW K r g) (hq : tM K Y (mCB g fs) σ H Q) : tCB r (tMA K Y fs) σ H Q := by
  obtain ⟨F, ρ, S, q⟩ := hq
  refine ⟨F, ρ, S, (RunG.bind q).imp fun bs ρ1 F1 H1 S1 k1 q1 F2 vs S2 k2 hvs => ?_⟩
  have q2 := q1.rebase k2
  cases e : peekL bs ρ1 with
  | none => rw [e] at q2; exact q2.elim
  | some ws =>
    rw [e] at q2
    obtain ⟨⟨m, z⟩, ez, qz⟩ := lift_ok q2
    exact hg ws m z ez F2 H1 vs Q S2.f2 (S2.peekL hvs e) fun F' H' v ee hn => qz F' H' (S2.grow ee) ee.keeps v (S2.newR ee hn)
end ML

set_option maxHeartbeats 4000000
namespace ML
open PySem PySem.Spec PyProof.Rows L2
variable {I : List Nat}
/-! ### what a def promises: its mirror; J: the parameters whose lists the caller lends -/
inductive FR where
  | ok (fr : Bool) (w : W) (outs : List W)
  | exc (c : Str) (ns : List Str) (ws : List W) (outs : List W)
  | stk
def ArgsOk (K : PySem.W.Frag) (F : Fz) (H : Hp) (J : List Nat) : Nat → List W → List V → Prop
  | _, [], vs => vs = []
  | k, w :: ws, vs => ∃ v r, vs = v :: r ∧ (if k ∈ J then ∃ a, v = .ref a ∧ OwnR K F H w a ∧ ¬ F a else Rep K F H w v) ∧ ArgsOk K F H J (k + 1) ws r
def lentA (J : List Nat) (vs : List V) : List (Nat × Addr) := J.filterMap fun (i : Nat) => match vs[i]? with
  | some (V.ref a) => some (i, a)
  | _ => none
def LentOk (J : List Nat) (vs : List V) : Prop := (lentA J vs).map (·.1) = J ∧ ∀ (p : Nat × Addr), p ∈ lentA J vs → ∀ (q : Nat × Addr), q ∈ lentA J vs → p.2 = q.2 → p.1 = q.1
def OutsOk (K : PySem.W.Frag) (F : Fz) (H : Hp) (l : List (Nat × Addr)) (outs : List W) : Prop := outs.length = l.length ∧ ∀ (n : Nat) (p : Nat × Addr) (w : W), l[n]? = some p → outs[n]? = some w → OwnR K F H w p.2 ∧ ¬ F p.2
def spM (K : PySem.W.Frag) (ct : Str → Addr) (J : List Nat) (np : Nat) (fm : List W → FR) : Sp := fun vs H Q E => ∃ F args, vs.length = np ∧ Tight F H ∧ ArgsOk K F H J 0 args vs ∧
  LentOk J vs ∧ match fm args with
  | .ok fr w outs => ∀ F' H' v, Ext ((lentA J vs).map (·.2)) F H F' H' → OutsOk K F' H' (lentA J vs) outs → NewR K H F' H' (if fr then .fre else .val) w v → Q v H'
  | .exc c ns ws outs => ∀ F' H' d, Ext ((lentA J vs).map (·.2)) F H F' H' → OutsOk K F' H' (lentA J vs) outs → ExF K F' H' ns ws d → E (.ref (ct c)) d H'
  | .stk => False
theorem ArgsOk.len {K : PySem.W.Frag} {F : Fz} {H : Hp} {J : List Nat} : ∀ {k : Nat} {ws : List W} {vs : List V}, ArgsOk K F H J k ws vs → ws.length = vs.length
  | _, [], _, h => by cases h; rfl
  | k, w :: ws, _, ⟨v, r, e, _, h⟩ => by rw [e, List.length_cons, List.length_cons, ArgsOk.len h]
theorem ArgsOk.get {K : PySem.W.Frag} {F : Fz} {H : Hp} {J : List Nat} : ∀ {k : Nat} {ws : List W} {vs : List V} {i : Nat} {w : W}, ArgsOk K F H J k ws vs → ws[i]? = some w → ∃ v, vs[i]? = some v ∧ (if k + i ∈ J then ∃ a, v = .ref a ∧ OwnR K F H w a ∧ ¬ F a else Rep K F H w v)
  | _, [], _, _, _, _, e => by simp at e
  | k, w :: ws, _, 0, u, ⟨v, r, e0, h1, _⟩, e => by
    have e1 : w = u := Option.some.inj e
    subst e1
    exact ⟨v, by rw [e0]; rfl, h1⟩
  | k, w :: ws, _, i + 1, u, ⟨v, r, e0, _, h2⟩, e => by
    obtain ⟨x, ex, hx⟩ := ArgsOk.get (k := k + 1) (ws := ws) (vs := r) (i := i) (w := u) h2 e
    refine ⟨x, by rw [e0]; exact ex, ?_⟩
    rw [show k + (i + 1) = k + 1 + i by omega]
    exact hx
/-! ### the frame at the entry -/
def rhoA (J : List Nat) : Nat → List W → Rho
  | _, [] => []
  | k, w :: ws => (if k ∈ J then .own w else .val w) :: rhoA J (k + 1) ws
def rho0 (J : List Nat) (args : List W) (n : Nat) : Rho := rhoA J 0 args ++ List.replicate (n - args.length) .no
theorem rhoA_len {J : List Nat} : ∀ {k : Nat} {ws : List W}, (rhoA J k ws).length = ws.length
  | _, [] => rfl
  | k, w :: ws => by
    show (rhoA J (k + 1) ws).length + 1 = ws.length + 1
    rw [rhoA_len]
theorem rhoA_get {J : List Nat} : ∀ {k : Nat} {ws : List W} {i : Nat} {s : Sl}, (rhoA J k ws)[i]? = some s → ∃ w, ws[i]? = some w ∧ s = if k + i ∈ J then .own w else .val w
  | _, [], _, _, e => by simp [rhoA] at e
  | k, w :: ws, 0, s, e => ⟨w, rfl, (Option.some.inj e).symm⟩
  | k, w :: ws, i + 1, s, e => by
    obtain ⟨u, eu, es⟩ := rhoA_get (J := J) (k := k + 1) (ws := ws) (i := i) (s := s) e
    refine ⟨u, eu, ?_⟩
    rw [show k + (i + 1) = k + 1 + i by omega]
    exact es
theorem rho0_get {J : List Nat} {args : List W} {n i : Nat} {s : Sl} (h : (rho0 J args n)[i]? = some s) : s = .no ∨ ∃ w, args[i]? = some w ∧ s = if i ∈ J then .own w else .val w := by
  unfold rho0 at h
  by_cases hi : i < args.length
  · rw [List.getElem?_append_left (by rw [rhoA_len]; exact hi)] at h
    obtain ⟨w, ew, es⟩ := rhoA_get h
    right
    rw [Nat.zero_add] at es
    exact ⟨w, ew, es⟩
  · rw [List.getElem?_append_right (by rw [rhoA_len]; omega), List.getElem?_replicate] at h
    split at h
    · left; exact (Option.some.inj h).symm
    · cases h
theorem start_get {N : List Str} {vs : List V} {i : Nat} {v : V} (h : vs[i]? = some v) : (L2.start N vs)[i]? = some (some v) := by
  unfold L2.start
  have hi := (List.getElem?_eq_some_iff.mp h).1
  rw [List.getElem?_append_left (by rw [List.length_map]; exact hi), List.getElem?_map, h]
  rfl
theorem lentA_mem {J : List Nat} {vs : List V} {p : Nat × Addr} (h : p ∈ lentA J vs) : p.1 ∈ J ∧ vs[p.1]? = some (.ref p.2) := by
  unfold lentA at h
  obtain ⟨i, hi, e⟩ := List.mem_filterMap.mp h
  split at e
  · rename_i a q
    cases e
    exact ⟨hi, q⟩
  · cases e
theorem lentA_of {J : List Nat} {vs : List V} {i : Nat} {a : Addr} (hi : i ∈ J) (h : vs[i]? = some (.ref a)) : (i, a) ∈ lentA J vs := by
  unfold lentA
  exact List.mem_filterMap.mpr ⟨i, hi, by rw [h]⟩
theorem sr_start {K : PySem.W.Frag} {F : Fz} {H : Hp} {J : List Nat} {N : List Str} {args : List W} {vs : List V} (t : Tight F H) (h : ArgsOk K F H J 0 args vs)
    (hJ : (lentA J vs).map (·.1) = J) (hs : ∀ p ∈ lentA J vs, ∀ q ∈ lentA J vs, p.2 = q.2 → p.1 = q.1) (hn : vs.length ≤ N.length) : SR K { H0 := H, F0 := F, I := lentA J vs } F H (L2.start N vs) (rho0 J args N.length) := by
  have hl := h.len
  have arg : ∀ {i : Nat} {w : W}, (rho0 J args N.length)[i]? = some (.own w) → i ∈ J ∧ args[i]? = some w := fun {i w} e => by
    rcases rho0_get e with z | ⟨u, eu, z⟩
    · cases z
    · split at z
      · rename_i q; cases z; exact ⟨q, eu⟩
      · cases z
  have own : ∀ {i : Nat} {w : W}, i ∈ J → args[i]? = some w → ∃ a, vs[i]? = some (.ref a) ∧ OwnR K F H w a ∧ ¬ F a := fun {i w} hi e => by
    obtain ⟨v, ev, q⟩ := h.get e
    rw [if_pos (by rw [Nat.zero_add]; exact hi)] at q
    obtain ⟨a, ea, q⟩ := q
    exact ⟨a, by rw [ev, ea], q⟩
  refine ⟨?_, fun i s e => ?_, fun i j w w' a h1 h2 e1 e2 => ?_, fun p hp => ?_, fun _ _ _ e => e, fun _ e => e, fun _ e => e, fun _ e => .inl e, t⟩
  · unfold L2.start rho0
    rw [List.length_append, List.length_append, List.length_map, List.length_replicate, List.length_replicate, rhoA_len, hl]
  · rcases rho0_get e with z | ⟨u, eu, z⟩
    · rw [z]; trivial
    · obtain ⟨v, ev, q⟩ := h.get eu
      rw [Nat.zero_add] at q
      split at z
      · rename_i hi
        obtain ⟨a, ea, o, nf⟩ := own hi eu
        rw [z]
        exact ⟨a, start_get ea, o, nf, fun k => k.2 _ (lentA_of hi ea) rfl⟩
      · rename_i hi
        rw [if_neg hi] at q
        rw [z]
        exact ⟨v, start_get ev, q⟩
  · obtain ⟨hi, ei⟩ := arg h1
    obtain ⟨hj, ej⟩ := arg h2
    obtain ⟨b, eb, _⟩ := own hi ei
    obtain ⟨c, ec, _⟩ := own hj ej
    rw [start_get eb] at e1
    rw [start_get ec] at e2
    cases e1
    cases e2
    exact hs _ (lentA_of hi eb) _ (lentA_of hj ec) rfl
  · obtain ⟨hp1, hp2⟩ := lentA_mem hp
    refine ⟨start_get hp2, ?_⟩
    have hi : p.1 < args.length := by rw [hl]; exact (List.getElem?_eq_some_iff.mp hp2).1
    refine ⟨args[p.1], ?_⟩
    have g : ∀ (k : Nat) (ws : List W) (i : Nat) (w : W), ws[i]? = some w → (rhoA J k ws)[i]? = some (if k + i ∈ J then .own w else .val w) := by
      intro k ws
      induction ws generalizing k with
      | nil => intro i w e; simp at e
      | cons x ws ih =>
        intro i w e
        cases i with
        | zero =>
          have e1 : x = w := Option.some.inj e
          subst e1
          rfl
        | succ i =>
          have := ih (k + 1) i w e
          rw [show k + (i + 1) = k + 1 + i by omega]
          exact this
    unfold rho0
    rw [List.getElem?_append_left (by rw [rhoA_len]; exact hi), g 0 args p.1 _ (List.getElem?_eq_getElem hi), if_pos (by rw [Nat.zero_add]; exact hp1)]
/-! ### the def's mirror by its body's -/
def ownAt (ρ : Rho) (i : Nat) : Option W := match ρ[i]? with
  | some (.own w) => some w
  | _ => none
def outsOf : List Nat → Rho → Option (List W)
  | [], _ => some []
  | i :: is, ρ => match ownAt ρ i, outsOf is ρ with
    | some w, some ws => some (w :: ws)
    | _, _ => none
def finF (J : List Nat) (r : R Fl) : FR := match r with
  | .ok .nx ρ => (match outsOf J ρ with
    | some outs => .ok false .non outs
    | none => .stk)
  | .ok (.rt m w) ρ => (match m, outsOf J ρ with
    | .val, some outs => .ok false w outs
    | .fre, some outs => .ok true w outs
    | _, _ => .stk)
  | .exc c ns ws ρ => (match outsOf J ρ with
    | some outs => .exc c ns ws outs
    | none => .stk)
  | _ => .stk
def mFun (J : List Nat) (n : Nat) (g : Rho → R Fl) : List W → FR := fun args => finF J (g (rho0 J args n))
theorem ownAt_get {ρ : Rho} {i : Nat} {w : W} (h : ownAt ρ i = some w) : ρ[i]? = some (.own w) := by
  unfold ownAt at h
  split at h
  · cases h; assumption
  · cases h
theorem outs_ok {K : PySem.W.Frag} {B : Bd} {F : Fz} {H : Hp} {σ : L2.St} {ρ : Rho} (S : SR K B F H σ ρ) : ∀ {l : List (Nat × Addr)} {outs : List W}, (∀ p ∈ l, p ∈ B.I) → outsOf (l.map (·.1)) ρ = some outs → OutsOk K F H l outs
  | [], outs, _, e => by
    cases e
    exact ⟨rfl, fun n p w e => by simp at e⟩
  | p :: l, outs, hm, e => by
    have e1 : (match ownAt ρ p.1, outsOf (l.map (·.1)) ρ with
      | some w, some ws => some (w :: ws)
      | _, _ => none) = some outs := e
    split at e1
    · rename_i w ws ew ews
      cases e1
      obtain ⟨h1, h2⟩ := outs_ok S (fun q hq => hm q (List.mem_cons_of_mem _ hq)) ews
      refine ⟨by rw [List.length_cons, List.length_cons, h1], fun n q u eq eu => ?_⟩
      cases n with
      | zero =>
        cases eq
        cases eu
        have g := ownAt_get ew
        obtain ⟨a, ea, o, nf, _⟩ := S.slot _ _ g
        obtain ⟨la, _⟩ := S.lent p (hm p List.mem_cons_self)
        rw [la] at ea
        cases ea
        exact ⟨o, nf⟩
      | succ n => exact h2 n q u eq eu
    · cases e1
theorem fin_of {K : PySem.W.Frag} {ct : Str → Addr} {J : List Nat} {F : Fz} {H : Hp} {vs : List V} {Q : VK} {E : XK} {r : R Fl} {Y : Yx J} (hY : Y.B = { H0 := H, F0 := F, I := lentA J vs }) (hct : Y.ct = ct) (hwx : Y.wx = fun cls d _ H => E cls d H) (hJ : (lentA J vs).map (·.1) = J)
    (h : match finF J r with
      | .ok fr w outs => ∀ F' H' v, Ext ((lentA J vs).map (·.2)) F H F' H' → OutsOk K F' H' (lentA J vs) outs → NewR K H F' H' (if fr then .fre else .val) w v → Q v H'
      | .exc c ns ws outs => ∀ F' H' d, Ext ((lentA J vs).map (·.2)) F H F' H' → OutsOk K F' H' (lentA J vs) outs → ExF K F' H' ns ws d → E (.ref (ct c)) d H'
      | .stk => False) : RunS K Y F H r { nx := fun _ H' => Q .non H', rt := Q } := by
  have ext : ∀ {F' H' σ' ρ'}, SR K Y.B F' H' σ' ρ' → Ext ((lentA J vs).map (·.2)) F H F' H' := fun {F' H' σ' ρ'} S => by
    rw [hY] at S
    exact ⟨fun a o n e => S.ext a o ⟨by show H a ≠ none; rw [e]; exact (fun z => nomatch z), fun p hp z => n (List.mem_map.mpr ⟨p, hp, z⟩)⟩ e, S.f0, S.f1, S.f2⟩
  have out : ∀ {F' H' σ' ρ' outs}, SR K Y.B F' H' σ' ρ' → outsOf J ρ' = some outs → OutsOk K F' H' (lentA J vs) outs := fun {F' H' σ' ρ' outs} S e => by
    rw [← hJ] at e
    exact outs_ok S (fun p hp => by rw [hY]; exact hp) e
  cases r with
  | stk => exact h
  | exc c ns ws ρ =>
    unfold finF at h
    intro F' H' σ' d S x
    rw [hwx, hct]
    dsimp only at h
    cases e : outsOf J ρ with
    | none => rw [e] at h; exact h.elim
    | some outs => rw [e] at h; exact h F' H' d (ext S) (out S e) x
  | ok fl ρ =>
    unfold finF at h
    cases fl with
    | nx =>
      intro F' H' σ' S k
      dsimp only at h
      cases e : outsOf J ρ with
      | none => rw [e] at h; exact h.elim
      | some outs => rw [e] at h; exact h F' H' .non (ext S) (out S e) rfl
    | bk => exact h.elim
    | ct => exact h.elim
    | rt m w =>
      intro F' H' σ' v S hv
      dsimp only at h
      cases e : outsOf J ρ with
      | none => rw [e] at h; cases m <;> exact h.elim
      | some outs =>
        rw [e] at h
        cases m with
        | bor i => exact h.elim
        | val => exact h F' H' v (ext S) (out S e) hv
        | fre =>
          refine h F' H' v (ext S) (out S e) ?_
          obtain ⟨a, ea, o, nf, h0, _⟩ := hv
          rw [hY] at h0
          exact ⟨a, ea, o, nf, h0⟩
/-- THE RULE: a def's mirror by its body's -/
theorem fn_ok {P : Program} {w : World} {K : PySem.W.Frag} {mg : Str → Option Value} {base : Heap} {x qual : Str} {params : Arguments} {body : List Stmt} {scope : Scope} {dvs : List V} {kws : List (Str × V)} {f : Addr} {fd : FuncData} {N ps : List Str} {k : Nat} {ct : Str → Addr} {J : List Nat} {g : Rho → R Fl} {fm : List W → FR}
    (F : FunD K x qual params body scope dvs kws f fd) (S : FnScope N ps scope) (hn : ps.length ≤ N.length) (hg : ∀ args, args.length = ps.length → finF J (g (rho0 J args N.length)) = fm args)
    (hb : ∀ (cdv : Value) (A : Around) (outer : List Env) (s : Shared) (H : Hp) (E : XK) (Y : Yx J), Room k (A.deeper (envOfC qual scope s.heap.objs.size f cdv)) → Y.ct = ct → Takes (cxOf (L2.CX P w) P w K mg base N qual scope f cdv A outer s H E) Y.wx →
      PSMs (cxOf (L2.CX P w) P w K mg base N qual scope f cdv A outer s H E) Y body g) : FnOk P w K mg base (L2.CX P w) (k + 1) f fd ps (spM K ct J ps.length fm) := by
  refine F.ok S (fun vs H Q E ⟨_, _, h, _⟩ => h) fun cdv A outer s H vs Q E hr ⟨F0, args, hl, t, ha, ⟨hJ, hs⟩, hq⟩ => ?_
  refine ⟨_, hb cdv A outer s H E ⟨ct, { H0 := H, F0 := F0, I := lentA J vs }, fun cls d _ H => E cls d H, hJ⟩ hr rfl (takes_of rfl rfl rfl rfl), F0, rho0 J args N.length, sr_start t ha hJ hs (by rw [hl]; exact hn), ?_⟩
  refine fin_of (vs := vs) rfl rfl rfl hJ ?_
  rw [hg args (by rw [ha.len, hl])]
  exact hq
end ML

set_option maxHeartbeats 4000000
namespace ML
open PySem PySem.Spec PyProof.Rows L2
variable {I : List Nat}
/-! ### a call of a def by its mirror -/
/-- the arguments: values, but the slots of the lent lists -/
def callA (I J : List Nat) : Nat → List (Md × W) → Rho → R (List (W ⊕ Nat))
  | _, [], ρ => .ok [] ρ
  | k, b :: bs, ρ => if k ∈ J then (match b.1 with
      | .bor i => (callA I J (k + 1) bs ρ).bind fun xs ρ1 => .ok (.inr i :: xs) ρ1
      | _ => .stk)
    else (toVal I b ρ).bind fun w ρ1 => (callA I J (k + 1) bs ρ1).bind fun xs ρ2 => .ok (.inl w :: xs) ρ2
def slotsX : List (W ⊕ Nat) → List Nat
  | [] => []
  | .inl _ :: xs => slotsX xs
  | .inr i :: xs => i :: slotsX xs
def posX : Nat → List (W ⊕ Nat) → List Nat
  | _, [] => []
  | k, .inl _ :: xs => posX (k + 1) xs
  | k, .inr _ :: xs => k :: posX (k + 1) xs
def resX (ρ : Rho) : List (W ⊕ Nat) → Option (List W)
  | [] => some []
  | .inl w :: xs => (resX ρ xs).map (w :: ·)
  | .inr i :: xs => match ownAt ρ i, resX ρ xs with
    | some w, some ws => some (w :: ws)
    | _, _ => none
def putOuts : List Nat → List W → Rho → Rho
  | i :: is, w :: ws, ρ => putOuts is ws (ρ.set i (.own w))
  | _, _, ρ => ρ
def mCall (I J : List Nat) (fm : List W → FR) (fs : List (Rho → R (Md × W))) : Rho → R (Md × W) := fun ρ => (mHold fs ρ).bind fun bs ρ1 => (callA I J 0 bs ρ1).bind fun xs ρ2 =>
  if (slotsX xs).Nodup ∧ posX 0 xs = J then (match resX ρ2 xs with
    | some args => (match fm args with
      | .ok fr w outs => .ok (if fr then .fre else .val, w) (putOuts (slotsX xs) outs ρ2)
      | .exc c ns ws outs => .exc c ns ws (putOuts (slotsX xs) outs ρ2)
      | .stk => .stk)
    | none => .stk)
  else .stk
def XRel (K : PySem.W.Frag) (F : Fz) (H : Hp) (σ : L2.St) : List (W ⊕ Nat) → List V → Prop
  | [], vs => vs = []
  | .inl w :: xs, vs => ∃ v r, vs = v :: r ∧ Rep K F H w v ∧ XRel K F H σ xs r
  | .inr i :: xs, vs => ∃ v r, vs = v :: r ∧ σ[i]? = some (some v) ∧ XRel K F H σ xs r
theorem XRel.mono {K : PySem.W.Frag} {F F' : Fz} {H H' : Hp} {σ : L2.St} (k : Keeps F H F' H') : ∀ {xs : List (W ⊕ Nat)} {vs : List V}, XRel K F H σ xs vs → XRel K F' H' σ xs vs
  | [], _, h => h
  | .inl w :: xs, _, ⟨v, r, e, h1, h2⟩ => ⟨v, r, e, h1.mono k, XRel.mono k h2⟩
  | .inr i :: xs, _, ⟨v, r, e, h1, h2⟩ => ⟨v, r, e, h1, XRel.mono k h2⟩
theorem callA_ok {K : PySem.W.Frag} {Y : Yx I} {J : List Nat} {H : Hp} {σ : L2.St} : ∀ {bs : List (Md × W)} {k : Nat} {vs : List V} {F : Fz} {ρ : Rho} {P : List (W ⊕ Nat) → Rho → Fz → Hp → Prop}, SR K Y.B F H σ ρ → HeldL σ K F H bs vs → RunG K Y F H σ (callA I J k bs ρ) P →
    ∃ F' xs ρ', SR K Y.B F' H σ ρ' ∧ Keeps F H F' H ∧ XRel K F' H σ xs vs ∧ P xs ρ' F' H
  | [], k, _, F, ρ, _, S, h, q => ⟨F, [], ρ, S, .refl, h, q F H S .refl⟩
  | b :: bs, k, _, F, ρ, P, S, ⟨v, r, e0, h1, h2⟩, q => by
    unfold callA at q
    split at q
    · obtain ⟨m, w⟩ := b
      cases m with
      | val => exact q.elim
      | fre => exact q.elim
      | bor i =>
        obtain ⟨F2, xs, ρ2, S2, k2, r2, q2⟩ := callA_ok S h2 (RunG.bind q)
        exact ⟨F2, .inr i :: xs, ρ2, S2, k2, ⟨v, r, e0, h1, r2⟩, q2 F2 H S2 .refl⟩
    · obtain ⟨F1, w, ρ1, S1, k1, r1, q1⟩ := S.toValH h1 .refl (RunG.bind q)
      obtain ⟨F2, xs, ρ2, S2, k2, r2, q2⟩ := callA_ok S1 (h2.mono k1) (RunG.bind q1)
      exact ⟨F2, .inl w :: xs, ρ2, S2, k1.trans k2, ⟨v, r, e0, r1.mono k2, r2⟩, q2 F2 H S2 .refl⟩
/-- what is lent: position, slot, address -/
def lentX : Nat → List (W ⊕ Nat) → List V → List (Nat × Nat × Addr)
  | k, .inl _ :: xs, _ :: vs => lentX (k + 1) xs vs
  | k, .inr i :: xs, .ref a :: vs => (k, i, a) :: lentX (k + 1) xs vs
  | k, .inr _ :: xs, _ :: vs => lentX (k + 1) xs vs
  | _, _, _ => []
section
variable {K : PySem.W.Frag} {Y : Yx I} {B : Bd} {F F' : Fz} {H H' : Hp} {σ : L2.St} {ρ : Rho} {J : List Nat}
theorem x_args (S : SR K B F H σ ρ) : ∀ {xs : List (W ⊕ Nat)} {k : Nat} {vs : List V} {args : List W}, XRel K F H σ xs vs → resX ρ xs = some args → (∀ j, j ∈ J → k ≤ j → j ∈ posX k xs) → (∀ j, j ∈ posX k xs → j ∈ J) → ArgsOk K F H J k args vs
  | [], k, _, _, h, e, _, _ => by cases e; exact h
  | .inl w :: xs, k, _, args, ⟨v, r, e0, h1, h2⟩, e, hj, hj2 => by
    obtain ⟨ws, ews, rfl⟩ := Option.map_eq_some_iff.mp (show (resX ρ xs).map _ = some args from e)
    have lt : ∀ {xs : List (W ⊕ Nat)} {k j : Nat}, j ∈ posX k xs → k ≤ j := fun {xs} => by
      induction xs with
      | nil => intro k j h; cases h
      | cons x xs ih =>
        intro k j h
        cases x with
        | inl w => exact Nat.le_of_succ_le (ih (k := k + 1) h)
        | inr i =>
          cases h with
          | head => exact Nat.le_refl _
          | tail _ h => exact Nat.le_of_succ_le (ih (k := k + 1) h)
    have nk : k ∉ J := fun hk => absurd (lt (k := k + 1) (show k ∈ posX (k + 1) xs from hj k hk (Nat.le_refl _))) (by omega)
    exact ⟨v, r, e0, by rw [if_neg nk]; exact h1, x_args S h2 ews (fun j hjj l => hj j hjj (by omega)) hj2⟩
  | .inr i :: xs, k, _, args, ⟨v, r, e0, h1, h2⟩, e, hj, hj2 => by
    have e1 : (match ownAt ρ i, resX ρ xs with
      | some w, some ws => some (w :: ws)
      | _, _ => none) = some args := e
    split at e1
    · rename_i w ws ew ews
      cases e1
      obtain ⟨a, ea, o, nf, _⟩ := S.slot _ _ (ownAt_get ew)
      rw [h1] at ea
      cases ea
      refine ⟨_, r, e0, ?_, x_args S h2 ews (fun j hjj l => ?_) fun j h => hj2 j (List.mem_cons_of_mem _ h)⟩
      · rw [if_pos (hj2 k List.mem_cons_self)]
        exact ⟨a, rfl, o, nf⟩
      · have := hj j hjj (by omega)
        cases this with
        | head => omega
        | tail _ h => exact h
    · cases e1
/-- all that the lent ones are -/
theorem x_lent (S : SR K B F H σ ρ) : ∀ {xs : List (W ⊕ Nat)} {k : Nat} {vs : List V} {args : List W}, XRel K F H σ xs vs → resX ρ xs = some args →
    (lentX k xs vs).map (·.1) = posX k xs ∧ (lentX k xs vs).map (·.2.1) = slotsX xs ∧ ∀ (t : Nat × Nat × Addr), t ∈ lentX k xs vs → k ≤ t.1 ∧ vs[t.1 - k]? = some (.ref t.2.2) ∧ σ[t.2.1]? = some (some (.ref t.2.2)) ∧ ∃ w, ρ[t.2.1]? = some (.own w)
  | [], k, vs, _, h, _ => by
    have e : vs = [] := h
    subst e
    exact ⟨rfl, rfl, fun t ht => by cases ht⟩
  | .inl w :: xs, k, _, args, ⟨v, r, e0, h1, h2⟩, e => by
    subst e0
    obtain ⟨ws, ews, rfl⟩ := Option.map_eq_some_iff.mp (show (resX ρ xs).map _ = some args from e)
    obtain ⟨g1, g2, g3⟩ := x_lent S (k := k + 1) h2 ews
    refine ⟨g1, g2, fun t ht => ?_⟩
    obtain ⟨l, e1, e2⟩ := g3 t ht
    refine ⟨by omega, ?_, e2⟩
    rw [show t.1 - k = (t.1 - (k + 1)) + 1 by omega, List.getElem?_cons_succ]
    exact e1
  | .inr i :: xs, k, _, args, ⟨v, r, e0, h1, h2⟩, e => by
    subst e0
    have e1 : (match ownAt ρ i, resX ρ xs with
      | some w, some ws => some (w :: ws)
      | _, _ => none) = some args := e
    split at e1
    · rename_i w ws ew ews
      cases e1
      obtain ⟨a, ea, o, nf, _⟩ := S.slot _ _ (ownAt_get ew)
      rw [h1] at ea
      cases ea
      obtain ⟨g1, g2, g3⟩ := x_lent S (k := k + 1) h2 ews
      refine ⟨by show k :: _ = k :: _; rw [g1], by show i :: _ = i :: _; rw [g2], fun t ht => ?_⟩
      cases ht with
      | head => exact ⟨Nat.le_refl _, by rw [Nat.sub_self]; rfl, h1, w, ownAt_get ew⟩
      | tail _ ht =>
        obtain ⟨l, e1, e2⟩ := g3 t ht
        refine ⟨by omega, ?_, e2⟩
        rw [show t.1 - k = (t.1 - (k + 1)) + 1 by omega, List.getElem?_cons_succ]
        exact e1
    · cases e1
theorem lentA_eq : ∀ {l : List (Nat × Nat × Addr)} {vs : List V}, (∀ (t : Nat × Nat × Addr), t ∈ l → vs[t.1]? = some (V.ref t.2.2)) → lentA (l.map (·.1)) vs = l.map fun t => (t.1, t.2.2)
  | [], _, _ => rfl
  | t :: l, vs, h => by
    have e := h t List.mem_cons_self
    have ih := lentA_eq (l := l) (vs := vs) fun u hu => h u (List.mem_cons_of_mem _ hu)
    unfold lentA at ih ⊢
    rw [List.map_cons, List.filterMap_cons, e, List.map_cons, ih]
/-- the slots behind the call -/
theorem putOuts_get : ∀ {is : List Nat} {ws : List W} {ρ : Rho}, is.Nodup → ws.length = is.length → (∀ i ∈ is, i < ρ.length) → (putOuts is ws ρ).length = ρ.length ∧ ∀ (j : Nat), (∃ (n : Nat) (w : W), is[n]? = some j ∧ ws[n]? = some w ∧ (putOuts is ws ρ)[j]? = some (.own w)) ∨ (j ∉ is ∧ (putOuts is ws ρ)[j]? = ρ[j]?)
  | [], [], ρ, _, _, _ => ⟨rfl, fun j => .inr ⟨by simp, rfl⟩⟩
  | i :: is, w :: ws, ρ, nd, hl, hlt => by
    rw [List.nodup_cons] at nd
    obtain ⟨h1, h2⟩ := putOuts_get (is := is) (ws := ws) (ρ := ρ.set i (.own w)) nd.2 (by simpa using hl) fun j hj => by rw [List.length_set]; exact hlt j (List.mem_cons_of_mem _ hj)
    refine ⟨by show (putOuts is ws (ρ.set i (.own w))).length = _; rw [h1, List.length_set], fun j => ?_⟩
    show (∃ (n : Nat) (u : W), (i :: is)[n]? = some j ∧ (w :: ws)[n]? = some u ∧ (putOuts is ws (ρ.set i (.own w)))[j]? = some (.own u)) ∨ (j ∉ i :: is ∧ (putOuts is ws (ρ.set i (.own w)))[j]? = ρ[j]?)
    rcases h2 j with ⟨n, u, e1, e2, e3⟩ | ⟨nj, e⟩
    · exact .inl ⟨n + 1, u, e1, e2, e3⟩
    · by_cases ej : j = i
      · subst ej
        refine .inl ⟨0, w, rfl, rfl, ?_⟩
        rw [e, set_eq (hlt j List.mem_cons_self)]
      · refine .inr ⟨fun z => ?_, by rw [e, set_ne ej]⟩
        cases z with
        | head => exact ej rfl
        | tail _ z => exact nj z
theorem nodup_get {α : Type} : ∀ {l : List α} {i j : Nat} {x : α}, l.Nodup → l[i]? = some x → l[j]? = some x → i = j
  | [], _, _, _, _, e, _ => by simp at e
  | a :: l, 0, 0, _, _, _, _ => rfl
  | a :: l, 0, j + 1, x, nd, e1, e2 => by
    have e : a = x := Option.some.inj e1
    subst e
    exact absurd (List.mem_of_getElem? (l := l) e2) (List.nodup_cons.mp nd).1
  | a :: l, i + 1, 0, x, nd, e1, e2 => by
    have e : a = x := Option.some.inj e2
    subst e
    exact absurd (List.mem_of_getElem? (l := l) e1) (List.nodup_cons.mp nd).1
  | a :: l, i + 1, j + 1, x, nd, e1, e2 => by rw [nodup_get (l := l) (List.nodup_cons.mp nd).2 e1 e2]
/-- the frame behind the call -/
theorem sr_called (S : SR K B F H σ ρ) {l : List (Nat × Nat × Addr)} {outs : List W} (hl : ∀ (t : Nat × Nat × Addr), t ∈ l → σ[t.2.1]? = some (some (.ref t.2.2)) ∧ ∃ w, ρ[t.2.1]? = some (.own w)) (nd : (l.map (·.2.1)).Nodup)
    (e : Ext (l.map (·.2.2)) F H F' H') (o : OutsOk K F' H' (l.map fun t => (t.1, t.2.2)) outs) : SR K B F' H' σ (putOuts (l.map (·.2.1)) outs ρ) ∧ Keeps F H F' H' := by
  have lent : ∀ (t : Nat × Nat × Addr), t ∈ l → ¬ F t.2.2 ∧ ¬ B.kept t.2.2 ∧ ∃ u, H t.2.2 = some u ∧ Mut (some u) := fun t ht => by
    obtain ⟨h1, w, h2⟩ := hl t ht
    obtain ⟨a, ea, ow, nf, nk⟩ := S.slot _ _ h2
    rw [h1] at ea
    cases ea
    exact ⟨nf, nk, ow.some⟩
  have k : Keeps F H F' H' := ⟨e.f, fun a u hu c => e.h a u (fun z => by
    obtain ⟨t, ht, et⟩ := List.mem_map.mp z
    obtain ⟨nf, _, x, hx, mx⟩ := lent t ht
    rw [et] at nf hx
    rcases c with c | c
    · exact nf c
    · rw [hu] at hx; cases hx; exact c mx) hu⟩
  have hlen : outs.length = (l.map (·.2.1)).length := by rw [o.1, List.length_map, List.length_map]
  obtain ⟨p1, p2⟩ := putOuts_get (ρ := ρ) nd hlen fun i hi => by
    obtain ⟨t, ht, et⟩ := List.mem_map.mp hi
    obtain ⟨_, w, h2⟩ := hl t ht
    rw [← et]
    exact (List.getElem?_eq_some_iff.mp h2).1
  have own : ∀ {j : Nat} {w : W}, (putOuts (l.map (·.2.1)) outs ρ)[j]? = some (.own w) → ∃ w0, ρ[j]? = some (.own w0) := fun {j w} h => by
    rcases p2 j with ⟨n, u, e1, _, _⟩ | ⟨_, e1⟩
    · rw [List.getElem?_map] at e1
      obtain ⟨t, et, e1⟩ := Option.map_eq_some_iff.mp e1
      obtain ⟨_, w0, h2⟩ := hl t (List.mem_of_getElem? et)
      rw [e1] at h2
      exact ⟨w0, h2⟩
    · rw [e1] at h
      exact ⟨w, h⟩
  refine ⟨⟨by rw [p1]; exact S.len, fun j s h => ?_, fun i j w w' a h1 h2 e1 e2 => ?_, fun p hp => ?_, fun a u ka h => ?_, fun a h z => ?_, fun a h => e.f a (S.f0 a h), fun a h => ?_, e.t⟩, k⟩
  · rcases p2 j with ⟨n, u, e1, e2, e3⟩ | ⟨nj, e1⟩
    · rw [e3] at h
      cases h
      rw [List.getElem?_map] at e1
      obtain ⟨t, et, e1⟩ := Option.map_eq_some_iff.mp e1
      obtain ⟨h1, _⟩ := hl t (List.mem_of_getElem? et)
      obtain ⟨_, nk, _⟩ := lent t (List.mem_of_getElem? et)
      obtain ⟨ow, nf⟩ := o.2 n (t.1, t.2.2) u (by rw [List.getElem?_map, et]; rfl) e2
      rw [← e1]
      exact ⟨t.2.2, h1, ow, nf, nk⟩
    · rw [e1] at h
      have q := S.slot j s h
      cases s with
      | no => trivial
      | exn => exact q
      | val w => obtain ⟨v, ev, r⟩ := q; exact ⟨v, ev, r.mono k⟩
      | own w =>
        obtain ⟨a, ea, ow, nf, nk⟩ := q
        have na : a ∉ l.map (·.2.2) := fun z => by
          obtain ⟨t, ht, et⟩ := List.mem_map.mp z
          obtain ⟨h1, w0, h2⟩ := hl t ht
          rw [et] at h1
          exact nj (List.mem_map.mpr ⟨t, ht, S.sep _ _ _ _ a h2 h h1 ea⟩)
        obtain ⟨u, hu, _⟩ := ow.some
        refine ⟨a, ea, ?_, fun f => ?_, nk⟩
        · cases w with
          | lst m => obtain ⟨vs, h1, h2⟩ := ow; exact ⟨vs, e.h a _ na h1, h2.mono k⟩
          | dK ks m => obtain ⟨vs, h1, n, h2⟩ := ow; exact ⟨vs, e.h a _ na h1, n, h2.mono k⟩
          | obj c ns m => obtain ⟨dx, vs, h1, n, h2⟩ := ow; exact ⟨dx, vs, e.h a _ na h1, n, h2.mono k⟩
          | _ => exact ow
        · rcases e.g a f with f | f
          · exact nf f
          · rw [hu] at f; cases f
  · obtain ⟨w0, g1⟩ := own h1
    obtain ⟨w1, g2⟩ := own h2
    exact S.sep i j w0 w1 a g1 g2 e1 e2
  · obtain ⟨h1, w, h2⟩ := S.lent p hp
    refine ⟨h1, ?_⟩
    rcases p2 p.1 with ⟨n, u, _, _, e3⟩ | ⟨_, e1⟩
    · exact ⟨u, e3⟩
    · exact ⟨w, by rw [e1]; exact h2⟩
  · refine e.h a u (fun z => ?_) (S.ext a u ka h)
    obtain ⟨t, ht, et⟩ := List.mem_map.mp z
    exact (lent t ht).2.1 (by rw [et]; exact ka)
  · by_cases z2 : a ∈ l.map (·.2.2)
    · obtain ⟨t, ht, et⟩ := List.mem_map.mp z2
      obtain ⟨n, en⟩ := List.mem_iff_getElem?.mp ht
      have lt : n < outs.length := by rw [o.1, List.length_map]; exact (List.getElem?_eq_some_iff.mp en).1
      obtain ⟨ow, _⟩ := o.2 n (t.1, t.2.2) _ (by rw [List.getElem?_map, en]; rfl) (List.getElem?_eq_getElem lt)
      obtain ⟨u, hu, _⟩ := ow.some
      rw [et, z] at hu
      cases hu
    · have h2 := S.alive a h
      cases q : H a with
      | none => exact h2 q
      | some u => rw [e.h a u z2 q] at z; cases z
  · rcases e.g a h with q | q
    · exact S.f1 a q
    · right
      cases q2 : B.H0 a with
      | none => rfl
      | some u => exact absurd q (S.alive a (by rw [q2]; exact (fun z => nomatch z)))
end
theorem RunG.withP {β : Type} {K : PySem.W.Frag} {Y : Yx I} {F : Fz} {H : Hp} {σ : L2.St} {r : R β} {P : β → Rho → Fz → Hp → Prop} {p : β → Prop} (hp : ∀ b ρ', r = .ok b ρ' → p b) (h : RunG K Y F H σ r P) : RunG K Y F H σ r fun b ρ' F' H' => p b ∧ P b ρ' F' H' := by
  cases r with
  | ok b ρ' => exact fun F' H' S k => ⟨hp b ρ' rfl, h F' H' S k⟩
  | exc c ns ws ρ' => exact h
  | stk => exact h
theorem call_of {K : PySem.W.Frag} {Y : Yx I} {J : List Nat} {np : Nat} {fm : List W → FR} {fs : List (Rho → R (Md × W))} {σ : L2.St} {H : Hp} {Q : VK} (hnp : fs.length = np) (hq : tM K Y (mCall I J fm fs) σ H Q) :
    tMA K Y fs σ H fun vs H1 => spM K Y.ct J np fm vs H1 Q (WE Y.wx σ) := by
  obtain ⟨F, ρ, S, q⟩ := hq
  have bl : ∀ {fs : List (Rho → R (Md × W))} {ρ ρ' : Rho} {bs : List (Md × W)}, mHold fs ρ = .ok bs ρ' → bs.length = fs.length := fun {fs} => by
    induction fs with
    | nil => intro ρ ρ' bs e; cases e; rfl
    | cons f fs ih =>
      intro ρ ρ' bs e
      have e1 : (f ρ).bind (fun b ρ1 => (mHold fs ρ1).bind fun bs ρ2 => .ok (b :: bs) ρ2) = .ok bs ρ' := e
      cases q1 : f ρ with
      | ok b ρ1 =>
        rw [q1] at e1
        have e2 : (mHold fs ρ1).bind (fun bs ρ2 => R.ok (b :: bs) ρ2) = .ok bs ρ' := e1
        cases q2 : mHold fs ρ1 with
        | ok bs1 ρ2 =>
          rw [q2] at e2
          cases e2
          rw [List.length_cons, List.length_cons, ih q2]
        | exc c ns ws ρ2 => rw [q2] at e2; cases e2
        | stk => rw [q2] at e2; cases e2
      | exc c ns ws ρ1 => rw [q1] at e1; cases e1
      | stk => rw [q1] at e1; cases e1
  have hb := RunG.bind q
  have hb2 := RunG.withP (p := fun bs => bs.length = np) (fun bs ρ1 e => by rw [bl e, hnp]) hb
  refine ⟨F, ρ, S, hb2.imp fun bs ρ1 F1 H1 S1 k1 ⟨hlen, q1⟩ F2 vs S2 k2 hvs => ?_⟩
  obtain ⟨F3, xs, ρ3, S3, k3, xr, q3⟩ := callA_ok S2 hvs (RunG.bind (q1.rebase k2))
  have vl : vs.length = bs.length := by
    have : ∀ {bs : List (Md × W)} {vs : List V}, HeldL σ K F2 H1 bs vs → vs.length = bs.length := fun {bs} => by
      induction bs with
      | nil => intro vs h; have e : vs = [] := h; rw [e]; rfl
      | cons b bs ih =>
        rintro vs ⟨v, r, e, _, h⟩
        rw [e, List.length_cons, List.length_cons, ih h]
    exact this hvs
  split at q3
  · rename_i hc
    cases er : resX ρ3 xs with
    | none => rw [er] at q3; exact q3.elim
    | some args =>
      rw [er] at q3
      dsimp only at q3
      obtain ⟨g1, g2, g3⟩ := x_lent S3 (k := 0) xr er
      have el : lentA J vs = (lentX 0 xs vs).map fun t => (t.1, t.2.2) := by
        rw [← hc.2, ← g1]
        exact lentA_eq fun t ht => by have := (g3 t ht).2.1; rwa [Nat.sub_zero] at this
      have hl : ∀ (t : Nat × Nat × Addr), t ∈ lentX 0 xs vs → σ[t.2.1]? = some (some (.ref t.2.2)) ∧ ∃ w, ρ3[t.2.1]? = some (.own w) := fun t ht => (g3 t ht).2.2
      have nd : ((lentX 0 xs vs).map (·.2.1)).Nodup := by rw [g2]; exact hc.1
      refine ⟨F3, args, by rw [vl, hlen], S3.f2, x_args S3 xr er (fun j hj _ => by rw [hc.2]; exact hj) (fun j hj => by rw [hc.2] at hj; exact hj), ⟨?_, ?_⟩, ?_⟩
      · rw [el, List.map_map]
        show (lentX 0 xs vs).map (·.1) = J
        rw [g1, hc.2]
      · rw [el]
        intro p hp q hq epq
        obtain ⟨t, ht, et⟩ := List.mem_map.mp hp
        obtain ⟨u, hu, eu⟩ := List.mem_map.mp hq
        subst et
        subst eu
        obtain ⟨h1, w1, h2⟩ := hl t ht
        obtain ⟨h3, w2, h4⟩ := hl u hu
        have e1 : t.2.2 = u.2.2 := epq
        rw [← e1] at h3
        have es := S3.sep _ _ _ _ _ h2 h4 h1 h3
        obtain ⟨n, en⟩ := List.mem_iff_getElem?.mp ht
        obtain ⟨m, em⟩ := List.mem_iff_getElem?.mp hu
        have nm := nodup_get nd (i := n) (j := m) (x := t.2.1) (by rw [List.getElem?_map, en]; rfl) (by rw [List.getElem?_map, em, es]; rfl)
        subst nm
        rw [en] at em
        cases em
        rfl
      · have eA : (lentA J vs).map (·.2) = (lentX 0 xs vs).map (·.2.2) := by
          rw [el, List.map_map]
          rfl
        rw [eA, el]
        cases ef : fm args with
        | stk => rw [ef] at q3; exact q3.elim
        | exc c ns ws outs =>
          rw [ef] at q3
          intro F' H' d ee oo x
          obtain ⟨S4, k4⟩ := sr_called S3 hl nd ee oo
          rw [g2] at S4
          exact q3 F' H' d S4 x
        | ok fr w outs =>
          rw [ef] at q3
          intro F' H' v ee oo hv
          obtain ⟨S4, k4⟩ := sr_called S3 hl nd ee oo
          rw [g2] at S4
          refine q3 F' H' S4 k4 v ?_
          cases fr with
          | false => exact hv
          | true =>
            obtain ⟨a, ea, o, nf, h0⟩ := hv
            refine ⟨a, ea, o, nf, ?_, fun i w' hi ei => ?_⟩
            · cases q5 : Y.B.H0 a with
              | none => rfl
              | some u => exact absurd h0 (S3.alive a (by rw [q5]; exact (fun z => nomatch z)))
            · have q6 : ∃ w0, ρ3[i]? = some (.own w0) := by
                have hlen2 : outs.length = (slotsX xs).length := by rw [oo.1, ← g2, List.length_map, List.length_map]
                obtain ⟨_, p2⟩ := putOuts_get (ρ := ρ3) hc.1 hlen2 fun i hi => by
                  rw [← g2] at hi
                  obtain ⟨t, ht, et⟩ := List.mem_map.mp hi
                  obtain ⟨_, w, h2⟩ := hl t ht
                  rw [← et]
                  exact (List.getElem?_eq_some_iff.mp h2).1
                rcases p2 i with ⟨n, u, e1, _, _⟩ | ⟨_, e1⟩
                · rw [← g2, List.getElem?_map] at e1
                  obtain ⟨t, et, e1⟩ := Option.map_eq_some_iff.mp e1
                  obtain ⟨_, w0, h2⟩ := hl t (List.mem_of_getElem? et)
                  rw [e1] at h2
                  exact ⟨w0, h2⟩
                · rw [e1] at hi
                  exact ⟨w', hi⟩
              obtain ⟨w0, h6⟩ := q6
              obtain ⟨b, eb, ob, _⟩ := S3.slot i _ h6
              rw [ei] at eb
              cases eb
              obtain ⟨u, hu, _⟩ := ob.some
              rw [h0] at hu
              cases hu
  · exact q3.elim
section
variable {X : Cx} {Y : Yx I} {J : List Nat} {k : Nat} {f : Addr} {fd : FuncData} {ps : List Str} {np : Nat} {fm : List W → FR} {x : Str} {p pos : Pos} {e : Expr} {es : List Expr} {fs : List (Rho → R (Md × W))}
theorem pem_call (F : FnOk X.prog X.w X.K X.mg X.base (L2.CX X.prog X.w) k f fd ps (spM X.K Y.ct J np fm)) (hr : Room k X.A) (tk : Takes X Y.wx) (hg : Gl X x) (hm : X.mg x = some (.ref f)) (hk : PySem.W.keepIn X.K (.ref f) = true) (hb : Binds X.K fd ps [])
    (ha : PAM X Y (e :: es) fs) (hn : fs.length = np) (hdb : (x == ("__debug__" : Str)) = false := by decide) (he : starEach (e :: es) X.env = (false, eval e X.env) :: starEach es X.env := by rfl) (hpl : (backTo pos (starEach es X.env)).any (·.1) = false := by rfl) :
    PEM X Y (.Call (.Name x p) (e :: es) [] pos) (mCall I J fm fs) := pe_weak (pe_callS F hr hg hm hk hb (fun σ => passAt tk σ) ha hdb he hpl) fun _ _ _ hq => call_of hn hq
end
end ML

set_option maxHeartbeats 4000000
namespace ML
open PySem PySem.Spec PyProof.Rows L2
variable {I : List Nat}
/-! ### a list comprehension -/
def wipeR (ρ : Rho) : List Nat → Rho
  | [] => ρ
  | v :: vs => (wipeR ρ vs).set v .no
theorem wipeR_len (ρ : Rho) : ∀ vs, (wipeR ρ vs).length = ρ.length
  | [] => rfl
  | v :: vs => by unfold wipeR; rw [List.length_set, wipeR_len ρ vs]
theorem wipeR_get {ρ : Rho} {i : Nat} {s : Sl} : ∀ {vs : List Nat}, (wipeR ρ vs)[i]? = some s → s = .no ∨ (i ∉ vs ∧ ρ[i]? = some s)
  | [], h => .inr ⟨by simp, h⟩
  | v :: vs, h => by
    unfold wipeR at h
    rcases set_cases h with ⟨_, e, _⟩ | ⟨n, e⟩
    · exact .inl e
    · rcases wipeR_get e with q | ⟨q1, q2⟩
      · exact .inl q
      · exact .inr ⟨fun z => by cases z with
          | head => exact n rfl
          | tail _ z => exact q1 z, q2⟩
theorem wipeR_ne {ρ : Rho} {i : Nat} : ∀ {vs : List Nat}, i ∉ vs → (wipeR ρ vs)[i]? = ρ[i]?
  | [], _ => rfl
  | v :: vs, h => by
    unfold wipeR
    rw [set_ne (fun e => h (by rw [e]; exact List.mem_cons_self)), wipeR_ne fun z => h (List.mem_cons_of_mem _ z)]
theorem wipe_ne {σ : L2.St} {i : Nat} : ∀ {vs : List Nat}, i ∉ vs → (wipe σ vs)[i]? = σ[i]?
  | [], _ => rfl
  | v :: vs, h => by
    unfold wipe
    rw [set_ne (fun e => h (by rw [e]; exact List.mem_cons_self)), wipe_ne fun z => h (List.mem_cons_of_mem _ z)]
section
variable {K : PySem.W.Frag} {B : Bd} {F F' : Fz} {H H' : Hp} {σ : L2.St} {ρ : Rho}
theorem SR.wiped (S : SR K B F H σ ρ) {vs : List Nat} (u : ∀ i ∈ vs, unlent B i) : SR K B F H (wipe σ vs) (wipeR ρ vs) := by
  have get : ∀ {i : Nat} {s : Sl}, (wipeR ρ vs)[i]? = some s → s = .no ∨ (ρ[i]? = some s ∧ (wipe σ vs)[i]? = σ[i]?) := fun {i s} h => by
    rcases wipeR_get h with q | ⟨q1, q2⟩
    · exact .inl q
    · exact .inr ⟨q2, wipe_ne q1⟩
  refine ⟨by rw [wipe_length, wipeR_len]; exact S.len, fun i s h => ?_, fun i j w w' a h1 h2 e1 e2 => ?_, fun p hp => ?_, S.ext, S.alive, S.f0, S.f1, S.f2⟩
  · rcases get h with q | ⟨q1, q2⟩
    · rw [q]; trivial
    · rw [q2]; exact S.slot i s q1
  · rcases get h1 with q | ⟨q1, q2⟩
    · cases q
    · rcases get h2 with q | ⟨q3, q4⟩
      · cases q
      · rw [q2] at e1
        rw [q4] at e2
        exact S.sep i j w w' a q1 q3 e1 e2
  · obtain ⟨h1, w, h2⟩ := S.lent p hp
    have n : p.1 ∉ vs := fun z => u _ z (List.mem_map.mpr ⟨p, hp, rfl⟩)
    exact ⟨by rw [wipe_ne n]; exact h1, w, by rw [wipeR_ne n]; exact h2⟩
theorem SR.unwiped {vs : List Nat} (S : SR K B F H (wipe σ vs) ρ) (u : ∀ i ∈ vs, unlent B i) : SR K B F H σ (wipeR ρ vs) := by
  have get : ∀ {i : Nat} {s : Sl}, (wipeR ρ vs)[i]? = some s → s = .no ∨ (ρ[i]? = some s ∧ (wipe σ vs)[i]? = σ[i]?) := fun {i s} h => by
    rcases wipeR_get h with q | ⟨q1, q2⟩
    · exact .inl q
    · exact .inr ⟨q2, wipe_ne q1⟩
  refine ⟨by rw [wipeR_len, ← S.len, wipe_length], fun i s h => ?_, fun i j w w' a h1 h2 e1 e2 => ?_, fun p hp => ?_, S.ext, S.alive, S.f0, S.f1, S.f2⟩
  · rcases get h with q | ⟨q1, q2⟩
    · rw [q]; trivial
    · rw [← q2]; exact S.slot i s q1
  · rcases get h1 with q | ⟨q1, q2⟩
    · cases q
    · rcases get h2 with q | ⟨q3, q4⟩
      · cases q
      · rw [← q2] at e1
        rw [← q4] at e2
        exact S.sep i j w w' a q1 q3 e1 e2
  · obtain ⟨h1, w, h2⟩ := S.lent p hp
    have n : p.1 ∉ vs := fun z => u _ z (List.mem_map.mpr ⟨p, hp, rfl⟩)
    exact ⟨by rw [← wipe_ne (σ := σ) n]; exact h1, w, by rw [wipeR_ne n]; exact h2⟩
/-- the list at D, that nobody else knows, with what it holds -/
def Bd.wit (B : Bd) (D : Addr) (vs : List V) : Bd := { B with H0 := upd B.H0 D (.lst vs) }
theorem wit_kept {D : Addr} {vs : List V} {a : Addr} (h : a ≠ D) : (B.wit D vs).kept a ↔ B.kept a := by
  unfold Bd.kept Bd.wit
  dsimp only
  rw [upd_ne h]
theorem SR.enter (S : SR K B F H σ ρ) {D : Addr} (n : H D = none) : SR K (B.wit D []) F (upd H D (.lst [])) σ ρ ∧ Keeps F H F (upd H D (.lst [])) := by
  have e : Ext [] F H F (upd H D (.lst [])) := Ext.new n S.f2
  have S' := S.grow e
  have h0 : B.H0 D = none := by
    cases q : B.H0 D with
    | none => rfl
    | some u => exact absurd n (S.alive D (by rw [q]; exact (fun z => nomatch z)))
  refine ⟨⟨S'.len, fun i s h => ?_, S'.sep, S'.lent, fun a o k h => ?_, fun a h => ?_, S'.f0, fun a h => ?_, S'.f2⟩, e.keeps⟩
  · have q := S'.slot i s h
    cases s with
    | no => trivial
    | exn => exact q
    | val w => exact q
    | own w =>
      obtain ⟨a, e1, o, nf, nk⟩ := q
      refine ⟨a, e1, o, nf, fun k => ?_⟩
      have na : a ≠ D := fun z => by
        obtain ⟨b, eb, ob, _⟩ := S.slot i _ h
        rw [e1] at eb
        cases eb
        obtain ⟨u, hu, _⟩ := ob.some
        rw [z, n] at hu
        cases hu
      exact nk ((wit_kept na).mp k)
  · by_cases ea : a = D
    · subst ea
      rw [show (B.wit a []).H0 a = some (.lst []) from upd_same] at h
      cases h
      exact upd_same
    · rw [show (B.wit D []).H0 a = B.H0 a from upd_ne ea] at h
      exact S'.ext a o ((wit_kept ea).mp k) h
  · by_cases ea : a = D
    · rw [ea, upd_same]; exact (fun z => nomatch z)
    · rw [show (B.wit D []).H0 a = B.H0 a from upd_ne ea] at h
      exact S'.alive a h
  · rcases S.f1 a h with q | q
    · exact .inl q
    · by_cases ea : a = D
      · exact absurd n (by rw [← ea]; exact S.f2 a h)
      · exact .inr (by rw [show (B.wit D []).H0 a = B.H0 a from upd_ne ea]; exact q)
theorem SR.wit_at {D : Addr} {vs : List V} (S : SR K (B.wit D vs) F H σ ρ) (nd : ∀ p ∈ B.I, p.2 ≠ D) (nf : ¬ B.F0 D) : H D = some (.lst vs) ∧ ¬ F D ∧ ∀ (i : Nat) (w : W), ρ[i]? = some (.own w) → σ[i]? ≠ some (some (.ref D)) := by
  have kD : (B.wit D vs).kept D := ⟨by rw [show (B.wit D vs).H0 D = some (.lst vs) from upd_same]; exact (fun z => nomatch z), nd⟩
  refine ⟨S.ext D _ kD upd_same, fun f => ?_, fun i w h e => ?_⟩
  · rcases S.f1 D f with q | q
    · exact nf q
    · rw [show (B.wit D vs).H0 D = some (.lst vs) from upd_same] at q; cases q
  · obtain ⟨a, e1, _, _, nk⟩ := S.slot i _ h
    rw [e] at e1
    cases e1
    exact nk kD
theorem SR.witPut {D : Addr} {vs us : List V} (S : SR K (B.wit D vs) F H σ ρ) (nd : ∀ p ∈ B.I, p.2 ≠ D) (nf : ¬ B.F0 D) : SR K (B.wit D us) F (upd H D (.lst us)) σ ρ ∧ Keeps F H F (upd H D (.lst us)) := by
  obtain ⟨hD, fD, sD⟩ := S.wit_at nd nf
  have k : Keeps F H F (upd H D (.lst us)) := ⟨fun _ h => h, fun b x hb c => by
    have nb : b ≠ D := fun z => by
      subst z
      rcases c with c | c
      · exact fD c
      · rw [hD] at hb; cases hb; exact c trivial
    rw [upd_ne nb]
    exact hb⟩
  refine ⟨⟨S.len, fun i s h => ?_, S.sep, S.lent, fun a o ka h => ?_, fun a h => ?_, S.f0, fun a h => ?_, fun a h => ?_⟩, k⟩
  · have q := S.slot i s h
    cases s with
    | no => trivial
    | exn => exact q
    | val w => obtain ⟨v, e1, r⟩ := q; exact ⟨v, e1, r.mono k⟩
    | own w =>
      obtain ⟨a, e1, o, nfa, nk⟩ := q
      have na : a ≠ D := fun z => sD i w h (by rw [e1, z])
      refine ⟨a, e1, ?_, nfa, fun k => nk ((wit_kept na).mpr ((wit_kept na).mp k))⟩
      cases w with
      | lst l => obtain ⟨vs, h1, h2⟩ := o; exact ⟨vs, by rw [upd_ne na]; exact h1, h2.mono k⟩
      | dK ks l => obtain ⟨vs, h1, m, h2⟩ := o; exact ⟨vs, by rw [upd_ne na]; exact h1, m, h2.mono k⟩
      | obj c ns l => obtain ⟨dx, vs, h1, m, h2⟩ := o; exact ⟨dx, vs, by rw [upd_ne na]; exact h1, m, h2.mono k⟩
      | _ => exact o
  · by_cases ea : a = D
    · subst ea
      rw [show (B.wit a us).H0 a = some (.lst us) from upd_same] at h
      cases h
      exact upd_same
    · rw [upd_ne ea]
      refine S.ext a o ((wit_kept ea).mpr ((wit_kept ea).mp ka)) ?_
      rw [show (B.wit D vs).H0 a = B.H0 a from upd_ne ea]
      rw [show (B.wit D us).H0 a = B.H0 a from upd_ne ea] at h
      exact h
  · by_cases ea : a = D
    · rw [ea, upd_same]; exact (fun z => nomatch z)
    · rw [upd_ne ea]
      refine S.alive a ?_
      rw [show (B.wit D vs).H0 a = B.H0 a from upd_ne ea]
      rw [show (B.wit D us).H0 a = B.H0 a from upd_ne ea] at h
      exact h
  · rcases S.f1 a h with q | q
    · exact .inl q
    · by_cases ea : a = D
      · exact absurd h (by rw [ea]; exact fD)
      · exact .inr (by rw [show (B.wit D us).H0 a = B.H0 a from upd_ne ea]; rw [show (B.wit D vs).H0 a = B.H0 a from upd_ne ea] at q; exact q)
  · by_cases ea : a = D
    · rw [ea, upd_same]; exact (fun z => nomatch z)
    · rw [upd_ne ea]; exact S.f2 a h
theorem SR.leave {D : Addr} {vs : List V} (S : SR K (B.wit D vs) F H σ ρ) (nd : ∀ p ∈ B.I, p.2 ≠ D) (nf : ¬ B.F0 D) (h0 : B.H0 D = none) {ws : List W} (r : RepL K F H ws vs) : SR K B F H σ ρ ∧ Fre K B F H σ ρ (.lst ws) (.ref D) := by
  obtain ⟨hD, fD, sD⟩ := S.wit_at nd nf
  refine ⟨⟨S.len, fun i s h => ?_, S.sep, S.lent, fun a o ka h => ?_, fun a h => ?_, S.f0, fun a h => ?_, S.f2⟩, D, rfl, ⟨vs, hD, r⟩, fD, h0, sD⟩
  · have q := S.slot i s h
    cases s with
    | no => trivial
    | exn => exact q
    | val w => exact q
    | own w =>
      obtain ⟨a, e1, o, nfa, nk⟩ := q
      have na : a ≠ D := fun z => sD i w h (by rw [e1, z])
      exact ⟨a, e1, o, nfa, fun k => nk ((wit_kept na).mpr k)⟩
  · have na : a ≠ D := fun z => by rw [z, h0] at h; cases h
    refine S.ext a o ((wit_kept na).mpr ka) ?_
    rw [show (B.wit D vs).H0 a = B.H0 a from upd_ne na]
    exact h
  · have na : a ≠ D := fun z => h (by rw [z, h0])
    refine S.alive a ?_
    rw [show (B.wit D vs).H0 a = B.H0 a from upd_ne na]
    exact h
  · rcases S.f1 a h with q | q
    · exact .inl q
    · by_cases ea : a = D
      · exact .inr (by rw [ea, h0])
      · exact .inr (by rw [show (B.wit D vs).H0 a = B.H0 a from upd_ne ea] at q; exact q)
end
/-- the block's targets: names in slots -/
inductive CT where
  | nm (i : Nat) | tp (is : List Nat)
def CT.ix : CT → List Nat
  | .nm i => [i]
  | .tp is => is
def setsR : List Nat → List W → Rho → Option Rho
  | [], [], ρ => some ρ
  | i :: is, w :: ws, ρ => setsR is ws (ρ.set i (.val w))
  | _, _, _ => none
def CT.put (t : CT) (w : W) (ρ : Rho) : Option Rho := match t, w with
  | .nm i, w => some (ρ.set i (.val w))
  | .tp is, .tup l => setsR is l ρ
  | _, _ => none
def gNames : List Nat → TGs
  | [] => gNil
  | i :: is => gCons (gName i) (gNames is)
def CT.tg (K : PySem.W.Frag) : CT → TG
  | .nm i => gName i
  | .tp is => L2.gTup K is.length (gNames is)
def compL (vs : List Nat) (put : W → Rho → Option Rho) (c : Rho → R Bool) (fe : Rho → R W) : List W → List W → Rho → R (Md × W)
  | acc, [], ρ => if acc.length ≤ sizeLine then .ok (.fre, .lst acc) (wipeR ρ vs) else .stk
  | acc, w :: ws, ρ => match put w (wipeR ρ vs) with
    | some ρ1 => (c ρ1).bind fun b ρ2 => if b then (fe ρ2).bind fun y ρ3 => if acc.length < sizeLine then compL vs put c fe (acc ++ [y]) ws ρ3 else .stk else compL vs put c fe acc ws ρ2
    | none => .stk
def mEl (I : List Nat) (f : Rho → R (Md × W)) : Rho → R W := fun ρ => (f ρ).bind (toVal I)
def noExc {α : Type} (r : R α) : R α := match r with
  | .exc _ _ _ _ => .stk
  | r => r
def mLc (I : List Nat) (it : Rho → R (List W)) (t : CT) (c : Rho → R Bool) (fe : Rho → R (Md × W)) : Rho → R (Md × W) := fun ρ => (it ρ).bind fun ws ρ1 => if t.ix.all (fun i => decide (i ∉ I)) then noExc (compL t.ix t.put c (mEl I fe) [] ws ρ1) else .stk
def mYes : Rho → R Bool := fun ρ => .ok true ρ
end ML

set_option maxHeartbeats 4000000
namespace ML
open PySem PySem.Spec PyProof.Rows L2
variable {I : List Nat}
theorem bind_ok {α β : Type} {r : R α} {k : α → Rho → R β} {b : β} {ρ' : Rho} (h : r.bind k = .ok b ρ') : ∃ a ρ1, r = .ok a ρ1 ∧ k a ρ1 = .ok b ρ' := by
  cases r with
  | ok a ρ1 => exact ⟨a, ρ1, rfl, h⟩
  | exc c ns ws ρ => cases h
  | stk => cases h
theorem compL_fre {vs : List Nat} {put : W → Rho → Option Rho} {c : Rho → R Bool} {fe : Rho → R W} {b : Md × W} {ρe : Rho} : ∀ {ws acc : List W} {ρ : Rho}, compL vs put c fe acc ws ρ = .ok b ρe → ∃ L, b = (.fre, .lst L)
  | [], acc, ρ, h => by
    unfold compL at h
    split at h
    · cases h; exact ⟨_, rfl⟩
    · cases h
  | w :: ws, acc, ρ, h => by
    unfold compL at h
    split at h
    · obtain ⟨t, ρ2, _, h2⟩ := bind_ok h
      split at h2
      · obtain ⟨y, ρ3, _, h3⟩ := bind_ok h2
        split at h3
        · exact compL_fre h3
        · cases h3
      · exact compL_fre h2
    · cases h
/-- readings whatever is built meanwhile -/
def tMx (K : PySem.W.Frag) (ct : Str → Addr) (I : List Nat) (f : Rho → R (Md × W)) : TE := fun σ H Q => ∃ (Y : Yx I), Y.ct = ct ∧ (Y.wx = fun _ _ _ _ => False) ∧ tM K Y f σ H Q
def tMTx (K : PySem.W.Frag) (ct : Str → Addr) (I : List Nat) (f : Rho → R Bool) : TT := fun σ H Q => ∃ (Y : Yx I), Y.ct = ct ∧ (Y.wx = fun _ _ _ _ => False) ∧ tMT K Y f σ H Q
theorem pe_x {X : Cx} {ct : Str → Addr} {e : Expr} {f : Rho → R (Md × W)} (h : ∀ Y : Yx I, Y.ct = ct → (Y.wx = fun _ _ _ _ => False) → PEM X Y e f) : PE X e (tMx X.K ct I f) := ⟨fun pins s σ H Q J ⟨Y, e1, e2, hq⟩ => (h Y e1 e2).run pins s σ H Q J hq⟩
theorem pts_x {X : Cx} {ct : Str → Addr} {e : Expr} {f : Rho → R Bool} (h : ∀ Y : Yx I, Y.ct = ct → (Y.wx = fun _ _ _ _ => False) → PTM X Y e f) : PTs X [e] (tMTx X.K ct I f) := pts_one ⟨fun pins s σ H Q J ⟨Y, e1, e2, hq⟩ => (h Y e1 e2).run pins s σ H Q J hq⟩
/-- the clause's tests: none or one -/
def PCs (X : Cx) (ct : Str → Addr) (I : List Nat) (ifs : List Expr) (c : Rho → R Bool) : Prop := PTs X ifs (tMTx X.K ct I c)
theorem pcs_nil {X : Cx} {ct : Str → Addr} : PCs X ct I [] mYes := ⟨fun pins s σ H Q J ⟨Y, _, _, F, ρ, S, q⟩ => pts_nil.run pins s σ H Q J (q F H S .refl)⟩
theorem pcs_one {X : Cx} {ct : Str → Addr} {e : Expr} {c : Rho → R Bool} (h : ∀ Y : Yx I, Y.ct = ct → (Y.wx = fun _ _ _ _ => False) → PTM X Y e c) : PCs X ct I [e] c := pts_x h
section
variable {K : PySem.W.Frag} {B : Bd} {F F' : Fz} {H H' : Hp} {σ : L2.St} {ρ ρ' : Rho}
theorem sets_ok : ∀ {is : List Nat} {l : List W} {xs : List V} {σ : L2.St} {ρ ρ' : Rho} {Q : L2.St → Hp → Prop}, SR K B F H σ ρ → RepL K F H l xs → (∀ i ∈ is, unlent B i) → setsR is l ρ = some ρ' →
    (∀ σ', SR K B F H σ' ρ' → σ'.length = σ.length → (∀ j, j ∉ is → σ'[j]? = σ[j]?) → Q σ' H) → xs.length = is.length ∧ gNames is xs σ H Q
  | [], [], xs, σ, ρ, ρ', Q, S, r, _, e, q => by
    have ex : xs = [] := r
    subst ex
    cases e
    exact ⟨rfl, rfl, q σ S rfl fun _ _ => rfl⟩
  | i :: is, w :: l, xs, σ, ρ, ρ', Q, S, r, u, e, q => by
    obtain ⟨v, vs, rfl, r1, r2⟩ := r
    have := sets_ok (is := is) (l := l) (xs := vs) (σ := σ.set i (some v)) (ρ := ρ.set i (.val w)) (ρ' := ρ') (Q := Q) (S.setVal (u i List.mem_cons_self) r1) r2 (fun j hj => u j (List.mem_cons_of_mem _ hj)) e fun σ' S' hl hs => q σ' S' (by rw [hl, List.length_set]) fun j hj => by
      rw [hs j fun z => hj (List.mem_cons_of_mem _ z), set_ne fun z => hj (by rw [z]; exact List.mem_cons_self)]
    exact ⟨by rw [List.length_cons, List.length_cons, this.1], v, vs, rfl, this.2⟩
  | [], _ :: _, _, _, _, _, _, _, _, _, e, _ => by cases e
  | _ :: _, [], _, _, _, _, _, _, _, _, e, _ => by cases e
theorem wipe_in {σ : L2.St} {i : Nat} : ∀ {vs : List Nat}, i ∈ vs → i < σ.length → (wipe σ vs)[i]? = some none
  | v :: vs, h, l => by
    unfold wipe
    by_cases e : i = v
    · subst e
      exact set_eq (by rw [wipe_length]; exact l)
    · rw [set_ne e]
      cases h with
      | head => exact absurd rfl e
      | tail _ h => exact wipe_in h l
theorem wipe_same {σ σ' : L2.St} {vs : List Nat} (hl : σ'.length = σ.length) (h : ∀ j, j ∉ vs → σ'[j]? = σ[j]?) : wipe σ' vs = wipe σ vs := by
  apply List.ext_getElem?
  intro j
  by_cases hj : j ∈ vs
  · by_cases l : j < σ.length
    · rw [wipe_in hj l, wipe_in hj (by rw [hl]; exact l)]
    · rw [List.getElem?_eq_none (by rw [wipe_length]; omega), List.getElem?_eq_none (by rw [wipe_length]; omega)]
  · rw [wipe_ne hj, wipe_ne hj, h j hj]
theorem put_ok {t : CT} {w : W} {v : V} {Q : L2.St → Hp → Prop} (S : SR K B F H (wipe σ t.ix) ρ) (r : Rep K F H w v) (u : ∀ i ∈ t.ix, unlent B i) (e : t.put w ρ = some ρ')
    (q : ∀ σ', SR K B F H σ' ρ' → wipe σ' t.ix = wipe σ t.ix → Q σ' H) : t.tg K v (wipe σ t.ix) H Q := by
  have fin : ∀ σ', σ'.length = (wipe σ t.ix).length → (∀ j, j ∉ t.ix → σ'[j]? = (wipe σ t.ix)[j]?) → wipe σ' t.ix = wipe σ t.ix := fun σ' hl hs => wipe_same (by rw [hl, wipe_length]) fun j hj => by rw [hs j hj, wipe_ne hj]
  cases t with
  | nm i =>
    cases e
    exact q _ (S.setVal (u i List.mem_cons_self) r) (fin _ (by rw [List.length_set]) fun j hj => set_ne fun z => hj (by rw [z]; exact List.mem_cons_self))
  | tp is =>
    cases w with
    | tup l =>
      obtain ⟨a, vs, rfl, hs, rl⟩ := r
      have := sets_ok S rl u e fun σ' S' hl hx => q σ' S' (fin σ' hl hx)
      exact ⟨a, vs, rfl, hs.seq, this.1, this.2⟩
    | _ => cases e
end
theorem lc_of {K : PySem.W.Frag} {Y : Yx I} {it : Rho → R (List W)} {t : CT} {c : Rho → R Bool} {fe : Rho → R (Md × W)} {σ : L2.St} {H : Hp} {Q : VK} (hq : tM K Y (mLc I it t c fe) σ H Q) :
    tLc (tMI K Y it) (t.tg K) (tMTx K Y.ct I c) (tMx K Y.ct I fe) t.ix σ H Q := by
  obtain ⟨F, ρ, S, q⟩ := hq
  refine ⟨F, ρ, S, (RunG.bind q).imp fun ws ρ1 F1 H1 S1 k1 q1 J hJ D nD => ?_⟩
  split at q1
  · rename_i hix
    have un : ∀ i ∈ t.ix, i ∉ I := fun i hi => of_decide_eq_true (List.all_eq_true.mp hix i hi)
    have u : ∀ i ∈ t.ix, unlent Y.B i := fun i hi => Y.un (un i hi)
    cases er : compL t.ix t.put c (mEl I fe) [] ws ρ1 with
    | exc cc ns us ρ' => rw [er] at q1; exact q1.elim
    | stk => rw [er] at q1; exact q1.elim
    | ok b ρe =>
      rw [er] at q1
      obtain ⟨L, rfl⟩ := compL_fre er
      obtain ⟨S2, k2⟩ := S1.enter nD
      have nd : ∀ p ∈ Y.B.I, p.2 ≠ D := fun p hp z => by
        obtain ⟨h1, w, h2⟩ := S1.lent p hp
        obtain ⟨a, ea, o, _⟩ := S1.slot _ _ h2
        rw [h1] at ea
        cases ea
        obtain ⟨x, hx, _⟩ := o.some
        rw [z, nD] at hx
        cases hx
      have nf : ¬ Y.B.F0 D := fun z => S1.f2 D (S1.f0 D z) nD
      have h0 : Y.B.H0 D = none := by
        cases q : Y.B.H0 D with
        | none => rfl
        | some x => exact absurd nD (S1.alive D (by rw [q]; exact (fun z => nomatch z)))
      refine ⟨fun i m H => ∃ F ρ acc vacc, SR K (Y.B.wit D vacc) F H (wipe σ t.ix) (wipeR ρ t.ix) ∧ RepL K F H acc vacc ∧ Keeps F1 H1 F H ∧ compL t.ix t.put c (mEl I fe) acc (ws.drop i) ρ = .ok (.fre, .lst L) ρe ∧ m = ws.length - i,
        ⟨_, F1, ρ1, [], [], S2.wiped u, rfl, k2, er, rfl⟩, ?_⟩
      rintro i m H ⟨F, ρ, acc, vacc, S, ra, k, ec, rfl⟩
      have hi := hJ F H k S.f2 i
      cases ed : ws.drop i with
      | nil =>
        rw [ed] at ec
        unfold compL at ec
        split at ec
        · cases ec
          obtain ⟨S3, fr⟩ := S.leave nd nf h0 ra
          have S4 := S3.unwiped u
          refine .inl ⟨hi.2 (List.drop_eq_nil_iff.mp ed), ?_⟩
          have ew : wipeR (wipeR ρ t.ix) t.ix = wipeR ρ t.ix := by
            apply List.ext_getElem?
            intro j
            by_cases hj : j ∈ t.ix
            · have g : ∀ (ρ : Rho) (vs : List Nat), j ∈ vs → (wipeR ρ vs)[j]? = if j < ρ.length then some .no else none := fun ρ vs => by
                induction vs with
                | nil => intro h; cases h
                | cons v vs ih =>
                  intro h
                  unfold wipeR
                  by_cases e : j = v
                  · subst e
                    rw [List.getElem?_set, if_pos rfl, wipeR_len]
                  · rw [set_ne e]
                    cases h with
                    | head => exact absurd rfl e
                    | tail _ h => exact ih h
              rw [g _ _ hj, g _ _ hj, wipeR_len]
            · rw [wipeR_ne hj]
          rw [ew] at S4
          refine q1 F H S4 k _ ?_
          obtain ⟨a, ea, o, n1, n2, n3⟩ := fr
          refine ⟨a, ea, o, n1, n2, fun j w' hj ej => ?_⟩
          rcases wipeR_get hj with z | ⟨z1, z2⟩
          · cases z
          · exact n3 j w' hj (by rw [wipe_ne z1]; exact ej)
        · cases ec
      | cons w r =>
        obtain ⟨ew, er2⟩ := drop_get ed
        obtain ⟨go, yl⟩ := hi.1 w ew
        have lt := (List.getElem?_eq_some_iff.mp ew).1
        refine .inr ⟨go, fun H' => ∃ F ρ acc vacc, SR K (Y.B.wit D vacc) F H' (wipe σ t.ix) (wipeR ρ t.ix) ∧ RepL K F H' acc vacc ∧ Keeps F1 H1 F H' ∧ compL t.ix t.put c (mEl I fe) acc (ws.drop (i + 1)) ρ = .ok (.fre, .lst L) ρe,
          fun H' ⟨F', ρ', acc', vacc', a1, a2, a3, a4⟩ => ⟨ws.length - (i + 1), by omega, F', ρ', acc', vacc', a1, a2, a3, a4, rfl⟩, fun x H'' y => ?_⟩
        obtain ⟨F2, ex, rx⟩ := yl x H'' y
        rw [ed] at ec
        unfold compL at ec
        split at ec
        · rename_i ρ3 ep
          obtain ⟨b, ρ4, ecb, ec2⟩ := bind_ok ec
          have u' : ∀ i ∈ t.ix, unlent (Y.B.wit D vacc) i := u
          refine put_ok (S.grow ex) rx u' ep fun σ' S5 hw => ⟨hw, ?_⟩
          have kx : Keeps F1 H1 F2 H'' := k.trans ex.keeps
          have ra2 : RepL K F2 H'' acc vacc := ra.mono ex.keeps
          refine ⟨⟨Y.ct, Y.B.wit D vacc, fun _ _ _ _ => False, Y.hI⟩, rfl, rfl, F2, ρ3, S5, ?_⟩
          rw [ecb]
          intro F6 H6 S6 k6
          cases b with
          | false =>
            rw [if_neg Bool.false_ne_true] at ec2
            rw [if_neg Bool.false_ne_true]
            have S7 := SR.wiped (vs := t.ix) S6 u'
            rw [hw] at S7
            exact ⟨F6, ρ4, acc, vacc, S7, ra2.mono k6, kx.trans k6, by rw [er2]; exact ec2⟩
          | true =>
            rw [if_pos rfl] at ec2
            rw [if_pos rfl]
            obtain ⟨yw, ρ7, ey, ec3⟩ := bind_ok ec2
            obtain ⟨bm, ρ6, e6, e7⟩ := bind_ok (show (fe ρ4).bind (toVal I) = .ok yw ρ7 from ey)
            refine ⟨⟨Y.ct, Y.B.wit D vacc, fun _ _ _ _ => False, Y.hI⟩, rfl, rfl, F6, ρ4, S6, ?_⟩
            rw [e6]
            intro F8 H8 S8 k8 v8 hv8
            split at ec3
            · rename_i hsz
              have qv : RunG K (⟨Y.ct, Y.B.wit D vacc, fun _ _ _ _ => False, Y.hI⟩ : Yx I) F8 H8 σ' (toVal I bm ρ6) fun w ρ _ _ => w = yw ∧ ρ = ρ7 := by
                rw [e7]
                exact fun _ _ _ _ => ⟨rfl, rfl⟩
              obtain ⟨F9, yw', ρ9, S9, k9, r9, ⟨e9, e10⟩⟩ := S8.toVal hv8 qv
              subst e9
              subst e10
              obtain ⟨hD, fD, _⟩ := S9.wit_at nd nf
              have ra9 := (ra2.mono k6).mono (k8.trans k9)
              obtain ⟨Sa, ka⟩ := S9.witPut (us := vacc ++ [v8]) nd nf
              refine ⟨vacc, hD, by rw [← ra9.len]; exact hsz, F9, ρ9, acc ++ [yw'], vacc ++ [v8], ?_, RepL.mono ka _ (ra9.append (.cons r9 .nil)), ((kx.trans k6).trans (k8.trans k9)).trans ka, by rw [er2]; exact ec3⟩
              have Sb := SR.wiped (vs := t.ix) Sa u'
              rw [hw] at Sb
              exact Sb
            · cases ec3
        · cases ec
  · exact q1.elim
section
variable {X : Cx} {Y : Yx I} {elt tg iter : Expr} {ifs : List Expr} {scope : Scope} {own : List (Str × Nat)} {pos : Pos} {it : Rho → R (List W)} {t : CT} {c : Rho → R Bool} {fe : Rho → R (Md × W)}
theorem pem_lc (hc : X.calm = true) (hN : X.N.Nodup) (hi : PIM X Y tg iter it) (ok : BlkOk X.N X.env.scope scope own) (ho : own.map (·.2) = t.ix)
    (hg : ∀ (s : Shared) (H : Hp) (C : Addr) (cl : List (Str × Addr)) (fp : List Addr), PG (X.blk s H scope (compEnvC scope cl C X.env) fp) tg (t.tg X.K))
    (ht : ∀ (s : Shared) (H : Hp) (C : Addr) (cl : List (Str × Addr)) (fp : List Addr), PCs (X.blk s H scope (compEnvC scope cl C X.env) fp) Y.ct I ifs c)
    (he : ∀ (s : Shared) (H : Hp) (C : Addr) (cl : List (Str × Addr)) (fp : List Addr) (Y' : Yx I), Y'.ct = Y.ct → (Y'.wx = fun _ _ _ _ => False) → PEM (X.blk s H scope (compEnvC scope cl C X.env) fp) Y' elt fe)
    (hs : ∀ x, foldedSetIterable iter X.env x = pure x := by intro _; rfl) : PEM X Y (.ListComp elt [⟨tg, iter, ifs, 0⟩] scope pos) (mLc I it t c fe) :=
  pe_weak (pe_lc (tt := tMTx X.K Y.ct I c) (te := tMx X.K Y.ct I fe) hc hN hi ok hg ht (fun s H C cl fp => pe_x (he s H C cl fp)) hs) fun σ H Q hq => by
    rw [ho]
    exact lc_of hq
/-- x = [..] on one line -/
theorem psm_setLc {i : Nat} {y : Str} {py spos : Pos} (hc : X.calm = true) (hN : X.N.Nodup) (hy : X.N[i]? = some y) (hyl : X.env.scope.names.lookup y = some .local)
    (hsw : swapsWith (.ListComp elt [⟨tg, iter, ifs, 0⟩] scope pos) (some (.Name y py)) spos.line X.env = pure true) (hi : PIM X Y tg iter it) (ok : BlkOk X.N X.env.scope scope own) (ho : own.map (·.2) = t.ix)
    (hg : ∀ (s : Shared) (H : Hp) (C : Addr) (cl : List (Str × Addr)) (fp : List Addr), PG (X.blk s H scope (compEnvC scope cl C X.env) fp) tg (t.tg X.K))
    (ht : ∀ (s : Shared) (H : Hp) (C : Addr) (cl : List (Str × Addr)) (fp : List Addr), PCs (X.blk s H scope (compEnvC scope cl C X.env) fp) Y.ct I ifs c)
    (he : ∀ (s : Shared) (H : Hp) (C : Addr) (cl : List (Str × Addr)) (fp : List Addr) (Y' : Yx I), Y'.ct = Y.ct → (Y'.wx = fun _ _ _ _ => False) → PEM (X.blk s H scope (compEnvC scope cl C X.env) fp) Y' elt fe)
    (hs : ∀ x, foldedSetIterable iter X.env x = pure x := by intro _; rfl) : PSM X Y (.Assign [.Name y py] (.ListComp elt [⟨tg, iter, ifs, 0⟩] scope pos) spos) (mSet I i (mLc I it t c fe)) :=
  ps_weak (ps_setLc (tt := tMTx X.K Y.ct I c) (te := tMx X.K Y.ct I fe) hc hN hy hyl hsw hi ok hg ht (fun s H C cl fp => pe_x (he s H C cl fp)) hs) fun D σ H hq => by
    obtain ⟨F, ρ, S, q⟩ := hq
    rw [ho]
    exact lc_of ⟨F, ρ, S, (RunS.bindE q).imp fun b ρ1 F1 H1 S1 k1 q1 v hv => store_of S1 hv q1⟩
end
end ML

set_option maxHeartbeats 4000000
namespace ML
open PySem PySem.Spec PyProof.Rows L2
variable {I : List Nat}
/-! ### built-ins -/
theorem CallR.or {X : Cx} {f : Value} {r r' : List V → Hp → VK → Prop} (h : CallR X f r) (h' : CallR X f r') : CallR X f (fun xs H Q => r xs H Q ∨ r' xs H Q) := by
  intro pins s σ H xs us Q I rs q
  rcases q with q | q
  · exact h pins s σ H xs us Q I rs q
  · exact h' pins s σ H xs us Q I rs q
section
variable {K : PySem.W.Frag} {F : Fz} {H : Hp}
theorem PkL.one {w : W} {vs : List V} (h : PkL K F H [w] vs) : ∃ v, vs = [v] ∧ PkR K F H w v := by
  obtain ⟨v, r, e, h1, h2⟩ := h
  have e2 : r = [] := h2
  exact ⟨v, by rw [e, e2], h1⟩
theorem PkL.two {w u : W} {vs : List V} (h : PkL K F H [w, u] vs) : ∃ v x, vs = [v, x] ∧ PkR K F H w v ∧ PkR K F H u x := by
  obtain ⟨v, r, e, h1, h2⟩ := h
  obtain ⟨x, e2, h3⟩ := PkL.one h2
  exact ⟨v, x, by rw [e, e2], h1, h3⟩
end
def gInt : GC
  | [.int i] => some (.val, .int i)
  | [.bl k] => some (.val, .int (if k then 1 else 0))
  | [.str a] => if a.length ≤ 640 then (PySem.intText? a).map fun n => (.val, .int n) else none
  | _ => none
abbrev rInt1 : List V → Hp → VK → Prop := fun xs H Q => (∃ i, xs = [.int i] ∧ Q (.int i) H) ∨ ∃ k, xs = [.bl k] ∧ Q (.int (if k then 1 else 0)) H
abbrev rIntS : List V → Hp → VK → Prop := fun xs H Q => ∃ a n, xs = [.str a] ∧ PySem.intText? a = some n ∧ a.length ≤ 640 ∧ Q (.int n) H
theorem c_int {X : Cx} : CallR X (.type "int") (fun xs H Q => rInt1 xs H Q ∨ rIntS xs H Q) := CallR.or call_int1 call_int_str
theorem g_int {K : PySem.W.Frag} : CallW K (fun xs H Q => rInt1 xs H Q ∨ rIntS xs H Q) gInt := by
  intro xs m z e F H vs Q t p q
  unfold gInt at e
  split at e
  · cases e
    obtain ⟨v, rfl, h⟩ := p.one
    cases h.int
    exact .inl (.inl ⟨_, rfl, old_val t (K := K) (z := .int _) rfl q⟩)
  · cases e
    obtain ⟨v, rfl, h⟩ := p.one
    cases h.bl
    exact .inl (.inr ⟨_, rfl, old_val t (K := K) (z := .int _) rfl q⟩)
  · split at e
    · rename_i a hl
      obtain ⟨n, en, e2⟩ := Option.map_eq_some_iff.mp e
      cases e2
      obtain ⟨v, rfl, h⟩ := p.one
      cases h.str
      exact .inr ⟨_, n, rfl, en, hl, old_val t (K := K) (z := .int _) rfl q⟩
    · cases e
  · cases e
def gStr : GC
  | [.int i] => if i.natAbs.log2 < 1920 then some (.val, .str (toString i)) else none
  | [.str a] => some (.val, .str a)
  | _ => none
abbrev rStrI : List V → Hp → VK → Prop := fun xs H Q => ∃ i, xs = [.int i] ∧ i.natAbs.log2 < 1920 ∧ Q (.str (toString i)) H
abbrev rStrS : List V → Hp → VK → Prop := fun xs H Q => ∃ a, xs = [.str a] ∧ Q (.str a) H
theorem c_str {X : Cx} : CallR X (.type "str") (fun xs H Q => rStrI xs H Q ∨ rStrS xs H Q) := CallR.or call_str_int SkE.call_str_str
theorem g_str {K : PySem.W.Frag} : CallW K (fun xs H Q => rStrI xs H Q ∨ rStrS xs H Q) gStr := by
  intro xs m z e F H vs Q t p q
  unfold gStr at e
  split at e
  · split at e
    · rename_i hl
      cases e
      obtain ⟨v, rfl, h⟩ := p.one
      cases h.int
      exact .inl ⟨_, rfl, hl, old_val t (K := K) (z := .str _) rfl q⟩
    · cases e
  · cases e
    obtain ⟨v, rfl, h⟩ := p.one
    cases h.str
    exact .inr ⟨_, rfl, old_val t (K := K) (z := .str _) rfl q⟩
  · cases e
def gLen : GC
  | [.str a] => if a.length ≤ sizeLine then some (.val, .int a.length) else none
  | [w] => (itemsW w).map fun l => (.val, .int l.length)
  | _ => none
theorem g_len {K : PySem.W.Frag} : CallW K (fun xs H Q => ∃ x n, xs = [x] ∧ LenV K x H n ∧ Q (.int n) H) gLen := by
  intro xs m z e F H vs Q t p q
  unfold gLen at e
  split at e
  · split at e
    · rename_i hl
      cases e
      obtain ⟨v, rfl, h⟩ := p.one
      cases h.str
      exact ⟨_, _, rfl, ⟨hl, rfl⟩, old_val t (K := K) (z := .int _) rfl q⟩
    · cases e
  · obtain ⟨l, el, e2⟩ := Option.map_eq_some_iff.mp e
    cases e2
    obtain ⟨v, rfl, h⟩ := p.one
    obtain ⟨a, us, rfl, hs, r⟩ := h.seq el
    refine ⟨_, l.length, rfl, ?_, old_val t (K := K) (z := .int _) rfl q⟩
    rcases hs with hs | hs
    · exact .inl ⟨us, hs, r.len⟩
    · exact .inr ⟨us, hs, r.len⟩
  · cases e
def gMin : GC
  | [.int i, .int j] => some (.val, .int (if j < i then j else i))
  | _ => none
theorem g_min {K : PySem.W.Frag} : CallW K (fun xs H Q => ∃ i j, xs = [.int i, .int j] ∧ Q (.int (if j < i then j else i)) H) gMin := by
  intro xs m z e F H vs Q t p q
  unfold gMin at e
  split at e
  · cases e
    obtain ⟨v, x, rfl, h, h'⟩ := p.two
    cases h.int
    cases h'.int
    exact ⟨_, _, rfl, old_val t (K := K) (z := .int _) rfl q⟩
  · cases e
def gMax : GC
  | [.int i, .int j] => some (.val, .int (if j > i then j else i))
  | _ => none
theorem g_max {K : PySem.W.Frag} : CallW K (fun xs H Q => ∃ i j, xs = [.int i, .int j] ∧ Q (.int (if j > i then j else i)) H) gMax := by
  intro xs m z e F H vs Q t p q
  unfold gMax at e
  split at e
  · cases e
    obtain ⟨v, x, rfl, h, h'⟩ := p.two
    cases h.int
    cases h'.int
    exact ⟨_, _, rfl, old_val t (K := K) (z := .int _) rfl q⟩
  · cases e
def gTupC : GC
  | [.tup l] => some (.val, .tup l)
  | [.lst l] => some (.val, .tup l)
  | [.frl l] => some (.val, .tup l)
  | _ => none
theorem g_tupC {K : PySem.W.Frag} : CallW K (fun xs H Q => ∃ p ys, xs = [.ref p] ∧ ((SqL K H p ys ∧ ∀ l, H l = none → Q (.ref l) (upd H l (.tup ys))) ∨ (SqT K H p ys ∧ Q (.ref p) H))) gTupC := by
  intro xs m z e F H vs Q t p q
  unfold gTupC at e
  split at e
  · cases e
    obtain ⟨v, rfl, h⟩ := p.one
    obtain ⟨a, us, rfl, hs, r⟩ := h.tup
    exact ⟨a, us, rfl, .inr ⟨hs.seq, old_val t (show Rep K F H (.tup _) (.ref a) from ⟨a, us, rfl, hs, r⟩) q⟩⟩
  · cases e
    obtain ⟨v, rfl, h⟩ := p.one
    obtain ⟨a, us, rfl, hs, r⟩ := h.lst
    exact ⟨a, us, rfl, .inl ⟨.of hs, fun l hl => new_tup t r q hl⟩⟩
  · cases e
    obtain ⟨v, rfl, h⟩ := p.one
    obtain ⟨a, us, rfl, hs, r⟩ := h.frl
    exact ⟨a, us, rfl, .inl ⟨hs.seq, fun l hl => new_tup t r q hl⟩⟩
  · cases e
def gLstC : GC
  | [w] => (itemsW w).map fun l => (.fre, .lst l)
  | _ => none
theorem g_lstC {K : PySem.W.Frag} : CallW K (fun xs H Q => ∃ p ys, xs = [.ref p] ∧ (SqL K H p ys ∨ SqT K H p ys) ∧ ∀ l, H l = none → Q (.ref l) (upd H l (.lst ys))) gLstC := by
  intro xs m z e F H vs Q t p q
  unfold gLstC at e
  split at e
  · obtain ⟨l, el, e2⟩ := Option.map_eq_some_iff.mp e
    cases e2
    obtain ⟨v, rfl, h⟩ := p.one
    obtain ⟨a, us, rfl, hs, r⟩ := h.seq el
    exact ⟨a, us, rfl, hs, fun l hl => new_lst t r q hl⟩
  · cases e
/-! isinstance -/
def tyN : W → Option String
  | .non => some "NoneType"
  | .bl _ => some "bool"
  | .int _ => some "int"
  | .str _ => some "str"
  | .tup _ => some "tuple"
  | .lst _ => some "list"
  | .frl _ => some "list"
  | .dK _ _ => some "dict"
  | _ => none
def isB : String → String → Option Bool
  | "NoneType", "bool" => some false | "NoneType", "int" => some false | "NoneType", "str" => some false | "NoneType", "tuple" => some false | "NoneType", "list" => some false
  | "bool", "bool" => some true | "bool", "int" => some true | "bool", "str" => some false | "bool", "tuple" => some false | "bool", "list" => some false
  | "int", "bool" => some false | "int", "int" => some true | "int", "str" => some false | "int", "tuple" => some false | "int", "list" => some false
  | "str", "bool" => some false | "str", "int" => some false | "str", "str" => some true | "str", "tuple" => some false | "str", "list" => some false
  | "tuple", "bool" => some false | "tuple", "int" => some false | "tuple", "str" => some false | "tuple", "tuple" => some true | "tuple", "list" => some false
  | "list", "bool" => some false | "list", "int" => some false | "list", "str" => some false | "list", "tuple" => some false | "list", "list" => some true
  | _, _ => none
theorem isB_ok {a b : String} {r : Bool} (h : isB a b = some r) : kitB a b = some r := by
  unfold isB at h
  split at h <;> first | (cases h; decide +kernel) | cases h
theorem tyN_ok {K : PySem.W.Frag} {F : Fz} {H : Hp} {w : W} {v : V} {n : String} (h : PkR K F H w v) (e : tyN w = some n) : TyX K H v (.type n) := by
  cases w with
  | non => cases e; cases h.non; exact .base .non
  | bl b => cases e; cases h.bl; exact .base (.bl b)
  | int b => cases e; cases h.int; exact .base (.int b)
  | str b => cases e; cases h.str; exact .base (.str b)
  | tup l =>
    cases e
    obtain ⟨a, us, rfl, hs, r⟩ := h.tup
    rcases hs with hs | ⟨o, its, k, ho, hc, _⟩
    · exact .base (.tup hs)
    · exact .kTuple ho hc
  | lst l => cases e; obtain ⟨a, us, rfl, hs, r⟩ := h.lst; exact .base (.lst hs)
  | frl l =>
    cases e
    obtain ⟨a, us, rfl, hs, r⟩ := h.frl
    rcases hs with ⟨o, hs⟩ | ⟨o, its, k, ho, hc, _⟩
    · exact .base (.frz hs)
    · exact .kList ho hc
  | dK ks l => cases e; obtain ⟨a, us, rfl, hs, _⟩ := h.dK; exact .base (.dK hs)
  | _ => cases e
def isAny (n : String) : List W → Option Bool
  | [] => some false
  | .ty c :: r => match isB n c, isAny n r with
    | some a, some b => some (a || b)
    | _, _ => none
  | _ => none
def gIsi : GC
  | [x, .ty c] => (tyN x).bind fun n => (isB n c).map fun b => (.val, .bl b)
  | [x, .tup cs] => (tyN x).bind fun n => (isAny n cs).map fun b => (.val, .bl b)
  | _ => none
theorem isAny_ok {K : PySem.W.Frag} {F : Fz} {H : Hp} {n : String} : ∀ {cs : List W} {vs : List V} {b : Bool}, RepL K F H cs vs → isAny n cs = some b → ∃ us, Paired ClsV vs us ∧ PySem.W.kitAny K (.type n) us = some b
  | [], _, _, r, e => by
    cases r
    cases e
    exact ⟨[], .nil, rfl⟩
  | .ty c :: cs, _, b, r, e => by
    obtain ⟨v, vs, rfl, r1, r2⟩ := r
    cases r1
    have e1 : (match isB n c, isAny n cs with
      | some a, some b => some (a || b)
      | _, _ => none) = some b := e
    cases q : isB n c with
    | none => rw [q] at e1; cases e1
    | some t =>
      cases q2 : isAny n cs with
      | none => rw [q, q2] at e1; cases e1
      | some t2 =>
        rw [q, q2] at e1
        cases e1
        obtain ⟨us, hu, hk2⟩ := isAny_ok r2 q2
        exact ⟨.type c :: us, .cons (.ty c) hu, kitAny_cons (kit_ty (isB_ok q)) (fun z => by rw [z]; exact hk2) fun z => by rw [z]; rfl⟩
  | .non :: _, _, _, _, e => by cases e
  | .bl _ :: _, _, _, _, e => by cases e
  | .int _ :: _, _, _, _, e => by cases e
  | .str _ :: _, _, _, _, e => by cases e
  | .fn _ :: _, _, _, _, e => by cases e
  | .tup _ :: _, _, _, _, e => by cases e
  | .lst _ :: _, _, _, _, e => by cases e
  | .frl _ :: _, _, _, _, e => by cases e
  | .dK _ _ :: _, _, _, _, e => by cases e
theorem g_isi {K : PySem.W.Frag} : CallW K (fun xs H Q => rIsi K xs H Q ∨ rIsiT K xs H Q ∨ rIsiK K xs H Q) gIsi := by
  intro xs m z e F H vs Q t p q
  unfold gIsi at e
  split at e
  · obtain ⟨n, en, e1⟩ := Option.bind_eq_some_iff.mp e
    obtain ⟨b, eb, e2⟩ := Option.map_eq_some_iff.mp e1
    cases e2
    obtain ⟨v, x, rfl, h, h'⟩ := p.two
    cases h'.rep (fun _ => W.noConfusion) (fun _ _ => W.noConfusion) fun _ _ _ => W.noConfusion
    exact .inl ⟨v, _, _, _, b, rfl, .ty _, tyN_ok h en, kit_ty (isB_ok eb), old_val t (K := K) (z := .bl _) rfl q⟩
  · obtain ⟨n, en, e1⟩ := Option.bind_eq_some_iff.mp e
    obtain ⟨b, eb, e2⟩ := Option.map_eq_some_iff.mp e1
    cases e2
    obtain ⟨v, x, rfl, h, h'⟩ := p.two
    obtain ⟨a, us, rfl, hs, r⟩ := h'.tup
    obtain ⟨ws, hp, hk⟩ := isAny_ok r eb
    have fin : Q (.bl b) H := old_val t (K := K) (z := .bl _) rfl q
    rcases hs with hs | ⟨o, its, k, ho, hc, hd, _, hv⟩
    · exact .inr (.inl ⟨v, a, us, _, ws, b, rfl, hs, hp, tyN_ok h en, hk, fin⟩)
    · obtain ⟨oc, od, dt, osl⟩ := o
      cases hc
      cases hd
      have e3 := ClsV.all hp hv
      refine .inr (.inr ⟨v, a, od, ws, k, osl, _, b, rfl, ?_, tyN_ok h en, hk, fin⟩)
      rw [ho, ← e3]
  · cases e
theorem c_isi {X : Cx} : CallR X (.builtin "isinstance") (fun xs H Q => rIsi X.K xs H Q ∨ rIsiT X.K xs H Q ∨ rIsiK X.K xs H Q) := CallR.or call_isi (CallR.or call_isiT call_isiK)
section
variable {X : Cx} {Y : Yx I} {x : Str} {p pos : Pos} {e : Expr} {es : List Expr} {fs : List (Rho → R (Md × W))} {r : List V → Hp → VK → Prop} {g : GC} {id T : String}
theorem pem_callB (hc : CallR X (.builtin id) r) (hg : Gl X x) (hm : X.mg x = none) (hv : bootBuiltins x = some (.builtin id)) (hw : CallW X.K r g) (ha : PAM X Y (e :: es) fs) (hn : x ≠ "__name__" := by decide) (hdb : (x == ("__debug__" : Str)) = false := by decide)
    (he : starEach (e :: es) X.env = (false, eval e X.env) :: starEach es X.env := by rfl) (hpl : (backTo pos (starEach es X.env)).any (·.1) = false := by rfl) : PEM X Y (.Call (.Name x p) (e :: es) [] pos) (mCB g fs) :=
  pe_weak (pe_callB hc hg hm hv ha hn hdb he hpl) fun _ _ _ hq => tCB_of hw hq
theorem pem_callTy (hc : CallR X (.type T) r) (hg : Gl X x) (hm : X.mg x = none) (hv : bootBuiltins x = some (.type T)) (hw : CallW X.K r g) (ha : PAM X Y (e :: es) fs) (hn : x ≠ "__name__" := by decide) (hdb : (x == ("__debug__" : Str)) = false := by decide)
    (he : starEach (e :: es) X.env = (false, eval e X.env) :: starEach es X.env := by rfl) (hpl : (backTo pos (starEach es X.env)).any (·.1) = false := by rfl) : PEM X Y (.Call (.Name x p) (e :: es) [] pos) (mCB g fs) :=
  pe_weak (pe_callTy hc hg hm hv ha hn hdb he hpl) fun _ _ _ hq => tCB_of hw hq
theorem pem_ty (hg : Gl X x) (hm : X.mg x = none) (hv : bootBuiltins x = some (.type T)) (hn : x ≠ "__name__" := by decide) (hdb : (x == ("__debug__" : Str)) = false := by decide) : PEM X Y (.Name x pos) (mC (.ty T)) := pem_c (pe_bltn (v := .ty T) hg hm hv rfl hn hdb) fun _ _ => rfl
theorem pem_glob {v : V} {u : Value} {w : W} (hg : Gl X x) (hm : X.mg x = some u) (r : RelV v u) (h : ∀ F H, Rep X.K F H w v) (hdb : (x == ("__debug__" : Str)) = false := by decide) : PEM X Y (.Name x pos) (mC w) := pem_c (pe_glob hg hm r hdb) h
end
/-! ### subscripts -/
theorem atI_rep {K : PySem.W.Frag} {F : Fz} {H : Hp} {l : List W} {vs : List V} {i : Int} {w : W} (r : RepL K F H l vs) (e : atI l i = some w) : ∃ v, atI vs i = some v ∧ Rep K F H w v := by
  unfold atI at e ⊢
  rw [← r.len]
  obtain ⟨j, ej, e2⟩ := Option.bind_eq_some_iff.mp e
  obtain ⟨v, ev, rv⟩ := r.get e2
  exact ⟨v, by rw [ej]; exact ev, rv⟩
def gIx : GW := fun x y => match x, y with
  | .str z, .int i => if z.length ≤ sizeLine then (atI z.cps.toList i).map fun c => (.val, .str ⟨#[c]⟩) else none
  | x, .int i => (itemsW x).bind fun l => (atI l i).map fun w => (.val, w)
  | _, _ => none
theorem g_ix {K : PySem.W.Frag} : OpW K (rIx K) gIx := by
  intro x y m z e F H vx vy Q t px py q
  unfold gIx at e
  split at e
  · split at e
    · rename_i hl
      obtain ⟨c, ec, e2⟩ := Option.map_eq_some_iff.mp e
      cases e2
      cases px.str
      cases py.int
      exact .inr (.inr ⟨_, _, c, rfl, rfl, hl, ec, old_val t (K := K) (z := .str _) rfl q⟩)
    · cases e
  · obtain ⟨l, el, e1⟩ := Option.bind_eq_some_iff.mp e
    obtain ⟨w, ew, e2⟩ := Option.map_eq_some_iff.mp e1
    cases e2
    cases py.int
    obtain ⟨a, vs, rfl, hs, r⟩ := px.seq el
    obtain ⟨v, ev, rv⟩ := atI_rep r ew
    rcases hs with hs | hs
    · exact .inl ⟨a, vs, _, v, rfl, rfl, hs, ev, old_val t rv q⟩
    · exact .inr (.inl ⟨a, vs, _, v, rfl, rfl, hs, ev, old_val t rv q⟩)
  · cases e
theorem pem_ix {X : Cx} {Y : Yx I} {a b : Expr} {pos : Pos} {fa fb : Rho → R (Md × W)} (ha : PEM X Y a fa) (hb : PEM X Y b fb) (hs : PlainIx b := by exact fun _ _ => rfl) : PEM X Y (.Subscript a b pos) (mOp gIx fa fb) := pe_weak (pe_ix ix_seq ha hb hs) fun _ _ _ hq => tOp_of g_ix hq
end ML

set_option maxHeartbeats 4000000
namespace ML
open PySem PySem.Spec PyProof.Rows L2
variable {I : List Nat}
/-! ### slices -/
def cutW (xs : List W) (lo hi : Option Int) : List W := (xs.drop (HT.sIx xs.length 0 lo)).take (HT.sIx xs.length xs.length hi - HT.sIx xs.length 0 lo)
theorem RepL.cut {K : PySem.W.Frag} {F : Fz} {H : Hp} {l : List W} {vs : List V} (r : RepL K F H l vs) (lo hi : Option Int) : RepL K F H (cutW l lo hi) (cutV vs lo hi) := by
  unfold cutW cutV
  rw [r.len]
  exact (r.drop _).take _
def gSl (x : W) (lo hi : Option Int) : Option (Md × W) := match x with
  | .str z => if z.length ≤ sizeLine then some (.val, .str (cutS z lo hi)) else none
  | .tup l => some (.val, .tup (cutW l lo hi))
  | .lst l => some (.fre, .lst (cutW l lo hi))
  | .frl l => some (.fre, .lst (cutW l lo hi))
  | _ => none
def mPart : Option (Rho → R (Md × W)) → Rho → R (Option Int)
  | none, ρ => .ok none ρ
  | some f, ρ => (f ρ).bind fun b ρ1 => match b.1, b.2 with
    | .val, .int i => .ok (some i) ρ1
    | _, _ => .stk
def mSl (fa : Rho → R (Md × W)) (lo hi : Option (Rho → R (Md × W))) : Rho → R (Md × W) := fun ρ => (fa ρ).bind fun x ρ1 => (mPart lo ρ1).bind fun l ρ2 => (mPart hi ρ2).bind fun h ρ3 => match peek x.1 x.2 ρ3 with
  | some u => lift (gSl u l h) ρ3
  | none => .stk
def tMO (K : PySem.W.Frag) (Y : Yx I) (f : Option (Rho → R (Md × W))) : TO := fun σ H Q => ∃ F ρ, SR K Y.B F H σ ρ ∧ RunG K Y F H σ (mPart f ρ) fun o ρ' F' H' => Q o H'
def POM (X : Cx) (Y : Yx I) (e : Option Expr) (f : Option (Rho → R (Md × W))) : Prop := PO X e (tMO X.K Y f)
theorem po_weak {X : Cx} {e : Option Expr} {t t' : TO} (h : PO X e t) (q : ∀ σ H Q, t' σ H Q → t σ H Q) : PO X e t' := ⟨fun pins s σ H Q J hq => h.run pins s σ H Q J (q _ _ _ hq)⟩
theorem pom_none {X : Cx} {Y : Yx I} : POM X Y none none := po_weak po_none fun σ H Q hq => by
  obtain ⟨F, ρ, S, q⟩ := hq
  exact q F H S .refl
theorem pom_some {X : Cx} {Y : Yx I} {e : Expr} {f : Rho → R (Md × W)} (h : PEM X Y e f) : POM X Y (some e) (some f) := po_weak (po_some h) fun σ H Q hq => by
  obtain ⟨F, ρ, S, q⟩ := hq
  refine ⟨F, ρ, S, (RunG.bind q).imp fun b ρ1 F1 H1 S1 k1 q1 v hv => ?_⟩
  obtain ⟨m, w⟩ := b
  dsimp only at q1
  split at q1
  · exact ⟨_, hv, q1 F1 H1 S1 .refl⟩
  · exact q1.elim
def rSlM (K : PySem.W.Frag) : V → Option Int → Option Int → Hp → VK → Prop := fun x lo hi H Q => rSlL K x lo hi H Q ∨ rSlA K x lo hi H Q ∨ rSlS x lo hi H Q
theorem sl_m {X : Cx} : L2.SlR X (rSlM X.K) := L2.SlR.or sl_list (L2.SlR.or sl_tupA sl_str)
theorem cut_all {xs : List W} {lo hi : Option Int} (h : HT.sIx xs.length 0 lo = 0 ∧ HT.sIx xs.length xs.length hi = xs.length) : cutW xs lo hi = xs := by
  unfold cutW
  rw [h.1, h.2, Nat.sub_zero, List.drop_zero, List.take_length]
theorem g_sl {K : PySem.W.Frag} {x z : W} {lo hi : Option Int} {m : Md} (e : gSl x lo hi = some (m, z)) {F : Fz} {H : Hp} {vx : V} {Q : VK} (t : Tight F H) (px : PkR K F H x vx)
    (q : ∀ F' H' v, Ext [] F H F' H' → NewR K H F' H' m z v → Q v H') : rSlM K vx lo hi H Q := by
  unfold gSl at e
  split at e
  · split at e
    · rename_i hl
      cases e
      cases px.str
      exact .inr (.inr ⟨_, rfl, hl, old_val t (K := K) (z := .str _) rfl q⟩)
    · cases e
  · cases e
    obtain ⟨a, vs, rfl, hs, r⟩ := px.tup
    refine .inr (.inl ⟨a, vs, rfl, hs.seq, fun hw => ?_, fun _ p hp => new_tup t (r.cut lo hi) q hp⟩)
    rw [← r.len] at hw
    rw [cut_all hw] at q
    exact old_val t (show Rep K F H (.tup _) (.ref a) from ⟨a, vs, rfl, hs, r⟩) q
  · cases e
    obtain ⟨a, vs, rfl, hs, r⟩ := px.lst
    exact .inl ⟨a, vs, rfl, .of hs, fun p hp => new_lst t (r.cut lo hi) q hp⟩
  · cases e
    obtain ⟨a, vs, rfl, hs, r⟩ := px.frl
    exact .inl ⟨a, vs, rfl, hs.seq, fun p hp => new_lst t (r.cut lo hi) q hp⟩
  · cases e
theorem pem_slice {X : Cx} {Y : Yx I} {e : Expr} {lo hi : Option Expr} {pos p2 : Pos} {f : Rho → R (Md × W)} {fl fh : Option (Rho → R (Md × W))} (he : PEM X Y e f) (hl : POM X Y lo fl) (hh : POM X Y hi fh) : PEM X Y (.Subscript e (.Slice lo hi none p2) pos) (mSl f fl fh) :=
  pe_weak (pe_slice sl_m he hl hh) fun σ H Q hq => by
    obtain ⟨F, ρ, S, q⟩ := hq
    refine ⟨F, ρ, S, (RunG.bind q).imp fun x ρ1 F1 H1 S1 k1 q1 v1 hv1 => ?_⟩
    obtain ⟨F1', S1', k1', hd1⟩ := S1.hold hv1
    refine ⟨F1', ρ1, S1', (RunG.bind (q1.rebase k1')).imp fun l ρ2 F2 H2 S2 k2 q2 => ?_⟩
    refine ⟨F2, ρ2, S2, (RunG.bind q2).imp fun h ρ3 F3 H3 S3 k3 q3 => ?_⟩
    cases e1 : peek x.1 x.2 ρ3 with
    | none => rw [e1] at q3; exact q3.elim
    | some u =>
      rw [e1] at q3
      obtain ⟨⟨m, z⟩, ez, qz⟩ := lift_ok q3
      exact g_sl ez S3.f2 (S3.peek hd1 (k2.trans k3) e1) fun F' H' v ee hn => qz F' H' (S3.grow ee) ee.keeps v (S3.newR ee hn)
/-! ### methods of an own list -/
/-- x.append(e) -/
def mAppend (i : Nat) (I : List Nat) (fe : Rho → R (Md × W)) : Rho → R (Md × W) := fun ρ => match ownAt ρ i with
  | some (.lst _) => (fe ρ).bind fun b ρ1 => (toVal I b ρ1).bind fun w ρ2 => match ownAt ρ2 i with
    | some (.lst l) => if l.length < sizeLine then .ok (.val, .non) (ρ2.set i (.own (.lst (l ++ [w])))) else .stk
    | _ => .stk
  | _ => .stk
theorem own_list {K : PySem.W.Frag} {B : Bd} {F : Fz} {H : Hp} {σ : L2.St} {ρ : Rho} (S : SR K B F H σ ρ) {i : Nat} {w : W} (h : ownAt ρ i = some w) : ∃ a, σ[i]? = some (some (.ref a)) ∧ OwnR K F H w a := by
  obtain ⟨a, e, o, _⟩ := S.slot i _ (ownAt_get h)
  exact ⟨a, e, o⟩
section
variable {X : Cx} {Y : Yx I} {e o : Expr} {pos apos : Pos} {fe : Rho → R (Md × W)} {i : Nat}
theorem pem_append (ho : PE X o (tVar i)) (he : PEM X Y e fe) (hbase : attributeBase o "append" X.env (eval o X.env) = eval o X.env := by rfl)
    (hfew : ((backTo pos (starEach (e :: []) X.env)).all (fun x => !x.1) && (backToKw pos (keywordEach [] X.env)).all (fun x => x.1.isSome) && decide ((e :: []).length + ([] : List Keyword).length + (if ([] : List Keyword).isEmpty then 0 else 1) < 30)) = true := by rfl)
    (hline : (apos.endLine == pos.line) = true := by rfl) (hs : starEach (e :: []) X.env = (false, eval e X.env) :: starEach [] X.env := by rfl) (hplain : (backTo pos (starEach [] X.env)).any (·.1) = false := by rfl) :
    PEM X Y (.Call (.Attribute o "append" apos) [e] [] pos) (mAppend i I fe) :=
  pe_weak (pe_bm PySem.F.plainAttrs_list PySem.F.slot_list_append PySem.F.type_list_append mt_append ho (pa_cons (te := tM X.K Y fe) he pa_nil hs) hbase hfew hline hs hplain) fun σ H Q hq => by
    obtain ⟨F, ρ, S, q⟩ := hq
    unfold mAppend at q
    cases e0 : ownAt ρ i with
    | none => rw [e0] at q; exact q.elim
    | some w0 =>
      rw [e0] at q
      obtain ⟨a, ea, ow⟩ := own_list S e0
      have ty : ∀ {ρ2 F2 H2 w}, SR X.K Y.B F2 H2 σ ρ2 → ownAt ρ2 i = some (.lst w) → ∃ vs, H2 a = some (.lst vs) ∧ RepL X.K F2 H2 w vs := fun {ρ2 F2 H2 w} S2 e2 => by
        obtain ⟨b, eb, ob⟩ := own_list S2 e2
        rw [ea] at eb
        cases eb
        exact ob
      refine ⟨.ref a, ea, ?_, ?_⟩
      · cases w0 with
        | lst l => obtain ⟨vs, h1, _⟩ := ow; exact .inl ⟨rfl, vs, .of h1⟩
        | dK ks l => exact q.elim
        | obj c ns l => exact q.elim
        | _ => exact ow.elim
      · have q : RunG X.K Y F H σ ((fe ρ).bind fun b ρ1 => (toVal I b ρ1).bind fun w ρ2 => match ownAt ρ2 i with
          | some (.lst l) => if l.length < sizeLine then .ok (.val, .non) (ρ2.set i (.own (.lst (l ++ [w])))) else .stk
          | _ => .stk) fun b ρ' F' H' => ∀ v, VR X.K Y.B F' H' σ ρ' b.1 b.2 v → Q v H' := by
          cases w0 with
          | lst l => exact q
          | dK ks l => exact q.elim
          | obj c ns l => exact q.elim
          | _ => exact ow.elim
        refine ⟨F, ρ, S, (RunG.bind q).imp fun b ρ1 F1 H1 S1 k1 q1 v hv => ?_⟩
        obtain ⟨F2, w, ρ2, S2, k2, r, q2⟩ := S1.toVal hv (RunG.bind q1)
        cases e2 : ownAt ρ2 i with
        | none => rw [e2] at q2; exact q2.elim
        | some u =>
          rw [e2] at q2
          cases u with
          | lst l =>
            dsimp only at q2
            split at q2
            · rename_i hl
              obtain ⟨vs, h1, r1⟩ := ty S2 e2
              refine ⟨a, vs, v, rfl, rfl, h1, by rw [← r1.len]; exact hl, ?_⟩
              have ka : Keeps F2 H1 F2 (upd H1 a (.lst (vs ++ [v]))) := by
                obtain ⟨b, eb, ob, nf, nk⟩ := S2.slot i _ (ownAt_get e2)
                rw [ea] at eb
                cases eb
                exact ⟨fun _ h => h, fun x o ho c => by
                  have nx : x ≠ a := fun z => by
                    subst z
                    rcases c with c | c
                    · exact nf c
                    · rw [h1] at ho; cases ho; exact c trivial
                  rw [upd_ne nx]
                  exact ho⟩
              obtain ⟨S3, k3⟩ := S2.put (w' := .lst (l ++ [w])) (o := .lst (vs ++ [v])) (ownAt_get e2) ea trivial ⟨vs ++ [v], upd_same, (RepL.mono ka _ r1).append (.cons (r.mono ka) .nil)⟩
              exact q2 F2 _ S3 k3 .non rfl
            · exact q2.elim
          | _ => exact q2.elim
end
end ML

set_option maxHeartbeats 4000000
namespace ML
open PySem PySem.Spec PyProof.Rows L2
variable {I : List Nat}
section
variable {K : PySem.W.Frag} {B : Bd} {F : Fz} {H : Hp} {σ : L2.St} {ρ : Rho}
/-- an own list's items are changed -/
theorem SR.putL (S : SR K B F H σ ρ) {i : Nat} {w : W} {a : Addr} {l' : List W} {vs' : List V} (h : ownAt ρ i = some w) (e : σ[i]? = some (some (.ref a))) (r : RepL K F H l' vs') :
    SR K B F (upd H a (.lst vs')) σ (ρ.set i (.own (.lst l'))) ∧ Keeps F H F (upd H a (.lst vs')) := by
  obtain ⟨b, eb, ob, nf, nk⟩ := S.slot i _ (ownAt_get h)
  rw [e] at eb
  cases eb
  obtain ⟨u, hu, mu⟩ := ob.some
  have ka : Keeps F H F (upd H a (.lst vs')) := ⟨fun _ h => h, fun x o ho c => by
    have nx : x ≠ a := fun z => by
      subst z
      rcases c with c | c
      · exact nf c
      · rw [hu] at ho; cases ho; exact c mu
    rw [upd_ne nx]
    exact ho⟩
  exact S.put (w' := .lst l') (o := .lst vs') (ownAt_get h) e trivial ⟨vs', upd_same, r.mono ka⟩
theorem own_lst (S : SR K B F H σ ρ) {i : Nat} {l : List W} (h : ownAt ρ i = some (.lst l)) : ∃ a vs, σ[i]? = some (some (.ref a)) ∧ H a = some (.lst vs) ∧ RepL K F H l vs := by
  obtain ⟨a, e, vs, h1, h2⟩ := own_list S h
  exact ⟨a, vs, e, h1, h2⟩
end
/-! ### x.pop(), x.pop(k) -/
def mPop (i : Nat) : Rho → R (Md × W) := fun ρ => match ownAt ρ i with
  | some (.lst l) => (match l[l.length - 1]? with
    | some w => .ok (.val, w) (ρ.set i (.own (.lst l.dropLast)))
    | none => .stk)
  | _ => .stk
theorem RepL.dropLast {K : PySem.W.Frag} {F : Fz} {H : Hp} {l : List W} {vs : List V} (r : RepL K F H l vs) : RepL K F H l.dropLast vs.dropLast := by
  rw [List.dropLast_eq_take, List.dropLast_eq_take, r.len]
  exact r.take _
theorem RepL.erase {K : PySem.W.Frag} {F : Fz} {H : Hp} : ∀ {l : List W} {vs : List V} (k : Nat), RepL K F H l vs → RepL K F H (l.eraseIdx k) (vs.eraseIdx k)
  | [], _, _, h => by cases h; rfl
  | w :: l, _, 0, ⟨v, r, e, _, h2⟩ => by rw [e]; exact h2
  | w :: l, _, k + 1, ⟨v, r, e, h1, h2⟩ => by rw [e]; exact ⟨v, _, rfl, h1, RepL.erase k h2⟩
section
variable {X : Cx} {Y : Yx I} {e o : Expr} {pos apos : Pos} {fe : Rho → R (Md × W)} {i : Nat}
theorem pem_pop (ho : PE X o (tVar i)) (hbase : attributeBase o "pop" X.env (eval o X.env) = eval o X.env := by rfl) (hline : (apos.endLine == pos.line) = true := by rfl) :
    PEM X Y (.Call (.Attribute o "pop" apos) [] [] pos) (mPop i) :=
  pe_weak (pe_bm0 PySem.F.plainAttrs_list PySem.F.slot_list_pop PySem.F.type_list_pop mt_pop ho hbase hline) fun σ H Q hq => by
    obtain ⟨F, ρ, S, q⟩ := hq
    unfold mPop at q
    split at q
    · rename_i l e0
      obtain ⟨a, vs, ea, h1, r⟩ := own_lst S e0
      split at q
      · rename_i w ew
        obtain ⟨v, ev, rv⟩ := r.get ew
        rw [r.len] at ev
        obtain ⟨S2, k2⟩ := S.putL e0 ea r.dropLast
        exact ⟨.ref a, ea, .inl ⟨rfl, vs, .of h1⟩, a, vs, v, rfl, rfl, h1, ev, q F _ S2 k2 v (rv.mono k2)⟩
      · exact q.elim
    · exact q.elim
/-- x.pop(k), k a written place -/
def mPopAt (i : Nat) (k : Int) : Rho → R (Md × W) := fun ρ => match ownAt ρ i with
  | some (.lst l) => (match seqIndex? k l.length with
    | some j => (match l[j]? with
      | some w => if -(2 ^ 63) ≤ k ∧ k < 2 ^ 63 then .ok (.val, w) (ρ.set i (.own (.lst (l.eraseIdx j)))) else .stk
      | none => .stk)
    | none => .stk)
  | _ => .stk
theorem pem_popAt {k : Int} {jj : Nat} {kp : Pos} (ho : PE X o (tVar i)) (hbase : attributeBase o "pop" X.env (eval o X.env) = eval o X.env := by rfl)
    (hfew : ((backTo pos (starEach ((.Constant (.int k) jj kp) :: []) X.env)).all (fun x => !x.1) && (backToKw pos (keywordEach [] X.env)).all (fun x => x.1.isSome) && decide (((.Constant (.int k) jj kp : Expr) :: []).length + ([] : List Keyword).length + (if ([] : List Keyword).isEmpty then 0 else 1) < 30)) = true := by rfl)
    (hline : (apos.endLine == pos.line) = true := by rfl) (hs : starEach ((.Constant (.int k) jj kp) :: []) X.env = (false, eval (.Constant (.int k) jj kp) X.env) :: starEach [] X.env := by rfl) (hplain : (backTo pos (starEach [] X.env)).any (·.1) = false := by rfl) :
    PEM X Y (.Call (.Attribute o "pop" apos) [.Constant (.int k) jj kp] [] pos) (mPopAt i k) :=
  pe_weak (pe_bm PySem.F.plainAttrs_list PySem.F.slot_list_pop PySem.F.type_list_pop mt_popAt ho (pa_cons pe_int pa_nil hs) hbase hfew hline hs hplain) fun σ H Q hq => by
    obtain ⟨F, ρ, S, q⟩ := hq
    unfold mPopAt at q
    split at q
    · rename_i l e0
      obtain ⟨a, vs, ea, h1, r⟩ := own_lst S e0
      split at q
      · rename_i j ej
        split at q
        · rename_i w ew
          split at q
          · rename_i hk
            obtain ⟨v, ev, rv⟩ := r.get ew
            rw [r.len] at ej
            obtain ⟨S2, k2⟩ := S.putL e0 ea (r.erase j)
            exact ⟨.ref a, ea, .inl ⟨rfl, vs, .of h1⟩, a, vs, k, j, v, rfl, rfl, h1, hk.1, hk.2, ej, ev, q F _ S2 k2 v (rv.mono k2)⟩
          · exact q.elim
        · exact q.elim
      · exact q.elim
    · exact q.elim
/-- x[k] = e, x an own list -/
def mStoreAt (i : Nat) (I : List Nat) (fk fe : Rho → R (Md × W)) : Rho → R Fl := fun ρ => (fe ρ).bind fun b ρ1 => (toVal I b ρ1).bind fun w ρ2 => match ownAt ρ2 i with
  | some (.lst _) => (fk ρ2).bind fun kb ρ3 => (match kb.1, kb.2, ownAt ρ3 i with
    | .val, .int k, some (.lst l) => (match ixN l.length k with
      | some j => .ok .nx (ρ3.set i (.own (.lst (l.set j w))))
      | none => .stk)
    | _, _, _ => .stk)
  | _ => .stk
theorem psm_storeAt {st : Stmt} {fk : Rho → R (Md × W)} (h : PS X st (tAsg (tM X.K Y fe) (L2.gSub (tVar i) (tM X.K Y fk) rSetL))) : PSM X Y st (mStoreAt i I fk fe) := ps_weak h fun D σ H hq => by
  obtain ⟨F, ρ, S, q⟩ := hq
  refine ⟨F, ρ, S, (RunS.bindE q).imp fun b ρ1 F1 H1 S1 k1 q1 v hv => ?_⟩
  obtain ⟨F2, w, ρ2, S2, k2, r, q2⟩ := S1.toVal hv (RunS.bindE (σ := σ) q1)
  split at q2
  · rename_i l0 e0
    obtain ⟨a, vs0, ea, h1, r1⟩ := own_lst S2 e0
    refine ⟨.ref a, ea, F2, ρ2, S2, (RunS.bindE (σ := σ) q2).imp fun kb ρ3 F3 H3 S3 k3 q3 kv hkv => ?_⟩
    obtain ⟨km, kw⟩ := kb
    dsimp only at q3
    split at q3
    · rename_i k l ek
      split at q3
      · rename_i j ej
        obtain ⟨b, vs, eb, h2, r2⟩ := own_lst S3 ek
        rw [ea] at eb
        cases eb
        cases (show kv = .int k from hkv)
        obtain ⟨S4, k4⟩ := S3.putL ek ea (r2.set j (r.mono k3))
        exact ⟨a, vs, k, j, rfl, rfl, h2, by rw [← r2.len]; exact ej, q3 F3 _ σ S4 k4⟩
      · exact q3.elim
    · exact q3.elim
  · exact q2.elim
/-! ### x += e of ints -/
def mAugI (f : Int → Int → Int) (i : Nat) (I : List Nat) (fe : Rho → R (Md × W)) : Rho → R Fl := fun ρ => match ρ[i]? with
  | some (.val (.int x)) => (fe ρ).bind fun b ρ1 => (match b.1, b.2 with
    | .val, .int y => if i ∈ I then .stk else .ok .nx (ρ1.set i (.val (.int (f x y))))
    | _, _ => .stk)
  | _ => .stk
theorem psm_augI {st : Stmt} {f : Int → Int → Int} (h : PS X st (tAug i (tM X.K Y fe) (ipI f))) : PSM X Y st (mAugI f i I fe) := ps_weak h fun D σ H hq => by
  obtain ⟨F, ρ, S, q⟩ := hq
  unfold mAugI at q
  split at q
  · rename_i x ex
    obtain ⟨v, ev, rv⟩ := S.slot i _ ex
    cases rv
    refine ⟨_, ev, F, ρ, S, (RunS.bindE (σ := σ) q).imp fun b ρ1 F1 H1 S1 k1 q1 v hv => ?_⟩
    obtain ⟨m, w⟩ := b
    dsimp only at q1
    split at q1
    · split at q1
      · exact q1.elim
      · rename_i y n
        cases (show v = .int y from hv)
        exact ⟨x, y, rfl, rfl, q1 F1 H1 _ (S1.setVal (Y.un n) (w := .int (f x y)) rfl) .refl⟩
    · exact q1.elim
  · exact q.elim
end
/-! ### ranges, backwards -/
theorem it_ints {K : PySem.W.Frag} {F : Fz} {H : Hp} {J : It} {n : Nat} {f : Nat → Int} (hg : ∀ i H, i < n → J.go i H) (hy : ∀ i H x H', J.yld i H x H' → H' = H ∧ x = .int (f i)) (hs : ∀ i H, n ≤ i → J.stop i H) :
    ItR K J F H ((List.range n).map fun i => .int (f i)) := by
  intro F' H' k t i
  refine ⟨fun w ew => ?_, fun h => hs i H' (by rw [List.length_map, List.length_range] at h; exact h)⟩
  rw [List.getElem?_map] at ew
  obtain ⟨j, ej, e⟩ := Option.map_eq_some_iff.mp ew
  have lt := (List.getElem?_eq_some_iff.mp ej).1
  rw [List.length_range] at lt
  rw [List.getElem?_range lt] at ej
  cases ej
  refine ⟨hg i H' lt, fun x H'' y => ?_⟩
  obtain ⟨e1, e2⟩ := hy i H' x H'' y
  rw [e1, e2, ← e]
  exact ⟨F', .refl t, rfl⟩
def intsW (lo : Int) (n : Nat) : List W := (List.range n).map fun i => .int (lo + (i : Nat))
def okR (i : Int) : Bool := decide (-(2 ^ 62) ≤ i) && decide (i < 2 ^ 62)
theorem okR_is {i : Int} (h : okR i = true) : -(2 ^ 62) ≤ i ∧ i < 2 ^ 62 := by
  have h' : (decide (-(2 ^ 62) ≤ i) && decide (i < 2 ^ 62)) = true := h
  rw [Bool.and_eq_true_iff] at h'
  exact ⟨of_decide_eq_true h'.1, of_decide_eq_true h'.2⟩
def mRange1 (fs : List (Rho → R (Md × W))) : Rho → R (List W) := fun ρ => (mHold fs ρ).bind fun bs ρ1 => match bs with
  | [(.val, .int j)] => if okR j then .ok (intsW 0 j.toNat) ρ1 else .stk
  | _ => .stk
def mRange2 (fs : List (Rho → R (Md × W))) : Rho → R (List W) := fun ρ => (mHold fs ρ).bind fun bs ρ1 => match bs with
  | [(.val, .int i), (.val, .int j)] => if okR i && okR j then .ok (intsW i (j - i).toNat) ρ1 else .stk
  | _ => .stk
section
variable {X : Cx} {Y : Yx I} {tg a b e : Expr} {fs : List (Rho → R (Md × W))} {fe fa fb : Rho → R (Md × W)} {p pos p2 pos2 : Pos}
theorem pim_range1 (hg : Gl X "range") (hm : X.mg "range" = none) (ha : PAM X Y [a] fs) (hs : starEach [a] X.env = [(false, eval a X.env)] := by rfl) : PIM X Y tg (.Call (.Name "range" p) [a] [] pos) (mRange1 fs) := pi_weak (pi_range1 hg hm ha hs) fun σ H Q hq => by
  obtain ⟨F, ρ, S, q⟩ := hq
  refine ⟨F, ρ, S, (RunG.bind q).imp fun bs ρ1 F1 H1 S1 k1 q1 F2 vs S2 k2 hvs => ?_⟩
  split at q1
  · split at q1
    · rename_i j hj
      obtain ⟨v, r, rfl, h1, h2⟩ := hvs
      cases (show v = .int j from h1)
      cases (show r = [] from h2)
      obtain ⟨o1, o2⟩ := okR_is hj
      exact ⟨j, rfl, o1, o2, q1 F2 H1 S2 k2 _ (it_ints (fun _ _ h => h) (fun _ _ _ _ h => h) fun _ _ h => h)⟩
    · exact q1.elim
  · exact q1.elim
theorem pim_range2 (hg : Gl X "range") (hm : X.mg "range" = none) (ha : PAM X Y [a, b] fs) (hs : starEach [a, b] X.env = [(false, eval a X.env), (false, eval b X.env)] := by rfl) (hs2 : starEach [b] X.env = [(false, eval b X.env)] := by rfl) : PIM X Y tg (.Call (.Name "range" p) [a, b] [] pos) (mRange2 fs) :=
  pi_weak (pi_range2 hg hm ha hs hs2) fun σ H Q hq => by
    obtain ⟨F, ρ, S, q⟩ := hq
    refine ⟨F, ρ, S, (RunG.bind q).imp fun bs ρ1 F1 H1 S1 k1 q1 F2 vs S2 k2 hvs => ?_⟩
    split at q1
    · split at q1
      · rename_i i j hj
        rw [Bool.and_eq_true_iff] at hj
        obtain ⟨v, r, rfl, h1, u, r2, rfl, h3, h4⟩ := hvs
        cases (show v = .int i from h1)
        cases (show u = .int j from h3)
        cases (show r2 = [] from h4)
        exact ⟨i, j, rfl, ⟨(okR_is hj.1).1, (okR_is hj.1).2, (okR_is hj.2).1, (okR_is hj.2).2⟩, q1 F2 H1 S2 k2 _ (it_ints (fun _ _ h => h) (fun _ _ _ _ h => h) fun _ _ h => h)⟩
      · exact q1.elim
    · exact q1.elim
/-- reversed(x) of a list, a tuple -/
def mRev (I : List Nat) (f : Rho → R (Md × W)) : Rho → R (List W) := fun ρ => (f ρ).bind fun b ρ1 => (toVal I b ρ1).bind fun w ρ2 => lift ((itemsW w).map List.reverse) ρ2
theorem pim_rev (hg : Gl X "reversed") (hm : X.mg "reversed" = none) (he : PEM X Y e fe) (hs : starEach [e] X.env = (false, eval e X.env) :: starEach [] X.env := by rfl) : PIM X Y tg (.Call (.Name "reversed" p) [e] [] pos) (mRev I fe) := pi_weak (RT.pi_revA hg hm he hs) fun σ H Q hq => by
  obtain ⟨F, ρ, S, q⟩ := hq
  refine ⟨F, ρ, S, (RunG.bind q).imp fun b ρ1 F1 H1 S1 k1 q1 v hv => ?_⟩
  obtain ⟨F2, w, ρ2, S2, k2, r, q2⟩ := S1.toVal hv (RunG.bind q1)
  obtain ⟨ws, ew, q3⟩ := lift_ok q2
  obtain ⟨l, el, rfl⟩ := Option.map_eq_some_iff.mp ew
  have q4 := q3 F2 H1 S2 .refl
  have rev : ∀ {l : List W} {vs : List V} {i : Nat} {w : W}, l.length = vs.length → l.reverse[i]? = some w → i < vs.length ∧ l[vs.length - 1 - i]? = some w := fun {l vs i w} el ew => by
    have lt := (List.getElem?_eq_some_iff.mp ew).1
    rw [List.length_reverse] at lt
    rw [List.getElem?_reverse lt, el] at ew
    exact ⟨by omega, ew⟩
  cases w with
  | tup l' =>
    cases el
    obtain ⟨a, vs, rfl, hs, rl⟩ := r
    refine ⟨a, vs, rfl, .inr ⟨hs.seq, q4 _ fun F' H' k t i => ⟨fun w ew => ?_, fun h => by rw [List.length_reverse, rl.len] at h; exact h⟩⟩⟩
    obtain ⟨lt, eg⟩ := rev rl.len ew
    obtain ⟨v, ev, rv⟩ := rl.get eg
    refine ⟨⟨lt, vs, v, (k.sqU hs).seq, ev⟩, ?_⟩
    rintro x H'' ⟨rfl, y⟩
    have e := y vs (k.sqU hs).seq
    rw [ev] at e
    cases e
    exact ⟨F', .refl t, rv.mono k⟩
  | lst l' =>
    cases el
    obtain ⟨a, vs, rfl, fa, hs, rl⟩ := r
    refine ⟨a, vs, rfl, .inl ⟨.of hs, q4 _ fun F' H' k t i => ⟨fun w ew => ?_, fun h => by rw [List.length_reverse, rl.len] at h; exact h⟩⟩⟩
    obtain ⟨lt, eg⟩ := rev rl.len ew
    obtain ⟨v, ev, rv⟩ := rl.get eg
    have hs' : SqL X.K H' a vs := .of (k.h a _ hs (.inl fa))
    refine ⟨⟨lt, vs, v, hs', ev⟩, ?_⟩
    rintro x H'' ⟨rfl, y⟩
    have e := y vs hs'
    rw [ev] at e
    cases e
    exact ⟨F', .refl t, rv.mono k⟩
  | frl l' =>
    cases el
    obtain ⟨a, vs, rfl, hs, rl⟩ := r
    refine ⟨a, vs, rfl, .inl ⟨hs.seq, q4 _ fun F' H' k t i => ⟨fun w ew => ?_, fun h => by rw [List.length_reverse, rl.len] at h; exact h⟩⟩⟩
    obtain ⟨lt, eg⟩ := rev rl.len ew
    obtain ⟨v, ev, rv⟩ := rl.get eg
    have hs' : SqL X.K H' a vs := (k.frl hs).seq
    refine ⟨⟨lt, vs, v, hs', ev⟩, ?_⟩
    rintro x H'' ⟨rfl, y⟩
    have e := y vs hs'
    rw [ev] at e
    cases e
    exact ⟨F', .refl t, rv.mono k⟩
  | _ => cases el
/-! ### texts -/
def strsW : List W → Option (List Str)
  | [] => some []
  | .str s :: l => (strsW l).map (s :: ·)
  | _ => none
/-- x.join(l) -/
def gJoin : GW := fun x y => match x, itemsW y with
  | .str a, some l => (strsW l).bind fun ys => if (ys.map (·.length)).sum + ys.length * a.length ≤ 16777216 then some (.val, .str (Txt.join a ys)) else none
  | _, _ => none
theorem strs_rep {K : PySem.W.Frag} {F : Fz} {H : Hp} : ∀ {l : List W} {vs : List V} {ys : List Str}, RepL K F H l vs → strsW l = some ys → vs = ys.map V.str
  | [], _, _, r, e => by cases e; exact r
  | w :: l, _, ys, ⟨v, r, e0, h1, h2⟩, e => by
    cases w with
    | str s =>
      obtain ⟨zs, ez, rfl⟩ := Option.map_eq_some_iff.mp (show (strsW l).map _ = some ys from e)
      cases h1
      rw [e0, strs_rep h2 ez]
      rfl
    | _ => cases e
def mJoin (fx fl : Rho → R (Md × W)) : Rho → R (Md × W) := fun ρ => (fx ρ).bind fun x ρ1 => match x.1, x.2 with
  | .val, .str a => (mHold [fl] ρ1).bind fun bs ρ2 => (match peekL bs ρ2 with
    | some [y] => lift (gJoin (.str a) y) ρ2
    | _ => .stk)
  | _, _ => .stk
theorem pem_join {o : Expr} {apos : Pos} {fx : Rho → R (Md × W)} (ho : PEM X Y o fx) (he : PEM X Y e fe) (hbase : attributeBase o "join" X.env (eval o X.env) = eval o X.env := by rfl)
    (hfew : ((backTo pos (starEach (e :: []) X.env)).all (fun x => !x.1) && (backToKw pos (keywordEach [] X.env)).all (fun x => x.1.isSome) && decide ((e :: []).length + ([] : List Keyword).length + (if ([] : List Keyword).isEmpty then 0 else 1) < 30)) = true := by rfl)
    (hline : (apos.endLine == pos.line) = true := by rfl) (hs : starEach (e :: []) X.env = (false, eval e X.env) :: starEach [] X.env := by rfl) (hplain : (backTo pos (starEach [] X.env)).any (·.1) = false := by rfl) :
    PEM X Y (.Call (.Attribute o "join" apos) [e] [] pos) (mJoin fx fe) :=
  pe_weak (pe_bm PySem.F.plainAttrs_str PySem.F.slot_str_join PySem.F.type_str_join mt_join ho (pam_cons he pam_nil hs) hbase hfew hline hs hplain) fun σ H Q hq => by
    obtain ⟨F, ρ, S, q⟩ := hq
    refine ⟨F, ρ, S, (RunG.bind q).imp fun x ρ1 F1 H1 S1 k1 q1 v hv => ?_⟩
    obtain ⟨m, w⟩ := x
    dsimp only at q1
    split at q1
    · rename_i a
      cases (show v = .str a from hv)
      refine ⟨rfl, F1, ρ1, S1, (RunG.bind q1).imp fun bs ρ2 F2 H2 S2 k2 q2 F3 vs S3 k3 hvs => ?_⟩
      have q3 := q2.rebase k3
      split at q3
      · rename_i y ey
        obtain ⟨⟨m, z⟩, ez, qz⟩ := lift_ok q3
        obtain ⟨u, rfl, hu⟩ := PkL.one (S3.peekL hvs ey)
        unfold gJoin at ez
        split at ez
        · rename_i l ea el
          cases ea
          obtain ⟨ys, eys, e1⟩ := Option.bind_eq_some_iff.mp ez
          split at e1
          · rename_i hz
            cases e1
            obtain ⟨b, us, rfl, hs, r⟩ := hu.seq el
            have e2 := strs_rep r eys
            rw [e2] at hs
            exact ⟨_, b, ys, rfl, rfl, hs, hz, old_val S3.f2 (K := X.K) (z := .str _) rfl fun F' H' v ee hn => qz F' H' (S3.grow ee) ee.keeps v (S3.newR ee hn)⟩
          · cases e1
        · cases ez
      · exact q3.elim
    · exact q1.elim
/-! ### a def without arguments, a statement that is never reached, a try that runs through -/
theorem pem_call0 {k : Nat} {f : Addr} {fd : FuncData} {ps : List Str} {fm : List W → FR} {x : Str} (F : FnOk X.prog X.w X.K X.mg X.base (L2.CX X.prog X.w) k f fd ps (spM X.K Y.ct [] 0 fm)) (hr : Room k X.A) (hE : ∀ args, match fm args with
      | .exc _ _ _ _ => False
      | _ => True) (hg : Gl X x) (hm : X.mg x = some (.ref f)) (hk : PySem.W.keepIn X.K (.ref f) = true) (hb : Binds X.K fd ps []) (hdb : (x == ("__debug__" : Str)) = false := by decide) : PEM X Y (.Call (.Name x p) [] [] pos) (mCall I [] fm []) :=
  pe_weak (pe_call0 F hr hg hm hk hb .nil passL hdb) fun σ H Q hq => by
    have h1 := call_of (np := 0) rfl hq
    obtain ⟨F0, ρ, S, q⟩ := h1
    have q2 := q F0 H S .refl F0 [] S .refl rfl
    show spM X.K Y.ct [] 0 fm [] H Q E0
    obtain ⟨F1, args, a1, a2, a3, a4, a5⟩ := q2
    refine ⟨F1, args, a1, a2, a3, a4, ?_⟩
    have hx := hE args
    cases e : fm args with
    | ok fr w outs => rw [e] at a5; exact a5
    | exc c ns ws outs => rw [e] at hx; exact hx.elim
    | stk => rw [e] at a5; exact a5
def mStk {α : Type} : Rho → R α := fun _ => .stk
theorem psm_never {st : Stmt} : PSM X Y st mStk := ps_weak ps_never fun D σ H hq => by
  obtain ⟨F, ρ, S, q⟩ := hq
  exact q
theorem psms_never {st : List Stmt} : PSMs X Y st mStk := pss_weak pss_never fun D σ H hq => by
  obtain ⟨F, ρ, S, q⟩ := hq
  exact q
def mThru (g : Rho → R Fl) : Rho → R Fl := fun ρ => noExc (g ρ)
theorem psm_thru {body : List Stmt} {h0 : ExceptHandler} {hs : List ExceptHandler} {g : Rho → R Fl} (hb : ∀ Y' : Yx I, Y'.ct = Y.ct → (Y'.wx = fun _ _ _ _ => False) → PSMs X.nox Y' body g) : PSM X Y (.Try body (h0 :: hs) [] [] pos) (mThru g) :=
  ps_weak (ps_try_thru0 (hb ⟨Y.ct, Y.B, fun _ _ _ _ => False, Y.hI⟩ rfl rfl)) fun D σ H hq => by
    obtain ⟨F, ρ, S, q⟩ := hq
    refine ⟨F, ρ, S, ?_⟩
    unfold mThru at q
    cases e : g ρ with
    | ok fl ρ' => rw [e] at q; exact q
    | exc c ns ws ρ' => rw [e] at q; exact q.elim
    | stk => rw [e] at q; exact q
end
end ML

set_option maxHeartbeats 4000000
namespace ML
open PySem PySem.Spec PyProof.Rows L2
variable {I : List Nat}
/-! ### defs by names -/
/-- a def of the text, under its name -/
def Src (K : PySem.W.Frag) (mg : Str → Option Value) (x : Str) (st : Stmt) : Prop := ∃ fd, FunD K x x (defArgs st) (defBody st) (defScope st) [] [] (He.ga K x) fd ∧ mg x = some (.ref (He.ga K x))
/-- the def x keeps its mirror's promise, called with room k -/
def Def (P : Program) (w : World) (K : PySem.W.Frag) (mg : Str → Option Value) (base : Heap) (ct : Str → Addr) (k : Nat) (x : Str) (ps : List Str) (J : List Nat) (fm : List W → FR) : Prop :=
  ∃ f fd, mg x = some (.ref f) ∧ PySem.W.keepIn K (.ref f) = true ∧ Binds K fd ps [] ∧ FnOk P w K mg base (L2.CX P w) k f fd ps (spM K ct J ps.length fm) ∧ ∃ oc od osl, K.lookup f = some ⟨oc, od, .func fd, osl⟩
section
variable {P : Program} {w : World} {K : PySem.W.Frag} {mg : Str → Option Value} {base : Heap} {ct : Str → Addr} {j k : Nat} {x : Str} {ps : List Str} {J : List Nat} {fm : List W → FR}
theorem Def.mono (D : Def P w K mg base ct j x ps J fm) (h : j ≤ k) : Def P w K mg base ct k x ps J fm := by
  obtain ⟨f, fd, h1, h2, h3, h4, h5⟩ := D
  exact ⟨f, fd, h1, h2, h3, h4.mono h, h5⟩
theorem Def.congr {fm' : List W → FR} (D : Def P w K mg base ct k x ps J fm) (h : ∀ args, args.length = ps.length → fm' args = .stk ∨ fm' args = fm args) : Def P w K mg base ct k x ps J fm' := by
  obtain ⟨f, fd, h1, h2, h3, h4, h5⟩ := D
  refine ⟨f, fd, h1, h2, h3, h4.imp fun vs H Q E ⟨F, args, a1, a2, a3, a4, a5⟩ => ⟨F, args, a1, a2, a3, a4, ?_⟩, h5⟩
  rcases h args (by rw [a3.len, a1]) with e | e
  · rw [e] at a5; exact a5.elim
  · rw [e] at a5; exact a5
/-- from the text -/
theorem def_mk {st : Stmt} {N : List Str} {g : Rho → R Fl} (T : Src K mg x st) (S : FnScope N ps (defScope st)) (hn : ps.length ≤ N.length)
    (hbi : ∀ (kV doc pm : Value) (an : Option Addr) (cdv ct : Value) (us : List Value), us.length = ps.length → bindArgs (PySem.W.fnOf x x (defArgs st) (defBody st) (defScope st) .none kV doc pm an cdv ct) ⟨us, []⟩ = pure (ps.zip us))
    (hb : ∀ (f : Addr) (cdv : Value) (A : Around) (outer : List Env) (s : Shared) (H : Hp) (E : XK) (Y : Yx J), Room k (cxOf (L2.CX P w) P w K mg base N x (defScope st) f cdv A outer s H E).A → Y.ct = ct → Takes (cxOf (L2.CX P w) P w K mg base N x (defScope st) f cdv A outer s H E) Y.wx →
      PSMs (cxOf (L2.CX P w) P w K mg base N x (defScope st) f cdv A outer s H E) Y (defBody st) g) : Def P w K mg base ct (k + 1) x ps J (mFun J N.length g) := by
  obtain ⟨fd, F, hm⟩ := T
  obtain ⟨oc, od, dV, kV, doc, pm, an, cdv, ct, osl, _, lk, _⟩ := F.ex
  exact ⟨_, fd, hm, F.kp, F.bindsN hbi, fn_ok F S hn (fun _ _ => rfl) (hb _), oc, od, osl, lk⟩
end
section
variable {X : Cx} {Y : Yx I} {ct : Str → Addr} {k : Nat} {x : Str} {ps : List Str} {J : List Nat} {fm : List W → FR} {p pos : Pos} {e : Expr} {es : List Expr} {fs : List (Rho → R (Md × W))}
theorem pem_callD (D : Def X.prog X.w X.K X.mg X.base ct k x ps J fm) (hct : Y.ct = ct) (hr : Room k X.A) (tk : Takes X Y.wx) (hg : Gl X x) (ha : PAM X Y (e :: es) fs) (hn : fs.length = ps.length)
    (hdb : (x == ("__debug__" : Str)) = false := by decide) (he : starEach (e :: es) X.env = (false, eval e X.env) :: starEach es X.env := by rfl) (hpl : (backTo pos (starEach es X.env)).any (·.1) = false := by rfl) :
    PEM X Y (.Call (.Name x p) (e :: es) [] pos) (mCall I J fm fs) := by
  obtain ⟨f, fd, h1, h2, h3, h4, _⟩ := D
  subst hct
  exact pem_call h4 hr tk hg h1 h2 h3 ha hn hdb he hpl
theorem pem_callD0 (D : Def X.prog X.w X.K X.mg X.base ct k x [] [] fm) (hE : ∀ args, match fm args with
      | .exc _ _ _ _ => False
      | _ => True) (hct : Y.ct = ct) (hr : Room k X.A) (hg : Gl X x) (hdb : (x == ("__debug__" : Str)) = false := by decide) : PEM X Y (.Call (.Name x p) [] [] pos) (mCall I [] fm []) := by
  obtain ⟨f, fd, h1, h2, h3, h4, _⟩ := D
  subst hct
  exact pem_call0 h4 hr hE hg h1 h2 h3 hdb
theorem takesF (h : Y.wx = fun _ _ _ _ => False) : Takes X Y.wx := by
  rw [h]
  exact takes0
theorem hu200 {A : Around} (hr : Room k A) : A.units + 200 < cLine := by have := hr.un; omega
/-- a module's text or whole number, a module's tuple -/
theorem pem_gc {v : V} {w : W} (h : ∃ u, X.mg x = some u ∧ RelV v u) (hg : Gl X x) (r : ∀ F H, Rep X.K F H w v) (hdb : (x == ("__debug__" : Str)) = false := by decide) : PEM X Y (.Name x pos) (mC w) := by
  obtain ⟨u, h1, h2⟩ := h
  exact pem_glob hg h1 h2 r hdb
theorem pem_gt {ws : List W} {vs : List V} (h : ∃ a, X.mg x = some (.ref a) ∧ TupK X.K a vs ∧ RepL X.K (fun _ => False) (fun _ => none) ws vs) (hg : Gl X x) (hdb : (x == ("__debug__" : Str)) = false := by decide) : PEM X Y (.Name x pos) (mC (.tup ws)) := by
  obtain ⟨a, h1, h2, h3⟩ := h
  have k : ∀ F H, Keeps (fun _ => False) (fun _ => none) F H := fun F H => ⟨fun _ h => h.elim, fun _ _ h _ => by cases h⟩
  exact pem_glob (v := .ref a) hg h1 rfl (fun F H => ⟨a, vs, rfl, .inr h2, h3.mono (k F H)⟩) hdb
end
end ML

set_option maxHeartbeats 4000000
namespace ML
open PySem PySem.Spec PyProof.Rows L2
variable {I : List Nat}
/-! ### all, any -/
def boolsW : List W → Option (List Bool)
  | [] => some []
  | .bl b :: l => (boolsW l).map (b :: ·)
  | _ => none
theorem bools_rep {K : PySem.W.Frag} {F : Fz} {H : Hp} : ∀ {l : List W} {vs : List V} {ys : List Bool}, RepL K F H l vs → boolsW l = some ys → vs = ys.map V.bl
  | [], _, _, r, e => by cases e; exact r
  | w :: l, _, ys, ⟨v, r, e0, h1, h2⟩, e => by
    cases w with
    | bl s =>
      obtain ⟨zs, ez, rfl⟩ := Option.map_eq_some_iff.mp (show (boolsW l).map _ = some ys from e)
      cases h1
      rw [e0, bools_rep h2 ez]
      rfl
    | _ => cases e
def gAll : GC
  | [.lst l] => (boolsW l).map fun bs => (.val, .bl (bs.all id))
  | _ => none
def gAny : GC
  | [.lst l] => (boolsW l).map fun bs => (.val, .bl (bs.any id))
  | _ => none
theorem g_all {K : PySem.W.Frag} : CallW K (rAll K) gAll := by
  intro xs m z e F H vs Q t p q
  unfold gAll at e
  split at e
  · obtain ⟨bs, eb, e2⟩ := Option.map_eq_some_iff.mp e
    cases e2
    obtain ⟨v, rfl, h⟩ := p.one
    obtain ⟨a, us, rfl, hs, r⟩ := h.lst
    rw [bools_rep r eb] at hs
    exact ⟨a, bs, rfl, .of hs, old_val t (K := K) (z := .bl _) rfl q⟩
  · cases e
theorem g_any {K : PySem.W.Frag} : CallW K (rAny K) gAny := by
  intro xs m z e F H vs Q t p q
  unfold gAny at e
  split at e
  · obtain ⟨bs, eb, e2⟩ := Option.map_eq_some_iff.mp e
    cases e2
    obtain ⟨v, rfl, h⟩ := p.one
    obtain ⟨a, us, rfl, hs, r⟩ := h.lst
    rw [bools_rep r eb] at hs
    exact ⟨a, bs, rfl, .of hs, old_val t (K := K) (z := .bl _) rfl q⟩
  · cases e
/-! ### a dict of the text with text keys -/
structure DctK (K : PySem.W.Frag) (w : World) (d : Addr) (ks : List Str) (vs : List V) : Prop where
  at_ : ∃ es n, K.lookup d = some ⟨.type "dict", none, .dict es n, #[]⟩ ∧ es.toList.map He.keyOf = He.keysIn w.params ks ∧ Vals vs (es.toList.map (·.val)) ∧ (d == sysModules) = false
def lookS (z : Str) : List Str → List V → Option V
  | k :: ks, v :: vs => if k = z then some v else lookS z ks vs
  | _, _ => none
theorem find_lit {P : Params} {z : Str} : ∀ {l : List DictEntry} {ks : List Str} {vs : List V}, l.map He.keyOf = He.keysIn P ks → Vals vs (l.map (·.val)) →
    l.any (·.refKey) = false ∧ match lookS z ks vs with
      | some v => ∃ e, l.find? (·.key.isStr z) = some e ∧ RelV v e.val
      | none => l.find? (·.key.isStr z) = none
  | [], [], vs, _, r => by cases r; exact ⟨rfl, rfl⟩
  | [], k :: ks, _, h, _ => by cases h
  | e :: l, [], _, h, _ => by cases h
  | e :: l, k :: ks, vs, h, r => by
    cases r with
    | cons r1 r2 =>
      rename_i v vs'
      have h1 : He.keyOf e :: l.map He.keyOf = some (k, PyData.keyHash P k) :: He.keysIn P ks := h
      injection h1 with h2 h3
      obtain ⟨g1, g2⟩ := find_lit (z := z) h3 r2
      have hk : ∃ t, e.key = .str k t := by
        unfold He.keyOf at h2
        split at h2
        · rename_i x t q
          obtain ⟨h5, _⟩ := Prod.mk.inj (Option.some.inj h2)
          exact ⟨t, by rw [q, h5]⟩
        · cases h2
      obtain ⟨t, et⟩ := hk
      have is : e.key.isStr z = decide (k = z) := by
        rw [et]
        show (k == z) = decide (k = z)
        by_cases q : k = z
        · subst q; simp
        · rw [decide_eq_false q]; exact beq_eq_false_iff_ne.mpr q
      refine ⟨?_, ?_⟩
      · rw [List.any_cons, g1]
        have : e.refKey = false := by unfold DictEntry.refKey; rw [et]
        rw [this]
        rfl
      · unfold lookS
        by_cases q : k = z
        · rw [if_pos q]
          refine ⟨e, ?_, r1⟩
          rw [List.find?_cons, is, decide_eq_true q]
        · rw [if_neg q]
          have e2 : (e :: l).find? (·.key.isStr z) = l.find? (·.key.isStr z) := by rw [List.find?_cons, is, decide_eq_false q]
          rw [e2]
          exact g2
theorem DctK.at {K : PySem.W.Frag} {w : World} {d : Addr} {ks : List Str} {vs : List V} (D : DctK K w d ks vs) (z : Str) : match lookS z ks vs with
    | some v => KDct K w d z v
    | none => PySem.W.nsIn K d z = some none := by
  obtain ⟨es, n, h1, h2, h3, h4⟩ := D.at_
  obtain ⟨g1, g2⟩ := find_lit (z := z) h2 h3
  have lit := He.keysLit_of h2
  cases q : lookS z ks vs with
  | some v =>
    rw [q] at g2
    obtain ⟨e, e1, e2⟩ := g2
    refine ⟨es, n, e.val, h1, lit, ?_, e2⟩
    unfold PySem.W.nsIn
    rw [h1]
    show (match es.toList.find? (·.key.isStr z) with
      | some e => some (some e.val)
      | none => if es.toList.any (·.refKey) then none else some none) = _
    rw [e1]
  | none =>
    rw [q] at g2
    unfold PySem.W.nsIn
    rw [h1]
    show (match es.toList.find? (·.key.isStr z) with
      | some e => some (some e.val)
      | none => if es.toList.any (·.refKey) then none else some none) = _
    rw [g2, g1]
    rfl
def lookW (z : Str) : List Str → List W → Option W
  | k :: ks, v :: vs => if k = z then some v else lookW z ks vs
  | _, _ => none
theorem look_rep {K : PySem.W.Frag} {F : Fz} {H : Hp} {z : Str} : ∀ {ks : List Str} {ws : List W} {vs : List V}, RepL K F H ws vs → match lookW z ks ws with
    | some w => ∃ v, lookS z ks vs = some v ∧ Rep K F H w v
    | none => lookS z ks vs = none
  | [], _, _, _ => rfl
  | k :: ks, [], _, r => by cases r; rfl
  | k :: ks, w :: ws, _, ⟨v, r, e, h1, h2⟩ => by
    rw [e]
    unfold lookW lookS
    by_cases q : k = z
    · rw [if_pos q, if_pos q]
      exact ⟨v, rfl, h1⟩
    · rw [if_neg q, if_neg q]
      exact look_rep h2
/-- what a global dict is: its keys, its values -/
def GDctF (w : World) (K : PySem.W.Frag) (mg : Str → Option Value) (x : Str) (ks : List Str) (ws : List W) : Prop := ∃ d vs, mg x = some (.ref d) ∧ DctK K w d ks vs ∧ RepL K (fun _ => False) (fun _ => none) ws vs
abbrev GDct (X : Cx) (x : Str) (ks : List Str) (ws : List W) : Prop := GDctF X.w X.K X.mg x ks ws
def mInK (neg : Bool) (ks : List Str) (fa : Rho → R (Md × W)) : Rho → R (Md × W) := fun ρ => (fa ρ).bind fun b ρ1 => match b.1, b.2 with
  | .val, .str z => .ok (.val, .bl (if neg then !(ks.contains z) else ks.contains z)) ρ1
  | _, _ => .stk
def mIxK (ks : List Str) (ws : List W) (fa : Rho → R (Md × W)) : Rho → R (Md × W) := fun ρ => (fa ρ).bind fun b ρ1 => match b.1, b.2 with
  | .val, .str z => (match lookW z ks ws with
    | some w => .ok (.val, w) ρ1
    | none => .stk)
  | _, _ => .stk
theorem lookS_has {z : Str} : ∀ {ks : List Str} {vs : List V}, ks.length = vs.length → (lookS z ks vs).isSome = ks.contains z
  | [], [], _ => rfl
  | [], _ :: _, h => by cases h
  | k :: ks, [], h => by cases h
  | k :: ks, v :: vs, h => by
    unfold lookS
    have ih := lookS_has (z := z) (ks := ks) (vs := vs) (by simpa using h)
    rw [List.contains_cons]
    by_cases q : k = z
    · subst q
      rw [if_pos rfl]
      simp
    · rw [if_neg q, ih]
      have : (z == k) = false := beq_eq_false_iff_ne.mpr fun e => q e.symm
      rw [this, Bool.false_or]
section
variable {X : Cx} {Y : Yx I} {a : Expr} {x : Str} {ks : List Str} {ws : List W} {fa : Rho → R (Md × W)} {pos p : Pos}
theorem dct_len (D : GDct X x ks ws) : ks.length = ws.length := by
  obtain ⟨d, vs, _, ⟨es, n, _, h2, h3, _⟩, r⟩ := D
  have e1 : (es.toList.map He.keyOf).length = ks.length := by rw [h2]; unfold He.keysIn; rw [List.length_map]
  have e2 := h3.length
  rw [List.length_map] at e1 e2
  rw [r.len, e2, e1]
/-- x in D, x not in D -/
theorem pem_inK (D : GDct X x ks ws) (hg : Gl X x) (ha : PEM X Y a fa) (hdb : (x == ("__debug__" : Str)) = false := by decide) (hb : behindInMarks .In (.Name x p) = false := by rfl) : PEM X Y (.Compare a [.In] [.Name x p] pos) (mInK false ks fa) := by
  have hl := dct_len D
  obtain ⟨d, vs, h1, h2, h3⟩ := D
  obtain ⟨es, n, g1, g2, g3, g4⟩ := h2.at_
  have KD : KDict X.K X.w d es n := ⟨g1, He.keysLit_of g2, g4⟩
  refine pe_weak (pe_cmpR (op_in_kd KD) ha (pe_glob (v := .ref d) hg h1 rfl hdb) hb) fun σ H Q hq => ?_
  obtain ⟨F, ρ, S, q⟩ := hq
  refine ⟨F, ρ, S, (RunG.bind q).imp fun b ρ1 F1 H1 S1 k1 q1 v hv => ?_⟩
  obtain ⟨m, w⟩ := b
  dsimp only at q1
  split at q1
  · rename_i z
    cases (show v = .str z from hv)
    have D := h2.at z
    have hs := lookS_has (z := z) (ks := ks) (vs := vs) (by rw [hl, h3.len])
    cases e : lookS z ks vs with
    | some v =>
      rw [e] at D hs
      obtain ⟨es', n', u, _, _, e3, _⟩ := D
      refine ⟨z, _, rfl, rfl, e3, ?_⟩
      exact q1 F1 H1 S1 .refl _ (by show V.bl true = V.bl (ks.contains z); rw [← hs]; rfl)
    | none =>
      rw [e] at D hs
      refine ⟨z, _, rfl, rfl, D, ?_⟩
      exact q1 F1 H1 S1 .refl _ (by show V.bl false = V.bl (ks.contains z); rw [← hs]; rfl)
  · exact q1.elim
theorem pem_notInK (D : GDct X x ks ws) (hg : Gl X x) (ha : PEM X Y a fa) (hdb : (x == ("__debug__" : Str)) = false := by decide) (hb : behindInMarks .NotIn (.Name x p) = false := by rfl) : PEM X Y (.Compare a [.NotIn] [.Name x p] pos) (mInK true ks fa) := by
  have hl := dct_len D
  obtain ⟨d, vs, h1, h2, h3⟩ := D
  obtain ⟨es, n, g1, g2, g3, g4⟩ := h2.at_
  have KD : KDict X.K X.w d es n := ⟨g1, He.keysLit_of g2, g4⟩
  refine pe_weak (pe_cmpR (op_notIn_kd KD) ha (pe_glob (v := .ref d) hg h1 rfl hdb) hb) fun σ H Q hq => ?_
  obtain ⟨F, ρ, S, q⟩ := hq
  refine ⟨F, ρ, S, (RunG.bind q).imp fun b ρ1 F1 H1 S1 k1 q1 v hv => ?_⟩
  obtain ⟨m, w⟩ := b
  dsimp only at q1
  split at q1
  · rename_i z
    cases (show v = .str z from hv)
    have D := h2.at z
    have hs := lookS_has (z := z) (ks := ks) (vs := vs) (by rw [hl, h3.len])
    cases e : lookS z ks vs with
    | some v =>
      rw [e] at D hs
      obtain ⟨es', n', u, _, _, e3, _⟩ := D
      refine ⟨z, _, rfl, rfl, e3, ?_⟩
      exact q1 F1 H1 S1 .refl _ (by show V.bl false = V.bl (!(ks.contains z)); rw [← hs]; rfl)
    | none =>
      rw [e] at D hs
      refine ⟨z, _, rfl, rfl, D, ?_⟩
      exact q1 F1 H1 S1 .refl _ (by show V.bl true = V.bl (!(ks.contains z)); rw [← hs]; rfl)
  · exact q1.elim
/-- as a test -/
theorem ptm_inK (D : GDct X x ks ws) (hg : Gl X x) (ha : PEM X Y a fa) (hdb : (x == ("__debug__" : Str)) = false := by decide) (hb : behindInMarks .In (.Name x p) = false := by rfl) : PTM X Y (.Compare a [.In] [.Name x p] pos) (mTest (mInK false ks fa)) := by
  have hl := dct_len D
  obtain ⟨d, vs, h1, h2, h3⟩ := D
  obtain ⟨es, n, g1, g2, g3, g4⟩ := h2.at_
  have KD : KDict X.K X.w d es n := ⟨g1, He.keysLit_of g2, g4⟩
  refine pt_weak (pt_cmpR (op_in_kd KD) ha (pe_glob (v := .ref d) hg h1 rfl hdb) hb) fun σ H Q hq => ?_
  obtain ⟨F, ρ, S, q⟩ := test_of hq
  refine ⟨F, ρ, S, (RunG.bind q).imp fun b ρ1 F1 H1 S1 k1 q1 v hv => ?_⟩
  obtain ⟨m, w⟩ := b
  dsimp only at q1
  split at q1
  · rename_i z
    cases (show v = .str z from hv)
    have D := h2.at z
    have hs := lookS_has (z := z) (ks := ks) (vs := vs) (by rw [hl, h3.len])
    cases e : lookS z ks vs with
    | some v =>
      rw [e] at D hs
      obtain ⟨es', n', u, _, _, e3, _⟩ := D
      refine ⟨z, _, rfl, rfl, e3, ?_⟩
      exact q1 F1 H1 S1 .refl (.bl true) (by show V.bl true = V.bl (ks.contains z); rw [← hs]; rfl)
    | none =>
      rw [e] at D hs
      refine ⟨z, _, rfl, rfl, D, ?_⟩
      exact q1 F1 H1 S1 .refl (.bl false) (by show V.bl false = V.bl (ks.contains z); rw [← hs]; rfl)
  · exact q1.elim
theorem ptm_notInK (D : GDct X x ks ws) (hg : Gl X x) (ha : PEM X Y a fa) (hdb : (x == ("__debug__" : Str)) = false := by decide) (hb : behindInMarks .NotIn (.Name x p) = false := by rfl) : PTM X Y (.Compare a [.NotIn] [.Name x p] pos) (mTest (mInK true ks fa)) := by
  have hl := dct_len D
  obtain ⟨d, vs, h1, h2, h3⟩ := D
  obtain ⟨es, n, g1, g2, g3, g4⟩ := h2.at_
  have KD : KDict X.K X.w d es n := ⟨g1, He.keysLit_of g2, g4⟩
  refine pt_weak (pt_cmpR (op_notIn_kd KD) ha (pe_glob (v := .ref d) hg h1 rfl hdb) hb) fun σ H Q hq => ?_
  obtain ⟨F, ρ, S, q⟩ := test_of hq
  refine ⟨F, ρ, S, (RunG.bind q).imp fun b ρ1 F1 H1 S1 k1 q1 v hv => ?_⟩
  obtain ⟨m, w⟩ := b
  dsimp only at q1
  split at q1
  · rename_i z
    cases (show v = .str z from hv)
    have D := h2.at z
    have hs := lookS_has (z := z) (ks := ks) (vs := vs) (by rw [hl, h3.len])
    cases e : lookS z ks vs with
    | some v =>
      rw [e] at D hs
      obtain ⟨es', n', u, _, _, e3, _⟩ := D
      refine ⟨z, _, rfl, rfl, e3, ?_⟩
      exact q1 F1 H1 S1 .refl (.bl false) (by show V.bl false = V.bl (!(ks.contains z)); rw [← hs]; rfl)
    | none =>
      rw [e] at D hs
      refine ⟨z, _, rfl, rfl, D, ?_⟩
      exact q1 F1 H1 S1 .refl (.bl true) (by show V.bl true = V.bl (!(ks.contains z)); rw [← hs]; rfl)
  · exact q1.elim
/-- D[x] -/
theorem pem_ixK (D : GDct X x ks ws) (hg : Gl X x) (ha : PEM X Y a fa) (hs : PlainIx a := by exact fun _ _ => rfl) (hdb : (x == ("__debug__" : Str)) = false := by decide) : PEM X Y (.Subscript (.Name x p) a pos) (mIxK ks ws fa) := by
  obtain ⟨d, vs, h1, h2, h3⟩ := D
  refine pe_weak (pe_ix ix_kdict (pe_glob (v := .ref d) hg h1 rfl hdb) ha hs) fun σ H Q hq => ?_
  obtain ⟨F, ρ, S, q⟩ := hq
  refine ⟨F, ρ, S, (RunG.bind q).imp fun b ρ1 F1 H1 S1 k1 q1 v hv => ?_⟩
  obtain ⟨m, w⟩ := b
  dsimp only at q1
  split at q1
  · rename_i z
    cases (show v = .str z from hv)
    split at q1
    · rename_i w2 e
      have kk : Keeps (fun _ => False) (fun _ => none) F1 H1 := ⟨fun _ h => h.elim, fun _ _ h _ => by cases h⟩
      have L := look_rep (z := z) (ks := ks) (h3.mono kk)
      rw [e] at L
      obtain ⟨v2, e2, r2⟩ := L
      have D2 := h2.at z
      rw [e2] at D2
      exact ⟨d, z, v2, rfl, rfl, D2, q1 F1 H1 S1 .refl v2 r2⟩
    · exact q1.elim
  · exact q1.elim
end
/-! ### a local name that holds one of some defs -/
def mCallL (I : List Nat) (i : Nat) (cs : List (Str × (List W → FR))) (fs : List (Rho → R (Md × W))) : Rho → R (Md × W) := fun ρ => match ρ[i]? with
  | some (.val (.fn x)) => (match cs.lookup x with
    | some fm => mCall I [] fm fs ρ
    | none => .stk)
  | _ => .stk
/-- the defs that it may hold -/
def Cands (X : Cx) (ct : Str → Addr) (k : Nat) (ps : List Str) (cs : List (Str × (List W → FR))) : Prop := ∀ (x : Str) (fm : List W → FR), cs.lookup x = some fm → X.mg x = some (.ref (He.ga X.K x)) ∧ Def X.prog X.w X.K X.mg X.base ct k x ps [] fm
theorem cands_nil {X : Cx} {ct : Str → Addr} {k : Nat} {ps : List Str} : Cands X ct k ps [] := fun x fm e => by cases e
theorem cands_cons {X : Cx} {ct : Str → Addr} {k : Nat} {ps : List Str} {cs : List (Str × (List W → FR))} {y : Str} {st : Stmt} {gm : List W → FR} (T : Src X.K X.mg y st) (D : Def X.prog X.w X.K X.mg X.base ct k y ps [] gm) (C : Cands X ct k ps cs) : Cands X ct k ps ((y, gm) :: cs) := fun x fm e => by
  have e1 : (match x == y with
    | true => some gm
    | false => cs.lookup x) = some fm := e
  cases q : x == y with
  | true =>
    rw [q] at e1
    cases e1
    have := beq_iff_eq.mp q
    subst this
    obtain ⟨fd, _, hm⟩ := T
    exact ⟨hm, D⟩
  | false =>
    rw [q] at e1
    exact C x fm e1
section
variable {X : Cx} {Y : Yx I} {ct : Str → Addr} {k i np : Nat} {x : Str} {ps : List Str} {cs : List (Str × (List W → FR))} {p pos : Pos} {e : Expr} {es : List Expr} {fs : List (Rho → R (Md × W))}
theorem pem_callL (C : Cands X ct k ps cs) (hct : Y.ct = ct) (hr : Room k X.A) (tk : Takes X Y.wx) (hv : PE X (.Name x p) (tVar i)) (ha : PAM X Y (e :: es) fs) (hn : fs.length = ps.length)
    (he : starEach (e :: es) X.env = (false, eval e X.env) :: starEach es X.env := by rfl) (hpl : (backTo pos (starEach es X.env)).any (·.1) = false := by rfl) :
    PEM X Y (.Call (.Name x p) (e :: es) [] pos) (mCallL I i cs fs) := ⟨fun pins s σ H Q J hq => by
  obtain ⟨F, ρ, S, q⟩ := hq
  unfold mCallL at q
  split at q
  · rename_i y ey
    split at q
    · rename_i fm ef
      obtain ⟨hga, f, fd, h1, h2, h3, h4, _⟩ := C y fm ef
      rw [hga] at h1
      cases h1
      subst hct
      obtain ⟨v, ev, rv⟩ := S.slot i _ ey
      cases (show v = .ref (He.ga X.K y) from rv)
      refine wpAny_Call_Name_kw (thn (hv.run pins s σ H (fun u H2 => u = .ref (He.ga X.K y) ∧ H2 = H) J ⟨_, ev, rfl, rfl⟩) fun u s1 ⟨v1, H1, J1, r1, e1, e2⟩ => ?_)
      subst e1 e2
      cases r1
      have hw := call_of hn (Y := Y) (J := []) (fm := fm) (σ := σ) (Q := Q) ⟨F, ρ, S, q⟩
      refine PySem.W.callWith_K (h₀ := X.base) J1.ok.mod.kin h2 (thn (ha.run pos pins s1 σ _ _ J1 hw) fun us s2 ⟨vs, H2, J2, r2, q2⟩ => ⟨J2.kIn, ?_⟩) he hpl
      exact run_fnS h4 hr h3 (passAt tk σ) J2 r2 q2
    · exact q.elim
  · exact q.elim⟩
end
end ML

set_option maxHeartbeats 4000000
namespace ML
open PySem PySem.Spec PyProof.Rows L2 He
/-! ### the head's facts -/
def tupAtB (K : PySem.W.Frag) (p : PySem.W.Frag → Addr) (vs : List Dv) : Bool := match K.lookup (p K) with
  | some ⟨.type c, _, .seq its _, _⟩ => decide (c = "tuple") && (decide (its.size ≤ sizeLine) && relAll (vs.map (Dv.v K)) its.toList)
  | _ => false
theorem tupAtB_ok {K : PySem.W.Frag} {p : PySem.W.Frag → Addr} {vs : List Dv} (h : tupAtB K p vs = true) : TupK K (p K) (vs.map (Dv.v K)) := by
  unfold tupAtB at h
  split at h
  · rename_i oc od its n osl q
    obtain ⟨h1, h2⟩ := ba h
    obtain ⟨h3, h4⟩ := ba h2
    exact ⟨_, its, n, q, congrArg Value.type (of_decide_eq_true h1), rfl, of_decide_eq_true h3, relAll_ok h4⟩
  · cases h
def lstAtB (K : PySem.W.Frag) (p : PySem.W.Frag → Addr) (vs : List Dv) : Bool := match K.lookup (p K) with
  | some ⟨.type c, none, .seq its _, _⟩ => decide (c = "list") && (decide (its.size ≤ sizeLine) && relAll (vs.map (Dv.v K)) its.toList)
  | _ => false
theorem lstAtB_ok {K : PySem.W.Frag} {p : PySem.W.Frag → Addr} {vs : List Dv} (h : lstAtB K p vs = true) : LstK K (p K) (vs.map (Dv.v K)) := by
  unfold lstAtB at h
  split at h
  · rename_i oc its n osl q
    obtain ⟨h1, h2⟩ := ba h
    obtain ⟨h3, h4⟩ := ba h2
    exact ⟨_, its, n, q, congrArg Value.type (of_decide_eq_true h1), rfl, rfl, of_decide_eq_true h3, relAll_ok h4⟩
  · cases h
/-- the i-th value of the dict x, of the tuple at p -/
def dvAt (x : Str) (i : Nat) (K : PySem.W.Frag) : Addr := match K.lookup (ga K x) with
  | some ⟨_, _, .dict es _, _⟩ => (match es.toList[i]? with
    | some e => (match e.val with
      | .ref a => a
      | _ => 0)
    | none => 0)
  | _ => 0
def sqAt (p : PySem.W.Frag → Addr) (i : Nat) (K : PySem.W.Frag) : Addr := match K.lookup (p K) with
  | some ⟨_, _, .seq its _, _⟩ => (match its.toList[i]? with
    | some (.ref a) => a
    | _ => 0)
  | _ => 0
def gaP (x : Str) (K : PySem.W.Frag) : Addr := ga K x
def dctB (K : PySem.W.Frag) (x : Str) (vs : List Dv) : Bool := match K.lookup (ga K x) with
  | some ⟨.type c, none, .dict es n, sl⟩ => decide (c = "dict") && (sl.isEmpty && (!(ga K x == sysModules) && relAll (vs.map (Dv.v K)) (es.toList.map (·.val))))
  | _ => false
theorem dctK_ok {K : PySem.W.Frag} {w : World} {x : Str} {vs : List Dv} {ks : List Str} (h : dctB K x vs = true) (hk : dicW K (ga K x) = some (keysIn w.params ks)) : DctK K w (ga K x) ks (vs.map (Dv.v K)) := by
  unfold dctB at h
  split at h
  · rename_i c es n sl q
    obtain ⟨h1, h2⟩ := ba h
    obtain ⟨h3, h4⟩ := ba h2
    obtain ⟨h5, h6⟩ := ba h4
    have e1 : c = "dict" := of_decide_eq_true h1
    have e2 : sl = #[] := Array.isEmpty_iff.mp h3
    have e5 : (ga K x == sysModules) = false := by
      cases z : (ga K x == sysModules) with
      | false => rfl
      | true => rw [z] at h5; cases h5
    subst e1
    subst e2
    refine ⟨es, n, q, ?_, relAll_ok h6, e5⟩
    unfold dicW at hk
    rw [q] at hk
    dsimp only at hk
    split at hk
    · exact Option.some.inj hk
    · cases hk
  · cases h
/-- a Hook with one more Bool -/
abbrev AlM : Type := AlT × Bool
def obsM (fa : List Fa) (fn : List DefD) (ts : List Tab) (more : PySem.W.Frag → Bool) (K : PySem.W.Frag) : AlM := (obsT fa fn ts K, more K)
def valM (fn : List DefD) (ts : List Tab) (w : World) : AlM := (valT fn ts w, true)
def obsMG (n : Nat) (fa : List Fa) (fn : List DefD) (ts : List Tab) (more : PySem.W.Frag → Bool) (g : Addr → Option Obj) : AlM := obsM fa fn ts more (frG g (asD g n))
def SaysM (fa : List Fa) (fn : List DefD) (ts : List Tab) (more : PySem.W.Frag → Bool) (w : World) (K : PySem.W.Frag) : Prop := obsM fa fn ts more K = valM fn ts w
def hookM (n : Nat) (fa : List Fa) (fn : List DefD) (ts : List Tab) (more : PySem.W.Frag → Bool) : PySem.W.Hook where
  α := AlM
  obs := fun s => obsMG n fa fn ts more s.heap.get?
  val := fun w => valM fn ts w
  says := fun w h => ∃ K : PySem.W.Frag, K.In h ∧ SaysM fa fn ts more w K
  of := fun _ _ e => ⟨_, frG_in, e⟩
  keeps := fun _ _ _ ⟨K, hK, c⟩ k => ⟨K, PySem.W.Frag.In.keeps hK k, c⟩
theorem obsMG_eq {n : Nat} {fa : List Fa} {fn : List DefD} {ts : List Tab} {more : PySem.W.Frag → Bool} {g : Addr → Option Obj} {s : Shared} (h : ∀ a, g a = s.heap.get? a) : obsMG n fa fn ts more g = (hookM n fa fn ts more).obs s := by
  have e : g = s.heap.get? := funext h
  rw [e] <;> rfl
section
variable {fa : List Fa} {fn : List DefD} {ts : List Tab} {more : PySem.W.Frag → Bool} {w : World} {K : PySem.W.Frag}
theorem SaysM.t (c : SaysM fa fn ts more w K) : SaysT fa fn ts w K := congrArg (fun z : AlM => z.1) c
theorem SaysM.m (c : SaysM fa fn ts more w K) : more K = true := congrArg (fun z : AlM => z.2) c
theorem SaysM.fact (c : SaysM fa fn ts more w K) (i : Nat) {f : Fa} (h : fa[i]? = some f := by rfl) : f.ok K = true := c.t.d.fact i h
theorem SaysM.tabK (c : SaysM fa fn ts more w K) (i : Nat) {t : Tab} (h : ts[i]? = some t := by rfl) : dicW K (t.1 K) = some (keysIn w.params t.2) := by
  have e : ts.map (fun t => dicW K (t.1 K)) = ts.map fun t => some (keysIn w.params t.2) := congrArg (fun z : AlT => z.2) c.t
  have e2 : (ts.map fun t => dicW K (t.1 K))[i]? = (ts.map fun t => some (keysIn w.params t.2))[i]? := by rw [e]
  rw [List.getElem?_map, List.getElem?_map, h] at e2
  exact Option.some.inj e2
/-- all of some checks -/
theorem all_at {l : List (PySem.W.Frag → Bool)} (h : (l.all fun f => f K) = true) (i : Nat) {f : PySem.W.Frag → Bool} (e : l[i]? = some f := by rfl) : f K = true := List.all_eq_true.mp h f (List.mem_of_getElem? e)
theorem src_ok {h : Heap} {mg : Str → Option Value} (X : K.In h) (G : h.Ns mainGlobals mg) (c : SaysM fa fn ts more w K) (i j : Nat) {x : Str} {st : Stmt} (e : fn[i]? = some ⟨(x, none), x, x, defArgs st, defBody st, defScope st, [], []⟩ := by rfl) (e2 : fa[j]? = some (.glo x) := by rfl) : Src K mg x st := by
  obtain ⟨fd, F⟩ := c.t.d.def_ i e
  exact ⟨fd, F, glo_ok X G (c.fact j e2)⟩
end
/-! ### the law -/
theorem fn0 {P : Program} {w : World} {K : PySem.W.Frag} {mg : Str → Option Value} {base : Heap} {k : Nat} {f : Addr} {fd : FuncData} {ps : List Str} {sp : Sp} (F : FnOk P w K mg base (L2.CX P w) k f fd ps sp) : FnOk P w K mg base CX0 k f fd ps (fun vs H Q _ => sp vs H Q fun _ _ _ => False) :=
  ⟨fun vs H Q _ h => F.len vs H Q _ h, fun A outer s H args us vs Q E hr he hb hv hs => codeAny_mono (F.run A outer s H args us vs Q _ hr he hb hv hs) fun r s' hq => by
    cases r with
    | ok fl => cases fl <;> exact hq
    | error e =>
      obtain ⟨_, _, _, _, _, _, _, _, _, _, _, _, z⟩ := (show L2.CX P w outer H s (fun _ _ _ => False) e s' from hq)
      exact z.elim⟩
/-- what is wanted of the law's mirror -/
def spEnd (K : PySem.W.Frag) (fm : List W → FR) : Sp := fun vs H Q _ => spM K (He.ga K) [] 1 fm vs H Q fun _ _ _ => False
theorem end_sp {K : PySem.W.Frag} {fm : List W → FR} (hfm : ∀ ns : List Int, ns.length ≤ 63 → fm [.frl (ns.map W.int)] = .ok false (.bl true) []) (H : Hp) (a : Addr) (ns : List Int) (hn : ns.length ≤ 63) (hO : Only H) (hS : SqL K H a (ns.map V.int)) :
    spEnd K fm [.ref a] H (fun v _ => v = .bl true) fun _ _ _ => False := by
  have reps : ∀ (F : Fz) (H : Hp) (l : List Int), RepL K F H (l.map W.int) (l.map V.int) := fun F H l => by
    induction l with
    | nil => rfl
    | cons i l ih => exact ⟨_, _, rfl, rfl, ih⟩
  have hF : FrlL K H a (ns.map V.int) := by
    rcases hS with (h | h) | h
    · rcases hO a with q | ⟨o, xs, q⟩
      · rw [q] at h; cases h
      · rw [q] at h; cases h
    · exact .inl h
    · exact .inr h
  refine ⟨fun _ => False, [.frl (ns.map W.int)], rfl, fun _ h => h.elim, ⟨.ref a, [], rfl, ⟨a, _, rfl, hF, reps _ _ _⟩, rfl⟩, ⟨rfl, fun p hp => by cases hp⟩, ?_⟩
  rw [hfm ns hn]
  intro F' H' v _ _ h
  exact h
/-- the law's def as the end wants it -/
theorem end_fn {P : Program} {w : World} {K : PySem.W.Frag} {mg : Str → Option Value} {k : Nat} {x p : Str} {st : Stmt} {f : Addr} {fm : List W → FR} (T : Src K mg x st) (hfa : mg x = some (.ref f))
    (hb : ∀ (fd : FuncData), FunD K x x (defArgs st) (defBody st) (defScope st) [] [] (He.ga K x) fd → ∀ (s : Shared) (v : Value), BindsTo s fd ⟨[v], []⟩ [(p, v)])
    (D : ∀ base : Heap, K.In base → base.Ns mainGlobals mg → Def P w K mg base (He.ga K) k x [p] [] fm) :
    ∃ fd : FuncData, (∀ (s : Shared) (v : Value), BindsTo s fd ⟨[v], []⟩ [(p, v)]) ∧ ∀ base : Heap, K.In base → base.Ns mainGlobals mg → FnOk P w K mg base CX0 k f fd [p] (spEnd K fm) := by
  obtain ⟨fd, F, hm⟩ := T
  refine ⟨fd, hb fd F, fun base hK hG => ?_⟩
  obtain ⟨f', fd', h1, _, _, h4, oc, od, osl, lk⟩ := D base hK hG
  rw [hfa] at h1 hm
  cases h1
  have e : f = He.ga K x := by cases hm; rfl
  obtain ⟨oc2, od2, _, _, _, _, _, _, _, osl2, _, lk2, _⟩ := F.ex
  rw [e, lk2] at lk
  cases lk
  exact fn0 h4
end ML

set_option maxHeartbeats 4000000
namespace ML
open PySem PySem.Spec PyProof.Rows L2
/-! ### reckoning with mirrors: what each does at a frame that is known -/
section
variable {α β : Type} {I J : List Nat} {ρ : Rho}
@[simp] theorem ev_bo (a : α) (ρ : Rho) (k : α → Rho → R β) : R.bind (.ok a ρ) k = k a ρ := rfl
@[simp] theorem ev_bs (k : α → Rho → R β) : R.bind .stk k = .stk := rfl
@[simp] theorem ev_bx (c : Str) (ns : List Str) (ws : List W) (ρ : Rho) (k : α → Rho → R β) : R.bind (.exc c ns ws ρ) k = .exc c ns ws ρ := rfl
@[simp] theorem ev_ls (a : α) : lift (some a) ρ = .ok a ρ := rfl
@[simp] theorem ev_ln : lift (none : Option α) ρ = .stk := rfl
theorem ev_var (i : Nat) : mVar i ρ = (match ρ[i]? with
  | some (.val w) => .ok (.val, w) ρ
  | some (.own w) => .ok (.bor i, w) ρ
  | _ => .stk) := rfl
@[simp] theorem ev_c (w : W) : mC w ρ = .ok (.val, w) ρ := rfl
@[simp] theorem ev_op (g : GW) (fa fb : Rho → R (Md × W)) : mOp g fa fb ρ = (fa ρ).bind fun x ρ1 => (fb ρ1).bind fun y ρ2 => (match peek x.1 x.2 ρ2, peek y.1 y.2 ρ2 with
  | some u, some v => lift (g u v) ρ2
  | _, _ => .stk) := rfl
@[simp] theorem ev_pv (w : W) : peek .val w ρ = some w := rfl
@[simp] theorem ev_pf (w : W) : peek .fre w ρ = some w := rfl
@[simp] theorem ev_pb (i : Nat) (w : W) : peek (.bor i) w ρ = (match ρ[i]? with
  | some (.own u) => some u
  | some (.val u) => some u
  | _ => none) := rfl
@[simp] theorem ev_tv (w : W) : toVal I (.val, w) ρ = .ok w ρ := rfl
@[simp] theorem ev_tf (w : W) : toVal I (.fre, w) ρ = .ok w ρ := rfl
@[simp] theorem ev_tb (i : Nat) (w : W) : toVal I (.bor i, w) ρ = (match ρ[i]? with
  | some (.own u) => if i ∈ I then .stk else .ok u (ρ.set i (.val u))
  | some (.val u) => .ok u ρ
  | _ => .stk) := rfl
@[simp] theorem ev_seq (g g' : Rho → R Fl) : mSeq g g' ρ = thenF (g ρ) g' := rfl
@[simp] theorem ev_tn (k : Rho → R Fl) : thenF (.ok .nx ρ) k = k ρ := rfl
@[simp] theorem ev_tr (m : Md) (w : W) (k : Rho → R Fl) : thenF (.ok (.rt m w) ρ) k = .ok (.rt m w) ρ := rfl
@[simp] theorem ev_tbk (k : Rho → R Fl) : thenF (.ok .bk ρ) k = .ok .bk ρ := rfl
@[simp] theorem ev_tct (k : Rho → R Fl) : thenF (.ok .ct ρ) k = .ok .ct ρ := rfl
@[simp] theorem ev_ts (k : Rho → R Fl) : thenF .stk k = .stk := rfl
@[simp] theorem ev_tx (c : Str) (ns : List Str) (ws : List W) (k : Rho → R Fl) : thenF (.exc c ns ws ρ) k = .exc c ns ws ρ := rfl
@[simp] theorem ev_lpn (k : Rho → R Fl) : loopF (.ok .nx ρ) k = k ρ := rfl
@[simp] theorem ev_lpc (k : Rho → R Fl) : loopF (.ok .ct ρ) k = k ρ := rfl
@[simp] theorem ev_lpb (k : Rho → R Fl) : loopF (.ok .bk ρ) k = .ok .nx ρ := rfl
@[simp] theorem ev_lpr (m : Md) (w : W) (k : Rho → R Fl) : loopF (.ok (.rt m w) ρ) k = .ok (.rt m w) ρ := rfl
@[simp] theorem ev_next : mNext ρ = .ok .nx ρ := rfl
@[simp] theorem ev_set (i : Nat) (f : Rho → R (Md × W)) : mSet I i f ρ = (f ρ).bind fun b ρ1 => mStore I i b ρ1 := rfl
@[simp] theorem ev_sv (i : Nat) (w : W) : mStore I i (.val, w) ρ = if i ∈ I then .stk else .ok .nx (ρ.set i (.val w)) := by
  unfold mStore
  rfl
@[simp] theorem ev_sf (i : Nat) (w : W) : mStore I i (.fre, w) ρ = if i ∈ I then .stk else .ok .nx (ρ.set i (.own w)) := by
  unfold mStore
  rfl
@[simp] theorem ev_sb (i j : Nat) (w : W) : mStore I i (.bor j, w) ρ = if i ∈ I then .stk else (toVal I (.bor j, w) ρ).bind fun w ρ1 => .ok .nx (ρ1.set i (.val w)) := by
  unfold mStore
  rfl
@[simp] theorem ev_drop (f : Rho → R (Md × W)) : mDrop f ρ = (f ρ).bind fun _ ρ1 => .ok .nx ρ1 := rfl
def retB (I : List Nat) (b : Md × W) (ρ1 : Rho) : R Fl := match b.1 with
  | .val => .ok (.rt .val b.2) ρ1
  | .fre => .ok (.rt .fre b.2) ρ1
  | .bor i => if i ∈ I then .stk else .ok (.rt .fre b.2) (ρ1.set i .no)
@[simp] theorem ev_retv (f : Rho → R (Md × W)) : mRet I f ρ = (f ρ).bind (retB I) := rfl
@[simp] theorem ev_rbv (w : W) : retB I (.val, w) ρ = .ok (.rt .val w) ρ := rfl
@[simp] theorem ev_rbf (w : W) : retB I (.fre, w) ρ = .ok (.rt .fre w) ρ := rfl
@[simp] theorem ev_rbb (i : Nat) (w : W) : retB I (.bor i, w) ρ = if i ∈ I then .stk else .ok (.rt .fre w) (ρ.set i .no) := rfl
@[simp] theorem ev_retn : mRetN ρ = .ok (.rt .val .non) ρ := rfl
@[simp] theorem ev_bool (m : Md) (c : Bool) : boolOf (m, .bl c) ρ = .ok c ρ := rfl
@[simp] theorem ev_test (f : Rho → R (Md × W)) : mTest f ρ = (f ρ).bind boolOf := rfl
@[simp] theorem ev_not (c : Rho → R Bool) : mNot c ρ = (c ρ).bind fun b ρ1 => .ok (!b) ρ1 := rfl
@[simp] theorem ev_and (c c' : Rho → R Bool) : mAnd c c' ρ = (c ρ).bind fun b ρ1 => if b then c' ρ1 else .ok false ρ1 := rfl
@[simp] theorem ev_or (c c' : Rho → R Bool) : mOr c c' ρ = (c ρ).bind fun b ρ1 => if b then .ok true ρ1 else c' ρ1 := rfl
@[simp] theorem ev_notv (f : Rho → R (Md × W)) : mNotV f ρ = ((f ρ).bind boolOf).bind fun b ρ1 => .ok (.val, .bl (!b)) ρ1 := rfl
@[simp] theorem ev_andv (f g : Rho → R (Md × W)) : mAndV f g ρ = ((f ρ).bind boolOf).bind fun b ρ1 => if b then g ρ1 else .ok (.val, .bl false) ρ1 := rfl
@[simp] theorem ev_orv (f g : Rho → R (Md × W)) : mOrV f g ρ = ((f ρ).bind boolOf).bind fun b ρ1 => if b then .ok (.val, .bl true) ρ1 else g ρ1 := rfl
@[simp] theorem ev_ife (c : Rho → R Bool) (f g : Rho → R (Md × W)) : mIfE c f g ρ = (c ρ).bind fun b ρ1 => if b then f ρ1 else g ρ1 := rfl
@[simp] theorem ev_if (c : Rho → R Bool) (f g : Rho → R Fl) : mIf c f g ρ = (c ρ).bind fun b ρ1 => if b then f ρ1 else g ρ1 := rfl
@[simp] theorem ev_isn (n : Bool) (f : Rho → R (Md × W)) : mIsN n f ρ = (f ρ).bind fun x ρ1 => .ok (.val, .bl (if n then !nonW x.2 else nonW x.2)) ρ1 := rfl
@[simp] theorem ev_gset (i : Nat) (w : W) : gSet I i w ρ = if i ∈ I then none else some (ρ.set i (.val w)) := rfl
@[simp] theorem ev_gts (t : W → Rho → Option Rho) (ts : List (W → Rho → Option Rho)) (w : W) (ws : List W) : gTups (t :: ts) (w :: ws) ρ = (t w ρ).bind fun ρ1 => gTups ts ws ρ1 := rfl
@[simp] theorem ev_gtn : gTups [] [] ρ = some ρ := rfl
@[simp] theorem ev_gtup (ts : List (W → Rho → Option Rho)) (l : List W) : gTup ts (.tup l) ρ = gTups ts l ρ := rfl
@[simp] theorem ev_asgt (t : W → Rho → Option Rho) (f : Rho → R (Md × W)) : mAsgT I t f ρ = (f ρ).bind fun b ρ1 => (toVal I b ρ1).bind fun w ρ2 => (match t w ρ2 with
  | some ρ3 => .ok .nx ρ3
  | none => .stk) := rfl
@[simp] theorem ev_forn (tg : W → Rho → Option Rho) (g : Rho → R Fl) : forL tg g [] ρ = .ok .nx ρ := rfl
theorem ev_forc (tg : W → Rho → Option Rho) (g : Rho → R Fl) (w : W) (ws : List W) : forL tg g (w :: ws) ρ = (match tg w ρ with
  | some ρ1 => loopF (g ρ1) (forL tg g ws)
  | none => .stk) := rfl
@[simp] theorem ev_for (it : Rho → R (List W)) (tg : W → Rho → Option Rho) (g : Rho → R Fl) : mFor it tg g ρ = (it ρ).bind fun ws ρ1 => forL tg g ws ρ1 := rfl
@[simp] theorem ev_itt (l : List W) : itemsW (.tup l) = some l := rfl
@[simp] theorem ev_itl (l : List W) : itemsW (.lst l) = some l := rfl
@[simp] theorem ev_itf (l : List W) : itemsW (.frl l) = some l := rfl
@[simp] theorem ev_items (f : Rho → R (Md × W)) : mItems I f ρ = (f ρ).bind fun b ρ1 => (toVal I b ρ1).bind fun w ρ2 => lift (itemsX w) ρ2 := rfl
@[simp] theorem ev_ixt (l : List W) : itemsX (.tup l) = some l := rfl
@[simp] theorem ev_ixl (l : List W) : itemsX (.lst l) = some l := rfl
@[simp] theorem ev_ixf (l : List W) : itemsX (.frl l) = some l := rfl
@[simp] theorem ev_rev (f : Rho → R (Md × W)) : mRev I f ρ = (f ρ).bind fun b ρ1 => (toVal I b ρ1).bind fun w ρ2 => lift ((itemsW w).map List.reverse) ρ2 := rfl
@[simp] theorem ev_hn : mHold [] ρ = .ok [] ρ := rfl
@[simp] theorem ev_hc (f : Rho → R (Md × W)) (fs : List (Rho → R (Md × W))) : mHold (f :: fs) ρ = (f ρ).bind fun b ρ1 => (mHold fs ρ1).bind fun bs ρ2 => .ok (b :: bs) ρ2 := rfl
@[simp] theorem ev_pn : peekL [] ρ = some [] := rfl
@[simp] theorem ev_pc (b : Md × W) (bs : List (Md × W)) : peekL (b :: bs) ρ = (match peek b.1 b.2 ρ, peekL bs ρ with
  | some w, some ws => some (w :: ws)
  | _, _ => none) := rfl
@[simp] theorem ev_vn : valsL I [] ρ = .ok [] ρ := rfl
@[simp] theorem ev_vc (b : Md × W) (bs : List (Md × W)) : valsL I (b :: bs) ρ = (toVal I b ρ).bind fun w ρ1 => (valsL I bs ρ1).bind fun ws ρ2 => .ok (w :: ws) ρ2 := rfl
@[simp] theorem ev_tup (fs : List (Rho → R (Md × W))) : mTup I fs ρ = (mHold fs ρ).bind fun bs ρ1 => (valsL I bs ρ1).bind fun ws ρ2 => if ws.length ≤ sizeLine then .ok (.val, .tup ws) ρ2 else .stk := rfl
@[simp] theorem ev_lst (fs : List (Rho → R (Md × W))) : mLst I fs ρ = (mHold fs ρ).bind fun bs ρ1 => (valsL I bs ρ1).bind fun ws ρ2 => if ws.length ≤ sizeLine then .ok (.fre, .lst ws) ρ2 else .stk := rfl
@[simp] theorem ev_cb (g : GC) (fs : List (Rho → R (Md × W))) : mCB g fs ρ = (mHold fs ρ).bind fun bs ρ1 => (match peekL bs ρ1 with
  | some ws => lift (g ws) ρ1
  | none => .stk) := rfl
@[simp] theorem ev_fun (n : Nat) (g : Rho → R Fl) (args : List W) : mFun J n g args = finF J (g (rho0 J args n)) := rfl
@[simp] theorem ev_fn : finF J (.ok .nx ρ) = (match outsOf J ρ with
  | some outs => .ok false .non outs
  | none => .stk) := rfl
@[simp] theorem ev_fv (w : W) : finF J (.ok (.rt .val w) ρ) = (match outsOf J ρ with
  | some outs => .ok false w outs
  | none => .stk) := by
  unfold finF
  cases h : outsOf J ρ <;> simp [h]
@[simp] theorem ev_ff (w : W) : finF J (.ok (.rt .fre w) ρ) = (match outsOf J ρ with
  | some outs => .ok true w outs
  | none => .stk) := by
  unfold finF
  cases h : outsOf J ρ <;> simp [h]
@[simp] theorem ev_on : outsOf [] ρ = some [] := rfl
@[simp] theorem ev_oc (i : Nat) (is : List Nat) : outsOf (i :: is) ρ = (match ownAt ρ i, outsOf is ρ with
  | some w, some ws => some (w :: ws)
  | _, _ => none) := rfl
theorem ev_own (i : Nat) : ownAt ρ i = (match ρ[i]? with
  | some (.own w) => some w
  | _ => none) := rfl
@[simp] theorem ev_call (fm : List W → FR) (fs : List (Rho → R (Md × W))) : mCall I J fm fs ρ = (mHold fs ρ).bind fun bs ρ1 => (callA I J 0 bs ρ1).bind fun xs ρ2 =>
  if (slotsX xs).Nodup ∧ posX 0 xs = J then (match resX ρ2 xs with
    | some args => (match fm args with
      | .ok fr w outs => .ok (if fr then .fre else .val, w) (putOuts (slotsX xs) outs ρ2)
      | .exc c ns ws outs => .exc c ns ws (putOuts (slotsX xs) outs ρ2)
      | .stk => .stk)
    | none => .stk)
  else .stk := rfl
@[simp] theorem ev_can (k : Nat) : callA I J k [] ρ = .ok [] ρ := rfl
@[simp] theorem ev_cac (k : Nat) (b : Md × W) (bs : List (Md × W)) : callA I J k (b :: bs) ρ = if k ∈ J then (match b.1 with
      | .bor i => (callA I J (k + 1) bs ρ).bind fun xs ρ1 => .ok (.inr i :: xs) ρ1
      | _ => .stk)
    else (toVal I b ρ).bind fun w ρ1 => (callA I J (k + 1) bs ρ1).bind fun xs ρ2 => .ok (.inl w :: xs) ρ2 := rfl
@[simp] theorem ev_sxn : slotsX [] = [] := rfl
@[simp] theorem ev_sxl (w : W) (xs : List (W ⊕ Nat)) : slotsX (.inl w :: xs) = slotsX xs := rfl
@[simp] theorem ev_sxr (i : Nat) (xs : List (W ⊕ Nat)) : slotsX (.inr i :: xs) = i :: slotsX xs := rfl
@[simp] theorem ev_pxn (k : Nat) : posX k [] = [] := rfl
@[simp] theorem ev_pxl (k : Nat) (w : W) (xs : List (W ⊕ Nat)) : posX k (.inl w :: xs) = posX (k + 1) xs := rfl
@[simp] theorem ev_pxr (k i : Nat) (xs : List (W ⊕ Nat)) : posX k (.inr i :: xs) = k :: posX (k + 1) xs := rfl
@[simp] theorem ev_rxn : resX ρ [] = some [] := rfl
@[simp] theorem ev_rxl (w : W) (xs : List (W ⊕ Nat)) : resX ρ (.inl w :: xs) = (resX ρ xs).map (w :: ·) := rfl
@[simp] theorem ev_rxr (i : Nat) (xs : List (W ⊕ Nat)) : resX ρ (.inr i :: xs) = (match ownAt ρ i, resX ρ xs with
    | some w, some ws => some (w :: ws)
    | _, _ => none) := rfl
@[simp] theorem ev_pon (ws : List W) : putOuts [] ws ρ = ρ := by
  unfold putOuts
  rfl
@[simp] theorem ev_poc (i : Nat) (is : List Nat) (w : W) (ws : List W) : putOuts (i :: is) (w :: ws) ρ = putOuts is ws (ρ.set i (.own w)) := rfl
@[simp] theorem ev_app (i : Nat) (fe : Rho → R (Md × W)) : mAppend i I fe ρ = (match ownAt ρ i with
  | some (.lst _) => (fe ρ).bind fun b ρ1 => (toVal I b ρ1).bind fun w ρ2 => (match ownAt ρ2 i with
    | some (.lst l) => if l.length < sizeLine then .ok (.val, .non) (ρ2.set i (.own (.lst (l ++ [w])))) else .stk
    | _ => .stk)
  | _ => .stk) := rfl
@[simp] theorem ev_r1 (fs : List (Rho → R (Md × W))) : mRange1 fs ρ = (mHold fs ρ).bind fun bs ρ1 => (match bs with
  | [(.val, .int j)] => if okR j then .ok (intsW 0 j.toNat) ρ1 else .stk
  | _ => .stk) := rfl
@[simp] theorem ev_r2 (fs : List (Rho → R (Md × W))) : mRange2 fs ρ = (mHold fs ρ).bind fun bs ρ1 => (match bs with
  | [(.val, .int i), (.val, .int j)] => if okR i && okR j then .ok (intsW i (j - i).toNat) ρ1 else .stk
  | _ => .stk) := rfl
@[simp] theorem ev_sl (fa : Rho → R (Md × W)) (lo hi : Option (Rho → R (Md × W))) : mSl fa lo hi ρ = (fa ρ).bind fun x ρ1 => (mPart lo ρ1).bind fun l ρ2 => (mPart hi ρ2).bind fun h ρ3 => (match peek x.1 x.2 ρ3 with
  | some u => lift (gSl u l h) ρ3
  | none => .stk) := rfl
@[simp] theorem ev_mpn : mPart none ρ = .ok none ρ := rfl
@[simp] theorem ev_mps (f : Rho → R (Md × W)) : mPart (some f) ρ = (f ρ).bind fun b ρ1 => (match b.1, b.2 with
    | .val, .int i => .ok (some i) ρ1
    | _, _ => .stk) := rfl
@[simp] theorem ev_join (fx fl : Rho → R (Md × W)) : mJoin fx fl ρ = (fx ρ).bind fun x ρ1 => (match x.1, x.2 with
  | .val, .str a => (mHold [fl] ρ1).bind fun bs ρ2 => (match peekL bs ρ2 with
    | some [y] => lift (gJoin (.str a) y) ρ2
    | _ => .stk)
  | _, _ => .stk) := rfl
@[simp] theorem ev_ink (neg : Bool) (ks : List Str) (fa : Rho → R (Md × W)) : mInK neg ks fa ρ = (fa ρ).bind fun b ρ1 => (match b.1, b.2 with
  | .val, .str z => .ok (.val, .bl (if neg then !(ks.contains z) else ks.contains z)) ρ1
  | _, _ => .stk) := rfl
@[simp] theorem ev_ixk (ks : List Str) (vs : List W) (fa : Rho → R (Md × W)) : mIxK ks vs fa ρ = (fa ρ).bind fun b ρ1 => (match b.1, b.2 with
  | .val, .str z => (match lookW z ks vs with
    | some w => .ok (.val, w) ρ1
    | none => .stk)
  | _, _ => .stk) := rfl
@[simp] theorem ev_storeAt (i : Nat) (fk fe : Rho → R (Md × W)) : mStoreAt i I fk fe ρ = (fe ρ).bind fun b ρ1 => (toVal I b ρ1).bind fun w ρ2 => (match ownAt ρ2 i with
  | some (.lst _) => (fk ρ2).bind fun kb ρ3 => (match kb.1, kb.2, ownAt ρ3 i with
    | .val, .int k, some (.lst l) => (match ixN l.length k with
      | some j => .ok .nx (ρ3.set i (.own (.lst (l.set j w))))
      | none => .stk)
    | _, _, _ => .stk)
  | _ => .stk) := rfl
@[simp] theorem ev_el (f : Rho → R (Md × W)) : mEl I f ρ = (f ρ).bind (toVal I) := rfl
theorem ev_lc (it : Rho → R (List W)) (t : CT) (c : Rho → R Bool) (fe : Rho → R (Md × W)) : mLc I it t c fe ρ = (it ρ).bind fun ws ρ1 => if t.ix.all (fun i => decide (i ∉ I)) then noExc (compL t.ix t.put c (mEl I fe) [] ws ρ1) else .stk := rfl
@[simp] theorem ev_nx (a : α) : noExc (.ok a ρ) = .ok a ρ := rfl
@[simp] theorem ev_yes : mYes ρ = .ok true ρ := rfl
@[simp] theorem ev_thru (g : Rho → R Fl) : mThru g ρ = noExc (g ρ) := rfl
@[simp] theorem ev_rhoA (k : Nat) (w : W) (ws : List W) : rhoA J k (w :: ws) = (if k ∈ J then .own w else .val w) :: rhoA J (k + 1) ws := rfl
@[simp] theorem ev_rhoN (k : Nat) : rhoA J k [] = [] := rfl
@[simp] theorem ev_rho0 (args : List W) (n : Nat) : rho0 J args n = rhoA J 0 args ++ List.replicate (n - args.length) .no := rfl
end
/-! ### operators at known values -/
@[simp] theorem ev_addI (i j : Int) : gAdd (.int i) (.int j) = some (.val, .int (i + j)) := rfl
theorem ev_addS (x y : Str) : gAdd (.str x) (.str y) = if x.length + y.length ≤ sizeLine then some (.val, .str (x ++ y)) else none := rfl
@[simp] theorem ev_addL (x y : List W) : gAdd (.lst x) (.lst y) = if x.length + y.length ≤ sizeLine then some (.fre, .lst (x ++ y)) else none := rfl
@[simp] theorem ev_addT (x y : List W) : gAdd (.tup x) (.tup y) = if x.length + y.length ≤ sizeLine then some (.val, .tup (x ++ y)) else none := rfl
@[simp] theorem ev_sub (i j : Int) : gSub (.int i) (.int j) = some (.val, .int (i - j)) := rfl
@[simp] theorem ev_mulI (i j : Int) : gMul (.int i) (.int j) = if okMul i j then some (.val, .int (i * j)) else none := rfl
theorem ev_mod {i j : Int} (h : 0 < j) : gMod (.int i) (.int j) = some (.val, .int (i % j)) := by
  unfold gMod gI
  simp [h]
theorem ev_div {i j : Int} (h : 0 < j) (h' : j < 1073741824) : gFdiv (.int i) (.int j) = some (.val, .int (i / j)) := by
  unfold gFdiv gI
  simp [h, h']
@[simp] theorem ev_cmp (p : Int → Int → Bool) (i j : Int) : gCmp p (.int i) (.int j) = some (.val, .bl (p i j)) := rfl
@[simp] theorem ev_intI (i : Int) : gInt [.int i] = some (.val, .int i) := rfl
@[simp] theorem ev_intB (k : Bool) : gInt [.bl k] = some (.val, .int (if k then 1 else 0)) := rfl
@[simp] theorem ev_strS (a : Str) : gStr [.str a] = some (.val, .str a) := rfl
@[simp] theorem ev_lenT (l : List W) : gLen [.tup l] = some (.val, .int l.length) := rfl
@[simp] theorem ev_lenL (l : List W) : gLen [.lst l] = some (.val, .int l.length) := rfl
@[simp] theorem ev_lenF (l : List W) : gLen [.frl l] = some (.val, .int l.length) := rfl
theorem ev_lenS (a : Str) : gLen [.str a] = if a.length ≤ sizeLine then some (.val, .int a.length) else none := rfl
@[simp] theorem ev_min (i j : Int) : gMin [.int i, .int j] = some (.val, .int (if j < i then j else i)) := rfl
@[simp] theorem ev_max (i j : Int) : gMax [.int i, .int j] = some (.val, .int (if j > i then j else i)) := rfl
@[simp] theorem ev_tcT (l : List W) : gTupC [.tup l] = some (.val, .tup l) := rfl
@[simp] theorem ev_tcL (l : List W) : gTupC [.lst l] = some (.val, .tup l) := rfl
@[simp] theorem ev_tcF (l : List W) : gTupC [.frl l] = some (.val, .tup l) := rfl
@[simp] theorem ev_ixT (l : List W) (i : Int) : gIx (.tup l) (.int i) = (atI l i).map fun w => (.val, w) := rfl
@[simp] theorem ev_ixL (l : List W) (i : Int) : gIx (.lst l) (.int i) = (atI l i).map fun w => (.val, w) := rfl
@[simp] theorem ev_ixF (l : List W) (i : Int) : gIx (.frl l) (.int i) = (atI l i).map fun w => (.val, w) := rfl
theorem ev_ixS (z : Str) (i : Int) : gIx (.str z) (.int i) = if z.length ≤ sizeLine then (atI z.cps.toList i).map fun c => (.val, .str ⟨#[c]⟩) else none := rfl
section
variable {α : Type}
theorem atI_nat (l : List α) (n : Nat) : atI l (n : Int) = l[n]? := by
  unfold atI ixN
  rw [if_pos (Int.natCast_nonneg n)]
  by_cases h : n < l.length
  · rw [if_pos (by omega)]
    simp
  · rw [if_neg (by omega)]
    simp [List.getElem?_eq_none (Nat.le_of_not_lt h)]
@[simp] theorem atI_0 (l : List α) : atI l 0 = l[0]? := atI_nat l 0
@[simp] theorem atI_1 (l : List α) : atI l 1 = l[1]? := atI_nat l 1
@[simp] theorem atI_lit (l : List α) (n : Nat) : atI l (no_index (OfNat.ofNat n) : Int) = l[n]? := atI_nat l n
theorem atI_of {l : List α} {i : Int} {n : Nat} (h : i = n) : atI l i = l[n]? := by rw [h, atI_nat]
end
/-! ### == on texts, whole numbers; in -/
theorem ev_eqS (x y : Str) : eqW (.str x) (.str y) = some (decide (x = y)) := by
  have h : eqW (.str x) (.str y) = some (decide (V.str x = V.str y)) := rfl
  rw [h]
  simp
theorem ev_eqI (x y : Int) : eqW (.int x) (.int y) = some (decide (x = y)) := by
  have h : eqW (.int x) (.int y) = some (decide (V.int x = V.int y)) := rfl
  rw [h]
  simp
@[simp] theorem ev_gEqS (x y : Str) : gEq (.str x) (.str y) = some (.val, .bl (decide (x = y))) := by
  unfold gEq
  rw [ev_eqS]
  rfl
@[simp] theorem ev_gEqI (x y : Int) : gEq (.int x) (.int y) = some (.val, .bl (decide (x = y))) := by
  unfold gEq
  rw [ev_eqI]
  rfl
@[simp] theorem ev_gNeS (x y : Str) : gNe (.str x) (.str y) = some (.val, .bl (!decide (x = y))) := by
  unfold gNe
  rw [ev_eqS]
  rfl
@[simp] theorem ev_gNeI (x y : Int) : gNe (.int x) (.int y) = some (.val, .bl (!decide (x = y))) := by
  unfold gNe
  rw [ev_eqI]
  rfl
theorem inV_str (x : Str) (l : List Str) : inV (V.str x) (l.map V.str) = decide (x ∈ l) := by
  unfold inV
  induction l with
  | nil => rfl
  | cons y l ih =>
    rw [List.map_cons, List.any_cons, ih]
    have e : eqV (V.str y) (V.str x) = decide (y = x) := by
      have : eqV (V.str y) (V.str x) = (y == x) := rfl
      rw [this]
      by_cases h : y = x <;> simp [h]
    rw [e]
    by_cases h : y = x
    · simp [h]
    · have h' : ¬ x = y := fun z => h z.symm
      simp [h, h']
theorem in_strs (neg : Bool) (x : Str) (l : List Str) (w : W) (h : itemsW w = some (l.map W.str)) (hw : ∀ z, w ≠ .str z) : inW neg (.str x) w = some (if neg then !decide (x ∈ l) else decide (x ∈ l)) := by
  have e1 : (l.map W.str).all flatW = true := by simp [flatW]
  have e2 : (l.map W.str).map toV = l.map V.str := by simp [toV]
  have e3 : inW neg (.str x) w = (match itemsW w with
    | some l => if flatW (.str x) && l.all flatW then some (if neg then !inV (toV (.str x)) (l.map toV) else inV (toV (.str x)) (l.map toV)) else none
    | none => none) := by
    cases w with
    | str z => exact (hw z rfl).elim
    | _ => rfl
  rw [e3, h]
  dsimp only
  rw [e1, e2, show toV (.str x) = V.str x from rfl, inV_str]
  rfl
end ML

set_option maxHeartbeats 4000000
namespace ML
open PySem PySem.Spec PyProof.Rows L2
/-! ### texts as lists of code points -/
def S (l : List Nat) : Str := ⟨l.toArray⟩
theorem S_is (l : List Nat) : S l = SX.S l := rfl
theorem S_of (x : Str) : x = S x.cps.toList := rfl
@[simp] theorem S_eq (a b : List Nat) : (S a = S b) = (a = b) := propext ⟨fun h => SX.S_inj h, fun h => by rw [h]⟩
@[simp] theorem S_ite (p : Prop) [Decidable p] (a b : List Nat) : (if p then S a else S b) = S (if p then a else b) := by split <;> rfl
@[simp] theorem S_beq (a b : List Nat) : (S a == S b) = decide (a = b) := SX.S_beq_eq
@[simp] theorem S_cps (a : List Nat) : (S a).cps.toList = a := rfl
@[simp] theorem S_len (a : List Nat) : (S a).length = a.length := SX.S_len a
@[simp] theorem S_cat (a b : List Nat) : S a ++ S b = S (a ++ b) := SX.S_cat a b
theorem line_is : sizeLine = 16777216 := rfl
theorem ev_addSS {a b : List Nat} (h : a.length + b.length ≤ 16777216) : gAdd (.str (S a)) (.str (S b)) = some (.val, .str (S (a ++ b))) := by
  rw [ev_addS, S_len, S_len, S_cat, line_is, if_pos h]
theorem ev_lenSS {a : List Nat} (h : a.length ≤ 16777216) : gLen [.str (S a)] = some (.val, .int a.length) := by
  rw [ev_lenS, S_len, line_is, if_pos h]
theorem ev_ixSS {a : List Nat} {i : Int} (h : a.length ≤ 16777216) : gIx (.str (S a)) (.int i) = (atI a i).map fun c => (.val, .str (S [c])) := by
  rw [ev_ixS, S_len, S_cps, line_is, if_pos h]
  rfl
theorem ev_strI {n : Nat} (h : n < 1000) : gStr [.int n] = some (.val, .str (S (TL.numL n))) := by
  have h1 : ((n : Int)).natAbs.log2 < 1920 := by
    rw [Int.natAbs_natCast]
    have := Nat.log2_le_self n
    omega
  have h2 : gStr [.int n] = if ((n : Int)).natAbs.log2 < 1920 then some (.val, .str (toString (n : Int))) else none := rfl
  rw [h2, if_pos h1]
  exact congrArg (fun z => some (Md.val, W.str z)) (SX.num_S n)
theorem in_SS (neg : Bool) (c : Nat) (l : List Nat) : gIn neg (.str (S [c])) (.str (S l)) = some (.val, .bl (if neg then !decide (c ∈ l) else decide (c ∈ l))) := rfl
theorem in_ST (neg : Bool) (x : List Nat) (l : List (List Nat)) (w : W) (h : itemsW w = some (l.map fun z => W.str (S z))) (hw : ∀ z, w ≠ .str z) : gIn neg (.str (S x)) w = some (.val, .bl (if neg then !decide (x ∈ l) else decide (x ∈ l))) := by
  unfold gIn
  rw [in_strs neg (S x) (l.map S) w (by rw [h, List.map_map]; rfl) hw]
  have e : (S x ∈ l.map S) = (x ∈ l) := propext ⟨fun h => by
    obtain ⟨y, hy, e⟩ := List.mem_map.mp h
    rw [S_eq] at e
    rw [← e]; exact hy, fun h => List.mem_map.mpr ⟨x, h, rfl⟩⟩
  simp only [e]
  rfl
theorem strsW_S : ∀ l : List (List Nat), strsW (l.map fun z => W.str (S z)) = some (l.map S)
  | [] => rfl
  | z :: l => by
    rw [List.map_cons, List.map_cons]
    show (strsW _).map _ = _
    rw [strsW_S l]
    rfl
theorem ev_joinS {a : List Nat} {l : List (List Nat)} {w : W} (hw : itemsW w = some (l.map fun z => W.str (S z))) (h : (l.map List.length).sum + l.length * a.length ≤ 16777216) : gJoin (.str (S a)) w = some (.val, .str (S (TL.joinL a l))) := by
  have e : gJoin (.str (S a)) w = (match itemsW w with
    | some l => (strsW l).bind fun ys => if (ys.map (·.length)).sum + ys.length * (S a).length ≤ 16777216 then some (.val, .str (Txt.join (S a) ys)) else none
    | none => none) := by
    unfold gJoin
    rw [hw]
  rw [e, hw]
  dsimp only
  rw [strsW_S, Option.bind_some, List.map_map, List.length_map, S_len]
  have e2 : (l.map ((fun x : Str => x.length) ∘ S)) = l.map List.length := List.map_congr_left fun x _ => S_len x
  rw [e2, if_pos h]
  have := SX.join_S a l
  exact congrArg (fun z => some (Md.val, W.str z)) this
@[simp] theorem ev_ixs (l : List Nat) : itemsX (.str (S l)) = some (l.map fun c => .str (S [c])) := rfl
/-! ### two lists side by side -/
inductive All2 {α β : Type} (R : α → β → Prop) : List α → List β → Prop
  | nil : All2 R [] []
  | cons {a : α} {b : β} {l : List α} {m : List β} : R a b → All2 R l m → All2 R (a :: l) (b :: m)
theorem All2.imp {α β : Type} {R Q : α → β → Prop} (f : ∀ a b, R a b → Q a b) {l : List α} {m : List β} (h : All2 R l m) : All2 Q l m := by
  induction h with
  | nil => exact .nil
  | cons h _ ih => exact .cons (f _ _ h) ih
theorem All2.len {α β : Type} {R : α → β → Prop} {l : List α} {m : List β} (h : All2 R l m) : l.length = m.length := by
  induction h with
  | nil => rfl
  | cons _ _ ih => rw [List.length_cons, List.length_cons, ih]
theorem All2.same {α : Type} {R : α → α → Prop} : ∀ {l : List α}, (∀ a ∈ l, R a a) → All2 R l l
  | [], _ => .nil
  | a :: l, h => .cons (h a (List.mem_cons_self ..)) (All2.same fun b hb => h b (List.mem_cons_of_mem _ hb))
/-- a comprehension over one name that leaves the frame alone -/
theorem comp2 {α : Type} {i : Nat} {fe : Rho → R W} {g : α → W} {Q : W → α → Prop} {ρ : Rho} (h : ∀ w z, Q w z → fe (ρ.set i (.val w)) = .ok (g z) (ρ.set i (.val w))) :
    ∀ {ws : List W} {zs : List α} {acc : List W} {ρ' : Rho}, All2 Q ws zs → acc.length + ws.length ≤ sizeLine → ρ'.set i .no = ρ → compL [i] (CT.put (.nm i)) mYes fe acc ws ρ' = .ok (.fre, .lst (acc ++ zs.map g)) ρ
  | [], _, acc, ρ', .nil, hl, hr => by
    unfold compL
    rw [if_pos (show acc.length ≤ sizeLine from hl)]
    show R.ok _ (wipeR ρ' [i]) = _
    rw [show wipeR ρ' [i] = ρ'.set i .no from rfl, hr, List.map_nil, List.append_nil]
  | w :: ws, z :: zs, acc, ρ', .cons q qs, hl, hr => by
    have hl' : acc.length + (ws.length + 1) ≤ sizeLine := hl
    unfold compL
    rw [show wipeR ρ' [i] = ρ'.set i .no from rfl, hr]
    show (R.bind (mYes (ρ.set i (.val w))) _) = _
    rw [ev_yes, ev_bo, if_pos rfl, h w z q, ev_bo, if_pos (by omega)]
    rw [comp2 h qs (by rw [List.length_append, List.length_singleton]; omega) (by rw [List.set_set, ← hr, List.set_set]), List.append_assoc]
    rfl
/-- for over one name, an invariant along two lists -/
theorem for_inv {α : Type} {i : Nat} {g : Rho → R Fl} {Q : W → α → Prop} {P : List α → Rho → Prop} (hi : i ∉ ([] : List Nat) ∨ True) : ∀ {ws : List W} {zs : List α} {ρ : Rho}, All2 Q ws zs →
    (∀ w z zs' ρ, Q w z → P (z :: zs') ρ → ∃ ρ1, g (ρ.set i (.val w)) = .ok .nx ρ1 ∧ P zs' ρ1) → P zs ρ → ∃ ρ1, forL (fun w ρ => some (ρ.set i (.val w))) g ws ρ = .ok .nx ρ1 ∧ P [] ρ1
  | [], _, ρ, .nil, _, hp => ⟨ρ, rfl, hp⟩
  | w :: ws, z :: zs, ρ, .cons q qs, h, hp => by
    obtain ⟨ρ1, e, hp1⟩ := h w z zs ρ q hp
    obtain ⟨ρ2, e2, hp2⟩ := for_inv hi qs h hp1
    refine ⟨ρ2, ?_, hp2⟩
    show loopF (g (ρ.set i (.val w))) (forL _ g ws) = _
    rw [e]
    exact e2
theorem gset_is {I : List Nat} {i : Nat} (h : i ∉ I) : gSet I i = fun w ρ => some (ρ.set i (.val w)) := by
  funext w ρ
  unfold gSet
  rw [if_neg h]
@[simp] theorem cut_from (xs : List W) (n : Nat) : cutW xs (some (no_index (OfNat.ofNat n) : Int)) none = xs.drop n := by
  have e : ∀ n : Nat, cutW xs (some (n : Int)) none = xs.drop n := fun n => by
    unfold cutW
    rw [HT.sIx_nat, HT.sIx_none]
    by_cases h : n ≤ xs.length
    · rw [Nat.min_eq_left h, List.take_of_length_le (by rw [List.length_drop]; omega)]
    · rw [Nat.min_eq_right (by omega), List.drop_eq_nil_of_le (Nat.le_refl _), List.drop_eq_nil_of_le (by omega), List.take_nil]
  exact e n
@[simp] theorem cut_from1 (xs : List W) : cutW xs (some 1) none = xs.drop 1 := cut_from xs 1
@[simp] theorem ev_slT (l : List W) (lo hi : Option Int) : gSl (.tup l) lo hi = some (.val, .tup (cutW l lo hi)) := rfl
@[simp] theorem ev_slL (l : List W) (lo hi : Option Int) : gSl (.lst l) lo hi = some (.fre, .lst (cutW l lo hi)) := rfl
/-- [m(x) for x in ..] -/
theorem e_lc1 {α : Type} {m : List W → FR} {i : Nat} {f : Rho → R (Md × W)} {bs : List W} {zs : List α} {g : α → W} {ρ : Rho} (h : All2 (fun b z => m [b] = .ok false (g z) []) bs zs) (hf : f ρ = .ok (.val, .tup bs) ρ) (hi : i < ρ.length) (hn : ρ.set i .no = ρ) (hl : bs.length ≤ sizeLine) :
    mLc [] (mItems [] f) (.nm i) mYes (mCall [] [] m [mVar i]) ρ = .ok (.fre, .lst (zs.map g)) ρ := by
  have e1 : mLc [] (mItems [] f) (.nm i) mYes (mCall [] [] m [mVar i]) ρ = noExc (compL [i] (CT.put (.nm i)) mYes (mEl [] (mCall [] [] m [mVar i])) [] bs ρ) := by
    rw [ev_lc, ev_items, hf]
    simp [CT.ix]
  rw [e1, comp2 (g := g) (Q := fun b z => m [b] = .ok false (g z) []) (ρ := ρ) ?_ h (by simpa using hl) hn]
  · rfl
  · intro w z q
    have e2 : (ρ.set i (.val w))[i]? = some (.val w) := by rw [List.getElem?_set_self hi]
    simp [ev_var, e2, q]
end ML

set_option maxHeartbeats 4000000
namespace ML
open PySem PySem.Spec PyProof.Rows L2
variable {I : List Nat}
/-! ### a text many times -/
def rRepS : R2 := fun x y H Q => ∃ s n, x = .str s ∧ y = .int n ∧ 0 ≤ n ∧ n ≤ 10000 ∧ s.length ≤ 1000 ∧ Q (.str (Txt.mul s n)) H
theorem mulOk_small {s : Str} {n : Int} (h0 : 0 ≤ n) (h1 : n ≤ 10000) (h2 : s.length ≤ 1000) : MulOk s n := by
  refine ⟨by simp; omega, fun h3 _ => ?_, fun h3 _ => ?_⟩
  · have h4 : (92233720368547 : Int) ≤ (2 ^ 63 - 1) / n := by
      refine (Int.le_ediv_iff_mul_le (by omega)).mpr ?_
      omega
    omega
  · obtain ⟨k, rfl⟩ := Int.eq_ofNat_of_zero_le h0
    have h4 : s.length * k ≤ 1000 * 10000 := Nat.mul_le_mul h2 (by omega)
    have h5 : ((k : Int)).toNat = k := rfl
    rw [h5]
    have h6 : 1000 * 10000 ≤ (sizeLine : Nat) := by decide
    exact decide_eq_false (by omega)
theorem op_repS {X : Cx} : OpR X (binaryOp .Mult) rRepS := by
  intro pins s σ H x y v u Q I rx ry h
  obtain ⟨z, n, rfl, rfl, h0, h1, h2, q⟩ := h
  obtain ⟨t, rfl⟩ := rx
  obtain ⟨t2, rfl⟩ := ry
  exact SB.mul (mulOk_small h0 h1 h2) fun t' k => ⟨.str (Txt.mul z n), H, I.tok _, ⟨_, rfl⟩, q⟩
def gMulS : GW
  | .str s, .int n => if 0 ≤ n ∧ n ≤ 10000 ∧ s.length ≤ 1000 then some (.val, .str (Txt.mul s n)) else none
  | x, y => gMul x y
def rMulS : R2 := fun x y H Q => rRepS x y H Q ∨ rMulM x y H Q
theorem o_mulS {X : Cx} : OpR X (binaryOp .Mult) rMulS := OpR.or op_repS o_mul
theorem g_mulS {K : PySem.W.Frag} : OpW K rMulS gMulS := by
  intro x y m z e F H vx vy Q t px py q
  unfold gMulS at e
  split at e
  · split at e
    · rename_i h
      cases e; cases px.str; cases py.int
      exact .inl ⟨_, _, rfl, rfl, h.1, h.2.1, h.2.2, old_val t (K := K) (z := .str _) rfl q⟩
    · cases e
  · exact .inr (g_mul x y m z e F H vx vy Q t px py q)
/-! ### a fresh list, lent as the last argument -/
def finFr (I J : List Nat) (fm : List W → FR) (n : Nat) (ρ : Rho) (bs : List (Md × W)) : R (Md × W) := match callA I J 0 bs ρ with
  | .ok xs ρ3 => if (slotsX xs).Nodup ∧ posX 0 xs = J then (match resX ρ3 xs with
    | some args => (match fm args with
      | .ok fr w outs => .ok (if fr then .fre else .val, w) ((putOuts (slotsX xs) outs ρ3).take n)
      | .exc c ns ws outs => .exc c ns ws ((putOuts (slotsX xs) outs ρ3).take n)
      | .stk => .stk)
    | none => .stk) else .stk
  | _ => .stk
def mCallF (I J : List Nat) (fm : List W → FR) (fs : List (Rho → R (Md × W))) (fl : Rho → R (Md × W)) : Rho → R (Md × W) := fun ρ => (mHold fs ρ).bind fun bs ρ1 => (fl ρ1).bind fun b ρ2 => match b with
  | (.fre, w) => finFr I J fm ρ2.length (ρ2 ++ [.own w]) (bs ++ [(.bor ρ2.length, w)])
  | _ => .stk
def tMAF (K : PySem.W.Frag) (Y : Yx I) (fs : List (Rho → R (Md × W))) (fl : Rho → R (Md × W)) : TA := fun σ H Q => ∃ F ρ, SR K Y.B F H σ ρ ∧ RunG K Y F H σ (mHold fs ρ) fun bs ρ1 F1 H1 => RunG K Y F1 H1 σ (fl ρ1) fun b ρ2 F2 H2 =>
  ∀ F3 vs v, SR K Y.B F3 H2 σ ρ2 → Keeps F2 H2 F3 H2 → HeldL σ K F3 H2 bs vs → VR K Y.B F3 H2 σ ρ2 b.1 b.2 v → Q (vs ++ [v]) H2
def PAMF (X : Cx) (Y : Yx I) (es : List Expr) (fs : List (Rho → R (Md × W))) (fl : Rho → R (Md × W)) : Prop := PA X es (tMAF X.K Y fs fl)
section
variable {X : Cx} {Y : Yx I} {e : Expr} {es : List Expr} {f fl : Rho → R (Md × W)} {fs : List (Rho → R (Md × W))}
theorem pamf_one (h1 : PEM X Y e fl) (hs : starEach [e] X.env = (false, eval e X.env) :: starEach [] X.env := by rfl) : PAMF X Y [e] [] fl := pa_weak (pa_cons h1 pa_nil hs) fun σ H Q hq => by
  obtain ⟨F, ρ, S, q⟩ := hq
  refine ⟨F, ρ, S, (show RunG _ Y F H σ (fl ρ) _ from q F H S .refl).imp fun b ρ1 F1 H1 S1 k1 q1 v hv => ?_⟩
  exact q1 F1 [] v S1 .refl rfl hv
theorem pamf_cons (h1 : PEM X Y e f) (h2 : PAMF X Y es fs fl) (hs : starEach (e :: es) X.env = (false, eval e X.env) :: starEach es X.env := by rfl) : PAMF X Y (e :: es) (f :: fs) fl := pa_weak (pa_cons h1 h2 hs) fun σ H Q hq => by
  obtain ⟨F, ρ, S, q⟩ := hq
  refine ⟨F, ρ, S, (RunG.bind q).imp fun b ρ1 F1 H1 S1 k1 q1 v hv => ?_⟩
  obtain ⟨F1', S1', k1', hd1⟩ := S1.hold hv
  refine ⟨F1', ρ1, S1', (RunG.bind (q1.rebase k1')).imp fun bs ρ2 F2 H2 S2 k2 q2 => ?_⟩
  exact (show RunG _ Y F2 H2 σ (fl ρ2) _ from q2 F2 H2 S2 .refl).imp fun c ρ3 F3 H3 S3 k3 q3 F4 vs u S4 k4 hvs hu => q3 F4 (v :: vs) u S4 k4 ⟨v, vs, rfl, hd1.mono ((k2.trans k3).trans k4), hvs⟩ hu
end
section
variable {K : PySem.W.Frag} {B : Bd} {F : Fz} {H : Hp} {σ : L2.St} {ρ : Rho}
theorem SR.plus (S : SR K B F H σ ρ) {w : W} {v : V} (h : Fre K B F H σ ρ w v) : SR K B F H (σ ++ [some v]) (ρ ++ [.own w]) := by
  obtain ⟨a, rfl, o, nf, h0, hs⟩ := h
  have new : ∀ {j : Nat} {u : W}, (ρ ++ [Sl.own w])[j]? = some (.own u) → (σ ++ [some (.ref a)])[j]? = some (some (.ref a)) → j = ρ.length := fun {j u} h1 h2 => by
    by_cases lt : j < ρ.length
    · rw [List.getElem?_append_left lt] at h1
      rw [List.getElem?_append_left (by rw [S.len]; exact lt)] at h2
      exact absurd h2 (hs j u h1)
    · have : j < (ρ ++ [Sl.own w]).length := (List.getElem?_eq_some_iff.mp h1).1
      simp at this
      omega
  refine ⟨by simp [S.len], fun i s h => ?_, fun i j u u' b h1 h2 e1 e2 => ?_, fun p hp => ?_, S.ext, S.alive, S.f0, S.f1, S.f2⟩
  · by_cases lt : i < ρ.length
    · rw [List.getElem?_append_left lt] at h
      rw [List.getElem?_append_left (by rw [S.len]; exact lt)]
      exact S.slot i s h
    · have : i < (ρ ++ [Sl.own w]).length := (List.getElem?_eq_some_iff.mp h).1
      have e : i = ρ.length := by simp at this; omega
      subst e
      rw [List.getElem?_append_right (Nat.le_refl _), Nat.sub_self] at h
      cases (Option.some.inj h)
      rw [← S.len, List.getElem?_append_right (Nat.le_refl _), Nat.sub_self]
      exact ⟨a, rfl, o, nf, fun k => k.1 h0⟩
  · by_cases li : i < ρ.length
    · by_cases lj : j < ρ.length
      · rw [List.getElem?_append_left li] at h1
        rw [List.getElem?_append_left lj] at h2
        rw [List.getElem?_append_left (by rw [S.len]; exact li)] at e1
        rw [List.getElem?_append_left (by rw [S.len]; exact lj)] at e2
        exact S.sep i j u u' b h1 h2 e1 e2
      · have : j < (ρ ++ [Sl.own w]).length := (List.getElem?_eq_some_iff.mp h2).1
        have e : j = ρ.length := by simp at this; omega
        have e2' := e2
        rw [e, ← S.len, List.getElem?_append_right (Nat.le_refl _), Nat.sub_self] at e2'
        have eb : a = b := by simpa using e2'
        subst eb
        rw [e]
        exact new h1 e1
    · have : i < (ρ ++ [Sl.own w]).length := (List.getElem?_eq_some_iff.mp h1).1
      have e : i = ρ.length := by simp at this; omega
      have e1' := e1
      rw [e, ← S.len, List.getElem?_append_right (Nat.le_refl _), Nat.sub_self] at e1'
      have eb : a = b := by simpa using e1'
      subst eb
      rw [e, new h2 e2]
  · obtain ⟨h1, u, h2⟩ := S.lent p hp
    have l1 : p.1 < σ.length := (List.getElem?_eq_some_iff.mp h1).1
    have l2 : p.1 < ρ.length := (List.getElem?_eq_some_iff.mp h2).1
    exact ⟨by rw [List.getElem?_append_left l1]; exact h1, u, by rw [List.getElem?_append_left l2]; exact h2⟩
theorem SR.minus {F' : Fz} {H' : Hp} {σ' : L2.St} {ρ' : Rho} (S : SR K B F' H' (σ ++ σ') ρ') (hI : ∀ p ∈ B.I, p.1 < σ.length) : SR K B F' H' σ (ρ'.take σ.length) := by
  have at_ : ∀ {i : Nat} {s : Sl}, (ρ'.take σ.length)[i]? = some s → i < σ.length ∧ ρ'[i]? = some s := fun {i s} h => by
    rw [List.getElem?_take] at h
    split at h
    · exact ⟨by assumption, h⟩
    · cases h
  refine ⟨?_, fun i s h => ?_, fun i j u u' b h1 h2 e1 e2 => ?_, fun p hp => ?_, S.ext, S.alive, S.f0, S.f1, S.f2⟩
  · rw [List.length_take, ← S.len, List.length_append]; omega
  · obtain ⟨l, h1⟩ := at_ h
    have := S.slot i s h1
    rwa [List.getElem?_append_left l] at this
  · obtain ⟨l1, g1⟩ := at_ h1
    obtain ⟨l2, g2⟩ := at_ h2
    exact S.sep i j u u' b g1 g2 (by rw [List.getElem?_append_left l1]; exact e1) (by rw [List.getElem?_append_left l2]; exact e2)
  · obtain ⟨h1, u, h2⟩ := S.lent p hp
    have l := hI p hp
    rw [List.getElem?_append_left l] at h1
    exact ⟨h1, u, by rw [List.getElem?_take, if_pos l]; exact h2⟩
end
theorem HeldL.plus {σ : L2.St} {K : PySem.W.Frag} {F : Fz} {H : Hp} {v : V} : ∀ {bs : List (Md × W)} {vs : List V}, HeldL σ K F H bs vs → HeldL (σ ++ [some v]) K F H bs vs
  | [], _, h => h
  | (m, w) :: bs, _, ⟨u, r, e, h1, h2⟩ => ⟨u, r, e, by
      cases m with
      | val => exact h1
      | fre => exact h1
      | bor i =>
        have h3 : σ[i]? = some (some u) := h1
        show (σ ++ [some v])[i]? = some (some u)
        rw [List.getElem?_append_left (List.getElem?_eq_some_iff.mp h3).1]
        exact h3, HeldL.plus h2⟩
theorem HeldL.snoc {σ : L2.St} {K : PySem.W.Frag} {F : Fz} {H : Hp} {b : Md × W} {v : V} (hb : Held σ K F H b.1 b.2 v) : ∀ {bs : List (Md × W)} {vs : List V}, HeldL σ K F H bs vs → HeldL σ K F H (bs ++ [b]) (vs ++ [v])
  | [], _, h => by
    have e : _ = [] := h
    subst e
    exact ⟨v, [], rfl, hb, rfl⟩
  | c :: bs, _, ⟨u, r, e, h1, h2⟩ => ⟨u, r ++ [v], by rw [e]; rfl, h1, HeldL.snoc hb h2⟩
theorem HeldL.len {σ : L2.St} {K : PySem.W.Frag} {F : Fz} {H : Hp} : ∀ {bs : List (Md × W)} {vs : List V}, HeldL σ K F H bs vs → vs.length = bs.length
  | [], _, h => by have e : _ = [] := h; rw [e]; rfl
  | b :: bs, _, ⟨v, r, e, _, h⟩ => by rw [e, List.length_cons, List.length_cons, HeldL.len h]
theorem mHold_len : ∀ {fs : List (Rho → R (Md × W))} {ρ ρ' : Rho} {bs : List (Md × W)}, mHold fs ρ = .ok bs ρ' → bs.length = fs.length
  | [], _, _, _, e => by cases e; rfl
  | f :: fs, ρ, ρ', bs, e => by
    have e1 : (f ρ).bind (fun b ρ1 => (mHold fs ρ1).bind fun bs ρ2 => .ok (b :: bs) ρ2) = .ok bs ρ' := e
    cases q1 : f ρ with
    | ok b ρ1 =>
      rw [q1] at e1
      have e2 : (mHold fs ρ1).bind (fun bs ρ2 => R.ok (b :: bs) ρ2) = .ok bs ρ' := e1
      cases q2 : mHold fs ρ1 with
      | ok bs1 ρ2 =>
        rw [q2] at e2
        cases e2
        rw [List.length_cons, List.length_cons, mHold_len q2]
      | exc c ns ws ρ2 => rw [q2] at e2; cases e2
      | stk => rw [q2] at e2; cases e2
    | exc c ns ws ρ1 => rw [q1] at e1; cases e1
    | stk => rw [q1] at e1; cases e1
theorem callF_of {K : PySem.W.Frag} {Y : Yx I} {J : List Nat} {np : Nat} {fm : List W → FR} {fs : List (Rho → R (Md × W))} {fl : Rho → R (Md × W)} {σ : L2.St} {H : Hp} {Q : VK} (hnp : fs.length + 1 = np) (hq : tM K Y (mCallF I J fm fs fl) σ H Q) :
    tMAF K Y fs fl σ H fun vs H1 => spM K Y.ct J np fm vs H1 Q (WE Y.wx σ) := by
  obtain ⟨F, ρ, S, q⟩ := hq
  have hb := RunG.bind q
  have hb2 := RunG.withP (p := fun bs => bs.length + 1 = np) (fun bs ρ1 e => by rw [mHold_len e, hnp]) hb
  refine ⟨F, ρ, S, hb2.imp fun bs ρ1 F1 H1 S1 k1 ⟨hlen, q1⟩ => (RunG.bind q1).imp fun b ρb Fb Hb Sb kb q2 F2 vs v S2 k2 hvs hv => ?_⟩
  replace q2 := q2.rebase k2
  obtain ⟨m, wl⟩ := b
  cases m with
  | val => exact q2.elim
  | bor i => exact q2.elim
  | fre =>
    have SP := S2.plus hv
    have hn : σ.length = ρb.length := S2.len
    have hI : ∀ p ∈ Y.B.I, p.1 < σ.length := fun p hp => (List.getElem?_eq_some_iff.mp (S2.lent p hp).1).1
    have HV : HeldL (σ ++ [some v]) K F2 Hb (bs ++ [(.bor ρb.length, wl)]) (vs ++ [v]) := (hvs.plus).snoc (b := (.bor ρb.length, wl)) (by
      show (σ ++ [some v])[ρb.length]? = some (some v)
      rw [← hn, List.getElem?_append_right (Nat.le_refl _), Nat.sub_self]
      rfl)
    have vl : (vs ++ [v]).length = np := by rw [HV.len, List.length_append]; exact hlen
    replace q2 : RunG K Y F2 Hb σ (finFr I J fm ρb.length (ρb ++ [.own wl]) (bs ++ [(.bor ρb.length, wl)])) _ := q2
    unfold finFr at q2
    cases ec : callA I J 0 (bs ++ [(.bor ρb.length, wl)]) (ρb ++ [.own wl]) with
    | stk => rw [ec] at q2; exact q2.elim
    | exc c ns ws ρx => rw [ec] at q2; exact q2.elim
    | ok xs ρ3 =>
      rw [ec] at q2
      dsimp only at q2
      obtain ⟨F3, xs', ρ3', S3, k3, xr, e1, e2⟩ := callA_ok (Y := Y) (J := J) (P := fun xs' ρ' _ _ => xs' = xs ∧ ρ' = ρ3) SP HV (by rw [ec]; exact fun _ _ _ _ => ⟨rfl, rfl⟩)
      subst e1 e2
      replace q2 := q2.rebase k3
      split at q2
      · rename_i hc
        cases er : resX ρ3' xs' with
        | none => rw [er] at q2; exact q2.elim
        | some args =>
          rw [er] at q2
          dsimp only at q2
          obtain ⟨g1, g2, g3⟩ := x_lent S3 (k := 0) xr er
          have el : lentA J (vs ++ [v]) = (lentX 0 xs' (vs ++ [v])).map fun t => (t.1, t.2.2) := by
            rw [← hc.2, ← g1]
            exact lentA_eq fun t ht => by have := (g3 t ht).2.1; rwa [Nat.sub_zero] at this
          have hl : ∀ (t : Nat × Nat × Addr), t ∈ lentX 0 xs' (vs ++ [v]) → (σ ++ [some v])[t.2.1]? = some (some (.ref t.2.2)) ∧ ∃ w, ρ3'[t.2.1]? = some (.own w) := fun t ht => (g3 t ht).2.2
          have nd : ((lentX 0 xs' (vs ++ [v])).map (·.2.1)).Nodup := by rw [g2]; exact hc.1
          refine ⟨F3, args, vl, S3.f2, x_args S3 xr er (fun j hj _ => by rw [hc.2]; exact hj) (fun j hj => by rw [hc.2] at hj; exact hj), ⟨?_, ?_⟩, ?_⟩
          · rw [el, List.map_map]
            show (lentX 0 xs' (vs ++ [v])).map (·.1) = J
            rw [g1, hc.2]
          · rw [el]
            intro p hp q hq epq
            obtain ⟨t, ht, et⟩ := List.mem_map.mp hp
            obtain ⟨u, hu, eu⟩ := List.mem_map.mp hq
            subst et
            subst eu
            obtain ⟨h1, w1, h2⟩ := hl t ht
            obtain ⟨h3, w2, h4⟩ := hl u hu
            have e1 : t.2.2 = u.2.2 := epq
            rw [← e1] at h3
            have es := S3.sep _ _ _ _ _ h2 h4 h1 h3
            obtain ⟨n, en⟩ := List.mem_iff_getElem?.mp ht
            obtain ⟨m, em⟩ := List.mem_iff_getElem?.mp hu
            have nm := nodup_get nd (i := n) (j := m) (x := t.2.1) (by rw [List.getElem?_map, en]; rfl) (by rw [List.getElem?_map, em, es]; rfl)
            subst nm
            rw [en] at em
            cases em
            rfl
          · have eA : (lentA J (vs ++ [v])).map (·.2) = (lentX 0 xs' (vs ++ [v])).map (·.2.2) := by
              rw [el, List.map_map]
              rfl
            rw [eA, el]
            cases ef : fm args with
            | stk => rw [ef] at q2; exact q2.elim
            | exc c ns ws outs =>
              rw [ef] at q2
              intro F' H' d ee oo x
              obtain ⟨S4, k4⟩ := sr_called S3 hl nd ee oo
              rw [g2] at S4
              have S5 := S4.minus hI
              rw [hn] at S5
              exact q2 F' H' d S5 x
            | ok fr w outs =>
              rw [ef] at q2
              intro F' H' u ee oo hu
              obtain ⟨S4, k4⟩ := sr_called S3 hl nd ee oo
              rw [g2] at S4
              have S5 := S4.minus hI
              rw [hn] at S5
              refine q2 F' H' S5 k4 u ?_
              cases fr with
              | false => exact hu
              | true =>
                obtain ⟨a, ea, o, nf, h0⟩ := hu
                refine ⟨a, ea, o, nf, ?_, fun i w' hi ei => ?_⟩
                · cases q5 : Y.B.H0 a with
                  | none => rfl
                  | some u => exact absurd h0 (S3.alive a (by rw [q5]; exact (fun z => nomatch z)))
                · have li : i < σ.length := (List.getElem?_eq_some_iff.mp ei).1
                  rw [List.getElem?_take, if_pos (by rw [← hn]; exact li)] at hi
                  have ei2 : (σ ++ [some v])[i]? = some (some (.ref a)) := by rw [List.getElem?_append_left li]; exact ei
                  have q6 : ∃ w0, ρ3'[i]? = some (.own w0) := by
                    have hlen2 : outs.length = (slotsX xs').length := by rw [oo.1, ← g2, List.length_map, List.length_map]
                    obtain ⟨_, p2⟩ := putOuts_get (ρ := ρ3') hc.1 hlen2 fun i hi => by
                      rw [← g2] at hi
                      obtain ⟨t, ht, et⟩ := List.mem_map.mp hi
                      obtain ⟨_, w, h2⟩ := hl t ht
                      rw [← et]
                      exact (List.getElem?_eq_some_iff.mp h2).1
                    rcases p2 i with ⟨n, u, e1, _, _⟩ | ⟨_, e1⟩
                    · rw [← g2, List.getElem?_map] at e1
                      obtain ⟨t, et, e1⟩ := Option.map_eq_some_iff.mp e1
                      obtain ⟨_, w0, h2⟩ := hl t (List.mem_of_getElem? et)
                      rw [e1] at h2
                      exact ⟨w0, h2⟩
                    · rw [e1] at hi
                      exact ⟨w', hi⟩
                  obtain ⟨w0, h6⟩ := q6
                  obtain ⟨b, eb, ob, _⟩ := S3.slot i _ h6
                  rw [ei2] at eb
                  cases eb
                  obtain ⟨u, hu, _⟩ := ob.some
                  rw [h0] at hu
                  cases hu
      · exact q2.elim
section
variable {X : Cx} {Y : Yx I} {J : List Nat} {k : Nat} {f : Addr} {fd : FuncData} {ps : List Str} {np : Nat} {fm : List W → FR} {x : Str} {p pos : Pos} {e : Expr} {es : List Expr} {fs : List (Rho → R (Md × W))} {fl : Rho → R (Md × W)}
theorem pem_callF (F : FnOk X.prog X.w X.K X.mg X.base (L2.CX X.prog X.w) k f fd ps (spM X.K Y.ct J np fm)) (hr : Room k X.A) (tk : Takes X Y.wx) (hg : Gl X x) (hm : X.mg x = some (.ref f)) (hk : PySem.W.keepIn X.K (.ref f) = true) (hb : Binds X.K fd ps [])
    (ha : PAMF X Y (e :: es) fs fl) (hn : fs.length + 1 = np) (hdb : (x == ("__debug__" : Str)) = false := by decide) (he : starEach (e :: es) X.env = (false, eval e X.env) :: starEach es X.env := by rfl) (hpl : (backTo pos (starEach es X.env)).any (·.1) = false := by rfl) :
    PEM X Y (.Call (.Name x p) (e :: es) [] pos) (mCallF I J fm fs fl) := pe_weak (pe_callS F hr hg hm hk hb (fun σ => passAt tk σ) ha hdb he hpl) fun _ _ _ hq => callF_of hn hq
end
section
variable {X : Cx} {Y : Yx I} {ct : Str → Addr} {k : Nat} {x : Str} {ps : List Str} {J : List Nat} {fm : List W → FR} {p pos : Pos} {e : Expr} {es : List Expr} {fs : List (Rho → R (Md × W))} {fl : Rho → R (Md × W)}
theorem pem_callFD (D : Def X.prog X.w X.K X.mg X.base ct k x ps J fm) (hct : Y.ct = ct) (hr : Room k X.A) (tk : Takes X Y.wx) (hg : Gl X x) (ha : PAMF X Y (e :: es) fs fl) (hn : fs.length + 1 = ps.length)
    (hdb : (x == ("__debug__" : Str)) = false := by decide) (he : starEach (e :: es) X.env = (false, eval e X.env) :: starEach es X.env := by rfl) (hpl : (backTo pos (starEach es X.env)).any (·.1) = false := by rfl) :
    PEM X Y (.Call (.Name x p) (e :: es) [] pos) (mCallF I J fm fs fl) := by
  obtain ⟨f, fd, h1, h2, h3, h4, _⟩ := D
  subst hct
  exact pem_callF h4 hr tk hg h1 h2 h3 ha hn hdb he hpl
end
end ML

set_option maxHeartbeats 4000000
namespace ML
open PySem PySem.Spec PyProof.Rows L2
variable {I : List Nat}
/-! ### an own class of errors: its __init__ stores its arguments -/
def spI (C : Addr) (ns : List Str) : Sp := fun vs H Q E => ∃ (a : Addr) (ys : List V), vs = .ref a :: ys ∧ ys.length = ns.length ∧ H a = some (exo a C none) ∧ ∀ d, H d = none → d ≠ a → Q .non (upd (upd H d (exd d (ns.zip ys).reverse)) a (exo a C (some d)))
inductive InitB (N : List Str) (sc : Scope) : Nat → List Str → List Stmt → Prop
  | nil {k : Nat} : InitB N sc k [] []
  | cons {k : Nat} {f x : Str} {fs : List Str} {ss : List Stmt} {p p' p2 pos : Pos} : N[k]? = some x → Vis sc x → (x == ("__debug__" : Str)) = false → (x == ("__classdict__" : Str)) = false → InitB N sc (k + 1) fs ss → InitB N sc k (f :: fs) (.Assign [.Attribute (.Name "self" p) f p'] (.Name x p2) pos :: ss)
def tIn (K : PySem.W.Frag) (C : Addr) (k : Nat) (fs : List Str) : TS := fun D σ H => OexC K C ∧ (∀ f ∈ fs, PySem.W.findIn K (.ref C) f = some none) ∧ ∃ (a : Addr) (ys : List V), ys.length = fs.length ∧ σ[0]? = some (some (.ref a)) ∧ (∀ i y, ys[i]? = some y → σ[k + i]? = some (some y)) ∧
  ((H a = some (exo a C none) ∧ fs ≠ [] ∧ fs.length ≤ 900 ∧ ∀ dx, H dx = none → dx ≠ a → D.nx σ (upd (upd H dx (exd dx (fs.zip ys).reverse)) a (exo a C (some dx)))) ∨
    ∃ (dx : Addr) (acc : List (Str × V)), H a = some (exo a C (some dx)) ∧ H dx = some (exd dx acc) ∧ dx ≠ a ∧ acc.length + fs.length ≤ 900 ∧ D.nx σ (upd H dx (exd dx ((fs.zip ys).reverse ++ acc))))
theorem upd_same2 {H : Hp} {a : Addr} {o o' : HO} : upd (upd H a o) a o' = upd H a o' := by
  funext b
  by_cases h : b = a
  · rw [h, upd_same, upd_same]
  · rw [upd_ne h, upd_ne h, upd_ne h]
theorem upd_comm {H : Hp} {a b : Addr} {o o' : HO} (n : a ≠ b) : upd (upd H a o) b o' = upd (upd H b o') a o := by
  funext c
  by_cases h : c = a
  · subst h
    rw [upd_ne n, upd_same, upd_same]
  · by_cases g : c = b
    · subst g
      rw [upd_same, upd_ne h, upd_same]
    · rw [upd_ne g, upd_ne h, upd_ne h, upd_ne g]
theorem upd_id {H : Hp} {a : Addr} {o : HO} (h : H a = some o) : upd H a o = H := by
  funext b
  by_cases g : b = a
  · rw [g, upd_same, h]
  · rw [upd_ne g]
theorem pss_init {X : Cx} {C : Addr} (h0 : X.N[0]? = some ("self" : Str)) (hv : Vis X.env.scope "self") : ∀ {k : Nat} {fs : List Str} {ss : List Stmt}, InitB X.N X.env.scope k fs ss → PSs X ss (tIn X.K C k fs)
  | k, _, _, .nil => by
    refine pss_weak pss_nil fun D σ H ⟨_, _, a, ys, hy, _, _, h⟩ => ?_
    have e : ys = [] := List.length_eq_zero_iff.mp hy
    subst e
    rcases h with ⟨_, n, _⟩ | ⟨dx, acc, _, h2, _, _, h3⟩
    · exact absurd rfl n
    · have : upd H dx (exd dx ((([] : List Str).zip ([] : List V)).reverse ++ acc)) = H := upd_id h2
      rw [this] at h3
      exact h3
  | k, _, _, .cons (f := f) (x := x) (fs := fs) (p := p) (p' := p') (p2 := p2) (pos := pos) g1 g2 g3 g4 t => by
    have ih := pss_init (C := C) h0 hv t
    refine pss_weak (pss_cons (ps_ost (pe_var (i := 0) h0 hv) (pe_var (i := k) g1 g2 g3 g4) (by rfl)) ih) fun D σ H ⟨T, hf, a, ys, hy, s0, sk, h⟩ => ?_
    cases ys with
    | nil => cases hy
    | cons y ys =>
      have hy' : ys.length = fs.length := Nat.succ.inj hy
      have y0 : σ[k]? = some (some y) := sk 0 y rfl
      have sk' : ∀ i z, ys[i]? = some z → σ[k + 1 + i]? = some (some z) := fun i z e => by
        have := sk (i + 1) z e
        rwa [show k + (i + 1) = k + 1 + i by omega] at this
      have hf' : ∀ g ∈ fs, PySem.W.findIn X.K (.ref C) g = some none := fun g hg => hf g (List.mem_cons_of_mem _ hg)
      refine ⟨y, y0, .ref a, s0, a, C, rfl, T, hf f (List.mem_cons_self ..), ?_⟩
      have ez : ((f :: fs).zip (y :: ys)).reverse = (fs.zip ys).reverse ++ [(f, y)] := by simp
      rw [ez] at h
      rcases h with ⟨h1, _, hl, h2⟩ | ⟨dx, acc, h1, h2, h3, hl, h4⟩
      · refine .inl ⟨h1, fun dx nd ne => ⟨T, hf', a, ys, hy', s0, sk', .inr ⟨dx, [(f, y)], upd_same, ?_, ne, ?_, ?_⟩⟩⟩
        · rw [upd_ne ne, upd_same]
        · simp at hl ⊢
          omega
        · have h9 := h2 dx nd ne
          rw [upd_comm (a := a) (b := dx) (Ne.symm ne), upd_same2]
          exact h9
      · refine .inr ⟨dx, acc, h1, h2, by simp at hl; omega, T, hf', a, ys, hy', s0, sk', .inr ⟨dx, (f, y) :: acc, ?_, upd_same, h3, ?_, ?_⟩⟩
        · rw [upd_ne (Ne.symm h3)]
          exact h1
        · simp at hl ⊢
          omega
        · rw [upd_same2]
          rw [List.append_assoc] at h4
          exact h4
/-- the class c of errors with the fields ns can be raised with room k -/
def Exc (P : Program) (w : World) (K : PySem.W.Frag) (mg : Str → Option Value) (base : Heap) (ct : Str → Addr) (k : Nat) (c : Str) (ns : List Str) : Prop :=
  mg c = some (.ref (ct c)) ∧ OexC K (ct c) ∧ ∃ (fI : Addr) (fd : FuncData) (ps : List Str), PySem.W.findIn K (.ref (ct c)) "__init__" = some (some (.ref fI)) ∧ PySem.W.typeIn K (.ref fI) = some (.type "function") ∧ Binds K fd ps [] ∧ FnOk P w K mg base (L2.CX P w) k fI fd ps (spI (ct c) ns)
theorem Exc.mono {P : Program} {w : World} {K : PySem.W.Frag} {mg : Str → Option Value} {base : Heap} {ct : Str → Addr} {j k : Nat} {c : Str} {ns : List Str} (D : Exc P w K mg base ct j c ns) (h : j ≤ k) : Exc P w K mg base ct k c ns := by
  obtain ⟨h1, h2, fI, fd, ps, h3, h4, h5, h6⟩ := D
  exact ⟨h1, h2, fI, fd, ps, h3, h4, h5, h6.mono h⟩
theorem init_ok {P : Program} {w : World} {K : PySem.W.Frag} {mg : Str → Option Value} {base : Heap} {x qual : Str} {params : Arguments} {body : List Stmt} {scope : Scope} {dvs : List V} {kws : List (Str × V)} {f : Addr} {fd : FuncData} {xs : List Str} {k : Nat} {C : Addr} {ns : List Str}
    (F : FunD K x qual params body scope dvs kws f fd) (S : FnScope (("self" : Str) :: xs) (("self" : Str) :: xs) scope) (hx : xs.length = ns.length) (hne : ns ≠ []) (hl : ns.length ≤ 900) (hb : InitB (("self" : Str) :: xs) scope 1 ns body) (hv : Vis scope "self") (T : OexC K C) (hf : ∀ g ∈ ns, PySem.W.findIn K (.ref C) g = some none) :
    FnOk P w K mg base (L2.CX P w) (k + 1) f fd (("self" : Str) :: xs) (spI C ns) := by
  refine F.ok S (fun vs H Q E ⟨a, ys, e, hy, _⟩ => by rw [e]; simp [hy, hx]) fun cdv A outer s H vs Q E hr ⟨a, ys, e, hy, h1, h2⟩ => ?_
  subst e
  refine ⟨_, pss_init (X := cxOf (L2.CX P w) P w K mg base (("self" : Str) :: xs) qual scope f cdv A outer s H E) (C := C) rfl hv hb, T, hf, a, ys, hy, rfl, fun i y hi => ?_, .inl ⟨h1, hne, hl, fun dx nd ne => h2 dx nd ne⟩⟩
  unfold L2.start
  have lt : i < ys.length := (List.getElem?_eq_some_iff.mp hi).1
  rw [List.getElem?_append_left (by simp; omega), List.getElem?_map, show 1 + i = i + 1 by omega, List.getElem?_cons_succ, hi]
  rfl
end ML
namespace ML
open PySem PySem.Spec PyProof.Rows L2
variable {I : List Nat}
/-! ### raise -/
def mRaise (I : List Nat) (c : Str) (ns : List Str) (fs : List (Rho → R (Md × W))) : Rho → R Fl := fun ρ => (mHold fs ρ).bind fun bs ρ1 => (valsL I bs ρ1).bind fun ws ρ2 => if ws.length = ns.length ∧ ns ≠ [] ∧ ns.length ≤ 900 then .exc c ns.reverse ws.reverse ρ2 else .stk
theorem zip_rev {α β : Type} : ∀ {l : List α} {m : List β}, l.length = m.length → (l.zip m).reverse = l.reverse.zip m.reverse
  | [], [], _ => rfl
  | a :: l, b :: m, h => by
    have h' : l.length = m.length := Nat.succ.inj h
    rw [List.zip_cons_cons, List.reverse_cons, List.reverse_cons, List.reverse_cons, zip_rev h', List.zip_append (by simp [h'])]
    rfl
section
variable {X : Cx} {Y : Yx I} {ct : Str → Addr} {k : Nat} {c : Str} {ns : List Str} {p pos pos' : Pos} {e : Expr} {es : List Expr} {fs : List (Rho → R (Md × W))}
theorem psm_raise (hc : X.calm = true) (tk : Takes X Y.wx) (D : Exc X.prog X.w X.K X.mg X.base ct k c ns) (hct : Y.ct = ct) (hr : Room (k + 1) X.A) (hg : Gl X c) (ha : PAM X Y (e :: es) fs)
    (hdb : (c == ("__debug__" : Str)) = false := by decide) (he : starEach (e :: es) X.env = (false, eval e X.env) :: starEach es X.env := by rfl) (hpl : (backTo pos (starEach es X.env)).any (·.1) = false := by rfl) :
    PSM X Y (.Raise (some (.Call (.Name c p) (e :: es) [] pos)) none pos') (mRaise I c ns fs) := by
  obtain ⟨hm, T, fI, fd, ps, h3, h4, h5, h6⟩ := D
  subst hct
  refine ps_weak (ps_raise hc tk (pmk_oex (dvs := []) (ds := []) T h3 h4 h6 hr h5 .nil (fun _ _ _ _ _ _ _ ⟨_, _, _, _, _, _, _, _, _, _, _, _, f⟩ => f.elim) hg hm ha hdb he hpl)) fun D σ H hq => ?_
  obtain ⟨F, ρ, S, q⟩ := hq
  refine ⟨F, ρ, S, (RunS.bindE q).imp fun bs ρ1 F1 H1 S1 k1 q1 F2 vs S2 k2 hvs => ?_⟩
  obtain ⟨F3, ws, ρ3, S3, k3, r3, q3⟩ := S2.valsL hvs (P := fun ws ρ3 F3 H3 => RunS X.K Y F3 H3 (if ws.length = ns.length ∧ ns ≠ [] ∧ ns.length ≤ 900 then .exc c ns.reverse ws.reverse ρ3 else .stk) D) (RunS.bindE (q1.rebase k2))
  split at q3
  · rename_i hl
    obtain ⟨l1, l2, l3⟩ := hl
    have lv : vs.length = ns.length := by rw [← r3.len, l1]
    refine ⟨by omega, fun a na => ⟨a, vs ++ [], rfl, by simpa using lv, upd_same, fun d nd ne => ?_⟩⟩
    have nd1 : H1 d = none := by rwa [upd_ne ne] at nd
    refine ⟨rfl, d, (ns.zip (vs ++ [])).reverse, upd_same, by rw [upd_ne ne, upd_same], nd1, ?_⟩
    have eH : upd (del (upd (upd (upd H1 a (exo a (Y.ct c) none)) d (exd d (ns.zip (vs ++ [])).reverse)) a (exo a (Y.ct c) (some d))) a) d (.xd (ns.zip (vs ++ [])).reverse) = upd H1 d (.xd (ns.zip (vs ++ [])).reverse) := by
      funext b
      by_cases hb : b = d
      · rw [hb, upd_same, upd_same]
      · rw [upd_ne hb, upd_ne hb]
        by_cases hba : b = a
        · rw [hba, del_same, na]
        · rw [del_ne hba, upd_ne hba, upd_ne hb, upd_ne hba]
    rw [eH, List.append_nil]
    have ex : Ext [] F3 H1 F3 (upd H1 d (.xd (ns.zip vs).reverse)) := by
      refine ⟨fun b o _ h => ?_, fun _ h => h, fun _ h => .inl h, fun b h => ?_⟩
      · have nb : b ≠ d := fun z => by rw [z, nd1] at h; cases h
        rw [upd_ne nb]
        exact h
      · have hb := S3.f2 b h
        have nb : b ≠ d := fun z => hb (by rw [z]; exact nd1)
        rw [upd_ne nb]
        exact hb
    refine q3 F3 _ σ (some d) (S3.grow ex) ?_
    have hz : (ns.zip vs).reverse = ns.reverse.zip vs.reverse := zip_rev lv.symm
    have hex : ∃ x l, ns.reverse = x :: l := by
      cases hh : ns.reverse with
      | nil => exact absurd (List.reverse_eq_nil_iff.mp hh) l2
      | cons x l => exact ⟨x, l, rfl⟩
    obtain ⟨x, l, hx⟩ := hex
    have r4 := (r3.mono ex.keeps).reverse
    unfold ExF
    rw [hz, hx] at r4 ⊢
    exact ⟨d, vs.reverse, rfl, upd_same, by rw [← hx]; simp [lv], r4⟩
  · exact q3.elim
end
end ML
namespace ML
open PySem PySem.Spec PyProof.Rows L2
variable {I : List Nat}
/-! ### try .. except C as e -/
def noX (ρ : Rho) : Rho := ρ.map fun s => match s with
  | .exn => .no
  | s => s
theorem noX_get {ρ : Rho} {j : Nat} {s : Sl} (h : (noX ρ)[j]? = some s) : s = .no ∨ (s ≠ .exn ∧ ρ[j]? = some s) := by
  unfold noX at h
  rw [List.getElem?_map] at h
  obtain ⟨z, hz, e⟩ := Option.map_eq_some_iff.mp h
  cases z with
  | no => exact .inl e.symm
  | exn => exact .inl e.symm
  | val w => have e' : Sl.val w = s := e; rw [← e']; exact .inr ⟨(fun z => nomatch z), hz⟩
  | own w => have e' : Sl.own w = s := e; rw [← e']; exact .inr ⟨(fun z => nomatch z), hz⟩
theorem noX_own {ρ : Rho} {j : Nat} {w : W} (h : (noX ρ)[j]? = some (.own w)) : ρ[j]? = some (.own w) := by
  rcases noX_get h with e | ⟨_, e⟩
  · cases e
  · exact e
theorem noX_len (ρ : Rho) : (noX ρ).length = ρ.length := by unfold noX; rw [List.length_map]
theorem noX_keep {ρ : Rho} {j : Nat} {w : W} (h : ρ[j]? = some (.own w)) : (noX ρ)[j]? = some (.own w) := by
  unfold noX
  rw [List.getElem?_map, h]
  rfl
open Classical in
noncomputable def suiteH (B : Bd) (F : Fz) (H : Hp) : Hp := fun b => if F b ∨ ¬ Mut (H b) then (match H b with
    | some o => some o
    | none => B.H0 b) else B.H0 b
/-- the base of a suite: all that does not change stays -/
noncomputable def Bd.suite (B : Bd) (F : Fz) (H : Hp) (a : Addr) : Bd := { H0 := suiteH B F H, F0 := F, I := B.I, ea := a }
section
variable {K : PySem.W.Frag} {B : Bd} {F F' : Fz} {H H' : Hp} {σ σ' : L2.St} {ρ ρ' : Rho} {a : Addr}
theorem suite_yes {b : Addr} {o : HO} (h : H b = some o) (m : F b ∨ ¬ Mut (some o)) : (B.suite F H a).H0 b = some o := by
  show suiteH B F H b = _
  unfold suiteH
  rw [if_pos (by rw [h]; exact m), h]
theorem suite_no {b : Addr} (h : ¬ (F b ∨ ¬ Mut (H b))) : (B.suite F H a).H0 b = B.H0 b := by
  show suiteH B F H b = _
  unfold suiteH
  rw [if_neg h]
theorem suite_cases (b : Addr) : (∃ o, H b = some o ∧ (F b ∨ ¬ Mut (some o)) ∧ (B.suite F H a).H0 b = some o) ∨ (B.suite F H a).H0 b = B.H0 b := by
  by_cases h : F b ∨ ¬ Mut (H b)
  · cases e : H b with
    | none =>
      right
      show suiteH B F H b = _
      unfold suiteH
      rw [if_pos h, e]
    | some o => exact .inl ⟨o, rfl, by rw [← e]; exact h, suite_yes e (by rw [← e]; exact h)⟩
  · exact .inr (suite_no h)
theorem suite_kept (S : SR K B F H σ ρ) {b : Addr} (h : B.kept b) : (B.suite F H a).kept b := by
  refine ⟨?_, h.2⟩
  rcases suite_cases (B := B) (F := F) (H := H) (a := a) b with ⟨o, _, _, e⟩ | e
  · rw [e]; exact (fun z => nomatch z)
  · rw [e]; exact h.1
theorem suite_sr (S : SR K B F H σ ρ) {i : Nat} (u : unlent B i) (lt : i < ρ.length) : SR K (B.suite F H a) F H (σ.set i (some (.ref a))) ((noX ρ).set i .exn) := by
  have own : ∀ {j : Nat} {w : W}, ((noX ρ).set i .exn)[j]? = some (.own w) → j ≠ i ∧ ρ[j]? = some (.own w) := fun {j w} h => by
    rcases set_cases h with ⟨_, e, _⟩ | ⟨n, e⟩
    · cases e
    · exact ⟨n, noX_own e⟩
  refine ⟨by rw [List.length_set, List.length_set, noX_len]; exact S.len, fun j s h => ?_, fun j k w w' c h1 h2 e1 e2 => ?_, fun p hp => ?_, fun b o kb hb => ?_, fun b hb => ?_, fun b h => h, fun b h => .inl h, S.f2⟩
  · rcases set_cases h with ⟨e, e', _⟩ | ⟨n, e⟩
    · rw [e, e', set_eq (by rw [S.len]; exact lt)]
      rfl
    · rw [set_ne n]
      rcases noX_get e with e | ⟨_, e⟩
      · subst e; trivial
      · have q := S.slot j s e
        cases s with
        | no => trivial
        | exn => rename_i hx; exact absurd rfl hx
        | val w => exact q
        | own w =>
          obtain ⟨c, ec, o, nf, nk⟩ := q
          refine ⟨c, ec, o, nf, fun kc => nk ⟨?_, kc.2⟩⟩
          obtain ⟨u, hu, mu⟩ := o.some
          rcases suite_cases (B := B) (F := F) (H := H) (a := a) c with ⟨o2, h2, m2, _⟩ | e2
          · rw [hu] at h2
            cases h2
            rcases m2 with m2 | m2
            · exact absurd m2 nf
            · exact absurd mu m2
          · rw [← e2]; exact kc.1
  · obtain ⟨n1, g1⟩ := own h1
    obtain ⟨n2, g2⟩ := own h2
    rw [set_ne n1] at e1
    rw [set_ne n2] at e2
    exact S.sep j k w w' c g1 g2 e1 e2
  · obtain ⟨h1, w, h2⟩ := S.lent p hp
    have n : p.1 ≠ i := fun e => u (List.mem_map.mpr ⟨p, hp, e⟩)
    exact ⟨by rw [set_ne n]; exact h1, w, by rw [set_ne n]; exact noX_keep h2⟩
  · rcases suite_cases (B := B) (F := F) (H := H) (a := a) b with ⟨o2, h2, _, e2⟩ | e2
    · rw [e2] at hb
      rw [h2]
      exact hb
    · rw [e2] at hb
      exact S.ext b o ⟨by rw [hb]; exact (fun z => nomatch z), kb.2⟩ hb
  · rcases suite_cases (B := B) (F := F) (H := H) (a := a) b with ⟨o2, h2, _, _⟩ | e2
    · rw [h2]; exact (fun z => nomatch z)
    · rw [e2] at hb
      exact S.alive b hb
/-- in the suite all that did not change at its entry still stands -/
theorem suite_keeps (S : SR K B F H σ ρ) (S' : SR K (B.suite F H a) F' H' σ' ρ') : Keeps F H F' H' := by
  refine ⟨fun b h => S'.f0 b h, fun b o h m => ?_⟩
  have e : (B.suite F H a).H0 b = some o := suite_yes h m
  refine S'.ext b o ⟨by rw [e]; exact (fun z => nomatch z), fun p hp z => ?_⟩ e
  obtain ⟨h1, w, h2⟩ := S.lent p hp
  obtain ⟨c, ec, ow, nf, _⟩ := S.slot _ _ h2
  rw [h1] at ec
  cases ec
  obtain ⟨u, hu, mu⟩ := ow.some
  rw [z, h] at hu
  cases hu
  rcases m with m | m
  · exact nf (by rw [z]; exact m)
  · exact m mu
theorem suite_leave (S : SR K B F H σ ρ) (S' : SR K (B.suite F H a) F' H' σ' ρ') : SR K B F' H' σ' (noX ρ') := by
  refine ⟨by rw [noX_len]; exact S'.len, fun j s h => ?_, fun j k w w' c h1 h2 e1 e2 => S'.sep j k w w' c (noX_own h1) (noX_own h2) e1 e2, fun p hp => ?_, fun b o kb hb => ?_, fun b hb => ?_, fun b h => S'.f0 b (S.f0 b h), fun b h => ?_, S'.f2⟩
  · rcases noX_get h with e | ⟨nx, e⟩
    · subst e; trivial
    · have q := S'.slot j s e
      cases s with
      | no => trivial
      | exn => exact absurd rfl nx
      | val w => exact q
      | own w =>
        obtain ⟨c, ec, o, nf, nk⟩ := q
        exact ⟨c, ec, o, nf, fun kc => nk (suite_kept S kc)⟩
  · obtain ⟨h1, w, h2⟩ := S'.lent p hp
    exact ⟨h1, w, noX_keep h2⟩
  · refine S'.ext b o (suite_kept S kb) ?_
    rcases suite_cases (B := B) (F := F) (H := H) (a := a) b with ⟨o2, h2, _, e2⟩ | e2
    · have := S.ext b o kb hb
      rw [h2] at this
      rw [e2, this]
    · rw [e2]; exact hb
  · refine S'.alive b ?_
    rcases suite_cases (B := B) (F := F) (H := H) (a := a) b with ⟨o2, _, _, e2⟩ | e2
    · rw [e2]; exact (fun z => nomatch z)
    · rw [e2]; exact hb
  · rcases S'.f1 b h with h | h
    · exact S.f1 b h
    · right
      rcases suite_cases (B := B) (F := F) (H := H) (a := a) b with ⟨o2, _, _, e2⟩ | e2
      · rw [e2] at h; cases h
      · rw [← e2]; exact h
end
end ML
namespace ML
open PySem PySem.Spec PyProof.Rows L2
variable {I : List Nat}
/-- what a suite knows of its exception -/
structure Sui (K : PySem.W.Frag) (ct : Str → Addr) (Y' : Yx I) (a : Addr) (cls : Value) (d : Option Addr) (c : Str) (ns : List Str) (ws : List W) : Prop where
  cls : cls = .ref (ct c)
  ea : Y'.B.ea = a
  ct : Y'.ct = ct
  wx : Y'.wx = fun _ _ _ _ => False
  fld : ∀ F H σ ρ, SR K Y'.B F H σ ρ → ExF K F H ns ws d
def mTry (I : List Nat) (i : Nat) (cm : Str → Option Bool) (g : Rho → R Fl) (h : Str → List Str → List W → Rho → R Fl) : Rho → R Fl := fun ρ => match g (noX ρ) with
  | .exc c ns ws ρ1 => (match cm c with
    | some true => if i ∉ I ∧ i < ρ1.length then (match h c ns ws ((noX ρ1).set i .exn) with
      | .ok (.rt (.bor _) _) _ => .stk
      | .ok fl ρ2 => .ok fl (noX ((noX ρ2).set i .no))
      | _ => .stk) else .stk
    | some false => .exc c ns ws (noX ρ1)
    | none => .stk)
  | .ok fl ρ1 => .ok fl (noX ρ1)
  | .stk => .stk
section
variable {K : PySem.W.Frag} {B : Bd} {F F' : Fz} {H H' : Hp} {σ σ' : L2.St} {ρ ρ' : Rho} {a : Addr}
theorem suite_in (S : SR K B F H σ ρ) : SR K (B.suite F H a) F H σ (noX ρ) := by
  refine ⟨by rw [noX_len]; exact S.len, fun j s h => ?_, fun j k w w' c h1 h2 e1 e2 => S.sep j k w w' c (noX_own h1) (noX_own h2) e1 e2, fun p hp => ?_, fun b o kb hb => ?_, fun b hb => ?_, fun b h => h, fun b h => .inl h, S.f2⟩
  · rcases noX_get h with e | ⟨nx, e⟩
    · subst e; trivial
    · have q := S.slot j s e
      cases s with
      | no => trivial
      | exn => exact absurd rfl nx
      | val w => exact q
      | own w =>
        obtain ⟨c, ec, o, nf, nk⟩ := q
        refine ⟨c, ec, o, nf, fun kc => nk ⟨?_, kc.2⟩⟩
        obtain ⟨u, hu, mu⟩ := o.some
        rcases suite_cases (B := B) (F := F) (H := H) (a := a) c with ⟨o2, h2, m2, _⟩ | e2
        · rw [hu] at h2
          cases h2
          rcases m2 with m2 | m2
          · exact absurd m2 nf
          · exact absurd mu m2
        · rw [← e2]; exact kc.1
  · obtain ⟨h1, w, h2⟩ := S.lent p hp
    exact ⟨h1, w, noX_keep h2⟩
  · rcases suite_cases (B := B) (F := F) (H := H) (a := a) b with ⟨o2, h2, _, e2⟩ | e2
    · rw [e2] at hb
      rw [h2]
      exact hb
    · rw [e2] at hb
      exact S.ext b o ⟨by rw [hb]; exact (fun z => nomatch z), kb.2⟩ hb
  · rcases suite_cases (B := B) (F := F) (H := H) (a := a) b with ⟨o2, h2, _, _⟩ | e2
    · rw [h2]; exact (fun z => nomatch z)
    · rw [e2] at hb
      exact S.alive b hb
theorem suite_h0 {b : Addr} (h : (B.suite F H a).H0 b = none) : B.H0 b = none := by
  rcases suite_cases (B := B) (F := F) (H := H) (a := a) b with ⟨o2, _, _, e2⟩ | e2
  · rw [e2] at h; cases h
  · rw [← e2]; exact h
theorem suite_vr {ρ2 : Rho} (ho : ∀ (j : Nat) (w : W), ρ2[j]? = some (.own w) → ρ'[j]? = some (.own w)) {m : Md} {w : W} {v : V} (hb : ∀ j, m = .bor j → ρ'[j]? = some (.own w) → ρ2[j]? = some (.own w)) (h : VR K (B.suite F H a) F' H' σ' ρ' m w v) : VR K B F' H' σ' ρ2 m w v := by
  cases m with
  | val => exact h
  | fre =>
    obtain ⟨c, ec, o, nf, h0, hs⟩ := h
    exact ⟨c, ec, o, nf, suite_h0 h0, fun j w' hj => hs j w' (ho j w' hj)⟩
  | bor j => exact ⟨hb j rfl h.1, h.2⟩
end
theorem ExF.mono {K : PySem.W.Frag} {F F' : Fz} {H H' : Hp} {ns : List Str} {ws : List W} {d : Option Addr} (k : Keeps F H F' H') (h : ExF K F H ns ws d) : ExF K F' H' ns ws d := by
  cases ns with
  | nil => exact h
  | cons n ns =>
    obtain ⟨dd, vs, e, h1, h2, h3⟩ := h
    exact ⟨dd, vs, e, k.h dd _ h1 (.inr fun q => q), h2, h3.mono k⟩
theorem SR.out {K : PySem.W.Frag} {B : Bd} {F : Fz} {H : Hp} {σ : L2.St} {ρ : Rho} (S : SR K B F H σ ρ) {i : Nat} (u : unlent B i) : SR K B F H (σ.set i none) (ρ.set i .no) := by
  have own : ∀ {j : Nat} {w : W}, (ρ.set i .no)[j]? = some (.own w) → j ≠ i ∧ ρ[j]? = some (.own w) := fun {j w} h => by
    rcases set_cases h with ⟨_, e, _⟩ | ⟨n, e⟩
    · cases e
    · exact ⟨n, e⟩
  refine ⟨by rw [List.length_set, List.length_set]; exact S.len, fun j s h => ?_, fun j k w w' c h1 h2 e1 e2 => ?_, fun p hp => ?_, S.ext, S.alive, S.f0, S.f1, S.f2⟩
  · rcases set_cases h with ⟨_, e, _⟩ | ⟨n, e⟩
    · rw [e]; trivial
    · rw [set_ne n]; exact S.slot j s e
  · obtain ⟨n1, g1⟩ := own h1
    obtain ⟨n2, g2⟩ := own h2
    rw [set_ne n1] at e1
    rw [set_ne n2] at e2
    exact S.sep j k w w' c g1 g2 e1 e2
  · obtain ⟨h1, w, h2⟩ := S.lent p hp
    have n : p.1 ≠ i := fun e => u (List.mem_map.mpr ⟨p, hp, e⟩)
    exact ⟨by rw [set_ne n]; exact h1, w, by rw [set_ne n]; exact h2⟩
section
variable {X : Cx} {Y : Yx I} {x n : Str} {i : Nat} {body suite : List Stmt} {b0 : Stmt} {np pos pos' : Pos} {g : Rho → R Fl} {h : Str → List Str → List W → Rho → R Fl} {cm : Str → Option Bool} {C : Value}
theorem psm_try (hs : X.stack = X.env :: X.outer) (hf : X.env.frame = some X.env.locals) (hN : X.N.Nodup) (hi : X.N[i]? = some n) (hln : X.env.kindOf n = some .local) (hc : Names X x C) (tk : Takes X Y.wx)
    (hcm : ∀ c b, cm c = some b → PySem.W.exmOne X.K (.ref (Y.ct c)) C = some b)
    (hb : ∀ (Y' : Yx I) (pn : List (Addr × Obj)) (xe : Value → Shared → Prop), Y'.ct = Y.ct → Takes (X.tr pn xe) Y'.wx → PassesOwn (model X.prog X.w) X.A X.env xe → PSMs (X.tr pn xe) Y' body g)
    (hsu : ∀ (a : Addr) (oe : Obj) (cls : Value) (d : Option Addr) (pn : List (Addr × Obj)) (Y' : Yx I) (c : Str) (ns : List Str) (ws : List W), Zc cls d oe → (∃ vs, oe.data = .fields vs) → Sui X.K Y.ct Y' a cls d c ns ws → PSMs (X.suite a ((a, oe) :: pn)) Y' (b0 :: suite) (h c ns ws)) :
    PSM X Y (.Try body [.ExceptHandler (some (.Name x np)) (some n) (b0 :: suite) pos'] [] [] pos) (mTry I i cm g h) := by
  let tb : WX → TS := fun W D σ H => ∃ B1 : Bd, ∃ hI : B1.I.map (·.1) = I, tMS X.K ⟨Y.ct, B1, W, hI⟩ g D σ H
  let ts : Addr → Value → Option Addr → TS := fun a cls d D σ H => ∃ (Y' : Yx I) (c : Str) (ns : List Str) (ws : List W), Sui X.K Y.ct Y' a cls d c ns ws ∧ tMS X.K Y' (h c ns ws) D σ H
  refine ps_weak (ps_try_as (tb := tb) (ts := ts) hs hf hN hi hln hc tk (fun W pn xe t p => ⟨fun pins s σ H D J ⟨B1, hI, q⟩ => (hb ⟨Y.ct, B1, W, hI⟩ pn xe rfl t p).run pins s σ H D J q⟩) (fun a oe cls d pn z f => ⟨fun pins s σ H D J ⟨Y', c, ns, ws, su, q⟩ => (hsu a oe cls d pn Y' c ns ws z f su).run pins s σ H D J q⟩)) fun D σ H hq => ?_
  obtain ⟨F, ρ, S, q⟩ := hq
  refine ⟨Y.B.suite F H 0, Y.hI, F, noX ρ, suite_in (a := 0) S, ?_⟩
  unfold mTry at q
  cases e : g (noX ρ) with
  | stk => rw [e] at q; exact q.elim
  | ok fl ρ1 =>
    rw [e] at q
    cases fl with
    | nx => exact fun F1 H1 σ1 S3 k3 => q F1 H1 _ (suite_leave S S3) k3
    | bk => exact fun F1 H1 σ1 S3 k3 => q F1 H1 _ (suite_leave S S3) k3
    | ct => exact fun F1 H1 σ1 S3 k3 => q F1 H1 _ (suite_leave S S3) k3
    | rt m w => exact fun F1 H1 σ1 v S3 hv => q F1 H1 _ v (suite_leave S S3) (suite_vr (fun j w => noX_own) (fun j _ => noX_keep) hv)
  | exc c ns ws ρ1 =>
    rw [e] at q
    dsimp only at q
    intro F' H' σ' d S' x'
    cases ec : cm c with
    | none => rw [ec] at q; exact q.elim
    | some b =>
      rw [ec] at q
      refine ⟨b, hcm c b ec, fun hbt a na => ?_, fun hbf => ?_⟩
      · subst hbt
        dsimp only at q
        split at q
        · rename_i hi2
          obtain ⟨hiI, hlt⟩ := hi2
          have u : unlent Y.B i := Y.un hiI
          have u1 : unlent (Y.B.suite F H 0) i := u
          have S2 := suite_sr (a := a) S' u1 hlt
          refine ⟨⟨Y.ct, (Y.B.suite F H 0).suite F' H' a, fun _ _ _ _ => False, Y.hI⟩, c, ns, ws, ⟨rfl, rfl, rfl, rfl, fun F1 H1 σ1 ρ2 S3 => x'.mono (suite_keeps S' S3)⟩, F', _, S2, ?_⟩
          cases eh : h c ns ws ((noX ρ1).set i .exn) with
          | stk => rw [eh] at q; exact q.elim
          | exc c2 ns2 ws2 ρ2 => rw [eh] at q; exact q.elim
          | ok fl ρ2 =>
            rw [eh] at q
            have lv : ∀ {F1 H1 σ1}, SR X.K ((Y.B.suite F H 0).suite F' H' a) F1 H1 σ1 ρ2 → SR X.K (Y.B.suite F H 0) F1 H1 (σ1.set i none) ((noX ρ2).set i .no) := fun S3 => (suite_leave S' S3).out u1
            have lk : ∀ {F1 H1 σ1}, SR X.K ((Y.B.suite F H 0).suite F' H' a) F1 H1 σ1 ρ2 → SR X.K Y.B F1 H1 (σ1.set i none) (noX ((noX ρ2).set i .no)) ∧ Keeps F H F1 H1 := fun S3 => ⟨suite_leave S (lv S3), suite_keeps S (lv S3)⟩
            cases fl with
            | nx => exact fun F1 H1 σ1 S3 k3 => q F1 H1 _ (lk S3).1 (lk S3).2
            | bk => exact fun F1 H1 σ1 S3 k3 => q F1 H1 _ (lk S3).1 (lk S3).2
            | ct => exact fun F1 H1 σ1 S3 k3 => q F1 H1 _ (lk S3).1 (lk S3).2
            | rt m w =>
              intro F1 H1 σ1 v S3 hv
              have S4 : SR X.K Y.B F1 H1 σ1 (noX ((noX ρ2).set i .no)) := suite_leave S ((suite_leave S' S3).drop u1)
              have ho : ∀ (j : Nat) (w : W), (noX ((noX ρ2).set i .no))[j]? = some (.own w) → ρ2[j]? = some (.own w) := fun j w hj => by
                have h1 := noX_own hj
                rcases set_cases h1 with ⟨_, z, _⟩ | ⟨_, z⟩
                · cases z
                · exact noX_own z
              cases m with
              | bor j => exact q.elim
              | val => exact q F1 H1 σ1 v S4 hv
              | fre =>
                obtain ⟨c2, ec2, o, nf, h0, hs⟩ := hv
                exact q F1 H1 σ1 v S4 ⟨c2, ec2, o, nf, suite_h0 (suite_h0 h0), fun j w' hj => hs j w' (ho j w' hj)⟩
        · exact q.elim
      · subst hbf
        exact q F' H' σ' d (suite_leave S S') x'
end
end ML
namespace ML
open PySem PySem.Spec PyProof.Rows L2
variable {I : List Nat}
/-! ### the exception in its suite: e.f, isinstance(e, D) -/
def mXf (cl : List Str) (i : Nat) (f c : Str) (ns : List Str) (ws : List W) : Rho → R (Md × W) := fun ρ => if c ∈ cl ∧ ns.length = ws.length then (match ρ[i]? with
  | some .exn => (match (ns.zip ws).lookup f with
    | some w => .ok (.val, w) ρ
    | none => .stk)
  | _ => .stk) else .stk
theorem lookup_rep {K : PySem.W.Frag} {F : Fz} {H : Hp} {f : Str} {w : W} : ∀ {ns : List Str} {ws : List W} {vs : List V}, RepL K F H ws vs → (ns.zip ws).lookup f = some w → ∃ v, (ns.zip vs).lookup f = some v ∧ Rep K F H w v
  | [], _, _, _, e => by cases e
  | n :: ns, [], _, _, e => by cases e
  | n :: ns, u :: ws, _, ⟨v, r, ev, h1, h2⟩, e => by
    subst ev
    rw [List.zip_cons_cons] at e ⊢
    unfold List.lookup at e ⊢
    cases hb : (f == n) with
    | true =>
      rw [hb] at e
      cases e
      exact ⟨v, rfl, h1⟩
    | false =>
      rw [hb] at e
      exact lookup_rep h2 e
section
variable {X : Cx} {ct : Str → Addr} {Y' : Yx I} {a : Addr} {oe : Obj} {cls : Value} {d : Option Addr} {pn : List (Addr × Obj)} {i : Nat} {f c x : Str} {ns : List Str} {ws : List W} {cl : List Str} {p pos : Pos}
theorem pem_xf (su : Sui X.K ct Y' a cls d c ns ws) (hz : Zc cls d oe) (hf : ∃ vs, oe.data = .fields vs) (hcl : ∀ c ∈ cl, XfC X.K (ct c) ∧ PySem.W.findIn X.K (.ref (ct c)) f = some none) (hv : PE (X.suite a ((a, oe) :: pn)) (.Name x p) (tVar i)) :
    PEM (X.suite a ((a, oe) :: pn)) Y' (.Attribute (.Name x p) f pos) (mXf cl i f c ns ws) := by
  by_cases hc : c ∈ cl
  · obtain ⟨T, hno⟩ := hcl c hc
    refine pe_weak (pe_xf (C := ct c) (cls := cls) (d := d) T hno hz hf hv (by rfl)) fun σ H Q hq => ?_
    obtain ⟨F, ρ, S, q⟩ := hq
    unfold mXf at q
    split at q
    · rename_i hh
      cases g : ρ[i]? with
      | none => rw [g] at q; exact q.elim
      | some sl =>
        rw [g] at q
        cases sl with
        | no => exact q.elim
        | val w => exact q.elim
        | own w => exact q.elim
        | exn =>
          dsimp only at q
          have hs := S.slot i _ g
          have hs' : σ[i]? = some (some (.ref Y'.B.ea)) := hs
          rw [su.ea] at hs'
          refine ⟨.ref a, hs', rfl, su.cls, ?_⟩
          have x' := su.fld F H σ ρ S
          cases e : (ns.zip ws).lookup f with
          | none => rw [e] at q; exact q.elim
          | some w =>
            rw [e] at q
            cases ns with
            | nil => cases e
            | cons n ns =>
              obtain ⟨dd, vs, ed, h1, h2, h3⟩ := x'
              obtain ⟨v, hv2, r⟩ := lookup_rep h3 e
              exact ⟨dd, _, v, ed, h1, hv2, q F H S .refl v r⟩
    · exact q.elim
  · refine pe_weak (t := fun _ _ _ => False) ⟨fun _ _ _ _ _ _ h => h.elim⟩ fun σ H Q hq => ?_
    obtain ⟨F, ρ, S, q⟩ := hq
    unfold mXf at q
    rw [if_neg (fun z => hc z.1)] at q
    exact q
def mIsE (i : Nat) (t : Option Bool) : Rho → R (Md × W) := fun ρ => match ρ[i]?, t with
  | some .exn, some b => .ok (.val, .bl b) ρ
  | _, _ => .stk
def rIsX (K : PySem.W.Frag) (C a : Addr) (d : Option Addr) : List V → Hp → VK → Prop := fun xs H Q => ∃ (c : V) (cv : Value) (b : Bool), xs = [.ref a, c] ∧ (∀ u, RelV c u → u = cv) ∧ PySem.W.kitOne K (.ref C) cv = some b ∧ (d = none ∨ ∃ (dd : Addr) (fs : List (Str × V)), d = some dd ∧ H dd = some (.xd fs)) ∧ Q (.bl b) H
theorem call_isX {C : Addr} (E : ExcC X.K C) (hz : Zc (.ref C) d oe) (hf : ∃ vs, oe.data = .fields vs) : CallR (X.suite a ((a, oe) :: pn)) (.builtin "isinstance") (rIsX X.K C a d) := by
  intro pins s σ H xs us Q I r h
  obtain ⟨c, cv, b, rfl, hcv, e, hd, q⟩ := h
  cases r with
  | cons rx rr =>
    cases rr with
    | cons rt rr =>
      cases rr
      cases rx
      have ec := hcv _ rt
      subst ec
      obtain ⟨hget, _⟩ := I.pin (a, oe) (List.mem_append.mpr (.inl List.mem_cons_self))
      obtain ⟨vs, hv⟩ := hf
      obtain ⟨od, J⟩ : ∃ od, PySem.W.InstAt s.heap a oe C od := by
        rcases hd with hd | ⟨dd, fs, hd, hH⟩
        · refine ⟨none, hget, hz.1, by unfold PySem.W.notCls; rw [hv] <;> rfl, ?_⟩
          rw [hz.2, hd]
          trivial
        · have hx : ObjOk X.prog X.w H s.heap dd (.xd fs) := I.hok dd _ hH
          obtain ⟨mA, hns, _⟩ := hx
          obtain ⟨od, ho, _⟩ := lookIn_ns hns
          refine ⟨some od, hget, hz.1, by unfold PySem.W.notCls; rw [hv] <;> rfl, ?_⟩
          rw [hz.2, hd]
          exact ho
      have hcl : (PySem.W.clsIn X.K C).isSome = true := by
        obtain ⟨cd, hc, _⟩ := PySem.W.any_some E.hd
        rw [hc]
        rfl
      exact PySem.W.kia_one (PySem.W.kitx_exc hcl E.hg E.hk E.hs E.ha E.hn E.ht E.hm) I.kIn J e (fun z => nomatch z) fun tk => ⟨.bl b, H, I.kept (t' := tk) fun _ _ z => z, rfl, q⟩
theorem pem_isX {D : Str} {p1 p2 pos : Pos} {cv : V} {cw : Value} (su : Sui X.K ct Y' a cls d c ns ws) (hz : Zc cls d oe) (hf : ∃ vs, oe.data = .fields vs) (hcl : ∀ c ∈ cl, ExcC X.K (ct c)) (hg : Gl X "isinstance") (hm : X.mg "isinstance" = none) (hv : PE (X.suite a ((a, oe) :: pn)) (.Name x p) (tVar i))
    (hD : PE (X.suite a ((a, oe) :: pn)) (.Name D p2) (tC cv)) (hcw : ∀ u, RelV cv u → u = cw) {t : Option Bool} (ht : ∀ b, t = some b → c ∈ cl ∧ PySem.W.kitOne X.K (.ref (ct c)) cw = some b) :
    PEM (X.suite a ((a, oe) :: pn)) Y' (.Call (.Name "isinstance" p1) [.Name x p, .Name D p2] [] pos) (mIsE i t) := by
  cases t with
  | none =>
    refine pe_weak (t := fun _ _ _ => False) ⟨fun _ _ _ _ _ _ h => h.elim⟩ fun σ H Q hq => ?_
    obtain ⟨F, ρ, S, q⟩ := hq
    unfold mIsE at q
    split at q
    · rename_i hh
      cases hh
    · exact q
  | some b =>
    obtain ⟨hc, hk⟩ := ht b rfl
    have hz' : Zc (.ref (ct c)) d oe := by rw [← su.cls]; exact hz
    refine pe_weak (pe_callB (call_isX (hcl c hc) hz' hf) hg hm (by rfl) (pa_cons hv (pa_cons hD pa_nil)) (by decide) (by decide) (by rfl) (by rfl)) fun σ H Q hq => ?_
    obtain ⟨F, ρ, S, q⟩ := hq
    unfold mIsE at q
    cases g : ρ[i]? with
    | none => rw [g] at q; exact q.elim
    | some sl =>
      rw [g] at q
      cases sl with
      | no => exact q.elim
      | val w => exact q.elim
      | own w => exact q.elim
      | exn =>
        have hs' : σ[i]? = some (some (.ref Y'.B.ea)) := S.slot i _ g
        rw [su.ea] at hs'
        refine ⟨.ref a, hs', cv, cw, b, rfl, hcw, hk, ?_, q F H S .refl _ rfl⟩
        have x' := su.fld F H σ ρ S
        cases ns with
        | nil => exact .inl x'.1
        | cons n ns =>
          obtain ⟨dd, vs, ed, h1, _⟩ := x'
          exact .inr ⟨dd, _, ed, h1⟩
end
end ML

set_option maxHeartbeats 4000000
namespace ML
open PySem PySem.Spec PyProof.Rows L2
variable {I : List Nat}
/-! ### an own class of errors without __init__, made of nothing -/
/-- the class c of errors without fields can be raised -/
structure Exc0 (K : PySem.W.Frag) (mg : Str → Option Value) (ct : Str → Addr) (c : Str) : Prop where
  g : mg c = some (.ref (ct c))
  q : PySem.W.excIn K (ct c) He.veBase "ValueError.__new__" = true
  k : PySem.W.keepIn K (.ref (ct c)) = true
  s : PySem.W.subIn K (.ref (ct c)) (.type "BaseException") = some true
  t : PySem.W.typeIn K (.ref (ct c)) = some (.type "type")
def mRaise0 (c : Str) : Rho → R Fl := fun ρ => .exc c [] [] ρ
section
variable {X : Cx} {Y : Yx I} {ct : Str → Addr} {c : Str} {p pos pos' : Pos}
theorem pmk_none (D : Exc0 X.K X.mg ct c) (hg : Gl X c) (hdb : (c == ("__debug__" : Str)) = false := by decide) : PMk X (.Call (.Name c p) [] [] pos) (fun _ H Q => Q (.ref (ct c)) none H) := by
  intro pins s0 σ H Q J hQ
  refine wpAny_Call_Name_kw (ld_glob J hg D.g ?_ hdb)
  refine PySem.W.callWith_K0 J.kIn D.k ?_
  show wpAny _ _ (call (.ref (ct c)) []) _ _ _
  obtain ⟨x1, x2, x3, x4, x5, x6, x7, x8, x9, xa, xb, xc, xd, xe, xf, xg, xh, e1, e2, e3, e4⟩ := exc_obj J.kIn D.q
  exact wpAny_call_exc_subT PySem.F.excBase_ValueError e4 e1 e2 e3 (fun h' b mk => mk_of J mk (raises_own D.s D.t) hQ (J.hok.gone mk.new)) (by simp)
theorem psm_raise0 (hc : X.calm = true) (tk : Takes X Y.wx) (D : Exc0 X.K X.mg ct c) (hct : Y.ct = ct) (hg : Gl X c) (hdb : (c == ("__debug__" : Str)) = false := by decide) : PSM X Y (.Raise (some (.Call (.Name c p) [] [] pos)) none pos') (mRaise0 c) := by
  subst hct
  refine ps_weak (ps_raise hc tk (pmk_none D hg hdb)) fun D σ H hq => ?_
  obtain ⟨F, ρ, S, q⟩ := hq
  exact q F H σ none S ⟨rfl, rfl⟩
end
/-! ### checks of a class, for the head -/
def oexB (K : PySem.W.Frag) (C : Addr) : Bool := (match K.lookup C with
  | some ⟨.type "type", _, .cls cd, sl⟩ => (match cd.mro, sl.toList with
    | .ref D :: bm, [_, _, _, _, some (.builtin n), _] => decide (D = C) && (decide (n = "ValueError.__new__") && (cd.hasDict && (!cd.hasDel && PySem.HandSPX.refsVE bm)))
    | _, _ => false)
  | _ => false) && (decide (PySem.W.findIn K (.ref C) "__setattr__" = some (some (.builtin "object.__setattr__"))) && (decide (PySem.W.subIn K (.ref C) (.type "BaseException") = some true) && (decide (PySem.W.typeIn K (.ref C) = some (.type "type")) && PySem.W.keepIn K (.ref C))))
theorem oexB_ok {K : PySem.W.Frag} {C : Addr} (h : oexB K C = true) : OexC K C := by
  unfold oexB at h
  rw [Bool.and_eq_true_iff, Bool.and_eq_true_iff, Bool.and_eq_true_iff, Bool.and_eq_true_iff] at h
  obtain ⟨h1, h2, h3, h4, h5⟩ := h
  refine ⟨?_, of_decide_eq_true h2, of_decide_eq_true h3, of_decide_eq_true h4, h5⟩
  split at h1
  · rename_i dd cd sl hl
    split at h1
    · rename_i D bm k0 k1 k2 k3 n k5 hm hs
      simp only [Bool.and_eq_true, decide_eq_true_eq, Bool.not_eq_true'] at h1
      obtain ⟨g1, g2, g3, g4, g5⟩ := h1
      subst g1 g2
      obtain ⟨nm, bs, mro, ns, qn, hd, sn, sub, ab, col, de⟩ := cd
      dsimp only at hm g3 g4
      subst hm g3 g4
      obtain ⟨sl⟩ := sl
      simp only at hs
      subst hs
      exact ⟨nm, qn, ns, bs, bm, sn, sub, ab, col, dd, k0, k1, k2, k3, k5, hl, g5⟩
    · cases h1
  · cases h1
def excB (K : PySem.W.Frag) (D : Addr) : Bool := decide (PySem.W.findIn K (.ref D) "__getattribute__" = some (some (.builtin "BaseException.__getattribute__"))) && (decide (PySem.W.findIn K (.ref D) "__getattr__" = some none) && (decide (PySem.W.subIn K (.ref D) (.type "BaseException") = some true) && (PySem.W.hasDictIn K D &&
  (decide (PySem.W.findIn K (.ref D) "__class__" = some (some (.builtin "object.__class__"))) && (decide (PySem.W.specialIn K (.builtin "object.__class__") "__get__" = some (some (.builtin "getset_descriptor.__get__"))) && (decide (PySem.W.takesIn K (.builtin "object.__class__") = some true) && decide (PySem.W.mroIn K D (.type "object") = some true)))))))
theorem excB_ok {K : PySem.W.Frag} {D : Addr} (h : excB K D = true) : ExcC K D := by
  unfold excB at h
  simp only [Bool.and_eq_true, decide_eq_true_eq] at h
  obtain ⟨h1, h2, h3, h4, h5, h6, h7, h8⟩ := h
  exact ⟨h1, h2, h3, h4, h5, h6, h7, h8⟩
/-- what the text gives of the class C, whose __init__ is st -/
def ErrT (K : PySem.W.Frag) (mg : Str → Option Value) (C q : Str) (ns : List Str) (st : Stmt) : Prop :=
  mg C = some (.ref (He.ga K C)) ∧ OexC K (He.ga K C) ∧ (∀ f ∈ ns, PySem.W.findIn K (.ref (He.ga K C)) f = some none) ∧ ∃ (fI : Addr) (fd : FuncData), PySem.W.findIn K (.ref (He.ga K C)) "__init__" = some (some (.ref fI)) ∧ PySem.W.typeIn K (.ref fI) = some (.type "function") ∧ FunD K "__init__" q (defArgs st) (defBody st) (defScope st) [] [] fI fd
theorem exc_mk {P : Program} {w : World} {K : PySem.W.Frag} {mg : Str → Option Value} {base : Heap} {k : Nat} {C q : Str} {ns xs : List Str} {st : Stmt} (T : ErrT K mg C q ns st) (S : FnScope (("self" : Str) :: xs) (("self" : Str) :: xs) (defScope st)) (hx : xs.length = ns.length) (hne : ns ≠ []) (hl : ns.length ≤ 900)
    (hbi : ∀ (kV doc pm : Value) (an : Option Addr) (cdv ct : Value) (us : List Value), us.length = (("self" : Str) :: xs).length → bindArgs (PySem.W.fnOf "__init__" q (defArgs st) (defBody st) (defScope st) .none kV doc pm an cdv ct) ⟨us, []⟩ = pure ((("self" : Str) :: xs).zip us))
    (hb : InitB (("self" : Str) :: xs) (defScope st) 1 ns (defBody st)) (hv : Vis (defScope st) "self") : Exc P w K mg base (He.ga K) (k + 1) C ns := by
  obtain ⟨h1, h2, h3, fI, fd, h4, h5, F⟩ := T
  exact ⟨h1, h2, fI, fd, _, h4, h5, F.bindsN hbi, init_ok F S hx hne hl hb hv h2 h3⟩
theorem errT_ok {h : Heap} {w : World} {K : PySem.W.Frag} {mg : Str → Option Value} {fa : List He.Fa} {fn : List He.DefD} {ts : List He.Tab} {more : PySem.W.Frag → Bool} (X : K.In h) (G : h.Ns mainGlobals mg) (c : SaysM fa fn ts more w K) (i j m : Nat) {C q : Str} {ns : List Str} {st : Stmt}
    (e : fn[i]? = some ⟨(C, some "__init__"), "__init__", q, defArgs st, defBody st, defScope st, [], []⟩ := by rfl) (e2 : fa[j]? = some (.glo C) := by rfl) (e3 : fa[m]? = some (.meth C "__init__") := by rfl) (ho : oexB K (He.ga K C) = true) (hf : (ns.all fun f => decide (PySem.W.findIn K (.ref (He.ga K C)) f = some none)) = true) : ErrT K mg C q ns st := by
  obtain ⟨fd, F⟩ := c.t.d.def_ i e
  have hm : (He.eqO (PySem.W.findIn K (.ref (He.ga K C)) "__init__") (some (some (.ref (He.ma K (He.ga K C) "__init__")))) && (PySem.W.isFn K (.ref (He.ma K (He.ga K C) "__init__")) && PySem.W.keepIn K (.ref (He.ma K (He.ga K C) "__init__")))) = true := c.fact m e3
  rw [Bool.and_eq_true_iff, Bool.and_eq_true_iff] at hm
  obtain ⟨m1, m2, m3⟩ := hm
  refine ⟨He.glo_ok X G (c.fact j e2), oexB_ok ho, fun f hfm => of_decide_eq_true (List.all_eq_true.mp hf f hfm), _, fd, He.eqO_ok m1, ?_, F⟩
  unfold PySem.W.isFn at m2
  exact beq_iff_eq.mp m2
end ML

set_option maxHeartbeats 4000000
namespace ML
open PySem PySem.Spec PyProof.Rows L2
variable {I : List Nat}
/-! ### objects of own classes -/
theorem PkR.obj {K : PySem.W.Frag} {F : Fz} {H : Hp} {c : Str} {ns : List Str} {l : List W} {v : V} (h : PkR K F H (.obj c ns l) v) : ∃ a dx vs, v = .ref a ∧ H a = some (.ins (He.ga K c) dx (ns.zip vs)) ∧ ns.length = vs.length ∧ RepL K F H l vs := by
  rcases h with ⟨a, dx, vs, e, _, h1, n, h2⟩ | ⟨a, e, dx, vs, h1, n, h2⟩
  · exact ⟨a, dx, vs, e, h1, n, h2⟩
  · exact ⟨a, dx, vs, e, h1, n, h2⟩
def mFld (cl : List Str) (f : Str) (fe : Rho → R (Md × W)) : Rho → R (Md × W) := fun ρ => (fe ρ).bind fun b ρ1 => match peek b.1 b.2 ρ1 with
  | some (.obj c ns l) => if c ∈ cl then (match (ns.zip l).lookup f with
    | some w => .ok (.val, w) ρ1
    | none => .stk) else .stk
  | _ => .stk
def putN (f : Str) : List Str → List Str
  | [] => [f]
  | g :: r => if g = f then g :: r else g :: putN f r
def putL {α : Type} (f : Str) (y : α) : List Str → List α → List α
  | [], _ => [y]
  | g :: r, x :: t => if g = f then y :: t else x :: putL f y r t
  | _ :: _, [] => []
theorem put_zip {f : Str} {y : V} : ∀ {ns : List Str} {vs : List V}, ns.length = vs.length → putF f y (ns.zip vs) = (putN f ns).zip (putL f y ns vs) ∧ (putN f ns).length = (putL f y ns vs).length
  | [], [], _ => ⟨rfl, rfl⟩
  | g :: r, x :: t, h => by
    obtain ⟨h1, h2⟩ := put_zip (f := f) (y := y) (ns := r) (vs := t) (Nat.succ.inj h)
    unfold putN putL putF
    by_cases e : g = f
    · rw [if_pos e, if_pos e, List.zip_cons_cons, List.zip_cons_cons]
      exact ⟨by dsimp only; rw [if_pos e], h⟩
    · rw [if_neg e, if_neg e, List.zip_cons_cons, List.zip_cons_cons, ← h1]
      exact ⟨by dsimp only; rw [if_neg e], by rw [List.length_cons, List.length_cons, h2]⟩
theorem put_rep {K : PySem.W.Frag} {F : Fz} {H : Hp} {f : Str} {w : W} {y : V} (r : Rep K F H w y) : ∀ {ns : List Str} {l : List W} {vs : List V}, RepL K F H l vs → RepL K F H (putL f w ns l) (putL f y ns vs)
  | [], l, vs, _ => by
    cases l <;> cases vs <;> exact ⟨y, [], rfl, r, rfl⟩
  | g :: ns, [], _, h => by cases h; rfl
  | g :: ns, x :: l, _, ⟨v, t, e, h1, h2⟩ => by
    subst e
    unfold putL
    split
    · exact ⟨y, t, rfl, r, h2⟩
    · exact ⟨v, _, rfl, h1, put_rep r h2⟩
theorem lookup_none {K : PySem.W.Frag} {F : Fz} {H : Hp} {f : Str} : ∀ {ns : List Str} {ws : List W} {vs : List V}, RepL K F H ws vs → (ns.zip ws).lookup f = none → (ns.zip vs).lookup f = none
  | [], _, _, _, _ => by simp
  | n :: ns, [], _, h, _ => by cases h; simp
  | n :: ns, u :: ws, _, ⟨v, r, ev, h1, h2⟩, e => by
    subst ev
    rw [List.zip_cons_cons] at e ⊢
    unfold List.lookup at e ⊢
    cases hb : (f == n) with
    | true => rw [hb] at e; cases e
    | false => rw [hb] at e; exact lookup_none h2 e
def mFset (i : Nat) (I : List Nat) (cl : List Str) (f : Str) (fe : Rho → R (Md × W)) : Rho → R Fl := fun ρ => (fe ρ).bind fun b ρ1 => (toVal I b ρ1).bind fun w ρ2 => match ownAt ρ2 i with
  | some (.obj c ns l) => if c ∈ cl ∧ ns.length < 900 then .ok .nx (ρ2.set i (.own (.obj c (putN f ns) (putL f w ns l)))) else .stk
  | _ => .stk
section
variable {X : Cx} {Y : Yx I} {e o : Expr} {f : Str} {pos pos' apos p : Pos} {fe fo : Rho → R (Md × W)} {cl : List Str} {i : Nat}
theorem pem_fld (hcl : ∀ c ∈ cl, Cls X.K (He.ga X.K c) ∧ NoAttr X.K (He.ga X.K c) f) (he : PEM X Y e fe) (hb : attributeBase e f X.env (eval e X.env) = eval e X.env := by rfl) : PEM X Y (.Attribute e f pos) (mFld cl f fe) := pe_weak (pe_fld he hb) fun σ H Q hq => by
  obtain ⟨F, ρ, S, q⟩ := hq
  refine ⟨F, ρ, S, (RunG.bind q).imp fun b ρ1 F1 H1 S1 k1 q1 v hv => ?_⟩
  obtain ⟨F2, S2, k2, hd⟩ := S1.hold hv
  cases ep : peek b.1 b.2 ρ1 with
  | none => rw [ep] at q1; exact q1.elim
  | some w =>
    rw [ep] at q1
    have pk := S2.peek hd .refl ep
    cases w with
    | obj c ns l =>
      dsimp only at q1
      split at q1
      · rename_i hc
        obtain ⟨a, dx, vs, rfl, h1, h2, h3⟩ := pk.obj
        obtain ⟨g1, g2⟩ := hcl c hc
        cases el : (ns.zip l).lookup f with
        | none => rw [el] at q1; exact q1.elim
        | some u =>
          rw [el] at q1
          obtain ⟨y, hy, r⟩ := lookup_rep h3 el
          exact ⟨a, _, dx, _, y, rfl, h1, g1, g2, hy, q1 F2 H1 S2 k2 y r⟩
      · exact q1.elim
    | _ => exact q1.elim
theorem psm_fset (hcl : ∀ c ∈ cl, Cls X.K (He.ga X.K c) ∧ NoAttr X.K (He.ga X.K c) f) (ho : PE X o (tVar i)) (he : PEM X Y e fe) (hs : swapsWith e (some (.Attribute o f pos')) pos.line X.env = pure false := by rfl) : PSM X Y (.Assign [.Attribute o f pos'] e pos) (mFset i I cl f fe) := ps_weak (ps_fld ho he hs) fun D σ H hq => by
  obtain ⟨F, ρ, S, q⟩ := hq
  refine ⟨F, ρ, S, (RunS.bindE q).imp fun b ρ1 F1 H1 S1 k1 q1 v hv => ?_⟩
  obtain ⟨F2, w, ρ2, S2, k2, r, q2⟩ := S1.toVal hv (RunS.bindE (σ := σ) q1)
  cases e0 : ownAt ρ2 i with
  | none => rw [e0] at q2; exact q2.elim
  | some u =>
    rw [e0] at q2
    cases u with
    | obj c ns l =>
      dsimp only at q2
      split at q2
      · rename_i hc
        obtain ⟨a, ea, dx, vs, h1, h2, h3⟩ := own_list S2 e0
        obtain ⟨g1, g2⟩ := hcl c hc.1
        obtain ⟨z1, z2⟩ := put_zip (f := f) (y := v) h2
        have ka : Keeps F2 H1 F2 (upd H1 a (.ins (He.ga X.K c) dx (putF f v (ns.zip vs)))) := by
          obtain ⟨b2, eb2, ob2, nf, nk⟩ := S2.slot i _ (ownAt_get e0)
          rw [ea] at eb2
          cases eb2
          refine ⟨fun _ h => h, fun x o ho c2 => ?_⟩
          have nx : x ≠ a := fun z => by
            subst z
            rcases c2 with c2 | c2
            · exact nf c2
            · rw [h1] at ho
              cases ho
              exact c2 trivial
          rw [upd_ne nx]
          exact ho
        obtain ⟨S4, k4⟩ := S2.put (w' := .obj c (putN f ns) (putL f w ns l)) (o := .ins (He.ga X.K c) dx (putF f v (ns.zip vs))) (ownAt_get e0) ea trivial ⟨dx, putL f v ns vs, by rw [upd_same, z1], z2, (put_rep (r.mono ka) (h3.mono ka))⟩
        exact ⟨.ref a, ea, a, _, dx, _, rfl, h1, g1, g2, by rw [List.length_zip]; omega, q2 _ _ σ S4 k4⟩
      · exact q2.elim
    | _ => exact q2.elim
end
end ML
namespace ML
open PySem PySem.Spec PyProof.Rows L2
variable {I : List Nat}
/-! ### methods, new objects -/
/-- the method m of the class c keeps its mirror's promise -/
def MDef (P : Program) (w : World) (K : PySem.W.Frag) (mg : Str → Option Value) (base : Heap) (ct : Str → Addr) (k : Nat) (c m : Str) (ps : List Str) (fm : List W → FR) : Prop :=
  ∃ f fd, Cls K (He.ga K c) ∧ Meth K (He.ga K c) m f ∧ Binds K fd ps [] ∧ FnOk P w K mg base (L2.CX P w) k f fd ps (spM K ct [] ps.length fm)
/-- the class c makes objects, its __init__ keeping its mirror's promise -/
def KDef (P : Program) (w : World) (K : PySem.W.Frag) (mg : Str → Option Value) (base : Heap) (ct : Str → Addr) (k : Nat) (c : Str) (ps : List Str) (fm : List W → FR) : Prop :=
  ∃ f fd, mg c = some (.ref (He.ga K c)) ∧ Mk K (He.ga K c) f ∧ Binds K fd ps [] ∧ FnOk P w K mg base (L2.CX P w) k f fd ps (spM K ct [0] ps.length fm)
def mMeth (I : List Nat) (c m : Str) (fm : List W → FR) (fo : Rho → R (Md × W)) (fs : List (Rho → R (Md × W))) : Rho → R (Md × W) := fun ρ => (fo ρ).bind fun b ρ1 => match b with
  | (.val, .obj c' ns l) => if c' = c ∧ (ns.zip l).lookup m = none then (mHold fs ρ1).bind fun bs ρ2 => (valsL I bs ρ2).bind fun ws ρ3 => (match fm (.obj c ns l :: ws) with
    | .ok fr w [] => .ok (if fr then .fre else .val, w) ρ3
    | _ => .stk) else .stk
  | _ => .stk
def mMake (I : List Nat) (c : Str) (fm : List W → FR) (fs : List (Rho → R (Md × W))) : Rho → R (Md × W) := fun ρ => (mHold fs ρ).bind fun bs ρ1 => (valsL I bs ρ1).bind fun ws ρ2 => match fm (.obj c [] [] :: ws) with
  | .ok false .non [.obj c' ns l] => .ok (.fre, .obj c' ns l) ρ2
  | _ => .stk
theorem args_ok {K : PySem.W.Frag} {F : Fz} {H : Hp} {J : List Nat} : ∀ {ws : List W} {vs : List V} {k : Nat}, (∀ j, k ≤ j → j ∉ J) → RepL K F H ws vs → ArgsOk K F H J k ws vs
  | [], _, _, _, h => by cases h; exact rfl
  | w :: ws, _, k, hj, ⟨v, r, e, h1, h2⟩ => ⟨v, r, e, by rw [if_neg (hj k (Nat.le_refl k))]; exact h1, args_ok (fun j l => hj j (by omega)) h2⟩
theorem noPass {X : Cx} : Passes (L2.CX X.prog X.w) X (fun _ _ _ => False) := fun _ _ _ _ _ _ _ ⟨_, _, _, _, _, _, _, _, _, _, _, _, f⟩ => f.elim
section
variable {X : Cx} {Y : Yx I} {ct : Str → Addr} {k : Nat} {c m : Str} {ps : List Str} {fm : List W → FR} {p apos pos : Pos} {o e : Expr} {es : List Expr} {fo : Rho → R (Md × W)} {fs : List (Rho → R (Md × W))}
theorem vals_len : ∀ {bs : List (Md × W)} {ρ ρ' : Rho} {ws : List W}, valsL I bs ρ = .ok ws ρ' → ws.length = bs.length
  | [], _, _, _, e => by cases e; rfl
  | b :: bs, ρ, ρ', ws, e => by
    have e1 : (toVal I b ρ).bind (fun w ρ1 => (valsL I bs ρ1).bind fun ws ρ2 => .ok (w :: ws) ρ2) = .ok ws ρ' := e
    cases q1 : toVal I b ρ with
    | ok w ρ1 =>
      rw [q1] at e1
      have e2 : (valsL I bs ρ1).bind (fun ws ρ2 => R.ok (w :: ws) ρ2) = .ok ws ρ' := e1
      cases q2 : valsL I bs ρ1 with
      | ok ws2 ρ2 =>
        rw [q2] at e2
        cases e2
        rw [List.length_cons, List.length_cons, vals_len q2]
      | exc c ns ws ρ2 => rw [q2] at e2; cases e2
      | stk => rw [q2] at e2; cases e2
    | exc c ns ws ρ1 => rw [q1] at e1; cases e1
    | stk => rw [q1] at e1; cases e1
theorem meth_end {σ : L2.St} {F : Fz} {H : Hp} {ρ : Rho} {Q : VK} {a : Addr} {ns : List Str} {l ws : List W} {vs : List V} (S : SR X.K Y.B F H σ ρ) (hself : Rep X.K F H (.obj c ns l) (.ref a)) (r : RepL X.K F H ws vs) (hn : ws.length + 1 = ps.length)
    (q : RunG X.K Y F H σ (match fm (.obj c ns l :: ws) with
    | .ok fr w [] => R.ok (if fr then Md.fre else Md.val, w) ρ
    | _ => R.stk) fun b ρ' F' H' => ∀ v, VR X.K Y.B F' H' σ ρ' b.1 b.2 v → Q v H') : spM X.K ct [] ps.length fm (.ref a :: vs) H Q fun _ _ _ => False := by
  refine ⟨F, .obj c ns l :: ws, by rw [List.length_cons, ← r.len, hn], S.f2, ⟨_, vs, rfl, by rw [if_neg (by simp)]; exact hself, args_ok (fun j _ => by simp) r⟩, ⟨rfl, fun p hp => by cases hp⟩, ?_⟩
  cases ef : fm (.obj c ns l :: ws) with
  | stk => rw [ef] at q; exact q.elim
  | exc c2 ns2 ws2 outs => rw [ef] at q; exact q.elim
  | ok fr w outs =>
    rw [ef] at q
    cases outs with
    | cons o1 os => exact q.elim
    | nil =>
      intro F' H' v ex _ hv
      have ex' : Ext [] F H F' H' := ex
      exact q F' H' (S.grow ex') ex'.keeps v (S.newR ex' hv)
theorem pem_meth (D : MDef X.prog X.w X.K X.mg X.base ct k c m ps fm) (hr : Room k X.A) (he : PEM X Y o fo) (ha : PAM X Y (e :: es) fs) (hn : fs.length + 1 = ps.length)
    {pl : Sem Bool} (ht : eval (.Call (.Attribute o m apos) (e :: es) [] pos) X.env = (do
      let ov ← eval o X.env
      standAt apos.atName
      let (f, first) ← holding [ov] (getMethod ov m pl)
      callWith pos f first (backTo pos (starEach (e :: es) X.env)) (backToKw pos (keywordEach [] X.env))) := by rfl)
    (hst : starEach (e :: es) X.env = (false, eval e X.env) :: starEach es X.env := by rfl) (hpl : (backTo pos (starEach es X.env)).any (·.1) = false := by rfl) :
    PEM X Y (.Call (.Attribute o m apos) (e :: es) [] pos) (mMeth I c m fm fo fs) := by
  obtain ⟨f, fd, h1, h2, h3, h4⟩ := D
  refine pe_weak (pe_meth (dvs := []) (ds := []) (E := fun _ _ _ => False) he h1 h2 h4 hr h3 .nil noPass ha hst hpl ht) fun σ H Q hq => ?_
  obtain ⟨F, ρ, S, q⟩ := hq
  refine ⟨F, ρ, S, (RunG.bind q).imp fun b ρ1 F1 H1 S1 k1 q1 v hv => ?_⟩
  obtain ⟨bm, bw⟩ := b
  cases bm with
  | fre => exact q1.elim
  | bor i => exact q1.elim
  | val =>
    cases bw with
    | obj c' ns l =>
      dsimp only at q1
      split at q1
      · rename_i hc
        obtain ⟨rfl, hlk⟩ := hc
        have rp : Rep X.K F1 H1 (.obj c' ns l) v := hv
        obtain ⟨a, dx, vs0, rfl, fa, hH, hl, hR⟩ := rp
        refine ⟨a, dx, _, rfl, hH, lookup_none hR hlk, F1, ρ1, S1, ?_⟩
        have q2 := RunG.bind q1
        have q3 := RunG.withP (p := fun bs => bs.length = fs.length) (fun bs ρ2 e => mHold_len e) q2
        refine q3.imp fun bs ρ2 F2 H2 S2 k2 ⟨hlen, q4⟩ F3 vs S3 k3 hvs => ?_
        have q5 := RunG.withP (p := fun ws => ws.length = bs.length) (fun ws ρ e => vals_len e) (RunG.bind (q4.rebase k3))
        obtain ⟨F4, ws, ρ4, S4, k4, r4, hw, q6⟩ := S3.valsL hvs q5
        have kk : Keeps F1 H1 F4 H2 := (k2.trans k3).trans k4
        have hself : Rep X.K F4 H2 (.obj c' ns l) (.ref a) := Rep.mono kk _ ⟨a, dx, vs0, rfl, fa, hH, hl, hR⟩
        show spM X.K ct [] ps.length fm (V.ref a :: (vs ++ [])) H2 Q _
        rw [List.append_nil]
        exact meth_end S4 hself r4 (by omega) q6
      · exact q1.elim
    | _ => exact q1.elim
theorem pem_make (D : KDef X.prog X.w X.K X.mg X.base ct k c ps fm) (hr : Room (k + 1) X.A) (hg : Gl X c) (ha : PAM X Y (e :: es) fs) (hn : fs.length + 1 = ps.length) (hdb : (c == ("__debug__" : Str)) = false := by decide)
    (he : starEach (e :: es) X.env = (false, eval e X.env) :: starEach es X.env := by rfl) (hpl : (backTo pos (starEach es X.env)).any (·.1) = false := by rfl) : PEM X Y (.Call (.Name c p) (e :: es) [] pos) (mMake I c fm fs) := by
  obtain ⟨f, fd, hm, h2, h3, h4⟩ := D
  refine pe_weak (pe_make (dvs := []) (ds := []) (E := fun _ _ _ => False) h2 h4 hr hg hm h3 .nil noPass ha hdb he hpl) fun σ H Q hq => ?_
  obtain ⟨F, ρ, S, q⟩ := hq
  have q3 := RunG.withP (p := fun bs => bs.length = fs.length) (fun bs ρ2 e => mHold_len e) (RunG.bind q)
  refine ⟨F, ρ, S, q3.imp fun bs ρ1 F1 H1 S1 k1 ⟨hlen, q1⟩ F2 vs S2 k2 hvs x dx nx nd ne => ?_⟩
  have q5 := RunG.withP (p := fun ws => ws.length = bs.length) (fun ws ρ e => vals_len e) (RunG.bind (q1.rebase k2))
  obtain ⟨F3, ws, ρ3, S3, k3, r3, hw, q6⟩ := S2.valsL hvs q5
  have up : ∀ b u, H1 b = some u → (upd (upd H1 dx (.own x)) x (.ins (He.ga X.K c) dx [])) b = some u := fun b u hb => by
    rw [upd_ne (fun z => by rw [z, nx] at hb; cases hb), upd_ne (fun z => by rw [z, nd] at hb; cases hb)]
    exact hb
  have ex0 : Ext [] F3 H1 F3 (upd (upd H1 dx (.own x)) x (.ins (He.ga X.K c) dx [])) := ⟨fun b u _ h => up b u h, fun _ h => h, fun _ h => .inl h, fun b h => by
    have := S3.f2 b h
    cases hb : H1 b with
    | none => exact absurd hb this
    | some u => rw [up b u hb]; exact (fun z => nomatch z)⟩
  have nfx : ¬ F3 x := fun z => S3.f2 x z nx
  rw [List.append_nil]
  refine ⟨F3, .obj c [] [] :: ws, by rw [List.length_cons, ← r3.len]; omega, ex0.t, ⟨_, vs, rfl, by rw [if_pos (by simp)]; exact ⟨x, rfl, ⟨dx, [], upd_same, rfl, rfl⟩, nfx⟩, args_ok (fun j l => by simp; omega) (r3.mono ex0.keeps)⟩, ⟨rfl, fun p hp q hq _ => by
    have e1 : lentA [0] (V.ref x :: vs) = [(0, x)] := rfl
    rw [e1] at hp hq
    simp at hp hq
    rw [hp, hq]⟩, ?_⟩
  cases ef : fm (.obj c [] [] :: ws) with
  | stk => rw [ef] at q6; exact q6.elim
  | exc c2 ns2 ws2 outs => rw [ef] at q6; exact q6.elim
  | ok fr w outs =>
    rw [ef] at q6
    split at q6
    · rename_i heq
      cases heq
      rename_i c' ns l
      intro F' H' v ex oo hv
      have e1 : lentA [0] (V.ref x :: vs) = [(0, x)] := rfl
      rw [e1] at ex oo
      have ex' : Ext [] F3 H1 F' H' := ⟨fun b u _ h => ex.h b u (fun z => by
        have hbx : b = x := by simpa using z
        rw [hbx, nx] at h
        cases h) (up b u h), ex.f, (fun b h => by
        rcases ex.g b h with g | g
        · exact .inl g
        · right
          cases hb : H1 b with
          | none => rfl
          | some u => rw [up b u hb] at g; cases g), ex.t⟩
      obtain ⟨ow, nf⟩ := oo.2 0 (0, x) _ rfl rfl
      refine ⟨hv, q6 F' H' (S3.grow ex') ex'.keeps (.ref x) ⟨x, rfl, ow, nf, ?_, fun i w' hi ei => ?_⟩⟩
      · cases hb : Y.B.H0 x with
        | none => rfl
        | some u => exact absurd nx (S3.alive x (by rw [hb]; exact (fun z => nomatch z)))
      · obtain ⟨b, eb, ob, _⟩ := S3.slot i _ hi
        rw [ei] at eb
        cases eb
        obtain ⟨u, hu, _⟩ := ob.some
        rw [nx] at hu
        cases hu
    · exact q6.elim
end
end ML

set_option maxHeartbeats 4000000
namespace ML
open PySem PySem.Spec PyProof.Rows L2
variable {I : List Nat}
/-! ### texts split, in capitals -/
def mSplit (fo fe : Rho → R (Md × W)) : Rho → R (Md × W) := fun ρ => (fo ρ).bind fun x ρ1 => match x.1, x.2 with
  | .val, .str a => (fe ρ1).bind fun y ρ2 => (match y.1, y.2 with
    | .val, .str b => if b.length ≠ 0 ∧ a.length + 2 ≤ sizeLine then .ok (.fre, .lst ((Txt.split a b).map .str)) ρ2 else .stk
    | _, _ => .stk)
  | _, _ => .stk
def mUpper (fo : Rho → R (Md × W)) : Rho → R (Md × W) := fun ρ => (fo ρ).bind fun x ρ1 => match x.1, x.2 with
  | .val, .str a => if a.length ≤ 5592405 then .ok (.val, .str (Txt.upper a)) ρ1 else .stk
  | _, _ => .stk
theorem rep_strs {K : PySem.W.Frag} {F : Fz} {H : Hp} : ∀ ys : List Str, RepL K F H (ys.map .str) (ys.map .str)
  | [] => rfl
  | y :: ys => ⟨_, _, rfl, rfl, rep_strs ys⟩
section
variable {X : Cx} {Y : Yx I} {o e : Expr} {apos pos : Pos} {fo fe : Rho → R (Md × W)}
theorem pem_split (ho : PEM X Y o fo) (he : PEM X Y e fe) (hs : starEach [e] X.env = [(false, eval e X.env)] := by rfl) (hbase : attributeBase o "split" X.env (eval o X.env) = eval o X.env := by rfl) (hline : (apos.endLine == pos.line) = true := by rfl) :
    PEM X Y (.Call (.Attribute o "split" apos) [e] [] pos) (mSplit fo fe) := pe_weak (pe_split ho he hs hbase hline) fun σ H Q hq => by
  obtain ⟨F, ρ, S, q⟩ := hq
  refine ⟨F, ρ, S, (RunG.bind q).imp fun x ρ1 F1 H1 S1 k1 q1 v hv => ?_⟩
  obtain ⟨m, w⟩ := x
  dsimp only at q1
  split at q1
  · rename_i a
    cases (show v = .str a from hv)
    refine ⟨⟨a, rfl⟩, F1, ρ1, S1, (RunG.bind q1).imp fun y ρ2 F2 H2 S2 k2 q2 u hu => ?_⟩
    obtain ⟨m, w⟩ := y
    dsimp only at q2
    split at q2
    · rename_i b
      cases (show u = .str b from hu)
      split at q2
      · rename_i hc
        refine ⟨a, b, rfl, rfl, by simpa using hc.1, hc.2, fun p hp => ?_⟩
        exact new_lst (K := X.K) S2.f2 (rep_strs (Txt.split a b)) (fun F' H' v ee hn => q2 F' H' (S2.grow ee) ee.keeps v (S2.newR ee hn)) hp
      · exact q2.elim
    · exact q2.elim
  · exact q1.elim
theorem pem_upper (ho : PEM X Y o fo) (hbase : attributeBase o "upper" X.env (eval o X.env) = eval o X.env := by rfl) (hline : (apos.endLine == pos.line) = true := by rfl) :
    PEM X Y (.Call (.Attribute o "upper" apos) [] [] pos) (mUpper fo) := pe_weak (pe_upper ho hbase hline) fun σ H Q hq => by
  obtain ⟨F, ρ, S, q⟩ := hq
  refine ⟨F, ρ, S, (RunG.bind q).imp fun x ρ1 F1 H1 S1 k1 q1 v hv => ?_⟩
  obtain ⟨m, w⟩ := x
  dsimp only at q1
  split at q1
  · rename_i a
    cases (show v = .str a from hv)
    split at q1
    · rename_i hc
      exact ⟨⟨a, rfl⟩, a, rfl, rfl, hc, q1 F1 H1 S1 .refl _ rfl⟩
    · exact q1.elim
  · exact q1.elim
end
end ML

set_option maxHeartbeats 4000000
/-! ### list.extend(a tuple) -/
namespace PySem
open Builtin AutoSeq1
set_option maxRecDepth 8000 in
theorem ext_by_tuple (lst tup : Addr) (xs ys : Array Value) (m k : Nat) (dd : Option Addr) (sl : Array (Option Value)) (room : ¬(!xs.isEmpty && Builtin.List.listTooLong (xs.size + ys.size)) = true) (b1 : xs.size ≤ sizeLine) (b2 : xs.size + ys.size ≤ sizeLine + 1) :
    Meets (Builtin.«list.extend» ⟨[.ref lst, .ref tup], []⟩) (fun _ R s0 => s0.heap.get? lst = some { cls := .type "list", dict := none, data := .seq xs m, slots := #[] } ∧ s0.heap.get? tup = some { cls := .type "tuple", dict := dd, data := .seq ys k, slots := sl } ∧ R (.ok (.ret Value.none)) { s0 with heap := s0.heap.update lst (Obj.mapSeq fun z => z ++ ys), toks := s0.toks }) :=
  .of_wp fun prog w A R s0 all => by
    obtain ⟨heap, gens, drawn, toks, os⟩ := s0
    obtain ⟨at1, at2, fin⟩ := all
    have g1 := idx_int
    have g2 := sub_tuple_tuple
    have g3 := sub_list_list
    have g4 := sub_tuple_list
    have g5 := sub_list_tuple
    have big : (xs ++ ys).size ≤ sizeLine + 1 := by rw [Array.size_append]; exact b2
    wp_walk using (wpAny_updateSeq at1 rfl (hz := b1) (_hz' := big)), wpAny_loadPart' at1, wpAny_loadPart' at2
    exact ⟨_, rfl, fin⟩
end PySem
namespace ML
open PySem PySem.Spec PyProof.Rows L2
variable {I : List Nat}
def rExtT (K : PySem.W.Frag) : V → List V → Hp → VK → Prop := fun x vs H Q => ∃ a b xs zs, x = .ref a ∧ vs = [.ref b] ∧ H a = some (.lst xs) ∧ SqT K H b zs ∧ xs.length + zs.length ≤ sizeLine ∧ Q .non (upd H a (.lst (xs ++ zs)))
theorem mt_extT {X : Cx} : MtM X "list.extend" (rExtT X.K) := by
  intro pins s σ H x vs v us Q J rx rv hh
  obtain ⟨a, b, xs, zs, rfl, rfl, hA, hB, hz, q⟩ := hh
  cases rx
  obtain ⟨u, rfl, ru⟩ := rv.one
  cases ru
  obtain ⟨z, its, n, r, hl, e⟩ := J.lstM hA
  obtain ⟨its2, r2, p2, _⟩ := J.tuple hB
  obtain ⟨o2, e2, c2, n2, d2⟩ := p2
  obtain ⟨cl, dd, da, sl⟩ := o2
  have c2' : cl = .type "tuple" := c2
  have d2' : da = .seq its2.toArray n2 := d2
  subst c2' d2'
  have l1 := r.length
  have l2 := r2.length
  have both : its.toArray.size + its2.toArray.size ≤ sizeLine := by rw [List.size_toArray, List.size_toArray]; omega
  have room : ¬ (!its.toArray.isEmpty && Builtin.List.listTooLong (its.toArray.size + its2.toArray.size)) = true := by
    rw [notLongL both, Bool.and_false]
    exact Bool.false_ne_true
  refine call_meets PySem.F.slot_list_extend ⟨_, e, rfl⟩ PySem.F.entry_list_extend (PySem.F.args_list_extend_2 _ _) (PySem.ext_by_tuple a b its.toArray its2.toArray n n2 dd sl room (by omega) (by omega)) ⟨e, e2, ?_⟩
  refine ⟨.non, _, J.lset (its' := its ++ its2) hA e (by simp) (r.append r2) ?_, rfl, q⟩
  rw [List.length_append]
  omega
def mExtend (i : Nat) (I : List Nat) (fe : Rho → R (Md × W)) : Rho → R (Md × W) := fun ρ => match ownAt ρ i with
  | some (.lst _) => (fe ρ).bind fun b ρ1 => (toVal I b ρ1).bind fun w ρ2 => (match ownAt ρ2 i, w with
    | some (.lst l), .tup m => if l.length + m.length ≤ sizeLine then .ok (.val, .non) (ρ2.set i (.own (.lst (l ++ m)))) else .stk
    | _, _ => .stk)
  | _ => .stk
section
variable {X : Cx} {Y : Yx I} {o e : Expr} {apos pos : Pos} {fe : Rho → R (Md × W)} {i : Nat}
theorem pem_extend (ho : PE X o (tVar i)) (he : PEM X Y e fe) (hbase : attributeBase o "extend" X.env (eval o X.env) = eval o X.env := by rfl)
    (hfew : ((backTo pos (starEach (e :: []) X.env)).all (fun x => !x.1) && (backToKw pos (keywordEach [] X.env)).all (fun x => x.1.isSome) && decide ((e :: []).length + ([] : List Keyword).length + (if ([] : List Keyword).isEmpty then 0 else 1) < 30)) = true := by rfl)
    (hline : (apos.endLine == pos.line) = true := by rfl) (hs : starEach (e :: []) X.env = (false, eval e X.env) :: starEach [] X.env := by rfl) (hplain : (backTo pos (starEach [] X.env)).any (·.1) = false := by rfl) :
    PEM X Y (.Call (.Attribute o "extend" apos) [e] [] pos) (mExtend i I fe) :=
  pe_weak (pe_bm PySem.F.plainAttrs_list PySem.F.slot_list_extend PySem.F.type_list_extend mt_extT ho (pa_cons (te := tM X.K Y fe) he pa_nil hs) hbase hfew hline hs hplain) fun σ H Q hq => by
    obtain ⟨F, ρ, S, q⟩ := hq
    unfold mExtend at q
    cases e0 : ownAt ρ i with
    | none => rw [e0] at q; exact q.elim
    | some w0 =>
      rw [e0] at q
      obtain ⟨a, ea, ow⟩ := own_list S e0
      cases w0 with
      | lst l0 =>
        obtain ⟨vs0, g1, _⟩ := ow
        refine ⟨.ref a, ea, .inl ⟨rfl, vs0, .of g1⟩, F, ρ, S, (RunG.bind q).imp fun b ρ1 F1 H1 S1 k1 q1 v hv => ?_⟩
        obtain ⟨F2, w, ρ2, S2, k2, r, q2⟩ := S1.toVal hv (RunG.bind q1)
        split at q2
        · rename_i l m e2
          split at q2
          · rename_i hl
            obtain ⟨b2, eb, vs, h1, r1⟩ := own_list S2 e2
            rw [ea] at eb
            cases eb
            obtain ⟨c, zs, rfl, hc, rz⟩ := r
            have ka : Keeps F2 H1 F2 (upd H1 a (.lst (vs ++ zs))) := by
              obtain ⟨b3, eb3, ob, nf, nk⟩ := S2.slot i _ (ownAt_get e2)
              rw [ea] at eb3
              cases eb3
              exact ⟨fun _ h => h, fun x o ho c => by
                have nx : x ≠ a := fun z => by
                  subst z
                  rcases c with c | c
                  · exact nf c
                  · rw [h1] at ho; cases ho; exact c trivial
                rw [upd_ne nx]
                exact ho⟩
            obtain ⟨S3, k3⟩ := S2.put (w' := .lst (l ++ m)) (o := .lst (vs ++ zs)) (ownAt_get e2) ea trivial ⟨vs ++ zs, upd_same, (RepL.mono ka _ r1).append (RepL.mono ka _ rz)⟩
            exact ⟨a, c, vs, zs, rfl, rfl, h1, hc.seq, by rw [← r1.len, ← rz.len]; exact hl, q2 F2 _ S3 k3 .non rfl⟩
          · exact q2.elim
        · exact q2.elim
      | _ => exact q.elim
end
end ML

set_option maxHeartbeats 4000000
/-! ### enumerate(a tuple) -/
namespace PySem
set_option maxRecDepth 100000
theorem enum_new1 {src : Value} {ito : Obj} {Hp0 : Heap → Prop} (Bg : Begins src ito Hp0) :
    Meets (Builtin.«enumerate.__new__» ⟨[.type "enumerate", src], []⟩) (fun _ R st => Hp0 st.heap ∧
      R (.ok (.ret (.ref (st.heap.push ito).objs.size))) { st with heap := (st.heap.push ito).push { cls := .type "enumerate", data := .fields #[.none, .bool false, .ref st.heap.objs.size, rawInt 0, .none, .none] } }) :=
  .of_wp fun prog w A R st hh => by
    obtain ⟨heap, gens, drawn, toks, os⟩ := st
    obtain ⟨hst, hR⟩ := hh
    have hsub := sub_enumerate
    have it1 : ∀ {A' : Around} {E : Value → Shared → Prop} {Q : Value → Shared → Prop}, Q (.ref heap.objs.size) ⟨heap.push ito, gens, drawn, toks, os⟩ → wpAny (model prog w) A' (pyIter src) Q E ⟨heap, gens, drawn, toks, os⟩ :=
      fun q => Bg.iter prog w _ _ ⟨heap, gens, drawn, toks, os⟩ _ hst q
    wp_walk using it1
    refine wpAny_stack_any fun stk => wpAny_pure ?_
    split
    · rename_i cc _ _ _ _ _
      cases (cc == Value.type "enumerate")
      · wp_walk using it1
        exact ⟨_, rfl, hR⟩
      · wp_walk using it1
        exact ⟨_, rfl, hR⟩
    · wp_walk using it1
      exact ⟨_, rfl, hR⟩
section
variable {prog : Program} {w : World} {A : Around} {E : Value → Shared → Prop} {st : Shared}
theorem enum_call1 {src : Value} {ito : Obj} {Hp0 : Heap → Prop} {Q : Value → Shared → Prop} (Bg : Begins src ito Hp0) (h0 : Hp0 st.heap)
    (hQ : ∀ hp', IsEnum hp' (st.heap.objs.size + 1) st.heap.objs.size 0 .none → hp'.get? st.heap.objs.size = some ito → hp'.objs.size = st.heap.objs.size + 2 → (∀ b ob, st.heap.get? b = some ob → hp'.get? b = some ob) → Q (.ref (st.heap.objs.size + 1)) { st with heap := hp' }) :
    wpAny (model prog w) A (call (.type "enumerate") [src]) Q E st := by
  refine callType_new F.called_enumerate (by decide) (F.typeCall_enumerate_1 _) (F.newCall_enumerate_1 _) (fun ob => F.args_object_init_2 ob _) F.entry_enumerate_new (enum_new1 Bg) ⟨h0, ?_⟩
  have sz : (st.heap.push ito).objs.size = st.heap.objs.size + 1 := Heap.size_push ..
  show _ ∧ _
  rw [sz]
  have isE : IsEnum ((st.heap.push ito).push { cls := .type "enumerate", data := .fields #[.none, .bool false, .ref st.heap.objs.size, rawInt 0, .none, .none] }) (st.heap.objs.size + 1) st.heap.objs.size 0 .none := by
    have z := Heap.get?_push_size (st.heap.push ito) (o := { cls := .type "enumerate", data := .fields #[.none, .bool false, .ref st.heap.objs.size, rawInt 0, .none, .none] }) rfl
    rw [sz] at z
    exact z
  exact ⟨⟨_, isE, rfl⟩, hQ _ isE (Heap.get?_push_of_some _ (Heap.get?_push_size _ Bg.free)) (by rw [Heap.size_push, sz]) fun b ob z => Heap.get?_push_of_some _ (Heap.get?_push_of_some _ z)⟩
theorem enum_endT {en it t : Addr} {i : Nat} {its : Array Value} {old : Value} {k : Int} {Q : Option Value → Shared → Prop} (calm : A.handled = none) (isE : IsEnum st.heap en it k old) (hit : st.heap.IsTupleIter it t i) (ht : st.heap.IsTuple t its) (hx : its[i]? = none)
    (hQ : ∀ hp', Heap.ExtBut it st.heap hp' → Q none { st with heap := hp' }) : wpAny (model prog w) A (pyNext (.ref en)) Q E st := by
  have ty : st.TypeIs (.ref en) "enumerate" := ⟨_, isE, rfl⟩
  unfold pyNext
  refine wpAny_bind ?_
  refine wpAny_attempt ?_
  refine wpAny_callSpecial?_slot (name := Str.ofString "__next__") ty F.slot_enumerate_next ?_
  refine wpAny_call_entry F.slot_enumerate_next ty F.entry_enumerate_next ?_ (F.args_enumerate_next_1 _)
  show wpAny _ _ (field (.ref en) 2 >>= _) _ _ st
  refine wpAny_bind (wpAny_field isE rfl (x := .ref it) rfl ?_)
  refine wpAny_bind ?_
  refine wpAny_nextOf_tuple_end (show A.in1.handled = none from calm) hit ht hx fun hp' err he her => ?_
  obtain ⟨oo, ho, hc⟩ := her
  refine wpAny_bind ?_
  refine wpAny_isInstance (T := "StopIteration") (b := true) ⟨oo, ho, hc⟩ isSubtype_stop ?_
  exact wpAny_pure (hQ _ he)
end
end PySem
namespace L2
open PySem PySem.Spec PyProof.Rows
/-- the tuple at t, each item in a new pair with its number -/
def IteT (K : PySem.W.Frag) (t : Addr) : It :=
  ⟨fun i H => ∃ (xs : List V) (x : V), SqT K H t xs ∧ xs[i]? = some x,
    fun i H v H' => ∃ T x, v = .ref T ∧ H T = none ∧ H' = upd H T (.tup [.int (i : Nat), x]) ∧ ∀ xs, SqT K H t xs → xs[i]? = some x,
    fun i H => ∃ xs : List V, SqT K H t xs ∧ xs.length ≤ i⟩
theorem turn_enumT {P : Program} {w : World} {K : PySem.W.Frag} {elts : List Expr} {kk : Nat} {tpos : Pos} (t en it : Addr) :
    Turn P w K (.Tuple elts kk tpos) (IteT K t) [en, it] en (fun i hp => (∃ old, IsEnum hp en it ((i : Nat) : Int) old) ∧ hp.IsTupleIter it t i ∧ en ≠ it ∧ en ≠ t ∧ t ≠ it) where
  mem := by simp
  obj := fun i hp stt b hb => by
    obtain ⟨⟨old, isE⟩, ⟨oi, gi, _, di⟩, _⟩ := stt
    have cs : b = en ∨ b = it := by simpa using hb
    rcases cs with rfl | rfl
    · exact ⟨_, isE, fun v q => nomatch q⟩
    · exact ⟨oi, gi, fun v q => by rw [di] at q; cases q⟩
  keep := fun i hp hp' stt k => by
    obtain ⟨⟨old, isE⟩, hi, n1, n2, n3⟩ := stt
    exact ⟨⟨old, k en (by simp) _ isE⟩, hi.at fun ob q => k it (by simp) ob q, n1, n2, n3⟩
  item := by
    intro X eP ew eK calm i pins st σ H E J hf stt hg
    subst eP ew eK
    obtain ⟨⟨old, isE⟩, hit, n1, n2, n3⟩ := stt
    obtain ⟨xs, x, hq, hx⟩ := hg
    obtain ⟨its, rv, pt, _⟩ := J.tuple hq
    obtain ⟨u, hu, ru⟩ := rv.get hx
    have le1 : en < st.heap.objs.size := Heap.lt_size isE
    have le2 : it < st.heap.objs.size := by obtain ⟨_, q, _⟩ := hit; exact Heap.lt_size q
    have hlt : i < its.toArray.size := by
      rw [List.size_toArray]
      exact (List.getElem?_eq_some_iff.mp hu).1
    refine wpAny_pyNext_enum_itemD (Draws.tuple (A := X.A.in1) (show X.A.in1.handled = none from J.ok.hd calm) it t n3 its.toArray) isE ⟨hit, pt⟩ hlt n1 (by simp [n1, n2]) fun y hp' tk py ho st' hT hsz hk => ?_
    have ey : y = u := by
      have e1 : its[i]? = some y := by simpa using py
      rw [hu] at e1
      exact (Option.some.inj e1).symm
    subst ey
    refine ⟨_, rfl, wpAny_letOwnedTupleGo_enum (s := { st with heap := hp', toks := tk + 1 }) ho fun hp'' isE' sb => ?_⟩
    have gT : hp''.get? st.heap.objs.size = some { cls := .type "tuple", data := .seq #[.int i tk, y] } := (sb.2 _ (Nat.ne_of_gt le1)).trans hT
    have new : ObjOk X.prog X.w (upd H st.heap.objs.size (.tup [.int (i : Nat), x])) hp'' st.heap.objs.size (.tup [.int (i : Nat), x]) :=
      ⟨by show 2 ≤ sizeLine; decide, [.int i tk, y], .cons ⟨_, rfl⟩ (.cons ru .nil), ⟨_, gT, rfl, _, rfl⟩⟩
    have J1 : Inv X pins σ (upd H st.heap.objs.size (.tup [.int (i : Nat), x])) { st with heap := hp'', toks := tk + 1 } :=
      J.turnedNew (ch := [en, it]) (fun b ob hb q => (sb.2 b (fun z => hb (by simp [z]))).trans (hk b ob (fun z => hb (by simp [z])) (fun z => hb (by simp [z])) q)) hf (Nat.le_refl _) new
    refine ⟨.ref st.heap.objs.size, _, J1, rfl, ⟨_, x, rfl, J.hok.fresh (Nat.le_refl _), rfl, fun ys hy => by rw [J.tuple_inj hy hq]; exact hx⟩, ⟨⟨y, ?_⟩, st'.1.at fun ob q => (sb.2 it (Ne.symm n1)).trans q, n1, n2, n3⟩, fun b hb => ?_⟩
    · have e1 : ((i + 1 : Nat) : Int) = (i : Int) + 1 := by omega
      rw [e1]
      exact isE'
    · have lt : b < st.heap.objs.size := by
        have cs : b = en ∨ b = it := by simpa using hb
        rcases cs with rfl | rfl
        · exact le1
        · exact le2
      rw [upd_ne (Nat.ne_of_lt lt)]
      exact (hf b hb).1
  done := by
    intro X eP ew eK calm i pins st σ H E J hf stt hg
    subst eP ew eK
    obtain ⟨⟨old, isE⟩, hit, n1, n2, n3⟩ := stt
    obtain ⟨xs, hq, hx⟩ := hg
    obtain ⟨its, rv, pt, _⟩ := J.tuple hq
    obtain ⟨f0, f1, f2, f3, f4, f5⟩ := hf it (by simp)
    have hl := rv.length
    exact enum_endT (J.ok.hd calm) isE hit pt (by simp; omega) fun hp' eb => ⟨rfl, J.turned (t' := st.toks) (fun b ob hb q => eb b ob hb q) f0 f1 f3 f4 f5⟩
  self := fun A i st Q E stt q => by
    obtain ⟨⟨_, isE⟩, _⟩ := stt
    exact wpAny_pyIter_enum isE q
def iEnumT (K : PySem.W.Frag) (ta : TA) : TI := fun σ H R => ta σ H fun vs H1 => ∃ t xs, vs = [.ref t] ∧ SqT K H1 t xs ∧ R (IteT K t) H1
theorem pi_enumT {X : Cx} {e : Expr} {ta : TA} {p pos tpos : Pos} {elts : List Expr} {kk : Nat} (hg : Gl X "enumerate") (hm : X.mg "enumerate" = none) (ha : PA X [e] ta) (hs : starEach [e] X.env = [(false, eval e X.env)] := by rfl) :
    PI X (.Tuple elts kk tpos) (.Call (.Name "enumerate" p) [e] [] pos) (iEnumT X.K ta) := by
  refine ⟨fun pins st σ H R J hh => ?_⟩
  refine Call_ (ld_blt J hg hm boot_enumerate (PyProof.Rows.callWith_type1 (thn (ha.run pos pins st σ H _ J hh) fun us st1 ⟨vs, H1, J1, r1, q1⟩ => ?_) hs rfl))
  obtain ⟨t, xs, ex, hq, q⟩ := q1
  subst ex
  cases r1 with
  | cons r rr =>
    cases rr
    cases r
    obtain ⟨its, rv, pt, _⟩ := J1.tuple hq
    refine enum_call1 (begins_tuple t its.toArray) pt fun hp' isE gi hsz hk => wpAny_pyIter_enum isE ?_
    have J2 : Inv X pins σ H1 { st1 with heap := hp' } := J1.kept (t' := st1.toks) hk
    have lt : t < st1.heap.objs.size := by obtain ⟨_, q, _⟩ := pt; exact Heap.lt_size q
    refine ⟨st1.heap.objs.size + 1, [st1.heap.objs.size + 1, st1.heap.objs.size], _, _, H1, rfl, J2, turn_enumT t (st1.heap.objs.size + 1) st1.heap.objs.size, ⟨⟨.none, isE⟩, ⟨_, gi, rfl, rfl⟩, Nat.succ_ne_self _, Nat.ne_of_gt (Nat.lt_succ_of_lt lt), Nat.ne_of_lt lt⟩, fun b hb => ?_, q⟩
    have cs : b = st1.heap.objs.size + 1 ∨ b = st1.heap.objs.size := by simpa using hb
    have le : st1.heap.objs.size ≤ b := by
      rcases cs with z | z
      · rw [z]; exact Nat.le_add_right _ _
      · rw [z]; exact Nat.le_refl _
    exact J1.fpOk le (J1.hok.fresh le)
end L2
namespace ML
open PySem PySem.Spec PyProof.Rows L2
variable {I : List Nat}
/-- numbered items -/
def enumW : Nat → List W → List W
  | _, [] => []
  | n, w :: l => .tup [.int (n : Int), w] :: enumW (n + 1) l
theorem enumW_len : ∀ (l : List W) (n : Nat), (enumW n l).length = l.length
  | [], _ => rfl
  | w :: l, n => by rw [enumW, List.length_cons, List.length_cons, enumW_len l]
theorem enumW_get : ∀ (l : List W) (n i : Nat) (u : W), (enumW n l)[i]? = some u → ∃ w, l[i]? = some w ∧ u = .tup [.int ((n + i : Nat) : Int), w]
  | [], _, _, _, e => by simp [enumW] at e
  | w :: l, n, 0, u, e => ⟨w, rfl, by
    have e1 : W.tup [.int (n : Int), w] = u := Option.some.inj e
    exact e1.symm⟩
  | w :: l, n, i + 1, u, e => by
    have e1 : (enumW (n + 1) l)[i]? = some u := e
    obtain ⟨w', e2, e3⟩ := enumW_get l (n + 1) i u e1
    exact ⟨w', e2, by rw [e3, show n + 1 + i = n + (i + 1) by omega]⟩
def mEnum (fs : List (Rho → R (Md × W))) : Rho → R (List W) := fun ρ => (mHold fs ρ).bind fun bs ρ1 => match bs with
  | [(.val, .tup l)] => .ok (enumW 0 l) ρ1
  | _ => .stk
theorem it_enumT {K : PySem.W.Frag} {F : Fz} {H : Hp} {a : Addr} {ws : List W} {vs : List V} (hs : SqU K H a vs) (r : RepL K F H ws vs) : ItR K (IteT K a) F H (enumW 0 ws) := by
  intro F' H' k t i
  refine ⟨fun u eu => ?_, fun h => ⟨vs, (k.sqU hs).seq, by rw [← r.len, ← enumW_len ws 0]; exact h⟩⟩
  obtain ⟨w, ew, rfl⟩ := enumW_get _ _ _ _ eu
  obtain ⟨v, ev, rv⟩ := r.get ew
  refine ⟨⟨vs, v, (k.sqU hs).seq, ev⟩, ?_⟩
  rintro x H'' ⟨T, y, rfl, nT, rfl, hy⟩
  have e1 := hy vs (k.sqU hs).seq
  rw [ev] at e1
  cases e1
  have ex : Ext [] F' H' F' (upd H' T (.tup [.int (i : Nat), v])) := Ext.new nT t
  refine ⟨F', ex, T, _, rfl, .inl upd_same, .int _, _, rfl, ?_, v, [], rfl, Rep.mono (k.trans ex.keeps) _ rv, rfl⟩
  show V.int _ = V.int _
  rw [show (0 + i : Nat) = i by omega]
section
variable {X : Cx} {Y : Yx I} {e : Expr} {fs : List (Rho → R (Md × W))} {p pos tpos : Pos} {elts : List Expr} {kk : Nat}
theorem pim_enum (hg : Gl X "enumerate") (hm : X.mg "enumerate" = none) (ha : PAM X Y [e] fs) (hs : starEach [e] X.env = [(false, eval e X.env)] := by rfl) :
    PIM X Y (.Tuple elts kk tpos) (.Call (.Name "enumerate" p) [e] [] pos) (mEnum fs) := pi_weak (pi_enumT hg hm ha hs) fun σ H Q hq => by
  obtain ⟨F, ρ, S, q⟩ := hq
  refine ⟨F, ρ, S, (RunG.bind q).imp fun bs ρ1 F1 H1 S1 k1 q1 F2 vs S2 k2 hvs => ?_⟩
  split at q1
  · rename_i l
    obtain ⟨v, r, rfl, h1, h2⟩ := hvs
    cases (show r = [] from h2)
    obtain ⟨a, xs, rfl, hs, rl⟩ := (show Rep X.K F2 H1 (.tup l) v from h1)
    exact ⟨a, xs, rfl, hs.seq, q1 F2 H1 S2 k2 _ (it_enumT hs rl)⟩
  · exact q1.elim
end
end ML

set_option maxHeartbeats 4000000
namespace ML
open PySem PySem.Spec PyProof.Rows L2
variable {I : List Nat}
/-! ### isinstance(e, (C, D, ..)) of an exception in its suite -/
theorem kitAny_names {K : PySem.W.Frag} {t : Value} {g : Str → Bool} : ∀ {Ds : List Str}, (∀ D ∈ Ds, PySem.W.kitOne K t (.ref (He.ga K D)) = some (g D)) → PySem.W.kitAny K t (Ds.map fun D => .ref (He.ga K D)) = some (Ds.any g)
  | [], _ => rfl
  | D :: Ds, h => by
    rw [List.map_cons, List.any_cons]
    unfold PySem.W.kitAny
    rw [h D (List.mem_cons_self ..)]
    cases g D with
    | true => rfl
    | false => exact kitAny_names fun E hE => h E (List.mem_cons_of_mem _ hE)
theorem fns_vals {K : PySem.W.Frag} {F : Fz} {H : Hp} : ∀ {Ds : List Str} {vs : List V} {us : List Value}, RepL K F H (Ds.map .fn) vs → Vals vs us → us = Ds.map fun D => .ref (He.ga K D)
  | [], _, _, r, v => by
    cases (show _ = [] from r)
    cases v
    rfl
  | D :: Ds, _, _, ⟨v, r, e, h1, h2⟩, q => by
    subst e
    cases (show v = .ref (He.ga K D) from h1)
    cases q with
    | cons q1 q2 =>
      cases q1
      rw [fns_vals h2 q2, List.map_cons]
def rIsT (K : PySem.W.Frag) (C a : Addr) (d : Option Addr) : List V → Hp → VK → Prop := fun xs H Q => ∃ (tp : Addr) (vs : List V) (F : Fz) (Ds : List Str) (b : Bool), xs = [.ref a, .ref tp] ∧ SqT K H tp vs ∧ RepL K F H (Ds.map .fn) vs ∧ PySem.W.kitAny K (.ref C) (Ds.map fun D => .ref (He.ga K D)) = some b ∧ (d = none ∨ ∃ (dd : Addr) (fs : List (Str × V)), d = some dd ∧ H dd = some (.xd fs)) ∧ Q (.bl b) H
section
variable {X : Cx} {ct : Str → Addr} {Y' : Yx I} {a : Addr} {oe : Obj} {cls : Value} {d : Option Addr} {pn : List (Addr × Obj)} {i : Nat} {f c x : Str} {ns : List Str} {ws : List W} {cl : List Str} {p pos : Pos}
theorem call_isT {C : Addr} (E : ExcC X.K C) (hz : Zc (.ref C) d oe) (hf : ∃ vs, oe.data = .fields vs) : CallR (X.suite a ((a, oe) :: pn)) (.builtin "isinstance") (rIsT X.K C a d) := by
  intro pins s σ H xs us Q I r h
  obtain ⟨tp, vs, F, Ds, b, rfl, hq, hr, e, hd, q⟩ := h
  cases r with
  | cons rx rr =>
    cases rr with
    | cons rt rr =>
      cases rr
      cases rx
      cases rt
      obtain ⟨hget, _⟩ := I.pin (a, oe) (List.mem_append.mpr (.inl List.mem_cons_self))
      obtain ⟨ws0, hv⟩ := hf
      obtain ⟨od, J⟩ : ∃ od, PySem.W.InstAt s.heap a oe C od := by
        rcases hd with hd | ⟨dd, fs, hd, hH⟩
        · refine ⟨none, hget, hz.1, by unfold PySem.W.notCls; rw [hv] <;> rfl, ?_⟩
          rw [hz.2, hd]
          trivial
        · have hx : ObjOk X.prog X.w H s.heap dd (.xd fs) := I.hok dd _ hH
          obtain ⟨mA, hns, _⟩ := hx
          obtain ⟨od, ho, _⟩ := lookIn_ns hns
          refine ⟨some od, hget, hz.1, by unfold PySem.W.notCls; rw [hv] <;> rfl, ?_⟩
          rw [hz.2, hd]
          exact ho
      have hcl : (PySem.W.clsIn X.K C).isSome = true := by
        obtain ⟨cd, hc, _⟩ := PySem.W.any_some E.hd
        rw [hc]
        rfl
      obtain ⟨its, r2, p2, _⟩ := I.tuple hq
      obtain ⟨o2, e2, c2, n2, d2⟩ := p2
      obtain ⟨cl, dd, da, sl⟩ := o2
      have c2' : cl = .type "tuple" := c2
      have d2' : da = .seq its.toArray n2 := d2
      subst c2' d2'
      have ei := fns_vals hr r2
      subst ei
      exact PySem.W.kia_tup (PySem.W.kitx_exc hcl E.hg E.hk E.hs E.ha E.hn E.ht E.hm) I.kIn J e2 e (fun z => nomatch z) fun tk => ⟨.bl b, H, I.kept (t' := tk) fun _ _ z => z, rfl, q⟩
def mIsT (i : Nat) (t : Option Bool) (Ds : List Str) : Rho → R (Md × W) := fun ρ => match ρ[i]?, t with
  | some .exn, some b => if Ds.length ≤ sizeLine then .ok (.val, .bl b) ρ else .stk
  | _, _ => .stk
def mFns (Ds : List Str) : List (Rho → R (Md × W)) := Ds.map fun D => mC (.fn D)
theorem hold_fns : ∀ (Ds : List Str) (ρ : Rho), mHold (mFns Ds) ρ = .ok (Ds.map fun D => (.val, .fn D)) ρ
  | [], _ => rfl
  | D :: Ds, ρ => by
    have := hold_fns Ds ρ
    show (mHold (mFns Ds) ρ).bind _ = _
    rw [this]
    rfl
theorem vals_fns : ∀ (Ds : List Str) (ρ : Rho), valsL I (Ds.map fun D => (Md.val, W.fn D)) ρ = .ok (Ds.map .fn) ρ
  | [], _ => rfl
  | D :: Ds, ρ => by
    have := vals_fns Ds ρ
    show (valsL I (Ds.map fun D => (Md.val, W.fn D)) ρ).bind _ = _
    rw [this]
    rfl
theorem tup_fns (Ds : List Str) (ρ : Rho) (h : Ds.length ≤ sizeLine) : mTup I (mFns Ds) ρ = .ok (.val, .tup (Ds.map .fn)) ρ := by
  show (mHold (mFns Ds) ρ).bind (fun bs ρ1 => (valsL I bs ρ1).bind fun ws ρ2 => if ws.length ≤ sizeLine then R.ok (Md.val, W.tup ws) ρ2 else .stk) = _
  rw [hold_fns]
  show (valsL I (Ds.map fun D => (Md.val, W.fn D)) ρ).bind (fun ws ρ2 => if ws.length ≤ sizeLine then R.ok (Md.val, W.tup ws) ρ2 else .stk) = _
  rw [vals_fns]
  show (if (Ds.map W.fn).length ≤ sizeLine then _ else _) = _
  rw [List.length_map, if_pos h]
theorem pem_isT {Ds : List Str} {te : Expr} {p1 : Pos} (su : Sui X.K ct Y' a cls d c ns ws) (hz : Zc cls d oe) (hf : ∃ vs, oe.data = .fields vs) (hcl : ∀ c ∈ cl, ExcC X.K (ct c)) (hg : Gl X "isinstance") (hm : X.mg "isinstance" = none) (hv : PE (X.suite a ((a, oe) :: pn)) (.Name x p) (tVar i))
    (hD : PEM (X.suite a ((a, oe) :: pn)) Y' te (mTup I (mFns Ds))) {t : Option Bool} (ht : ∀ b, t = some b → c ∈ cl ∧ PySem.W.kitAny X.K (.ref (ct c)) (Ds.map fun D => .ref (He.ga X.K D)) = some b)
    (hs1 : starEach [.Name x p, te] (X.suite a ((a, oe) :: pn)).env = (false, eval (.Name x p) (X.suite a ((a, oe) :: pn)).env) :: starEach [te] (X.suite a ((a, oe) :: pn)).env := by rfl)
    (hs2 : starEach [te] (X.suite a ((a, oe) :: pn)).env = (false, eval te (X.suite a ((a, oe) :: pn)).env) :: starEach [] (X.suite a ((a, oe) :: pn)).env := by rfl)
    (hpl : (backTo pos (starEach [te] (X.suite a ((a, oe) :: pn)).env)).any (·.1) = false := by rfl) :
    PEM (X.suite a ((a, oe) :: pn)) Y' (.Call (.Name "isinstance" p1) [.Name x p, te] [] pos) (mIsT i t Ds) := by
  cases t with
  | none =>
    refine pe_weak (t := fun _ _ _ => False) ⟨fun _ _ _ _ _ _ h => h.elim⟩ fun σ H Q hq => ?_
    obtain ⟨F, ρ, S, q⟩ := hq
    unfold mIsT at q
    split at q
    · rename_i hh
      cases hh
    · exact q
  | some b =>
    obtain ⟨hc, hk⟩ := ht b rfl
    have hz' : Zc (.ref (ct c)) d oe := by rw [← su.cls]; exact hz
    refine pe_weak (pe_callB (call_isT (hcl c hc) hz' hf) hg hm (by rfl) (pa_cons (te := tVar i) hv (pa_cons (te := tM X.K Y' (mTup I (mFns Ds))) hD pa_nil hs2) hs1) (by decide) (by decide) hs1 hpl) fun σ H Q hq => ?_
    obtain ⟨F, ρ, S, q⟩ := hq
    unfold mIsT at q
    cases g : ρ[i]? with
    | none => rw [g] at q; exact q.elim
    | some sl =>
      rw [g] at q
      cases sl with
      | no => exact q.elim
      | val w => exact q.elim
      | own w => exact q.elim
      | exn =>
        dsimp only at q
        split at q
        · rename_i hl
          have hs' : σ[i]? = some (some (.ref Y'.B.ea)) := S.slot i _ g
          rw [su.ea] at hs'
          refine ⟨.ref a, hs', F, ρ, S, ?_⟩
          rw [tup_fns Ds ρ hl]
          intro F1 H1 S1 k1 v hv
          obtain ⟨tp, vs, rfl, hq1, hr⟩ := (show Rep X.K F1 H1 (.tup (Ds.map .fn)) v from hv)
          refine ⟨tp, vs, F1, Ds, b, rfl, hq1.seq, hr, hk, ?_, q F1 H1 S1 k1 _ rfl⟩
          have x' := su.fld F1 H1 σ ρ S1
          cases ns with
          | nil => exact .inl x'.1
          | cons n ns =>
            obtain ⟨dd, vs, ed, h1, _⟩ := x'
            exact .inr ⟨dd, _, ed, h1⟩
        · exact q.elim
end
end ML

set_option maxHeartbeats 4000000
namespace ML
open PySem PySem.Spec PyProof.Rows L2
variable {I : List Nat}
/-! ### own classes from the text -/
/-- the method m (st) of the class C -/
def MethT (K : PySem.W.Frag) (C m q : Str) (st : Stmt) : Prop := Cls K (He.ga K C) ∧ Meth K (He.ga K C) m (He.ma K (He.ga K C) m) ∧ ∃ fd, FunD K m q (defArgs st) (defBody st) (defScope st) [] [] (He.ma K (He.ga K C) m) fd
/-- the class C makes objects by its __init__ (st), which has n defaults -/
def MakeT (K : PySem.W.Frag) (mg : Str → Option Value) (C q : Str) (n : Nat) (st : Stmt) : Prop := mg C = some (.ref (He.ga K C)) ∧ Mk K (He.ga K C) (He.ma K (He.ga K C) "__init__") ∧ ∃ fd dvs, dvs.length = n ∧ FunD K "__init__" q (defArgs st) (defBody st) (defScope st) dvs [] (He.ma K (He.ga K C) "__init__") fd
section
variable {P : Program} {w : World} {K : PySem.W.Frag} {mg : Str → Option Value} {base : Heap} {ct : Str → Addr} {k : Nat} {C m q : Str} {ps N : List Str} {st : Stmt} {g : Rho → R Fl}
theorem meth_mk (T : MethT K C m q st) (S : FnScope N ps (defScope st)) (hn : ps.length ≤ N.length)
    (hbi : ∀ (kV doc pm : Value) (an : Option Addr) (cdv ct : Value) (us : List Value), us.length = ps.length → bindArgs (PySem.W.fnOf m q (defArgs st) (defBody st) (defScope st) .none kV doc pm an cdv ct) ⟨us, []⟩ = pure (ps.zip us))
    (hb : ∀ (f : Addr) (cdv : Value) (A : Around) (outer : List Env) (s : Shared) (H : Hp) (E : XK) (Y : Yx []), Room k (cxOf (L2.CX P w) P w K mg base N q (defScope st) f cdv A outer s H E).A → Y.ct = ct → Takes (cxOf (L2.CX P w) P w K mg base N q (defScope st) f cdv A outer s H E) Y.wx →
      PSMs (cxOf (L2.CX P w) P w K mg base N q (defScope st) f cdv A outer s H E) Y (defBody st) g) : MDef P w K mg base ct (k + 1) C m ps (mFun [] N.length g) := by
  obtain ⟨hc, hm, fd, F⟩ := T
  exact ⟨_, fd, hc, hm, F.bindsN hbi, fn_ok F S hn (fun _ _ => rfl) (hb _)⟩
theorem binds_all {x : Str} {dvs : List V} {f : Addr} {fd : FuncData} {params : Arguments} {body : List Stmt} {scope : Scope} (F : FunD K x q params body scope dvs [] f fd)
    (hbi : ∀ (kV doc pm : Value) (an : Option Addr) (cdv ct : Value) (us : List Value), us.length = ps.length → bindArgs (PySem.W.fnOf x q params body scope .none kV doc pm an cdv ct) ⟨us, []⟩ = pure (ps.zip us))
    (hbd : ∀ (T : Addr) (kV doc pm : Value) (an : Option Addr) (cdv ct : Value) (us its : List Value), us.length = ps.length → its.length = dvs.length →
      ∃ k, bindArgs (PySem.W.fnOf x q params body scope (.ref T) kV doc pm an cdv ct) ⟨us, []⟩ = seqItems? (.ref T) >>= k ∧ k (some its.toArray) = pure (ps.zip us)) : Binds K fd ps [] := by
  by_cases hd : dvs = []
  · subst hd
    exact F.bindsN hbi
  · obtain ⟨ds, hv, hb⟩ := F.binds1 (ps := ps) ps.length dvs.length hd (by omega) fun T kV doc pm an cdv ct us its h1 h2 => by
      have e : us ++ its.drop dvs.length = us := by rw [← h2, List.drop_length, List.append_nil]
      rw [e]
      exact hbd T kV doc pm an cdv ct us its h1 h2
    rw [List.drop_length] at hv
    cases hv
    exact hb
theorem make_mk {n : Nat} (T : MakeT K mg C q n st) (S : FnScope N ps (defScope st)) (hn : ps.length ≤ N.length)
    (hbi : ∀ (kV doc pm : Value) (an : Option Addr) (cdv ct : Value) (us : List Value), us.length = ps.length → bindArgs (PySem.W.fnOf "__init__" q (defArgs st) (defBody st) (defScope st) .none kV doc pm an cdv ct) ⟨us, []⟩ = pure (ps.zip us))
    (hbd : ∀ (T : Addr) (kV doc pm : Value) (an : Option Addr) (cdv ct : Value) (us its : List Value), us.length = ps.length → its.length = n →
      ∃ k, bindArgs (PySem.W.fnOf "__init__" q (defArgs st) (defBody st) (defScope st) (.ref T) kV doc pm an cdv ct) ⟨us, []⟩ = seqItems? (.ref T) >>= k ∧ k (some its.toArray) = pure (ps.zip us))
    (hb : ∀ (f : Addr) (cdv : Value) (A : Around) (outer : List Env) (s : Shared) (H : Hp) (E : XK) (Y : Yx [0]), Room k (cxOf (L2.CX P w) P w K mg base N q (defScope st) f cdv A outer s H E).A → Y.ct = ct → Takes (cxOf (L2.CX P w) P w K mg base N q (defScope st) f cdv A outer s H E) Y.wx →
      PSMs (cxOf (L2.CX P w) P w K mg base N q (defScope st) f cdv A outer s H E) Y (defBody st) g) : KDef P w K mg base ct (k + 1) C ps (mFun [0] N.length g) := by
  obtain ⟨hm, hk, fd, dvs, hl, F⟩ := T
  subst hl
  exact ⟨_, fd, hm, hk, binds_all F hbi hbd, fn_ok F S hn (fun _ _ => rfl) (hb _)⟩
end
section
variable {h : Heap} {w : World} {K : PySem.W.Frag} {mg : Str → Option Value} {fa : List He.Fa} {fn : List He.DefD} {ts : List He.Tab} {more : PySem.W.Frag → Bool} {C m q : Str} {st : Stmt}
theorem methT_ok (c : SaysM fa fn ts more w K) (i j n : Nat) (e : fn[i]? = some ⟨(C, some m), m, q, defArgs st, defBody st, defScope st, [], []⟩ := by rfl) (e2 : fa[j]? = some (.cls C) := by rfl) (e3 : fa[n]? = some (.meth C m) := by rfl) : MethT K C m q st := by
  obtain ⟨fd, F⟩ := c.t.d.def_ i e
  exact ⟨He.cls_ok (c.fact j e2), He.meth_ok (c.fact n e3), fd, F⟩
theorem makeT_ok (X : K.In h) (G : h.Ns mainGlobals mg) (c : SaysM fa fn ts more w K) (i j n : Nat) {dfl : List He.Dv} (e : fn[i]? = some ⟨(C, some "__init__"), "__init__", q, defArgs st, defBody st, defScope st, dfl, []⟩ := by rfl) (e2 : fa[j]? = some (.glo C) := by rfl) (e3 : fa[n]? = some (.mkr C) := by rfl) : MakeT K mg C q dfl.length st := by
  obtain ⟨fd, F⟩ := c.t.d.def_ i e
  refine ⟨He.glo_ok X G (c.fact j e2), He.mkr_ok (c.fact n e3), fd, _, ?_, F⟩
  show (dfl.map _).length = _
  rw [List.length_map]
theorem noat_ok {f : Str} (c : SaysM fa fn ts more w K) (j n : Nat) (e2 : fa[j]? = some (.cls C) := by rfl) (e3 : fa[n]? = some (.noat C f) := by rfl) : Cls K (He.ga K C) ∧ NoAttr K (He.ga K C) f := ⟨He.cls_ok (c.fact j e2), He.noat_ok (c.fact n e3)⟩
end
end ML

set_option maxHeartbeats 4000000
namespace K08
open PySem PySem.Spec PyProof.Rows L2 ML

def top (i : Nat) : Stmt := PySem.Challenge.pw_heardsaid_k08_moves_that_may_come.main.body.getD i (.Pass ⟨0, 0, 0, 0⟩)
abbrev s__wall : Stmt := top 0
abbrev s_frozen : Stmt := top 13
abbrev s_answer_moves : Stmt := top 16
abbrev s_call_choices : Stmt := top 17
abbrev s_heard_choices : Stmt := top 18
abbrev s_said_choices : Stmt := top 19
abbrev s_opened_after : Stmt := top 20
abbrev s_choices_after : Stmt := top 21
abbrev s_walked : Stmt := top 22
abbrev s_open_moves : Stmt := top 23
abbrev s_next_moves : Stmt := top 24
abbrev s_is_finished : Stmt := top 25
abbrev s_is_name : Stmt := top 31
abbrev s_check_procedures : Stmt := top 32
abbrev s_check_cells : Stmt := top 33
abbrev s__law_whole : Stmt := top 36
abbrev s__law_cell : Stmt := top 37
abbrev s__law_digits : Stmt := top 38
abbrev s__law_reader : Stmt := top 39
abbrev s__law_next : Stmt := top 40
abbrev s__law_triple : Stmt := top 41
abbrev s__law_after : Stmt := top 42
abbrev s__law_numbered : Stmt := top 43
abbrev s__law_heard : Stmt := top 44
abbrev s__law_said : Stmt := top 45
abbrev s__law_name : Stmt := top 46
abbrev s__law_names : Stmt := top 47
abbrev s__law_may : Stmt := top 48
abbrev s__law_row : Stmt := top 49
abbrev s__law_judge : Stmt := top 50
abbrev s__law_odd : Stmt := top 51
abbrev s__law_flawed : Stmt := top 52
abbrev s__law_changed : Stmt := top 53
abbrev s__law_told : Stmt := top 54
abbrev s__law_is_row : Stmt := top 55
abbrev s__law_agrees : Stmt := top 56
abbrev s_law : Stmt := top 57
abbrev s_BadSize___init__ : Stmt := inClass (top 3) 0
abbrev s_BadName___init__ : Stmt := inClass (top 4) 0
abbrev s_RepeatedName___init__ : Stmt := inClass (top 5) 0
abbrev s_BadProcedure___init__ : Stmt := inClass (top 6) 0
abbrev s_NoSuchName___init__ : Stmt := inClass (top 7) 0
abbrev s_BadMove___init__ : Stmt := inClass (top 8) 0
abbrev s_BadTable___init__ : Stmt := inClass (top 9) 0
abbrev s_BadNumber___init__ : Stmt := inClass (top 10) 0
abbrev s_WrongMachine___init__ : Stmt := inClass (top 11) 0
abbrev s_Signature___init__ : Stmt := inClass (top 34) 0
abbrev s_Signature___contains__ : Stmt := inClass (top 34) 1
abbrev s_Signature___len__ : Stmt := inClass (top 34) 2
abbrev s_Signature___iter__ : Stmt := inClass (top 34) 3
abbrev s_Signature___eq__ : Stmt := inClass (top 34) 4
abbrev s_Signature_procedure : Stmt := inClass (top 34) 5
abbrev s_Signature_extended : Stmt := inClass (top 34) 6
abbrev s_Signature_without : Stmt := inClass (top 34) 7

def cl_all : List Str := ["BadSize", "BadName", "RepeatedName", "BadProcedure", "NoSuchName", "BadMove", "BadTable", "BadNumber", "WrongMachine"]
def cm_all : Str → Option Bool := fun c => if c ∈ cl_all then some true else none
def kiT (D : Str) : Str → Option Bool := fun c => if c ∈ cl_all then some (decide (c = D)) else none
def kiTs (Ds : List Str) : Str → Option Bool := fun c => if c ∈ cl_all then some (Ds.any fun D => decide (c = D)) else none
def kiV : Str → Option Bool := fun c => if c ∈ cl_all then some true else none
def fl_index : List Str := ["BadMove", "WrongMachine"]
def oc_cells : List Str := ["Signature"]
def oc_names : List Str := ["Signature"]
def oc_procedures : List Str := ["Signature"]
def oc_size : List Str := ["Signature"]
structure Txt (w : World) (K : PySem.W.Frag) (mg : Str → Option Value) : Prop where
  s__wall : Src K mg "_wall" s__wall
  s_frozen : Src K mg "frozen" s_frozen
  s_answer_moves : Src K mg "answer_moves" s_answer_moves
  s_call_choices : Src K mg "call_choices" s_call_choices
  s_heard_choices : Src K mg "heard_choices" s_heard_choices
  s_said_choices : Src K mg "said_choices" s_said_choices
  s_opened_after : Src K mg "opened_after" s_opened_after
  s_choices_after : Src K mg "choices_after" s_choices_after
  s_walked : Src K mg "walked" s_walked
  s_open_moves : Src K mg "open_moves" s_open_moves
  s_next_moves : Src K mg "next_moves" s_next_moves
  s_is_finished : Src K mg "is_finished" s_is_finished
  s_is_name : Src K mg "is_name" s_is_name
  s_check_procedures : Src K mg "check_procedures" s_check_procedures
  s_check_cells : Src K mg "check_cells" s_check_cells
  s__law_whole : Src K mg "_law_whole" s__law_whole
  s__law_cell : Src K mg "_law_cell" s__law_cell
  s__law_digits : Src K mg "_law_digits" s__law_digits
  s__law_reader : Src K mg "_law_reader" s__law_reader
  s__law_next : Src K mg "_law_next" s__law_next
  s__law_triple : Src K mg "_law_triple" s__law_triple
  s__law_after : Src K mg "_law_after" s__law_after
  s__law_numbered : Src K mg "_law_numbered" s__law_numbered
  s__law_heard : Src K mg "_law_heard" s__law_heard
  s__law_said : Src K mg "_law_said" s__law_said
  s__law_name : Src K mg "_law_name" s__law_name
  s__law_names : Src K mg "_law_names" s__law_names
  s__law_may : Src K mg "_law_may" s__law_may
  s__law_row : Src K mg "_law_row" s__law_row
  s__law_judge : Src K mg "_law_judge" s__law_judge
  s__law_odd : Src K mg "_law_odd" s__law_odd
  s__law_flawed : Src K mg "_law_flawed" s__law_flawed
  s__law_changed : Src K mg "_law_changed" s__law_changed
  s__law_told : Src K mg "_law_told" s__law_told
  s__law_is_row : Src K mg "_law_is_row" s__law_is_row
  s__law_agrees : Src K mg "_law_agrees" s__law_agrees
  s_law : Src K mg "law" s_law
  e_BadMove : ErrT K mg "BadMove" "BadMove.__init__" ["index"] s_BadMove___init__
  g_HeardError : mg "HeardError" = some (.ref (He.ga K "HeardError"))
  g_BadSize : mg "BadSize" = some (.ref (He.ga K "BadSize"))
  g_BadName : mg "BadName" = some (.ref (He.ga K "BadName"))
  g_RepeatedName : mg "RepeatedName" = some (.ref (He.ga K "RepeatedName"))
  g_BadProcedure : mg "BadProcedure" = some (.ref (He.ga K "BadProcedure"))
  g_NoSuchName : mg "NoSuchName" = some (.ref (He.ga K "NoSuchName"))
  g_BadMove : mg "BadMove" = some (.ref (He.ga K "BadMove"))
  g_BadTable : mg "BadTable" = some (.ref (He.ga K "BadTable"))
  g_BadNumber : mg "BadNumber" = some (.ref (He.ga K "BadNumber"))
  g_WrongMachine : mg "WrongMachine" = some (.ref (He.ga K "WrongMachine"))
  cm : ∀ c b, cm_all c = some b → PySem.W.exmOne K (.ref (He.ga K c)) (.ref (He.ga K "HeardError")) = some b
  i_all : ∀ c ∈ cl_all, ExcC K (He.ga K c)
  kit : ∀ D ∈ cl_all, ∀ c b, kiT D c = some b → c ∈ cl_all ∧ PySem.W.kitOne K (.ref (He.ga K c)) (.ref (He.ga K D)) = some b
  kits : ∀ Ds : List Str, (Ds.all fun D => decide (D ∈ cl_all)) = true → ∀ c b, kiTs Ds c = some b → c ∈ cl_all ∧ PySem.W.kitAny K (.ref (He.ga K c)) (Ds.map fun D => .ref (He.ga K D)) = some b
  kit_ValueError : ∀ c b, kiV c = some b → c ∈ cl_all ∧ PySem.W.kitOne K (.ref (He.ga K c)) (.type "ValueError") = some b
  f_index : ∀ c ∈ fl_index, XfC K (He.ga K c) ∧ PySem.W.findIn K (.ref (He.ga K c)) "index" = some none
  n_cells : ∀ c ∈ oc_cells, Cls K (He.ga K c) ∧ NoAttr K (He.ga K c) "cells"
  n_names : ∀ c ∈ oc_names, Cls K (He.ga K c) ∧ NoAttr K (He.ga K c) "names"
  n_procedures : ∀ c ∈ oc_procedures, Cls K (He.ga K c) ∧ NoAttr K (He.ga K c) "procedures"
  n_size : ∀ c ∈ oc_size, Cls K (He.ga K c) ∧ NoAttr K (He.ga K c) "size"
  mk_Signature : MakeT K mg "Signature" "Signature.__init__" 2 s_Signature___init__
  mt_Signature_procedure : MethT K "Signature" "procedure" "Signature.procedure" s_Signature_procedure
  b_int : mg "int" = none
  b_str : mg "str" = none
  b_tuple : mg "tuple" = none
  b_list : mg "list" = none
  b_bool : mg "bool" = none
  b_len : mg "len" = none
  b_min : mg "min" = none
  b_max : mg "max" = none
  b_isinstance : mg "isinstance" = none
  b_range : mg "range" = none
  b_enumerate : mg "enumerate" = none
  b_all : mg "all" = none
  b_ValueError : mg "ValueError" = none
  c_LETTERS : ∃ u, mg "LETTERS" = some u ∧ RelV (.str "abcdefghijklmnopqrstuvwxyz") u
  c_DIGITS : ∃ u, mg "DIGITS" = some u ∧ RelV (.str "0123456789") u
  c_OPENING : ∃ a, mg "OPENING" = some (.ref a) ∧ TupK K a [.str "run", .str "call", .str "ask", .str "get", .str "set"] 
  c_KINDS : ∃ a, mg "KINDS" = some (.ref a) ∧ TupK K a [.str "command", .str "number"] 
  c_RESERVED : ∃ a, mg "RESERVED" = some (.ref a) ∧ TupK K a [.str "skip", .str "quit", .str "if", .str "then", .str "else", .str "fi", .str "while", .str "do", .str "od", .str "new", .str "in", .str "end", .str "let", .str "be", .str "command", .str "number"] 
theorem sc_BadMove___init__ : FnScope ["self", "index"] ["self", "index"] (defScope s_BadMove___init__) := ⟨rfl, rfl, rfl, by decide +kernel, rfl, by decide +kernel, by decide +kernel⟩
theorem exc_BadMove {P : Program} {w : World} {K : PySem.W.Frag} {mg : Str → Option Value} {base : Heap} {k : Nat} (T : Txt w K mg) : Exc P w K mg base (He.ga K) (k + 1) "BadMove" ["index"] :=
  exc_mk (xs := ["index"]) T.e_BadMove sc_BadMove___init__ rfl (by decide) (by decide) (fun _ _ _ _ _ _ us hl => match us, hl with | [_, _], _ => rfl) (InitB.cons rfl (Or.inl rfl) (by decide) (by decide) InitB.nil) (Or.inl rfl)
abbrev w_LETTERS : W := .str "abcdefghijklmnopqrstuvwxyz"
abbrev w_DIGITS : W := .str "0123456789"
abbrev w_OPENING : W := .tup [.str "run", .str "call", .str "ask", .str "get", .str "set"]
abbrev w_KINDS : W := .tup [.str "command", .str "number"]
abbrev w_RESERVED : W := .tup [.str "skip", .str "quit", .str "if", .str "then", .str "else", .str "fi", .str "while", .str "do", .str "od", .str "new", .str "in", .str "end", .str "let", .str "be", .str "command", .str "number"]
section
variable {X : Cx} {I : List Nat} {Y : Yx I} {pos : Pos}
theorem pg_LETTERS (T : Txt X.w X.K X.mg) (hg : Gl X "LETTERS" := by rfl) : PEM X Y (.Name "LETTERS" pos) (mC w_LETTERS) := pem_gc T.c_LETTERS hg fun _ _ => rfl
theorem pg_DIGITS (T : Txt X.w X.K X.mg) (hg : Gl X "DIGITS" := by rfl) : PEM X Y (.Name "DIGITS" pos) (mC w_DIGITS) := pem_gc T.c_DIGITS hg fun _ _ => rfl
theorem pg_OPENING (T : Txt X.w X.K X.mg) (hg : Gl X "OPENING" := by rfl) : PEM X Y (.Name "OPENING" pos) (mC w_OPENING) := by
  obtain ⟨a, h1, h2⟩ := T.c_OPENING
  exact pem_gt ⟨a, h1, h2, .cons rfl (.cons rfl (.cons rfl (.cons rfl (.cons rfl RepL.nil))))⟩ hg
theorem pg_KINDS (T : Txt X.w X.K X.mg) (hg : Gl X "KINDS" := by rfl) : PEM X Y (.Name "KINDS" pos) (mC w_KINDS) := by
  obtain ⟨a, h1, h2⟩ := T.c_KINDS
  exact pem_gt ⟨a, h1, h2, .cons rfl (.cons rfl RepL.nil)⟩ hg
theorem pg_RESERVED (T : Txt X.w X.K X.mg) (hg : Gl X "RESERVED" := by rfl) : PEM X Y (.Name "RESERVED" pos) (mC w_RESERVED) := by
  obtain ⟨a, h1, h2⟩ := T.c_RESERVED
  exact pem_gt ⟨a, h1, h2, .cons rfl (.cons rfl (.cons rfl (.cons rfl (.cons rfl (.cons rfl (.cons rfl (.cons rfl (.cons rfl (.cons rfl (.cons rfl (.cons rfl (.cons rfl (.cons rfl (.cons rfl (.cons rfl RepL.nil)))))))))))))))⟩ hg
end

end K08

namespace K08
open PySem PySem.Spec PyProof.Rows L2 ML
def d__wall : He.DefD := ⟨("_wall", none), "_wall", "_wall", defArgs s__wall, defBody s__wall, defScope s__wall, [], []⟩
def d_frozen : He.DefD := ⟨("frozen", none), "frozen", "frozen", defArgs s_frozen, defBody s_frozen, defScope s_frozen, [], []⟩
def d_answer_moves : He.DefD := ⟨("answer_moves", none), "answer_moves", "answer_moves", defArgs s_answer_moves, defBody s_answer_moves, defScope s_answer_moves, [], []⟩
def d_call_choices : He.DefD := ⟨("call_choices", none), "call_choices", "call_choices", defArgs s_call_choices, defBody s_call_choices, defScope s_call_choices, [], []⟩
def d_heard_choices : He.DefD := ⟨("heard_choices", none), "heard_choices", "heard_choices", defArgs s_heard_choices, defBody s_heard_choices, defScope s_heard_choices, [], []⟩
def d_said_choices : He.DefD := ⟨("said_choices", none), "said_choices", "said_choices", defArgs s_said_choices, defBody s_said_choices, defScope s_said_choices, [], []⟩
def d_opened_after : He.DefD := ⟨("opened_after", none), "opened_after", "opened_after", defArgs s_opened_after, defBody s_opened_after, defScope s_opened_after, [], []⟩
def d_choices_after : He.DefD := ⟨("choices_after", none), "choices_after", "choices_after", defArgs s_choices_after, defBody s_choices_after, defScope s_choices_after, [], []⟩
def d_walked : He.DefD := ⟨("walked", none), "walked", "walked", defArgs s_walked, defBody s_walked, defScope s_walked, [], []⟩
def d_open_moves : He.DefD := ⟨("open_moves", none), "open_moves", "open_moves", defArgs s_open_moves, defBody s_open_moves, defScope s_open_moves, [], []⟩
def d_next_moves : He.DefD := ⟨("next_moves", none), "next_moves", "next_moves", defArgs s_next_moves, defBody s_next_moves, defScope s_next_moves, [], []⟩
def d_is_finished : He.DefD := ⟨("is_finished", none), "is_finished", "is_finished", defArgs s_is_finished, defBody s_is_finished, defScope s_is_finished, [], []⟩
def d_is_name : He.DefD := ⟨("is_name", none), "is_name", "is_name", defArgs s_is_name, defBody s_is_name, defScope s_is_name, [], []⟩
def d_check_procedures : He.DefD := ⟨("check_procedures", none), "check_procedures", "check_procedures", defArgs s_check_procedures, defBody s_check_procedures, defScope s_check_procedures, [], []⟩
def d_check_cells : He.DefD := ⟨("check_cells", none), "check_cells", "check_cells", defArgs s_check_cells, defBody s_check_cells, defScope s_check_cells, [], []⟩
def d__law_whole : He.DefD := ⟨("_law_whole", none), "_law_whole", "_law_whole", defArgs s__law_whole, defBody s__law_whole, defScope s__law_whole, [], []⟩
def d__law_cell : He.DefD := ⟨("_law_cell", none), "_law_cell", "_law_cell", defArgs s__law_cell, defBody s__law_cell, defScope s__law_cell, [], []⟩
def d__law_digits : He.DefD := ⟨("_law_digits", none), "_law_digits", "_law_digits", defArgs s__law_digits, defBody s__law_digits, defScope s__law_digits, [], []⟩
def d__law_reader : He.DefD := ⟨("_law_reader", none), "_law_reader", "_law_reader", defArgs s__law_reader, defBody s__law_reader, defScope s__law_reader, [], []⟩
def d__law_next : He.DefD := ⟨("_law_next", none), "_law_next", "_law_next", defArgs s__law_next, defBody s__law_next, defScope s__law_next, [], []⟩
def d__law_triple : He.DefD := ⟨("_law_triple", none), "_law_triple", "_law_triple", defArgs s__law_triple, defBody s__law_triple, defScope s__law_triple, [], []⟩
def d__law_after : He.DefD := ⟨("_law_after", none), "_law_after", "_law_after", defArgs s__law_after, defBody s__law_after, defScope s__law_after, [], []⟩
def d__law_numbered : He.DefD := ⟨("_law_numbered", none), "_law_numbered", "_law_numbered", defArgs s__law_numbered, defBody s__law_numbered, defScope s__law_numbered, [], []⟩
def d__law_heard : He.DefD := ⟨("_law_heard", none), "_law_heard", "_law_heard", defArgs s__law_heard, defBody s__law_heard, defScope s__law_heard, [], []⟩
def d__law_said : He.DefD := ⟨("_law_said", none), "_law_said", "_law_said", defArgs s__law_said, defBody s__law_said, defScope s__law_said, [], []⟩
def d__law_name : He.DefD := ⟨("_law_name", none), "_law_name", "_law_name", defArgs s__law_name, defBody s__law_name, defScope s__law_name, [], []⟩
def d__law_names : He.DefD := ⟨("_law_names", none), "_law_names", "_law_names", defArgs s__law_names, defBody s__law_names, defScope s__law_names, [], []⟩
def d__law_may : He.DefD := ⟨("_law_may", none), "_law_may", "_law_may", defArgs s__law_may, defBody s__law_may, defScope s__law_may, [], []⟩
def d__law_row : He.DefD := ⟨("_law_row", none), "_law_row", "_law_row", defArgs s__law_row, defBody s__law_row, defScope s__law_row, [], []⟩
def d__law_judge : He.DefD := ⟨("_law_judge", none), "_law_judge", "_law_judge", defArgs s__law_judge, defBody s__law_judge, defScope s__law_judge, [], []⟩
def d__law_odd : He.DefD := ⟨("_law_odd", none), "_law_odd", "_law_odd", defArgs s__law_odd, defBody s__law_odd, defScope s__law_odd, [], []⟩
def d__law_flawed : He.DefD := ⟨("_law_flawed", none), "_law_flawed", "_law_flawed", defArgs s__law_flawed, defBody s__law_flawed, defScope s__law_flawed, [], []⟩
def d__law_changed : He.DefD := ⟨("_law_changed", none), "_law_changed", "_law_changed", defArgs s__law_changed, defBody s__law_changed, defScope s__law_changed, [], []⟩
def d__law_told : He.DefD := ⟨("_law_told", none), "_law_told", "_law_told", defArgs s__law_told, defBody s__law_told, defScope s__law_told, [], []⟩
def d__law_is_row : He.DefD := ⟨("_law_is_row", none), "_law_is_row", "_law_is_row", defArgs s__law_is_row, defBody s__law_is_row, defScope s__law_is_row, [], []⟩
def d__law_agrees : He.DefD := ⟨("_law_agrees", none), "_law_agrees", "_law_agrees", defArgs s__law_agrees, defBody s__law_agrees, defScope s__law_agrees, [], []⟩
def d_law : He.DefD := ⟨("law", none), "law", "law", defArgs s_law, defBody s_law, defScope s_law, [], []⟩
def d_BadMove___init__ : He.DefD := ⟨("BadMove", some "__init__"), "__init__", "BadMove.__init__", defArgs s_BadMove___init__, defBody s_BadMove___init__, defScope s_BadMove___init__, [], []⟩
def d_Signature___init__ : He.DefD := ⟨("Signature", some "__init__"), "__init__", "Signature.__init__", defArgs s_Signature___init__, defBody s_Signature___init__, defScope s_Signature___init__, [.adr (He.dflAt ("Signature", some "__init__") 0), .adr (He.dflAt ("Signature", some "__init__") 1)], []⟩
def d_Signature_procedure : He.DefD := ⟨("Signature", some "procedure"), "procedure", "Signature.procedure", defArgs s_Signature_procedure, defBody s_Signature_procedure, defScope s_Signature_procedure, [], []⟩
def hfn0 : List He.DefD := [d__wall, d_frozen, d_answer_moves, d_call_choices, d_heard_choices, d_said_choices, d_opened_after, d_choices_after, d_walked, d_open_moves, d_next_moves, d_is_finished]
def hfn1 : List He.DefD := [d_is_name, d_check_procedures, d_check_cells, d__law_whole, d__law_cell, d__law_digits, d__law_reader, d__law_next, d__law_triple, d__law_after, d__law_numbered, d__law_heard]
def hfn2 : List He.DefD := [d__law_said, d__law_name, d__law_names, d__law_may, d__law_row, d__law_judge, d__law_odd, d__law_flawed, d__law_changed, d__law_told, d__law_is_row, d__law_agrees]
def hfn3 : List He.DefD := [d_law, d_BadMove___init__, d_Signature___init__, d_Signature_procedure]
def hfn : List He.DefD := hfn0 ++ hfn1 ++ hfn2 ++ hfn3
def hfa0 : List He.Fa := [.glo "_wall", .glo "frozen", .glo "answer_moves", .glo "call_choices", .glo "heard_choices", .glo "said_choices", .glo "opened_after", .glo "choices_after", .glo "walked", .glo "open_moves", .glo "next_moves", .glo "is_finished"]
def hfa1 : List He.Fa := [.glo "is_name", .glo "check_procedures", .glo "check_cells", .glo "_law_whole", .glo "_law_cell", .glo "_law_digits", .glo "_law_reader", .glo "_law_next", .glo "_law_triple", .glo "_law_after", .glo "_law_numbered", .glo "_law_heard"]
def hfa2 : List He.Fa := [.glo "_law_said", .glo "_law_name", .glo "_law_names", .glo "_law_may", .glo "_law_row", .glo "_law_judge", .glo "_law_odd", .glo "_law_flawed", .glo "_law_changed", .glo "_law_told", .glo "_law_is_row", .glo "_law_agrees"]
def hfa3 : List He.Fa := [.glo "law", .free "int", .free "str", .free "tuple", .free "list", .free "bool", .free "len", .free "min", .free "max", .free "isinstance", .free "range", .free "enumerate"]
def hfa4 : List He.Fa := [.free "all", .free "ValueError", .str "LETTERS" "abcdefghijklmnopqrstuvwxyz", .str "DIGITS" "0123456789", .glo "OPENING", .glo "KINDS", .glo "RESERVED", .glo "HeardError", .glo "BadSize", .glo "BadName", .glo "RepeatedName", .glo "BadProcedure"]
def hfa5 : List He.Fa := [.glo "NoSuchName", .glo "BadMove", .glo "BadTable", .glo "BadNumber", .glo "WrongMachine", .meth "BadMove" "__init__", .cls "Signature", .glo "Signature", .mkr "Signature", .meth "Signature" "procedure", .noat "Signature" "cells", .noat "Signature" "names"]
def hfa6 : List He.Fa := [.noat "Signature" "procedures", .noat "Signature" "size"]
def hfa : List He.Fa := hfa0 ++ hfa1 ++ hfa2 ++ hfa3 ++ hfa4 ++ hfa5 ++ hfa6
def hts : List He.Tab := []
def hms0 : List (PySem.W.Frag → Bool) := [(fun K => cl_all.all fun c => decide (PySem.W.exmOne K (.ref (He.ga K c)) (.ref (He.ga K "HeardError")) = some true)), (fun K => cl_all.all fun c => excB K (He.ga K c)), (fun K => cl_all.all fun D => cl_all.all fun c => decide (PySem.W.kitOne K (.ref (He.ga K c)) (.ref (He.ga K D)) = some (decide (c = D)))), (fun K => cl_all.all fun c => decide (PySem.W.kitOne K (.ref (He.ga K c)) (.type "ValueError") = some true))]
def hms1 : List (PySem.W.Frag → Bool) := [(fun K => fl_index.all fun c => xfB K (He.ga K c) && decide (PySem.W.findIn K (.ref (He.ga K c)) "index" = some none)), (fun K => oexB K (He.ga K "BadMove") && ["index"].all fun f => decide (PySem.W.findIn K (.ref (He.ga K "BadMove")) f = some none)), (fun K => tupAtB K (gaP "OPENING") [.str "run", .str "call", .str "ask", .str "get", .str "set"]), (fun K => tupAtB K (gaP "KINDS") [.str "command", .str "number"])]
def hms2 : List (PySem.W.Frag → Bool) := [(fun K => tupAtB K (gaP "RESERVED") [.str "skip", .str "quit", .str "if", .str "then", .str "else", .str "fi", .str "while", .str "do", .str "od", .str "new", .str "in", .str "end", .str "let", .str "be", .str "command", .str "number"])]
def hms : List (PySem.W.Frag → Bool) := hms0 ++ hms1 ++ hms2
def hmore (K : PySem.W.Frag) : Bool := hms.all fun f => f K
abbrev hR : PySem.W.OpenRow := PySem.W.OpenLaw.row PySem.Challenge.rw_heardsaid_k08_moves_that_may_come
abbrev hhk : PySem.W.Hook := hookM 5 hfa hfn hts hmore
def hob (s : PySem.W.SharedT) : AlM := obsMG 5 hfa hfn hts hmore (HandSHeadRun.getT s)
theorem hob_eq (s : PySem.W.SharedT) : hob s = hhk.obs s.abs := obsMG_eq (HandSHeadRun.getT_eq s)
def hnames0 : List Str := ["_wall", "HeardError", "BadSize", "BadName", "RepeatedName", "BadProcedure", "NoSuchName", "BadMove", "BadTable", "BadNumber", "WrongMachine", "frozen"]
def hnames1 : List Str := ["OPENING", "answer_moves", "call_choices", "heard_choices", "said_choices", "opened_after", "choices_after", "walked", "open_moves", "next_moves", "is_finished", "LETTERS"]
def hnames2 : List Str := ["DIGITS", "KINDS", "RESERVED", "is_name", "check_procedures", "check_cells", "Signature", "_law_whole", "_law_cell", "_law_digits", "_law_reader", "_law_next"]
def hnames3 : List Str := ["_law_triple", "_law_after", "_law_numbered", "_law_heard", "_law_said", "_law_name", "_law_names", "_law_may", "_law_row", "_law_judge", "_law_odd", "_law_flawed"]
def hnames4 : List Str := ["_law_changed", "_law_told", "_law_is_row", "_law_agrees"]
def hnames : List Str := hnames0 ++ hnames1 ++ hnames2 ++ hnames3 ++ hnames4
theorem hrun (w : World) : HandSHeadRun.RunEq hR (PySem.W.view hR.prog [57]) hhk hob 20000 hnames w :=
  by intro os; kernel_rfl
theorem and_l {a b : Bool} (h : (a && b) = true) : a = true := (Bool.and_eq_true_iff.mp h).1
theorem and_r {a b : Bool} (h : (a && b) = true) : b = true := (Bool.and_eq_true_iff.mp h).2
section
variable {K : PySem.W.Frag} {x D f : Str} {b : Bool}
theorem cm_of (h : (cl_all.all fun c => decide (PySem.W.exmOne K (.ref (He.ga K c)) (.ref (He.ga K "HeardError")) = some true)) = true) (e : cm_all x = some b) : PySem.W.exmOne K (.ref (He.ga K x)) (.ref (He.ga K "HeardError")) = some b := by
  unfold cm_all at e
  split at e
  · rename_i hx
    cases e
    exact of_decide_eq_true (List.all_eq_true.mp h x hx)
  · cases e
theorem kit_of (h : (cl_all.all fun D => cl_all.all fun c => decide (PySem.W.kitOne K (.ref (He.ga K c)) (.ref (He.ga K D)) = some (decide (c = D)))) = true) (hD : D ∈ cl_all) (e : kiT D x = some b) : x ∈ cl_all ∧ PySem.W.kitOne K (.ref (He.ga K x)) (.ref (He.ga K D)) = some b := by
  unfold kiT at e
  split at e
  · rename_i hx
    cases e
    exact ⟨hx, of_decide_eq_true (List.all_eq_true.mp (List.all_eq_true.mp h D hD) x hx)⟩
  · cases e
theorem kits_of {Ds : List Str} (h : (cl_all.all fun D => cl_all.all fun c => decide (PySem.W.kitOne K (.ref (He.ga K c)) (.ref (He.ga K D)) = some (decide (c = D)))) = true) (hD : (Ds.all fun D => decide (D ∈ cl_all)) = true) (e : kiTs Ds x = some b) : x ∈ cl_all ∧ PySem.W.kitAny K (.ref (He.ga K x)) (Ds.map fun D => .ref (He.ga K D)) = some b := by
  unfold kiTs at e
  split at e
  · rename_i hx
    cases e
    exact ⟨hx, kitAny_names fun D hd => of_decide_eq_true (List.all_eq_true.mp (List.all_eq_true.mp h D (of_decide_eq_true (List.all_eq_true.mp hD D hd))) x hx)⟩
  · cases e
theorem kitV_of (h : (cl_all.all fun c => decide (PySem.W.kitOne K (.ref (He.ga K c)) (.type "ValueError") = some true)) = true) (e : kiV x = some b) : x ∈ cl_all ∧ PySem.W.kitOne K (.ref (He.ga K x)) (.type "ValueError") = some b := by
  unfold kiV at e
  split at e
  · rename_i hx
    cases e
    exact ⟨hx, of_decide_eq_true (List.all_eq_true.mp h x hx)⟩
  · cases e
theorem fl_of {l : List Str} (h : (l.all fun c => xfB K (He.ga K c) && decide (PySem.W.findIn K (.ref (He.ga K c)) f = some none)) = true) (e : x ∈ l) : XfC K (He.ga K x) ∧ PySem.W.findIn K (.ref (He.ga K x)) f = some none := by
  have z := List.all_eq_true.mp h x e
  exact ⟨xfB_ok (and_l z), of_decide_eq_true (and_r z)⟩
theorem exc0_of {mg : Str → Option Value} (g : mg x = some (.ref (He.ga K x))) (h : (PySem.W.excIn K (He.ga K x) He.veBase "ValueError.__new__" && (PySem.W.keepIn K (.ref (He.ga K x)) && (decide (PySem.W.subIn K (.ref (He.ga K x)) (.type "BaseException") = some true) && decide (PySem.W.typeIn K (.ref (He.ga K x)) = some (.type "type"))))) = true) : Exc0 K mg (He.ga K) x :=
  ⟨g, and_l h, and_l (and_r h), of_decide_eq_true (and_l (and_r (and_r h))), of_decide_eq_true (and_r (and_r (and_r h)))⟩
end
theorem txt_ok {w : World} {K : PySem.W.Frag} {h : Heap} {mg : Str → Option Value} (X : K.In h) (G : h.Ns mainGlobals mg) (c : SaysM hfa hfn hts hmore w K) : Txt w K mg := by
  have M := c.m
  exact {
    s__wall := src_ok X G c 0 0,
    s_frozen := src_ok X G c 1 1,
    s_answer_moves := src_ok X G c 2 2,
    s_call_choices := src_ok X G c 3 3,
    s_heard_choices := src_ok X G c 4 4,
    s_said_choices := src_ok X G c 5 5,
    s_opened_after := src_ok X G c 6 6,
    s_choices_after := src_ok X G c 7 7,
    s_walked := src_ok X G c 8 8,
    s_open_moves := src_ok X G c 9 9,
    s_next_moves := src_ok X G c 10 10,
    s_is_finished := src_ok X G c 11 11,
    s_is_name := src_ok X G c 12 12,
    s_check_procedures := src_ok X G c 13 13,
    s_check_cells := src_ok X G c 14 14,
    s__law_whole := src_ok X G c 15 15,
    s__law_cell := src_ok X G c 16 16,
    s__law_digits := src_ok X G c 17 17,
    s__law_reader := src_ok X G c 18 18,
    s__law_next := src_ok X G c 19 19,
    s__law_triple := src_ok X G c 20 20,
    s__law_after := src_ok X G c 21 21,
    s__law_numbered := src_ok X G c 22 22,
    s__law_heard := src_ok X G c 23 23,
    s__law_said := src_ok X G c 24 24,
    s__law_name := src_ok X G c 25 25,
    s__law_names := src_ok X G c 26 26,
    s__law_may := src_ok X G c 27 27,
    s__law_row := src_ok X G c 28 28,
    s__law_judge := src_ok X G c 29 29,
    s__law_odd := src_ok X G c 30 30,
    s__law_flawed := src_ok X G c 31 31,
    s__law_changed := src_ok X G c 32 32,
    s__law_told := src_ok X G c 33 33,
    s__law_is_row := src_ok X G c 34 34,
    s__law_agrees := src_ok X G c 35 35,
    s_law := src_ok X G c 36 36,
    b_int := He.free_ok X G (c.fact 37 (f := .free "int")),
    b_str := He.free_ok X G (c.fact 38 (f := .free "str")),
    b_tuple := He.free_ok X G (c.fact 39 (f := .free "tuple")),
    b_list := He.free_ok X G (c.fact 40 (f := .free "list")),
    b_bool := He.free_ok X G (c.fact 41 (f := .free "bool")),
    b_len := He.free_ok X G (c.fact 42 (f := .free "len")),
    b_min := He.free_ok X G (c.fact 43 (f := .free "min")),
    b_max := He.free_ok X G (c.fact 44 (f := .free "max")),
    b_isinstance := He.free_ok X G (c.fact 45 (f := .free "isinstance")),
    b_range := He.free_ok X G (c.fact 46 (f := .free "range")),
    b_enumerate := He.free_ok X G (c.fact 47 (f := .free "enumerate")),
    b_all := He.free_ok X G (c.fact 48 (f := .free "all")),
    b_ValueError := He.free_ok X G (c.fact 49 (f := .free "ValueError")),
    g_HeardError := He.glo_ok X G (c.fact 55 (f := .glo "HeardError")),
    g_BadSize := He.glo_ok X G (c.fact 56 (f := .glo "BadSize")),
    g_BadName := He.glo_ok X G (c.fact 57 (f := .glo "BadName")),
    g_RepeatedName := He.glo_ok X G (c.fact 58 (f := .glo "RepeatedName")),
    g_BadProcedure := He.glo_ok X G (c.fact 59 (f := .glo "BadProcedure")),
    g_NoSuchName := He.glo_ok X G (c.fact 60 (f := .glo "NoSuchName")),
    g_BadMove := He.glo_ok X G (c.fact 61 (f := .glo "BadMove")),
    g_BadTable := He.glo_ok X G (c.fact 62 (f := .glo "BadTable")),
    g_BadNumber := He.glo_ok X G (c.fact 63 (f := .glo "BadNumber")),
    g_WrongMachine := He.glo_ok X G (c.fact 64 (f := .glo "WrongMachine")),
    cm := fun x b h => cm_of (all_at M 0) h,
    i_all := fun x h => excB_ok (List.all_eq_true.mp (all_at M 1) x h),
    kit := fun D hD x b h => kit_of (all_at M 2) hD h,
    kits := fun Ds hD x b h => kits_of (all_at M 2) hD h,
    kit_ValueError := fun x b h => kitV_of (all_at M 3) h,
    f_index := fun x h => fl_of (all_at M 4) h,
    e_BadMove := errT_ok X G c 37 61 65 (ho := and_l (all_at M 5)) (hf := and_r (all_at M 5)),
    n_cells := fun x hx => by
      cases List.mem_singleton.mp hx
      exact noat_ok c 66 70,
    n_names := fun x hx => by
      cases List.mem_singleton.mp hx
      exact noat_ok c 66 71,
    n_procedures := fun x hx => by
      cases List.mem_singleton.mp hx
      exact noat_ok c 66 72,
    n_size := fun x hx => by
      cases List.mem_singleton.mp hx
      exact noat_ok c 66 73,
    mk_Signature := makeT_ok X G c 38 67 68,
    mt_Signature_procedure := methT_ok c 39 66 69,
    c_LETTERS := by obtain ⟨t, e⟩ := He.str_ok X G (c.fact 50 (f := .str "LETTERS" "abcdefghijklmnopqrstuvwxyz")); exact ⟨_, e, t, rfl⟩,
    c_DIGITS := by obtain ⟨t, e⟩ := He.str_ok X G (c.fact 51 (f := .str "DIGITS" "0123456789")); exact ⟨_, e, t, rfl⟩,
    c_OPENING := ⟨_, He.glo_ok X G (c.fact 52 (f := .glo "OPENING")), tupAtB_ok (p := gaP "OPENING") (vs := [.str "run", .str "call", .str "ask", .str "get", .str "set"]) (all_at M 6)⟩,
    c_KINDS := ⟨_, He.glo_ok X G (c.fact 53 (f := .glo "KINDS")), tupAtB_ok (p := gaP "KINDS") (vs := [.str "command", .str "number"]) (all_at M 7)⟩,
    c_RESERVED := ⟨_, He.glo_ok X G (c.fact 54 (f := .glo "RESERVED")), tupAtB_ok (p := gaP "RESERVED") (vs := [.str "skip", .str "quit", .str "if", .str "then", .str "else", .str "fi", .str "while", .str "do", .str "od", .str "new", .str "in", .str "end", .str "let", .str "be", .str "command", .str "number"]) (all_at M 8)⟩ }
end K08

namespace K08
open PySem PySem.Spec PyProof.Rows L2 ML
section
variable {P : Program} {w : World} {K : PySem.W.Frag} {mg : Str → Option Value} {base : Heap} {k : Nat}
/-! _wall -/
theorem sc__wall : FnScope ["k"] ["k"] (defScope s__wall) := ⟨rfl, rfl, rfl, by decide +kernel, rfl, by decide +kernel, by decide +kernel⟩
noncomputable def body__wall : Rho → ML.R Fl := mWhile (mTest (mC (.bl true))) (mNext)
noncomputable def fun__wall : List W → FR := mFun [] 1 (body__wall)
theorem def__wall (T : Txt w K mg) : Def P w K mg base (He.ga K) (k + 1) "_wall" ["k"] [] (fun__wall) :=
  def_mk (N := ["k"]) (g := body__wall) T.s__wall sc__wall (by decide) (fun _ _ _ _ _ _ us hl => match us, hl with | [_], _ => rfl) fun f cdv A outer s H E Y hr hct tk =>
    (psm_one (psm_while (passes_of rfl) (ptm_val (pem_bl)) (psm_one (psm_pass))))
/-! frozen -/
theorem sc_frozen : FnScope ["value", "parts", "part"] ["value"] (defScope s_frozen) := ⟨rfl, rfl, rfl, by decide +kernel, rfl, by decide +kernel, by decide +kernel⟩
def body_frozen (m_frozen : List W → FR) : Rho → ML.R Fl := mSeq (mIf (mNot (mTest (mCB gIsi [mVar 0, mTup [] [mC (.ty "list"), mC (.ty "tuple")]]))) (mRet [] (mVar 0)) (mNext)) (mSeq (mSet [] 1 (mLst [] [])) (mSeq (mFor (mItems [] (mVar 0)) (gSet [] 2) (mDrop (mAppend 1 [] (mCall [] [] m_frozen [mVar 2])))) (mRet [] (mCB gTupC [mVar 1]))))
def fun_frozen (m_frozen : List W → FR) : List W → FR := mFun [] 3 (body_frozen m_frozen)
theorem def_frozen (T : Txt w K mg) {m_frozen : List W → FR} (D_frozen : Def P w K mg base (He.ga K) k "frozen" ["value"] [] m_frozen) : Def P w K mg base (He.ga K) (k + 1) "frozen" ["value"] [] (fun_frozen m_frozen) :=
  def_mk (N := ["value", "parts", "part"]) (g := body_frozen m_frozen) T.s_frozen sc_frozen (by decide) (fun _ _ _ _ _ _ us hl => match us, hl with | [_], _ => rfl) fun f cdv A outer s H E Y hr hct tk =>
    (psm_cons (psm_if (ptm_not (ptm_val (pem_callB (c_isi) rfl T.b_isinstance (by rfl) g_isi (pam_cons (pem_var 0 (pv 0)) (pam_cons (pem_tup (pam_cons (pem_ty rfl T.b_list (by rfl)) (pam_cons (pem_ty rfl T.b_tuple (by rfl)) (pam_nil)))) (pam_nil)))))) (psm_one (psm_ret (pem_var 0 (pv 0)))) (psm_nil)) (psm_cons (psm_set (i := 1) sc_frozen.nd rfl (Or.inl rfl) (pem_lst (pam_nil))) (psm_cons (psm_for (passes_of rfl) rfl (pim_seq (pem_var 0 (pv 0))) (pgm_name (pg_name (i := 2) sc_frozen.nd rfl (Or.inl rfl))) (psm_one (psm_expr (pem_append (pv 1) (pem_callD D_frozen hct hr tk rfl (pam_cons (pem_var 2 (pv 2)) (pam_nil)) rfl))))) (psm_one (psm_ret (pem_callTy call_tuple_of rfl T.b_tuple (by rfl) g_tupC (pam_cons (pem_var 1 (pv 1)) (pam_nil))))))))
/-! answer_moves -/
theorem sc_answer_moves : FnScope ["word", "kind", "size", "number"] ["word", "kind", "size"] (defScope s_answer_moves) := ⟨rfl, rfl, rfl, by decide +kernel, rfl, by decide +kernel, by decide +kernel⟩
def body_answer_moves : Rho → ML.R Fl := mSeq (mIf (mTest (mOp gEq (mVar 1) (mC (.str "command")))) (mRet [] (mTup [] [mVar 0])) (mNext)) (mRet [] (mCB gTupC [mLc [] (mRange1 [mVar 2]) (.nm 3) (mYes) (mOp gAdd (mOp gAdd (mVar 0) (mC (.str " "))) (mCB gStr [mVar 3]))]))
def fun_answer_moves : List W → FR := mFun [] 4 (body_answer_moves)
theorem def_answer_moves (T : Txt w K mg) : Def P w K mg base (He.ga K) (k + 1) "answer_moves" ["word", "kind", "size"] [] (fun_answer_moves) :=
  def_mk (N := ["word", "kind", "size", "number"]) (g := body_answer_moves) T.s_answer_moves sc_answer_moves (by decide) (fun _ _ _ _ _ _ us hl => match us, hl with | [_, _, _], _ => rfl) fun f cdv A outer s H E Y hr hct tk =>
    (psm_cons (psm_if (ptm_cmp (o_eq (hu200 hr)) g_eq (pem_var 1 (pv 1)) (pem_str) (nomark _)) (psm_one (psm_ret (pem_tup (pam_cons (pem_var 0 (pv 0)) (pam_nil))))) (psm_nil)) (psm_one (psm_ret (pem_callTy call_tuple_of rfl T.b_tuple (by rfl) g_tupC (pam_cons (pem_lc (own := [("number", 3)]) (t := .nm 3) rfl sc_answer_moves.nd (pim_range1 rfl T.b_range (pam_cons (pem_var 2 (pv 2)) (pam_nil))) (blkOk_by (N := ["word", "kind", "size", "number"]) (sc := defScope s_answer_moves) (by decide +kernel)) rfl (fun _ _ _ _ _ => pg_name (i := 3) sc_answer_moves.nd rfl (by first | exact Or.inl rfl | exact Or.inr rfl) (by first | exact .inl rfl | exact .inr rfl)) (fun _ _ _ _ _ => pcs_nil) (fun _ _ _ _ _ Y1 hY1 wY1 => (pem_op o_add g_add (pem_op o_add g_add (pem_var 0 (pv 0)) (pem_str)) (pem_callTy c_str rfl T.b_str (by rfl) g_str (pam_cons (pem_var 3 (pv 3)) (pam_nil)))))) (pam_nil))))))
/-! call_choices -/
theorem sc_call_choices : FnScope ["size", "triple", "name", "asks", "index"] ["size", "triple"] (defScope s_call_choices) := ⟨rfl, rfl, rfl, by decide +kernel, rfl, by decide +kernel, by decide +kernel⟩
def body_call_choices (m_answer_moves : List W → FR) : Rho → ML.R Fl := mSeq (mSet [] 2 (mOp gIx (mVar 1) (mC (.int 0)))) (mSeq (mSet [] 3 (mCB gTupC [mLc [] (mRange1 [mCB gLen [mOp gIx (mVar 1) (mC (.int 1))]]) (.nm 4) (mYes) (mOp gAdd (mOp gAdd (mOp gAdd (mC (.str "ask ")) (mVar 2)) (mC (.str " "))) (mCB gStr [mVar 4]))])) (mRet [] (mOp gAdd (mVar 3) (mCall [] [] m_answer_moves [mOp gAdd (mC (.str "back ")) (mVar 2), mOp gIx (mVar 1) (mC (.int 2)), mVar 0]))))
def fun_call_choices (m_answer_moves : List W → FR) : List W → FR := mFun [] 5 (body_call_choices m_answer_moves)
theorem def_call_choices (T : Txt w K mg) {m_answer_moves : List W → FR} (D_answer_moves : Def P w K mg base (He.ga K) k "answer_moves" ["word", "kind", "size"] [] m_answer_moves) : Def P w K mg base (He.ga K) (k + 1) "call_choices" ["size", "triple"] [] (fun_call_choices m_answer_moves) :=
  def_mk (N := ["size", "triple", "name", "asks", "index"]) (g := body_call_choices m_answer_moves) T.s_call_choices sc_call_choices (by decide) (fun _ _ _ _ _ _ us hl => match us, hl with | [_, _], _ => rfl) fun f cdv A outer s H E Y hr hct tk =>
    (psm_cons (psm_set (i := 2) sc_call_choices.nd rfl (Or.inr rfl) (pem_ix (pem_var 1 (pv 1)) (pem_int))) (psm_cons (psm_set (i := 3) sc_call_choices.nd rfl (Or.inl rfl) (pem_callTy call_tuple_of rfl T.b_tuple (by rfl) g_tupC (pam_cons (pem_lc (own := [("index", 4)]) (t := .nm 4) rfl sc_call_choices.nd (pim_range1 rfl T.b_range (pam_cons (pem_callB (call_len) rfl T.b_len (by rfl) g_len (pam_cons (pem_ix (pem_var 1 (pv 1)) (pem_int)) (pam_nil))) (pam_nil))) (blkOk_by (N := ["size", "triple", "name", "asks", "index"]) (sc := defScope s_call_choices) (by decide +kernel)) rfl (fun _ _ _ _ _ => pg_name (i := 4) sc_call_choices.nd rfl (by first | exact Or.inl rfl | exact Or.inr rfl) (by first | exact .inl rfl | exact .inr rfl)) (fun _ _ _ _ _ => pcs_nil) (fun _ _ _ _ _ Y1 hY1 wY1 => (pem_op o_add g_add (pem_op o_add g_add (pem_op o_add g_add (pem_str) (pem_var 2 (pv 2))) (pem_str)) (pem_callTy c_str rfl T.b_str (by rfl) g_str (pam_cons (pem_var 4 (pv 4)) (pam_nil)))))) (pam_nil)))) (psm_one (psm_ret (pem_op o_add g_add (pem_var 3 (pv 3)) (pem_callD D_answer_moves hct hr tk rfl (pam_cons (pem_op o_add g_add (pem_str) (pem_var 2 (pv 2))) (pam_cons (pem_ix (pem_var 1 (pv 1)) (pem_int)) (pam_cons (pem_var 0 (pv 0)) (pam_nil)))) rfl))))))
/-! heard_choices -/
theorem sc_heard_choices : FnScope ["signature", "opened", "words"] ["signature", "opened"] (defScope s_heard_choices) := ⟨rfl, rfl, rfl, by decide +kernel, rfl, by decide +kernel, by decide +kernel⟩
def body_heard_choices (m_Signature_procedure : List W → FR) (m_call_choices : List W → FR) (m_answer_moves : List W → FR) : Rho → ML.R Fl := mSeq (mIf (mTest (mOp gEq (mCB gLen [mVar 1]) (mC (.int 0)))) (mRet [] (mTup [] [mC (.str "run")])) (mNext)) (mSeq (mSet [] 2 (mSplit (mOp gIx (mVar 1) (mNeg (mC (.int 1)))) (mC (.str " ")))) (mSeq (mIf (mTest (mOp gEq (mOp gIx (mVar 2) (mC (.int 0))) (mC (.str "call")))) (mRet [] (mCall [] [] m_call_choices [mFld oc_size "size" (mVar 0), mMeth [] "Signature" "procedure" m_Signature_procedure (mVar 0) [mOp gIx (mVar 2) (mC (.int 1))]])) (mNext)) (mSeq (mIf (mTest (mOp gEq (mOp gIx (mVar 2) (mC (.int 0))) (mC (.str "get")))) (mRet [] (mCall [] [] m_answer_moves [mOp gAdd (mC (.str "is ")) (mOp gIx (mVar 2) (mC (.int 1))), mC (.str "number"), mFld oc_size "size" (mVar 0)])) (mNext)) (mRet [] (mTup [] [mOp gAdd (mC (.str "kept ")) (mOp gIx (mVar 2) (mC (.int 1)))])))))
def fun_heard_choices (m_Signature_procedure : List W → FR) (m_call_choices : List W → FR) (m_answer_moves : List W → FR) : List W → FR := mFun [] 3 (body_heard_choices m_Signature_procedure m_call_choices m_answer_moves)
theorem def_heard_choices (T : Txt w K mg) {m_Signature_procedure : List W → FR} (D_Signature_procedure : MDef P w K mg base (He.ga K) k "Signature" "procedure" ["self", "name"] m_Signature_procedure) {m_call_choices : List W → FR} (D_call_choices : Def P w K mg base (He.ga K) k "call_choices" ["size", "triple"] [] m_call_choices) {m_answer_moves : List W → FR} (D_answer_moves : Def P w K mg base (He.ga K) k "answer_moves" ["word", "kind", "size"] [] m_answer_moves) : Def P w K mg base (He.ga K) (k + 1) "heard_choices" ["signature", "opened"] [] (fun_heard_choices m_Signature_procedure m_call_choices m_answer_moves) :=
  def_mk (N := ["signature", "opened", "words"]) (g := body_heard_choices m_Signature_procedure m_call_choices m_answer_moves) T.s_heard_choices sc_heard_choices (by decide) (fun _ _ _ _ _ _ us hl => match us, hl with | [_, _], _ => rfl) fun f cdv A outer s H E Y hr hct tk =>
    (psm_cons (psm_if (ptm_cmp (o_eq (hu200 hr)) g_eq (pem_callB (call_len) rfl T.b_len (by rfl) g_len (pam_cons (pem_var 1 (pv 1)) (pam_nil))) (pem_int) (nomark _)) (psm_one (psm_ret (pem_tup (pam_cons (pem_str) (pam_nil))))) (psm_nil)) (psm_cons (psm_set (i := 2) sc_heard_choices.nd rfl (Or.inl rfl) (pem_split (pem_ix (pem_var 1 (pv 1)) (pem_neg (pem_int))) (pem_str))) (psm_cons (psm_if (ptm_cmp (o_eq (hu200 hr)) g_eq (pem_ix (pem_var 2 (pv 2)) (pem_int)) (pem_str) (nomark _)) (psm_one (psm_ret (pem_callD D_call_choices hct hr tk rfl (pam_cons (pem_fld T.n_size (pem_var 0 (pv 0))) (pam_cons (pem_meth D_Signature_procedure hr (pem_var 0 (pv 0)) (pam_cons (pem_ix (pem_var 2 (pv 2)) (pem_int)) (pam_nil)) rfl) (pam_nil))) rfl))) (psm_nil)) (psm_cons (psm_if (ptm_cmp (o_eq (hu200 hr)) g_eq (pem_ix (pem_var 2 (pv 2)) (pem_int)) (pem_str) (nomark _)) (psm_one (psm_ret (pem_callD D_answer_moves hct hr tk rfl (pam_cons (pem_op o_add g_add (pem_str) (pem_ix (pem_var 2 (pv 2)) (pem_int))) (pam_cons (pem_str) (pam_cons (pem_fld T.n_size (pem_var 0 (pv 0))) (pam_nil)))) rfl))) (psm_nil)) (psm_one (psm_ret (pem_tup (pam_cons (pem_op o_add g_add (pem_str) (pem_ix (pem_var 2 (pv 2)) (pem_int))) (pam_nil)))))))))
/-! said_choices -/
theorem sc_said_choices : FnScope ["signature", "kind", "opened", "choices", "cell", "words", "parameters", "told", "triple"] ["signature", "kind", "opened"] (defScope s_said_choices) := ⟨rfl, rfl, rfl, by decide +kernel, rfl, by decide +kernel, by decide +kernel⟩
def body_said_choices (m_answer_moves : List W → FR) (m_Signature_procedure : List W → FR) : Rho → ML.R Fl := mSeq (mSet [] 3 (mLc [] (mItems [] (mFld oc_procedures "procedures" (mVar 0))) (.nm 8) (mYes) (mOp gAdd (mC (.str "call ")) (mOp gIx (mVar 8) (mC (.int 0)))))) (mSeq (mFor (mItems [] (mFld oc_cells "cells" (mVar 0))) (gSet [] 4) (mSeq (mDrop (mAppend 3 [] (mOp gAdd (mC (.str "get ")) (mVar 4)))) (mDrop (mExtend 3 [] (mCall [] [] m_answer_moves [mOp gAdd (mC (.str "set ")) (mVar 4), mC (.str "number"), mFld oc_size "size" (mVar 0)]))))) (mSeq (mSet [] 5 (mSplit (mOp gIx (mVar 2) (mNeg (mC (.int 1)))) (mC (.str " ")))) (mSeq (mIf (mTest (mOp gEq (mOp gIx (mVar 5) (mC (.int 0))) (mC (.str "run")))) (mRet [] (mOp gAdd (mCB gTupC [mVar 3]) (mCall [] [] m_answer_moves [mC (.str "end"), mVar 1, mFld oc_size "size" (mVar 0)]))) (mNext)) (mSeq (mSet [] 6 (mOp gIx (mMeth [] "Signature" "procedure" m_Signature_procedure (mVar 0) [mOp gIx (mVar 5) (mC (.int 1))]) (mC (.int 1)))) (mSeq (mSet [] 7 (mOp gAdd (mOp gAdd (mOp gAdd (mC (.str "told ")) (mOp gIx (mVar 5) (mC (.int 1)))) (mC (.str " "))) (mOp gIx (mVar 5) (mC (.int 2))))) (mRet [] (mOp gAdd (mCB gTupC [mVar 3]) (mCall [] [] m_answer_moves [mVar 7, mOp gIx (mVar 6) (mCB gInt [mOp gIx (mVar 5) (mC (.int 2))]), mFld oc_size "size" (mVar 0)]))))))))
def fun_said_choices (m_answer_moves : List W → FR) (m_Signature_procedure : List W → FR) : List W → FR := mFun [] 9 (body_said_choices m_answer_moves m_Signature_procedure)
theorem def_said_choices (T : Txt w K mg) {m_answer_moves : List W → FR} (D_answer_moves : Def P w K mg base (He.ga K) k "answer_moves" ["word", "kind", "size"] [] m_answer_moves) {m_Signature_procedure : List W → FR} (D_Signature_procedure : MDef P w K mg base (He.ga K) k "Signature" "procedure" ["self", "name"] m_Signature_procedure) : Def P w K mg base (He.ga K) (k + 1) "said_choices" ["signature", "kind", "opened"] [] (fun_said_choices m_answer_moves m_Signature_procedure) :=
  def_mk (N := ["signature", "kind", "opened", "choices", "cell", "words", "parameters", "told", "triple"]) (g := body_said_choices m_answer_moves m_Signature_procedure) T.s_said_choices sc_said_choices (by decide) (fun _ _ _ _ _ _ us hl => match us, hl with | [_, _, _], _ => rfl) fun f cdv A outer s H E Y hr hct tk =>
    (psm_cons (psm_setLc (i := 3) (own := [("triple", 8)]) (t := .nm 8) rfl sc_said_choices.nd rfl rfl (sw_true rfl rfl rfl (by decide +kernel)) (pim_seq (pem_fld T.n_procedures (pem_var 0 (pv 0)))) (blkOk_by (N := ["signature", "kind", "opened", "choices", "cell", "words", "parameters", "told", "triple"]) (sc := defScope s_said_choices) (by decide +kernel)) rfl (fun _ _ _ _ _ => pg_name (i := 8) sc_said_choices.nd rfl (by first | exact Or.inl rfl | exact Or.inr rfl) (by first | exact .inl rfl | exact .inr rfl)) (fun _ _ _ _ _ => pcs_nil) (fun _ _ _ _ _ Y1 hY1 wY1 => (pem_op o_add g_add (pem_str) (pem_ix (pem_var 8 (pv 8)) (pem_int))))) (psm_cons (psm_for (passes_of rfl) rfl (pim_seq (pem_fld T.n_cells (pem_var 0 (pv 0)))) (pgm_name (pg_name (i := 4) sc_said_choices.nd rfl (Or.inl rfl))) (psm_cons (psm_expr (pem_append (pv 3) (pem_op o_add g_add (pem_str) (pem_var 4 (pv 4))))) (psm_one (psm_expr (pem_extend (pv 3) (pem_callD D_answer_moves hct hr tk rfl (pam_cons (pem_op o_add g_add (pem_str) (pem_var 4 (pv 4))) (pam_cons (pem_str) (pam_cons (pem_fld T.n_size (pem_var 0 (pv 0))) (pam_nil)))) rfl)))))) (psm_cons (psm_set (i := 5) sc_said_choices.nd rfl (Or.inl rfl) (pem_split (pem_ix (pem_var 2 (pv 2)) (pem_neg (pem_int))) (pem_str))) (psm_cons (psm_if (ptm_cmp (o_eq (hu200 hr)) g_eq (pem_ix (pem_var 5 (pv 5)) (pem_int)) (pem_str) (nomark _)) (psm_one (psm_ret (pem_op o_add g_add (pem_callTy call_tuple_of rfl T.b_tuple (by rfl) g_tupC (pam_cons (pem_var 3 (pv 3)) (pam_nil))) (pem_callD D_answer_moves hct hr tk rfl (pam_cons (pem_str) (pam_cons (pem_var 1 (pv 1)) (pam_cons (pem_fld T.n_size (pem_var 0 (pv 0))) (pam_nil)))) rfl)))) (psm_nil)) (psm_cons (psm_set (i := 6) sc_said_choices.nd rfl (Or.inl rfl) (pem_ix (pem_meth D_Signature_procedure hr (pem_var 0 (pv 0)) (pam_cons (pem_ix (pem_var 5 (pv 5)) (pem_int)) (pam_nil)) rfl) (pem_int))) (psm_cons (psm_set (i := 7) sc_said_choices.nd rfl (Or.inl rfl) (pem_op o_add g_add (pem_op o_add g_add (pem_op o_add g_add (pem_str) (pem_ix (pem_var 5 (pv 5)) (pem_int))) (pem_str)) (pem_ix (pem_var 5 (pv 5)) (pem_int)))) (psm_one (psm_ret (pem_op o_add g_add (pem_callTy call_tuple_of rfl T.b_tuple (by rfl) g_tupC (pam_cons (pem_var 3 (pv 3)) (pam_nil))) (pem_callD D_answer_moves hct hr tk rfl (pam_cons (pem_var 7 (pv 7)) (pam_cons (pem_ix (pem_var 6 (pv 6)) (pem_callTy c_int rfl T.b_int (by rfl) g_int (pam_cons (pem_ix (pem_var 5 (pv 5)) (pem_int)) (pam_nil)))) (pam_cons (pem_fld T.n_size (pem_var 0 (pv 0))) (pam_nil)))) rfl))))))))))
/-! opened_after -/
theorem sc_opened_after : FnScope ["opened", "move"] ["opened", "move"] (defScope s_opened_after) := ⟨rfl, rfl, rfl, by decide +kernel, rfl, by decide +kernel, by decide +kernel⟩
def body_opened_after : Rho → ML.R Fl := mSeq (mIf (mTest (mOp (gIn false) (mOp gIx (mSplit (mVar 1) (mC (.str " "))) (mC (.int 0))) (mC w_OPENING))) (mRet [] (mOp gAdd (mVar 0) (mTup [] [mVar 1]))) (mNext)) (mRet [] (mSl (mVar 0) none (some (mNeg (mC (.int 1))))))
def fun_opened_after : List W → FR := mFun [] 2 (body_opened_after)
theorem def_opened_after (T : Txt w K mg) : Def P w K mg base (He.ga K) (k + 1) "opened_after" ["opened", "move"] [] (fun_opened_after) :=
  def_mk (N := ["opened", "move"]) (g := body_opened_after) T.s_opened_after sc_opened_after (by decide) (fun _ _ _ _ _ _ us hl => match us, hl with | [_, _], _ => rfl) fun f cdv A outer s H E Y hr hct tk =>
    (psm_cons (psm_if (ptm_cmp o_in g_in (pem_ix (pem_split (pem_var 1 (pv 1)) (pem_str)) (pem_int)) (pg_OPENING T) rfl) (psm_one (psm_ret (pem_op o_add g_add (pem_var 0 (pv 0)) (pem_tup (pam_cons (pem_var 1 (pv 1)) (pam_nil)))))) (psm_nil)) (psm_one (psm_ret (pem_slice (pem_var 0 (pv 0)) pom_none (pom_some (pem_neg (pem_int)))))))
/-! choices_after -/
theorem sc_choices_after : FnScope ["signature", "kind", "opened"] ["signature", "kind", "opened"] (defScope s_choices_after) := ⟨rfl, rfl, rfl, by decide +kernel, rfl, by decide +kernel, by decide +kernel⟩
def body_choices_after (m_said_choices : List W → FR) (m_heard_choices : List W → FR) : Rho → ML.R Fl := mSeq (mIf (mTest (mOp gEq (mCB gLen [mVar 2]) (mC (.int 0)))) (mRet [] (mTup [] [])) (mNext)) (mSeq (mIf (mTest (mOp (gIn false) (mOp gIx (mSplit (mOp gIx (mVar 2) (mNeg (mC (.int 1)))) (mC (.str " "))) (mC (.int 0))) (mTup [] [mC (.str "run"), mC (.str "ask")]))) (mRet [] (mCall [] [] m_said_choices [mVar 0, mVar 1, mVar 2])) (mNext)) (mRet [] (mCall [] [] m_heard_choices [mVar 0, mVar 2])))
def fun_choices_after (m_said_choices : List W → FR) (m_heard_choices : List W → FR) : List W → FR := mFun [] 3 (body_choices_after m_said_choices m_heard_choices)
theorem def_choices_after (T : Txt w K mg) {m_said_choices : List W → FR} (D_said_choices : Def P w K mg base (He.ga K) k "said_choices" ["signature", "kind", "opened"] [] m_said_choices) {m_heard_choices : List W → FR} (D_heard_choices : Def P w K mg base (He.ga K) k "heard_choices" ["signature", "opened"] [] m_heard_choices) : Def P w K mg base (He.ga K) (k + 1) "choices_after" ["signature", "kind", "opened"] [] (fun_choices_after m_said_choices m_heard_choices) :=
  def_mk (N := ["signature", "kind", "opened"]) (g := body_choices_after m_said_choices m_heard_choices) T.s_choices_after sc_choices_after (by decide) (fun _ _ _ _ _ _ us hl => match us, hl with | [_, _, _], _ => rfl) fun f cdv A outer s H E Y hr hct tk =>
    (psm_cons (psm_if (ptm_cmp (o_eq (hu200 hr)) g_eq (pem_callB (call_len) rfl T.b_len (by rfl) g_len (pam_cons (pem_var 2 (pv 2)) (pam_nil))) (pem_int) (nomark _)) (psm_one (psm_ret (pem_tup (pam_nil)))) (psm_nil)) (psm_cons (psm_if (ptm_cmp o_in g_in (pem_ix (pem_split (pem_ix (pem_var 2 (pv 2)) (pem_neg (pem_int))) (pem_str)) (pem_int)) (pem_tup (pam_cons (pem_str) (pam_cons (pem_str) (pam_nil)))) rfl) (psm_one (psm_ret (pem_callD D_said_choices hct hr tk rfl (pam_cons (pem_var 0 (pv 0)) (pam_cons (pem_var 1 (pv 1)) (pam_cons (pem_var 2 (pv 2)) (pam_nil)))) rfl))) (psm_nil)) (psm_one (psm_ret (pem_callD D_heard_choices hct hr tk rfl (pam_cons (pem_var 0 (pv 0)) (pam_cons (pem_var 2 (pv 2)) (pam_nil))) rfl)))))
/-! walked -/
theorem sc_walked : FnScope ["signature", "kind", "moves", "opened", "choices", "index", "move"] ["signature", "kind", "moves"] (defScope s_walked) := ⟨rfl, rfl, rfl, by decide +kernel, rfl, by decide +kernel, by decide +kernel⟩
def body_walked (m_opened_after : List W → FR) (m_choices_after : List W → FR) : Rho → ML.R Fl := mSeq (mSet [] 3 (mTup [] [])) (mSeq (mSet [] 4 (mTup [] [mC (.str "run")])) (mSeq (mFor (mEnum [mVar 2]) (gTup [gSet [] 5, gSet [] 6]) (mSeq (mIf (mTest (mOp (gIn true) (mVar 6) (mVar 4))) (mRaise [] "BadMove" ["index"] [mVar 5]) (mNext)) (mSeq (mSet [] 3 (mCall [] [] m_opened_after [mVar 3, mVar 6])) (mSet [] 4 (mCall [] [] m_choices_after [mVar 0, mVar 1, mVar 3]))))) (mRet [] (mTup [] [mVar 3, mVar 4]))))
def fun_walked (m_opened_after : List W → FR) (m_choices_after : List W → FR) : List W → FR := mFun [] 7 (body_walked m_opened_after m_choices_after)
theorem def_walked (T : Txt w K mg) {m_opened_after : List W → FR} (D_opened_after : Def P w K mg base (He.ga K) (k + 2) "opened_after" ["opened", "move"] [] m_opened_after) {m_choices_after : List W → FR} (D_choices_after : Def P w K mg base (He.ga K) (k + 2) "choices_after" ["signature", "kind", "opened"] [] m_choices_after) : Def P w K mg base (He.ga K) ((k + 2) + 1) "walked" ["signature", "kind", "moves"] [] (fun_walked m_opened_after m_choices_after) :=
  def_mk (N := ["signature", "kind", "moves", "opened", "choices", "index", "move"]) (g := body_walked m_opened_after m_choices_after) T.s_walked sc_walked (by decide) (fun _ _ _ _ _ _ us hl => match us, hl with | [_, _, _], _ => rfl) fun f cdv A outer s H E Y hr hct tk =>
    (psm_cons (psm_set (i := 3) sc_walked.nd rfl (Or.inl rfl) (pem_tup (pam_nil))) (psm_cons (psm_set (i := 4) sc_walked.nd rfl (Or.inl rfl) (pem_tup (pam_cons (pem_str) (pam_nil)))) (psm_cons (psm_for (passes_of rfl) rfl (pim_enum rfl T.b_enumerate (pam_cons (pem_var 2 (pv 2)) (pam_nil))) (pgm_tup (pg_tup rfl (pgms_cons (pgm_name (pg_name (i := 5) sc_walked.nd rfl (Or.inl rfl))) (pgms_cons (pgm_name (pg_name (i := 6) sc_walked.nd rfl (Or.inl rfl))) (pgms_nil)))) rfl) (psm_cons (psm_if (ptm_cmp o_notin g_in (pem_var 6 (pv 6)) (pem_var 4 (pv 4)) rfl) (psm_one (psm_raise rfl tk (exc_BadMove T) hct hr rfl (pam_cons (pem_var 5 (pv 5)) (pam_nil)))) (psm_nil)) (psm_cons (psm_set (i := 3) sc_walked.nd rfl (Or.inl rfl) (pem_callD D_opened_after hct hr tk rfl (pam_cons (pem_var 3 (pv 3)) (pam_cons (pem_var 6 (pv 6)) (pam_nil))) rfl)) (psm_one (psm_set (i := 4) sc_walked.nd rfl (Or.inl rfl) (pem_callD D_choices_after hct hr tk rfl (pam_cons (pem_var 0 (pv 0)) (pam_cons (pem_var 1 (pv 1)) (pam_cons (pem_var 3 (pv 3)) (pam_nil)))) rfl)))))) (psm_one (psm_ret (pem_tup (pam_cons (pem_var 3 (pv 3)) (pam_cons (pem_var 4 (pv 4)) (pam_nil)))))))))
/-! open_moves -/
theorem sc_open_moves : FnScope ["signature", "kind", "moves"] ["signature", "kind", "moves"] (defScope s_open_moves) := ⟨rfl, rfl, rfl, by decide +kernel, rfl, by decide +kernel, by decide +kernel⟩
def body_open_moves (m_frozen : List W → FR) (m_walked : List W → FR) : Rho → ML.R Fl := mRet [] (mOp gIx (mCall [] [] m_walked [mVar 0, mVar 1, mCall [] [] m_frozen [mVar 2]]) (mC (.int 0)))
def fun_open_moves (m_frozen : List W → FR) (m_walked : List W → FR) : List W → FR := mFun [] 3 (body_open_moves m_frozen m_walked)
theorem def_open_moves (T : Txt w K mg) {m_frozen : List W → FR} (D_frozen : Def P w K mg base (He.ga K) k "frozen" ["value"] [] m_frozen) {m_walked : List W → FR} (D_walked : Def P w K mg base (He.ga K) k "walked" ["signature", "kind", "moves"] [] m_walked) : Def P w K mg base (He.ga K) (k + 1) "open_moves" ["signature", "kind", "moves"] [] (fun_open_moves m_frozen m_walked) :=
  def_mk (N := ["signature", "kind", "moves"]) (g := body_open_moves m_frozen m_walked) T.s_open_moves sc_open_moves (by decide) (fun _ _ _ _ _ _ us hl => match us, hl with | [_, _, _], _ => rfl) fun f cdv A outer s H E Y hr hct tk =>
    (psm_one (psm_ret (pem_ix (pem_callD D_walked hct hr tk rfl (pam_cons (pem_var 0 (pv 0)) (pam_cons (pem_var 1 (pv 1)) (pam_cons (pem_callD D_frozen hct hr tk rfl (pam_cons (pem_var 2 (pv 2)) (pam_nil)) rfl) (pam_nil)))) rfl) (pem_int))))
/-! next_moves -/
theorem sc_next_moves : FnScope ["signature", "kind", "moves"] ["signature", "kind", "moves"] (defScope s_next_moves) := ⟨rfl, rfl, rfl, by decide +kernel, rfl, by decide +kernel, by decide +kernel⟩
def body_next_moves (m_frozen : List W → FR) (m_walked : List W → FR) : Rho → ML.R Fl := mRet [] (mOp gIx (mCall [] [] m_walked [mVar 0, mVar 1, mCall [] [] m_frozen [mVar 2]]) (mC (.int 1)))
def fun_next_moves (m_frozen : List W → FR) (m_walked : List W → FR) : List W → FR := mFun [] 3 (body_next_moves m_frozen m_walked)
theorem def_next_moves (T : Txt w K mg) {m_frozen : List W → FR} (D_frozen : Def P w K mg base (He.ga K) k "frozen" ["value"] [] m_frozen) {m_walked : List W → FR} (D_walked : Def P w K mg base (He.ga K) k "walked" ["signature", "kind", "moves"] [] m_walked) : Def P w K mg base (He.ga K) (k + 1) "next_moves" ["signature", "kind", "moves"] [] (fun_next_moves m_frozen m_walked) :=
  def_mk (N := ["signature", "kind", "moves"]) (g := body_next_moves m_frozen m_walked) T.s_next_moves sc_next_moves (by decide) (fun _ _ _ _ _ _ us hl => match us, hl with | [_, _, _], _ => rfl) fun f cdv A outer s H E Y hr hct tk =>
    (psm_one (psm_ret (pem_ix (pem_callD D_walked hct hr tk rfl (pam_cons (pem_var 0 (pv 0)) (pam_cons (pem_var 1 (pv 1)) (pam_cons (pem_callD D_frozen hct hr tk rfl (pam_cons (pem_var 2 (pv 2)) (pam_nil)) rfl) (pam_nil)))) rfl) (pem_int))))
/-! is_finished -/
theorem sc_is_finished : FnScope ["signature", "kind", "moves"] ["signature", "kind", "moves"] (defScope s_is_finished) := ⟨rfl, rfl, rfl, by decide +kernel, rfl, by decide +kernel, by decide +kernel⟩
def body_is_finished (m_frozen : List W → FR) (m_walked : List W → FR) : Rho → ML.R Fl := mRet [] (mOp gEq (mCB gLen [mOp gIx (mCall [] [] m_walked [mVar 0, mVar 1, mCall [] [] m_frozen [mVar 2]]) (mC (.int 1))]) (mC (.int 0)))
def fun_is_finished (m_frozen : List W → FR) (m_walked : List W → FR) : List W → FR := mFun [] 3 (body_is_finished m_frozen m_walked)
theorem def_is_finished (T : Txt w K mg) {m_frozen : List W → FR} (D_frozen : Def P w K mg base (He.ga K) k "frozen" ["value"] [] m_frozen) {m_walked : List W → FR} (D_walked : Def P w K mg base (He.ga K) k "walked" ["signature", "kind", "moves"] [] m_walked) : Def P w K mg base (He.ga K) (k + 1) "is_finished" ["signature", "kind", "moves"] [] (fun_is_finished m_frozen m_walked) :=
  def_mk (N := ["signature", "kind", "moves"]) (g := body_is_finished m_frozen m_walked) T.s_is_finished sc_is_finished (by decide) (fun _ _ _ _ _ _ us hl => match us, hl with | [_, _, _], _ => rfl) fun f cdv A outer s H E Y hr hct tk =>
    (psm_one (psm_ret (pem_cmp (o_eq (hu200 hr)) g_eq (pem_callB (call_len) rfl T.b_len (by rfl) g_len (pam_cons (pem_ix (pem_callD D_walked hct hr tk rfl (pam_cons (pem_var 0 (pv 0)) (pam_cons (pem_var 1 (pv 1)) (pam_cons (pem_callD D_frozen hct hr tk rfl (pam_cons (pem_var 2 (pv 2)) (pam_nil)) rfl) (pam_nil)))) rfl) (pem_int)) (pam_nil))) (pem_int) (nomark _))))
/-! is_name -/
theorem sc_is_name : FnScope ["text", "char"] ["text"] (defScope s_is_name) := ⟨rfl, rfl, rfl, by decide +kernel, rfl, by decide +kernel, by decide +kernel⟩
def body_is_name : Rho → ML.R Fl := mSeq (mIf (mOr (mTest (mOp (gCmp (fun i j => decide (i < j))) (mCB gLen [mVar 0]) (mC (.int 1)))) (mOr (mTest (mOp (gCmp (fun i j => decide (j < i))) (mCB gLen [mVar 0]) (mC (.int 8)))) (mTest (mOp (gIn false) (mVar 0) (mC w_RESERVED))))) (mRet [] (mC (.bl false))) (mNext)) (mRet [] (mAndV (mOp (gIn false) (mOp gIx (mVar 0) (mC (.int 0))) (mC w_LETTERS)) (mCB gAll [mLc [] (mItems [] (mVar 0)) (.nm 1) (mYes) (mOrV (mOp (gIn false) (mVar 1) (mC w_LETTERS)) (mOp (gIn false) (mVar 1) (mC w_DIGITS)))])))
def fun_is_name : List W → FR := mFun [] 2 (body_is_name)
theorem def_is_name (T : Txt w K mg) : Def P w K mg base (He.ga K) (k + 1) "is_name" ["text"] [] (fun_is_name) :=
  def_mk (N := ["text", "char"]) (g := body_is_name) T.s_is_name sc_is_name (by decide) (fun _ _ _ _ _ _ us hl => match us, hl with | [_], _ => rfl) fun f cdv A outer s H E Y hr hct tk =>
    (psm_cons (psm_if (PW.pt (pwm_or (ptm_cmp op_lt g_cmp (pem_callB (call_len) rfl T.b_len (by rfl) g_len (pam_cons (pem_var 0 (pv 0)) (pam_nil))) (pem_int) (nomark _)) (pwm_or (ptm_cmp op_gt g_cmp (pem_callB (call_len) rfl T.b_len (by rfl) g_len (pam_cons (pem_var 0 (pv 0)) (pam_nil))) (pem_int) (nomark _)) (pwm_or1 (ptm_cmp o_in g_in (pem_var 0 (pv 0)) (pg_RESERVED T) rfl))))) (psm_one (psm_ret (pem_bl))) (psm_nil)) (psm_one (psm_ret (pem_and (pem_cmp o_in g_in (pem_ix (pem_var 0 (pv 0)) (pem_int)) (pg_LETTERS T) rfl) (pem_one (pem_callB (cr_all rfl) rfl T.b_all (by rfl) g_all (pam_cons (pem_lc (own := [("char", 1)]) (t := .nm 1) rfl sc_is_name.nd (pim_seq (pem_var 0 (pv 0))) (blkOk_by (N := ["text", "char"]) (sc := defScope s_is_name) (by decide +kernel)) rfl (fun _ _ _ _ _ => pg_name (i := 1) sc_is_name.nd rfl (by first | exact Or.inl rfl | exact Or.inr rfl) (by first | exact .inl rfl | exact .inr rfl)) (fun _ _ _ _ _ => pcs_nil) (fun _ _ _ _ _ Y1 hY1 wY1 => (pem_or (pem_cmp o_in g_in (pem_var 1 (pv 1)) (pg_LETTERS T) rfl) (pem_one (pem_cmp o_in g_in (pem_var 1 (pv 1)) (pg_DIGITS T) rfl))))) (pam_nil))))))))
/-! check_procedures -/
theorem sc_check_procedures : FnScope ["procedures", "known", "name", "parameters", "result", "kind"] ["procedures"] (defScope s_check_procedures) := ⟨rfl, rfl, rfl, by decide +kernel, rfl, by decide +kernel, by decide +kernel⟩
def body_check_procedures (m_is_name : List W → FR) : Rho → ML.R Fl := mSeq (mSet [] 1 (mLst [] [])) (mFor (mItems [] (mVar 0)) (gTup [gSet [] 2, gSet [] 3, gSet [] 4]) (mSeq (mIf (mNot (mTest (mCall [] [] m_is_name [mVar 2]))) (mStk) (mNext)) (mSeq (mIf (mTest (mOp (gIn false) (mVar 2) (mVar 1))) (mStk) (mNext)) (mSeq (mIf (mOr (mTest (mOp (gCmp (fun i j => decide (j < i))) (mCB gLen [mVar 3]) (mC (.int 3)))) (mNot (mTest (mCB gAll [mLc [] (mItems [] (mOp gAdd (mVar 3) (mTup [] [mVar 4]))) (.nm 5) (mYes) (mOp (gIn false) (mVar 5) (mC w_KINDS))])))) (mStk) (mNext)) (mDrop (mAppend 1 [] (mVar 2)))))))
def fun_check_procedures (m_is_name : List W → FR) : List W → FR := mFun [] 6 (body_check_procedures m_is_name)
theorem def_check_procedures (T : Txt w K mg) {m_is_name : List W → FR} (D_is_name : Def P w K mg base (He.ga K) k "is_name" ["text"] [] m_is_name) : Def P w K mg base (He.ga K) (k + 1) "check_procedures" ["procedures"] [] (fun_check_procedures m_is_name) :=
  def_mk (N := ["procedures", "known", "name", "parameters", "result", "kind"]) (g := body_check_procedures m_is_name) T.s_check_procedures sc_check_procedures (by decide) (fun _ _ _ _ _ _ us hl => match us, hl with | [_], _ => rfl) fun f cdv A outer s H E Y hr hct tk =>
    (psm_cons (psm_set (i := 1) sc_check_procedures.nd rfl (Or.inl rfl) (pem_lst (pam_nil))) (psm_one (psm_for (passes_of rfl) rfl (pim_seq (pem_var 0 (pv 0))) (pgm_tup (pg_tup rfl (pgms_cons (pgm_name (pg_name (i := 2) sc_check_procedures.nd rfl (Or.inl rfl))) (pgms_cons (pgm_name (pg_name (i := 3) sc_check_procedures.nd rfl (Or.inl rfl))) (pgms_cons (pgm_name (pg_name (i := 4) sc_check_procedures.nd rfl (Or.inl rfl))) (pgms_nil))))) rfl) (psm_cons (psm_if (ptm_not (ptm_val (pem_callD D_is_name hct hr tk rfl (pam_cons (pem_var 2 (pv 2)) (pam_nil)) rfl))) (psm_one (psm_never)) (psm_nil)) (psm_cons (psm_if (ptm_cmp o_in g_in (pem_var 2 (pv 2)) (pem_var 1 (pv 1)) rfl) (psm_one (psm_never)) (psm_nil)) (psm_cons (psm_if (PW.pt (pwm_or (ptm_cmp op_gt g_cmp (pem_callB (call_len) rfl T.b_len (by rfl) g_len (pam_cons (pem_var 3 (pv 3)) (pam_nil))) (pem_int) (nomark _)) (pwm_or1 (ptm_not (ptm_val (pem_callB (cr_all rfl) rfl T.b_all (by rfl) g_all (pam_cons (pem_lc (own := [("kind", 5)]) (t := .nm 5) rfl sc_check_procedures.nd (pim_seq (pem_op o_add g_add (pem_var 3 (pv 3)) (pem_tup (pam_cons (pem_var 4 (pv 4)) (pam_nil))))) (blkOk_by (N := ["procedures", "known", "name", "parameters", "result", "kind"]) (sc := defScope s_check_procedures) (by decide +kernel)) rfl (fun _ _ _ _ _ => pg_name (i := 5) sc_check_procedures.nd rfl (by first | exact Or.inl rfl | exact Or.inr rfl) (by first | exact .inl rfl | exact .inr rfl)) (fun _ _ _ _ _ => pcs_nil) (fun _ _ _ _ _ Y1 hY1 wY1 => (pem_cmp o_in g_in (pem_var 5 (pv 5)) (pg_KINDS T) rfl))) (pam_nil)))))))) (psm_one (psm_never)) (psm_nil)) (psm_one (psm_expr (pem_append (pv 1) (pem_var 2 (pv 2)))))))))))
/-! check_cells -/
theorem sc_check_cells : FnScope ["names", "cells", "known", "name"] ["names", "cells"] (defScope s_check_cells) := ⟨rfl, rfl, rfl, by decide +kernel, rfl, by decide +kernel, by decide +kernel⟩
def body_check_cells (m_is_name : List W → FR) : Rho → ML.R Fl := mSeq (mSet [] 2 (mCB gLstC [mVar 0])) (mFor (mItems [] (mVar 1)) (gSet [] 3) (mSeq (mIf (mNot (mTest (mCall [] [] m_is_name [mVar 3]))) (mStk) (mNext)) (mSeq (mIf (mTest (mOp (gIn false) (mVar 3) (mVar 2))) (mStk) (mNext)) (mDrop (mAppend 2 [] (mVar 3))))))
def fun_check_cells (m_is_name : List W → FR) : List W → FR := mFun [] 4 (body_check_cells m_is_name)
theorem def_check_cells (T : Txt w K mg) {m_is_name : List W → FR} (D_is_name : Def P w K mg base (He.ga K) k "is_name" ["text"] [] m_is_name) : Def P w K mg base (He.ga K) (k + 1) "check_cells" ["names", "cells"] [] (fun_check_cells m_is_name) :=
  def_mk (N := ["names", "cells", "known", "name"]) (g := body_check_cells m_is_name) T.s_check_cells sc_check_cells (by decide) (fun _ _ _ _ _ _ us hl => match us, hl with | [_, _], _ => rfl) fun f cdv A outer s H E Y hr hct tk =>
    (psm_cons (psm_set (i := 2) sc_check_cells.nd rfl (Or.inl rfl) (pem_callTy call_list_of rfl T.b_list (by rfl) g_lstC (pam_cons (pem_var 0 (pv 0)) (pam_nil)))) (psm_one (psm_for (passes_of rfl) rfl (pim_seq (pem_var 1 (pv 1))) (pgm_name (pg_name (i := 3) sc_check_cells.nd rfl (Or.inl rfl))) (psm_cons (psm_if (ptm_not (ptm_val (pem_callD D_is_name hct hr tk rfl (pam_cons (pem_var 3 (pv 3)) (pam_nil)) rfl))) (psm_one (psm_never)) (psm_nil)) (psm_cons (psm_if (ptm_cmp o_in g_in (pem_var 3 (pv 3)) (pem_var 2 (pv 2)) rfl) (psm_one (psm_never)) (psm_nil)) (psm_one (psm_expr (pem_append (pv 2) (pem_var 3 (pv 3))))))))))
/-! _law_whole -/
theorem sc__law_whole : FnScope ["_law_value"] ["_law_value"] (defScope s__law_whole) := ⟨rfl, rfl, rfl, by decide +kernel, rfl, by decide +kernel, by decide +kernel⟩
def body__law_whole : Rho → ML.R Fl := mRet [] (mAndV (mCB gIsi [mVar 0, mC (.ty "int")]) (mNotV (mCB gIsi [mVar 0, mC (.ty "bool")])))
def fun__law_whole : List W → FR := mFun [] 1 (body__law_whole)
theorem def__law_whole (T : Txt w K mg) : Def P w K mg base (He.ga K) (k + 1) "_law_whole" ["_law_value"] [] (fun__law_whole) :=
  def_mk (N := ["_law_value"]) (g := body__law_whole) T.s__law_whole sc__law_whole (by decide) (fun _ _ _ _ _ _ us hl => match us, hl with | [_], _ => rfl) fun f cdv A outer s H E Y hr hct tk =>
    (psm_one (psm_ret (pem_and (pem_callB (c_isi) rfl T.b_isinstance (by rfl) g_isi (pam_cons (pem_var 0 (pv 0)) (pam_cons (pem_ty rfl T.b_int (by rfl)) (pam_nil)))) (pem_one (pem_not (pem_callB (c_isi) rfl T.b_isinstance (by rfl) g_isi (pam_cons (pem_var 0 (pv 0)) (pam_cons (pem_ty rfl T.b_bool (by rfl)) (pam_nil)))))))))
/-! _law_cell -/
theorem sc__law_cell : FnScope ["_law_script", "_law_k", "_law_seed", "_law_cell_here"] ["_law_script", "_law_k"] (defScope s__law_cell) := ⟨rfl, rfl, rfl, by decide +kernel, rfl, by decide +kernel, by decide +kernel⟩
def body__law_cell : Rho → ML.R Fl := mSeq (mIf (mTest (mOp (gCmp (fun i j => decide (i < j))) (mVar 1) (mCB gLen [mVar 0]))) (mRet [] (mOp gIx (mVar 0) (mVar 1))) (mNext)) (mSeq (mSet [] 2 (mC (.int 17))) (mSeq (mFor (mItems [] (mVar 0)) (gSet [] 3) (mSet [] 2 (mOp gMod (mCB gInt [mOp gAdd (mOp gMul (mVar 2) (mC (.int 31))) (mOp gMod (mCB gInt [mVar 3]) (mC (.int 1000003)))]) (mC (.int 1000003))))) (mRet [] (mOp gMod (mCB gInt [mOp gMul (mOp gMul (mOp gAdd (mVar 2) (mC (.int 7))) (mOp gAdd (mVar 1) (mC (.int 3)))) (mC (.int 69621))]) (mC (.int 2147483647))))))
def fun__law_cell : List W → FR := mFun [] 4 (body__law_cell)
theorem def__law_cell (T : Txt w K mg) : Def P w K mg base (He.ga K) (k + 1) "_law_cell" ["_law_script", "_law_k"] [] (fun__law_cell) :=
  def_mk (N := ["_law_script", "_law_k", "_law_seed", "_law_cell_here"]) (g := body__law_cell) T.s__law_cell sc__law_cell (by decide) (fun _ _ _ _ _ _ us hl => match us, hl with | [_, _], _ => rfl) fun f cdv A outer s H E Y hr hct tk =>
    (psm_cons (psm_if (ptm_cmp op_lt g_cmp (pem_var 1 (pv 1)) (pem_callB (call_len) rfl T.b_len (by rfl) g_len (pam_cons (pem_var 0 (pv 0)) (pam_nil))) (nomark _)) (psm_one (psm_ret (pem_ix (pem_var 0 (pv 0)) (pem_var 1 (pv 1))))) (psm_nil)) (psm_cons (psm_set (i := 2) sc__law_cell.nd rfl (Or.inl rfl) (pem_int)) (psm_cons (psm_for (passes_of rfl) rfl (pim_seq (pem_var 0 (pv 0))) (pgm_name (pg_name (i := 3) sc__law_cell.nd rfl (Or.inl rfl))) (psm_one (psm_set (i := 2) sc__law_cell.nd rfl (Or.inl rfl) (pem_op op_mod g_mod (pem_callTy c_int rfl T.b_int (by rfl) g_int (pam_cons (pem_op o_add g_add (pem_op o_mul g_mul (pem_var 2 (pv 2)) (pem_int)) (pem_op op_mod g_mod (pem_callTy c_int rfl T.b_int (by rfl) g_int (pam_cons (pem_var 3 (pv 3)) (pam_nil))) (pem_int))) (pam_nil))) (pem_int))))) (psm_one (psm_ret (pem_op op_mod g_mod (pem_callTy c_int rfl T.b_int (by rfl) g_int (pam_cons (pem_op o_mul g_mul (pem_op o_mul g_mul (pem_op o_add g_add (pem_var 2 (pv 2)) (pem_int)) (pem_op o_add g_add (pem_var 1 (pv 1)) (pem_int))) (pem_int)) (pam_nil))) (pem_int)))))))
/-! _law_digits -/
theorem sc__law_digits : FnScope ["_law_cell_here", "_law_sizes", "_law_row_here", "_law_rest", "_law_great", "_law_seed", "_law_k", "_law_twice"] ["_law_cell_here", "_law_sizes"] (defScope s__law_digits) := ⟨rfl, rfl, rfl, by decide +kernel, rfl, by decide +kernel, by decide +kernel⟩
def body__law_digits : Rho → ML.R Fl := mSeq (mSet [] 2 (mLst [] [])) (mSeq (mSet [] 3 (mCB gInt [mVar 0])) (mSeq (mSet [] 4 (mOp (gCmp (fun i j => decide (j ≤ i))) (mVar 3) (mOp gPow (mC (.int 10)) (mC (.int 18))))) (mSeq (mSet [] 5 (mOp gMod (mCB gInt [mVar 3]) (mC (.int 2147483629)))) (mSeq (mIf (mTest (mVar 4)) (mSet [] 3 (mOp gSub (mVar 3) (mOp gPow (mC (.int 10)) (mC (.int 18))))) (mNext)) (mSeq (mFor (mRange1 [mCB gLen [mVar 1]]) (gSet [] 6) (mSeq (mSet [] 5 (mOp gMod (mCB gInt [mOp gAdd (mOp gAdd (mOp gMul (mVar 5) (mC (.int 48271))) (mOp gMul (mC (.int 974711)) (mVar 6))) (mC (.int 12345))]) (mC (.int 2147483647)))) (mSeq (mSet [] 7 (mOp gMod (mCB gInt [mOp gMul (mVar 5) (mOp gAdd (mOp gFdiv (mVar 5) (mC (.int 65537))) (mC (.int 3)))]) (mC (.int 2147483629)))) (mIf (mAnd (mTest (mVar 4)) (mTest (mOp (gCmp (fun i j => decide (j < i))) (mVar 3) (mC (.int 0))))) (mSeq (mDrop (mAppend 2 [] (mOp gMod (mCB gInt [mVar 3]) (mOp gIx (mVar 1) (mVar 6))))) (mSet [] 3 (mOp gFdiv (mCB gInt [mVar 3]) (mOp gIx (mVar 1) (mVar 6))))) (mDrop (mAppend 2 [] (mOp gMod (mCB gInt [mOp gFdiv (mVar 7) (mC (.int 19))]) (mOp gIx (mVar 1) (mVar 6))))))))) (mRet [] (mVar 2)))))))
def fun__law_digits : List W → FR := mFun [] 8 (body__law_digits)
theorem def__law_digits (T : Txt w K mg) : Def P w K mg base (He.ga K) (k + 1) "_law_digits" ["_law_cell_here", "_law_sizes"] [] (fun__law_digits) :=
  def_mk (N := ["_law_cell_here", "_law_sizes", "_law_row_here", "_law_rest", "_law_great", "_law_seed", "_law_k", "_law_twice"]) (g := body__law_digits) T.s__law_digits sc__law_digits (by decide) (fun _ _ _ _ _ _ us hl => match us, hl with | [_, _], _ => rfl) fun f cdv A outer s H E Y hr hct tk =>
    (psm_cons (psm_set (i := 2) sc__law_digits.nd rfl (Or.inl rfl) (pem_lst (pam_nil))) (psm_cons (psm_set (i := 3) sc__law_digits.nd rfl (Or.inl rfl) (pem_callTy c_int rfl T.b_int (by rfl) g_int (pam_cons (pem_var 0 (pv 0)) (pam_nil)))) (psm_cons (psm_set (i := 4) sc__law_digits.nd rfl (Or.inl rfl) (pem_cmp op_ge g_cmp (pem_var 3 (pv 3)) (pem_op op_pow g_pow (pem_int) (pem_int)) (nomark _))) (psm_cons (psm_set (i := 5) sc__law_digits.nd rfl (Or.inl rfl) (pem_op op_mod g_mod (pem_callTy c_int rfl T.b_int (by rfl) g_int (pam_cons (pem_var 3 (pv 3)) (pam_nil))) (pem_int))) (psm_cons (psm_if (ptm_val (pem_var 4 (pv 4))) (psm_one (psm_set (i := 3) sc__law_digits.nd rfl (Or.inl rfl) (pem_op o_sub g_sub (pem_var 3 (pv 3)) (pem_op op_pow g_pow (pem_int) (pem_int))))) (psm_nil)) (psm_cons (psm_for (passes_of rfl) rfl (pim_range1 rfl T.b_range (pam_cons (pem_callB (call_len) rfl T.b_len (by rfl) g_len (pam_cons (pem_var 1 (pv 1)) (pam_nil))) (pam_nil))) (pgm_name (pg_name (i := 6) sc__law_digits.nd rfl (Or.inl rfl))) (psm_cons (psm_set (i := 5) sc__law_digits.nd rfl (Or.inl rfl) (pem_op op_mod g_mod (pem_callTy c_int rfl T.b_int (by rfl) g_int (pam_cons (pem_op o_add g_add (pem_op o_add g_add (pem_op o_mul g_mul (pem_var 5 (pv 5)) (pem_int)) (pem_op o_mul g_mul (pem_int) (pem_var 6 (pv 6)))) (pem_int)) (pam_nil))) (pem_int))) (psm_cons (psm_set (i := 7) sc__law_digits.nd rfl (Or.inl rfl) (pem_op op_mod g_mod (pem_callTy c_int rfl T.b_int (by rfl) g_int (pam_cons (pem_op o_mul g_mul (pem_var 5 (pv 5)) (pem_op o_add g_add (pem_op op_fdiv g_fdiv (pem_var 5 (pv 5)) (pem_int)) (pem_int))) (pam_nil))) (pem_int))) (psm_one (psm_if (PW.pt (pwm_and (ptm_val (pem_var 4 (pv 4))) (pwm_and1 (ptm_cmp op_gt g_cmp (pem_var 3 (pv 3)) (pem_int) (nomark _))))) (psm_cons (psm_expr (pem_append (pv 2) (pem_op op_mod g_mod (pem_callTy c_int rfl T.b_int (by rfl) g_int (pam_cons (pem_var 3 (pv 3)) (pam_nil))) (pem_ix (pem_var 1 (pv 1)) (pem_var 6 (pv 6)))))) (psm_one (psm_set (i := 3) sc__law_digits.nd rfl (Or.inl rfl) (pem_op op_fdiv g_fdiv (pem_callTy c_int rfl T.b_int (by rfl) g_int (pam_cons (pem_var 3 (pv 3)) (pam_nil))) (pem_ix (pem_var 1 (pv 1)) (pem_var 6 (pv 6))))))) (psm_one (psm_expr (pem_append (pv 2) (pem_op op_mod g_mod (pem_callTy c_int rfl T.b_int (by rfl) g_int (pam_cons (pem_op op_fdiv g_fdiv (pem_var 7 (pv 7)) (pem_int)) (pam_nil))) (pem_ix (pem_var 1 (pv 1)) (pem_var 6 (pv 6)))))))))))) (psm_one (psm_ret (pem_var 2 (pv 2))))))))))
/-! _law_reader -/
theorem sc__law_reader : FnScope ["_law_cell_here"] ["_law_cell_here"] (defScope s__law_reader) := ⟨rfl, rfl, rfl, by decide +kernel, rfl, by decide +kernel, by decide +kernel⟩
def body__law_reader (m__law_digits : List W → FR) : Rho → ML.R Fl := mRet [] (mLst [] [mCall [] [] m__law_digits [mVar 0, mOp gMul (mLst [] [mC (.int 5040)]) (mC (.int 70))], mC (.int 0)])
def fun__law_reader (m__law_digits : List W → FR) : List W → FR := mFun [] 1 (body__law_reader m__law_digits)
theorem def__law_reader (T : Txt w K mg) {m__law_digits : List W → FR} (D__law_digits : Def P w K mg base (He.ga K) k "_law_digits" ["_law_cell_here", "_law_sizes"] [] m__law_digits) : Def P w K mg base (He.ga K) (k + 1) "_law_reader" ["_law_cell_here"] [] (fun__law_reader m__law_digits) :=
  def_mk (N := ["_law_cell_here"]) (g := body__law_reader m__law_digits) T.s__law_reader sc__law_reader (by decide) (fun _ _ _ _ _ _ us hl => match us, hl with | [_], _ => rfl) fun f cdv A outer s H E Y hr hct tk =>
    (psm_one (psm_ret (pem_lst (pam_cons (pem_callD D__law_digits hct hr tk rfl (pam_cons (pem_var 0 (pv 0)) (pam_cons (pem_op o_mul g_mul (pem_lst (pam_cons (pem_int) (pam_nil))) (pem_int)) (pam_nil))) rfl) (pam_cons (pem_int) (pam_nil))))))
/-! _law_next -/
theorem sc__law_next : FnScope ["_law_reader_here", "_law_many", "_law_digit"] ["_law_reader_here", "_law_many"] (defScope s__law_next) := ⟨rfl, rfl, rfl, by decide +kernel, rfl, by decide +kernel, by decide +kernel⟩
def body__law_next : Rho → ML.R Fl := mSeq (mSet [0] 2 (mOp gAdd (mOp gIx (mOp gIx (mVar 0) (mC (.int 0))) (mOp gMod (mCB gInt [mOp gIx (mVar 0) (mC (.int 1))]) (mC (.int 70)))) (mOp gMul (mC (.int 13)) (mOp gFdiv (mOp gIx (mVar 0) (mC (.int 1))) (mC (.int 70)))))) (mSeq (mStoreAt 0 [0] (mC (.int 1)) (mOp gAdd (mOp gIx (mVar 0) (mC (.int 1))) (mC (.int 1)))) (mRet [0] (mOp gMod (mCB gInt [mVar 2]) (mVar 1))))
def fun__law_next : List W → FR := mFun [0] 3 (body__law_next)
theorem def__law_next (T : Txt w K mg) : Def P w K mg base (He.ga K) (k + 1) "_law_next" ["_law_reader_here", "_law_many"] [0] (fun__law_next) :=
  def_mk (N := ["_law_reader_here", "_law_many", "_law_digit"]) (g := body__law_next) T.s__law_next sc__law_next (by decide) (fun _ _ _ _ _ _ us hl => match us, hl with | [_, _], _ => rfl) fun f cdv A outer s H E Y hr hct tk =>
    (psm_cons (psm_set (i := 2) sc__law_next.nd rfl (Or.inl rfl) (pem_op o_add g_add (pem_ix (pem_ix (pem_var 0 (pv 0)) (pem_int)) (pem_op op_mod g_mod (pem_callTy c_int rfl T.b_int (by rfl) g_int (pam_cons (pem_ix (pem_var 0 (pv 0)) (pem_int)) (pam_nil))) (pem_int))) (pem_op o_mul g_mul (pem_int) (pem_op op_fdiv g_fdiv (pem_ix (pem_var 0 (pv 0)) (pem_int)) (pem_int))))) (psm_cons (psm_storeAt (ps_asg (pem_op o_add g_add (pem_ix (pem_var 0 (pv 0)) (pem_int)) (pem_int)) (pg_sub (pv 0) (pem_int) set_list))) (psm_one (psm_ret (pem_op op_mod g_mod (pem_callTy c_int rfl T.b_int (by rfl) g_int (pam_cons (pem_var 2 (pv 2)) (pam_nil))) (pem_var 1 (pv 1)))))))
/-! _law_triple -/
theorem sc__law_triple : FnScope ["_law_procedures", "_law_name_here", "_law_triple_here"] ["_law_procedures", "_law_name_here"] (defScope s__law_triple) := ⟨rfl, rfl, rfl, by decide +kernel, rfl, by decide +kernel, by decide +kernel⟩
def body__law_triple : Rho → ML.R Fl := mSeq (mFor (mItems [] (mVar 0)) (gSet [] 2) (mIf (mTest (mOp gEq (mOp gIx (mVar 2) (mC (.int 0))) (mVar 1))) (mRet [] (mVar 2)) (mNext))) (mRet [] (mC .non))
def fun__law_triple : List W → FR := mFun [] 3 (body__law_triple)
theorem def__law_triple (T : Txt w K mg) : Def P w K mg base (He.ga K) (k + 1) "_law_triple" ["_law_procedures", "_law_name_here"] [] (fun__law_triple) :=
  def_mk (N := ["_law_procedures", "_law_name_here", "_law_triple_here"]) (g := body__law_triple) T.s__law_triple sc__law_triple (by decide) (fun _ _ _ _ _ _ us hl => match us, hl with | [_, _], _ => rfl) fun f cdv A outer s H E Y hr hct tk =>
    (psm_cons (psm_for (passes_of rfl) rfl (pim_seq (pem_var 0 (pv 0))) (pgm_name (pg_name (i := 2) sc__law_triple.nd rfl (Or.inl rfl))) (psm_one (psm_if (ptm_cmp (o_eq (hu200 hr)) g_eq (pem_ix (pem_var 2 (pv 2)) (pem_int)) (pem_var 1 (pv 1)) (nomark _)) (psm_one (psm_ret (pem_var 2 (pv 2)))) (psm_nil)))) (psm_one (psm_ret (pem_non))))
/-! _law_after -/
theorem sc__law_after : FnScope ["_law_opened", "_law_move"] ["_law_opened", "_law_move"] (defScope s__law_after) := ⟨rfl, rfl, rfl, by decide +kernel, rfl, by decide +kernel, by decide +kernel⟩
def body__law_after : Rho → ML.R Fl := mSeq (mIf (mTest (mOp (gIn false) (mOp gIx (mSplit (mVar 1) (mC (.str " "))) (mC (.int 0))) (mTup [] [mC (.str "run"), mC (.str "call"), mC (.str "ask"), mC (.str "get"), mC (.str "set")]))) (mRet [] (mOp gAdd (mVar 0) (mTup [] [mVar 1]))) (mNext)) (mRet [] (mSl (mVar 0) none (some (mNeg (mC (.int 1))))))
def fun__law_after : List W → FR := mFun [] 2 (body__law_after)
theorem def__law_after (T : Txt w K mg) : Def P w K mg base (He.ga K) (k + 1) "_law_after" ["_law_opened", "_law_move"] [] (fun__law_after) :=
  def_mk (N := ["_law_opened", "_law_move"]) (g := body__law_after) T.s__law_after sc__law_after (by decide) (fun _ _ _ _ _ _ us hl => match us, hl with | [_, _], _ => rfl) fun f cdv A outer s H E Y hr hct tk =>
    (psm_cons (psm_if (ptm_cmp o_in g_in (pem_ix (pem_split (pem_var 1 (pv 1)) (pem_str)) (pem_int)) (pem_tup (pam_cons (pem_str) (pam_cons (pem_str) (pam_cons (pem_str) (pam_cons (pem_str) (pam_cons (pem_str) (pam_nil))))))) rfl) (psm_one (psm_ret (pem_op o_add g_add (pem_var 0 (pv 0)) (pem_tup (pam_cons (pem_var 1 (pv 1)) (pam_nil)))))) (psm_nil)) (psm_one (psm_ret (pem_slice (pem_var 0 (pv 0)) pom_none (pom_some (pem_neg (pem_int)))))))
/-! _law_numbered -/
theorem sc__law_numbered : FnScope ["_law_word", "_law_kind", "_law_size", "_law_number"] ["_law_word", "_law_kind", "_law_size"] (defScope s__law_numbered) := ⟨rfl, rfl, rfl, by decide +kernel, rfl, by decide +kernel, by decide +kernel⟩
def body__law_numbered : Rho → ML.R Fl := mSeq (mIf (mTest (mOp gEq (mVar 1) (mC (.str "command")))) (mRet [] (mLst [] [mVar 0])) (mNext)) (mRet [] (mLc [] (mRange1 [mVar 2]) (.nm 3) (mYes) (mOp gAdd (mOp gAdd (mVar 0) (mC (.str " "))) (mCB gStr [mVar 3]))))
def fun__law_numbered : List W → FR := mFun [] 4 (body__law_numbered)
theorem def__law_numbered (T : Txt w K mg) : Def P w K mg base (He.ga K) (k + 1) "_law_numbered" ["_law_word", "_law_kind", "_law_size"] [] (fun__law_numbered) :=
  def_mk (N := ["_law_word", "_law_kind", "_law_size", "_law_number"]) (g := body__law_numbered) T.s__law_numbered sc__law_numbered (by decide) (fun _ _ _ _ _ _ us hl => match us, hl with | [_, _, _], _ => rfl) fun f cdv A outer s H E Y hr hct tk =>
    (psm_cons (psm_if (ptm_cmp (o_eq (hu200 hr)) g_eq (pem_var 1 (pv 1)) (pem_str) (nomark _)) (psm_one (psm_ret (pem_lst (pam_cons (pem_var 0 (pv 0)) (pam_nil))))) (psm_nil)) (psm_one (psm_ret (pem_lc (own := [("_law_number", 3)]) (t := .nm 3) rfl sc__law_numbered.nd (pim_range1 rfl T.b_range (pam_cons (pem_var 2 (pv 2)) (pam_nil))) (blkOk_by (N := ["_law_word", "_law_kind", "_law_size", "_law_number"]) (sc := defScope s__law_numbered) (by decide +kernel)) rfl (fun _ _ _ _ _ => pg_name (i := 3) sc__law_numbered.nd rfl (by first | exact Or.inl rfl | exact Or.inr rfl) (by first | exact .inl rfl | exact .inr rfl)) (fun _ _ _ _ _ => pcs_nil) (fun _ _ _ _ _ Y1 hY1 wY1 => (pem_op o_add g_add (pem_op o_add g_add (pem_var 0 (pv 0)) (pem_str)) (pem_callTy c_str rfl T.b_str (by rfl) g_str (pam_cons (pem_var 3 (pv 3)) (pam_nil)))))))))
/-! _law_heard -/
theorem sc__law_heard : FnScope ["_law_size", "_law_procedures", "_law_opened", "_law_words", "_law_triple_here", "_law_asks", "_law_k"] ["_law_size", "_law_procedures", "_law_opened"] (defScope s__law_heard) := ⟨rfl, rfl, rfl, by decide +kernel, rfl, by decide +kernel, by decide +kernel⟩
def body__law_heard (m__law_triple : List W → FR) (m__law_numbered : List W → FR) : Rho → ML.R Fl := mSeq (mIf (mTest (mOp gEq (mCB gLen [mVar 2]) (mC (.int 0)))) (mRet [] (mLst [] [mC (.str "run")])) (mNext)) (mSeq (mSet [] 3 (mSplit (mOp gIx (mVar 2) (mNeg (mC (.int 1)))) (mC (.str " ")))) (mSeq (mIf (mTest (mOp gEq (mOp gIx (mVar 3) (mC (.int 0))) (mC (.str "call")))) (mSeq (mSet [] 4 (mCall [] [] m__law_triple [mVar 1, mOp gIx (mVar 3) (mC (.int 1))])) (mSeq (mSet [] 5 (mLc [] (mRange1 [mCB gLen [mOp gIx (mVar 4) (mC (.int 1))]]) (.nm 6) (mYes) (mOp gAdd (mOp gAdd (mOp gAdd (mC (.str "ask ")) (mOp gIx (mVar 3) (mC (.int 1)))) (mC (.str " "))) (mCB gStr [mVar 6])))) (mRet [] (mOp gAdd (mVar 5) (mCall [] [] m__law_numbered [mOp gAdd (mC (.str "back ")) (mOp gIx (mVar 3) (mC (.int 1))), mOp gIx (mVar 4) (mC (.int 2)), mVar 0]))))) (mNext)) (mSeq (mIf (mTest (mOp gEq (mOp gIx (mVar 3) (mC (.int 0))) (mC (.str "get")))) (mRet [] (mCall [] [] m__law_numbered [mOp gAdd (mC (.str "is ")) (mOp gIx (mVar 3) (mC (.int 1))), mC (.str "number"), mVar 0])) (mNext)) (mRet [] (mLst [] [mOp gAdd (mC (.str "kept ")) (mOp gIx (mVar 3) (mC (.int 1)))])))))
def fun__law_heard (m__law_triple : List W → FR) (m__law_numbered : List W → FR) : List W → FR := mFun [] 7 (body__law_heard m__law_triple m__law_numbered)
theorem def__law_heard (T : Txt w K mg) {m__law_triple : List W → FR} (D__law_triple : Def P w K mg base (He.ga K) k "_law_triple" ["_law_procedures", "_law_name_here"] [] m__law_triple) {m__law_numbered : List W → FR} (D__law_numbered : Def P w K mg base (He.ga K) k "_law_numbered" ["_law_word", "_law_kind", "_law_size"] [] m__law_numbered) : Def P w K mg base (He.ga K) (k + 1) "_law_heard" ["_law_size", "_law_procedures", "_law_opened"] [] (fun__law_heard m__law_triple m__law_numbered) :=
  def_mk (N := ["_law_size", "_law_procedures", "_law_opened", "_law_words", "_law_triple_here", "_law_asks", "_law_k"]) (g := body__law_heard m__law_triple m__law_numbered) T.s__law_heard sc__law_heard (by decide) (fun _ _ _ _ _ _ us hl => match us, hl with | [_, _, _], _ => rfl) fun f cdv A outer s H E Y hr hct tk =>
    (psm_cons (psm_if (ptm_cmp (o_eq (hu200 hr)) g_eq (pem_callB (call_len) rfl T.b_len (by rfl) g_len (pam_cons (pem_var 2 (pv 2)) (pam_nil))) (pem_int) (nomark _)) (psm_one (psm_ret (pem_lst (pam_cons (pem_str) (pam_nil))))) (psm_nil)) (psm_cons (psm_set (i := 3) sc__law_heard.nd rfl (Or.inr rfl) (pem_split (pem_ix (pem_var 2 (pv 2)) (pem_neg (pem_int))) (pem_str))) (psm_cons (psm_if (ptm_cmp (o_eq (hu200 hr)) g_eq (pem_ix (pem_var 3 (pv 3)) (pem_int)) (pem_str) (nomark _)) (psm_cons (psm_set (i := 4) sc__law_heard.nd rfl (Or.inl rfl) (pem_callD D__law_triple hct hr tk rfl (pam_cons (pem_var 1 (pv 1)) (pam_cons (pem_ix (pem_var 3 (pv 3)) (pem_int)) (pam_nil))) rfl)) (psm_cons (psm_setLc (i := 5) (own := [("_law_k", 6)]) (t := .nm 6) rfl sc__law_heard.nd rfl rfl (sw_true rfl rfl rfl (by decide +kernel)) (pim_range1 rfl T.b_range (pam_cons (pem_callB (call_len) rfl T.b_len (by rfl) g_len (pam_cons (pem_ix (pem_var 4 (pv 4)) (pem_int)) (pam_nil))) (pam_nil))) (blkOk_by (N := ["_law_size", "_law_procedures", "_law_opened", "_law_words", "_law_triple_here", "_law_asks", "_law_k"]) (sc := defScope s__law_heard) (by decide +kernel)) rfl (fun _ _ _ _ _ => pg_name (i := 6) sc__law_heard.nd rfl (by first | exact Or.inl rfl | exact Or.inr rfl) (by first | exact .inl rfl | exact .inr rfl)) (fun _ _ _ _ _ => pcs_nil) (fun _ _ _ _ _ Y1 hY1 wY1 => (pem_op o_add g_add (pem_op o_add g_add (pem_op o_add g_add (pem_str) (pem_ix (pem_var 3 (pv 3)) (pem_int))) (pem_str)) (pem_callTy c_str rfl T.b_str (by rfl) g_str (pam_cons (pem_var 6 (pv 6)) (pam_nil)))))) (psm_one (psm_ret (pem_op o_add g_add (pem_var 5 (pv 5)) (pem_callD D__law_numbered hct hr tk rfl (pam_cons (pem_op o_add g_add (pem_str) (pem_ix (pem_var 3 (pv 3)) (pem_int))) (pam_cons (pem_ix (pem_var 4 (pv 4)) (pem_int)) (pam_cons (pem_var 0 (pv 0)) (pam_nil)))) rfl)))))) (psm_nil)) (psm_cons (psm_if (ptm_cmp (o_eq (hu200 hr)) g_eq (pem_ix (pem_var 3 (pv 3)) (pem_int)) (pem_str) (nomark _)) (psm_one (psm_ret (pem_callD D__law_numbered hct hr tk rfl (pam_cons (pem_op o_add g_add (pem_str) (pem_ix (pem_var 3 (pv 3)) (pem_int))) (pam_cons (pem_str) (pam_cons (pem_var 0 (pv 0)) (pam_nil)))) rfl))) (psm_nil)) (psm_one (psm_ret (pem_lst (pam_cons (pem_op o_add g_add (pem_str) (pem_ix (pem_var 3 (pv 3)) (pem_int))) (pam_nil)))))))))
/-! _law_said -/
theorem sc__law_said : FnScope ["_law_size", "_law_kind", "_law_procedures", "_law_cells", "_law_opened", "_law_row_here", "_law_cell_here", "_law_words", "_law_triple_here"] ["_law_size", "_law_kind", "_law_procedures", "_law_cells", "_law_opened"] (defScope s__law_said) := ⟨rfl, rfl, rfl, by decide +kernel, rfl, by decide +kernel, by decide +kernel⟩
def body__law_said (m__law_numbered : List W → FR) (m__law_triple : List W → FR) : Rho → ML.R Fl := mSeq (mSet [] 5 (mLc [] (mItems [] (mVar 2)) (.nm 8) (mYes) (mOp gAdd (mC (.str "call ")) (mOp gIx (mVar 8) (mC (.int 0)))))) (mSeq (mFor (mItems [] (mVar 3)) (gSet [] 6) (mSeq (mDrop (mAppend 5 [] (mOp gAdd (mC (.str "get ")) (mVar 6)))) (mSet [] 5 (mOp gAdd (mVar 5) (mCall [] [] m__law_numbered [mOp gAdd (mC (.str "set ")) (mVar 6), mC (.str "number"), mVar 0]))))) (mSeq (mSet [] 7 (mSplit (mOp gIx (mVar 4) (mNeg (mC (.int 1)))) (mC (.str " ")))) (mSeq (mIf (mTest (mOp gEq (mOp gIx (mVar 7) (mC (.int 0))) (mC (.str "run")))) (mRet [] (mOp gAdd (mVar 5) (mCall [] [] m__law_numbered [mC (.str "end"), mVar 1, mVar 0]))) (mNext)) (mSeq (mSet [] 8 (mCall [] [] m__law_triple [mVar 2, mOp gIx (mVar 7) (mC (.int 1))])) (mRet [] (mOp gAdd (mVar 5) (mCall [] [] m__law_numbered [mOp gAdd (mOp gAdd (mOp gAdd (mC (.str "told ")) (mOp gIx (mVar 7) (mC (.int 1)))) (mC (.str " "))) (mOp gIx (mVar 7) (mC (.int 2))), mOp gIx (mOp gIx (mVar 8) (mC (.int 1))) (mCB gInt [mOp gIx (mVar 7) (mC (.int 2))]), mVar 0])))))))
def fun__law_said (m__law_numbered : List W → FR) (m__law_triple : List W → FR) : List W → FR := mFun [] 9 (body__law_said m__law_numbered m__law_triple)
theorem def__law_said (T : Txt w K mg) {m__law_numbered : List W → FR} (D__law_numbered : Def P w K mg base (He.ga K) k "_law_numbered" ["_law_word", "_law_kind", "_law_size"] [] m__law_numbered) {m__law_triple : List W → FR} (D__law_triple : Def P w K mg base (He.ga K) k "_law_triple" ["_law_procedures", "_law_name_here"] [] m__law_triple) : Def P w K mg base (He.ga K) (k + 1) "_law_said" ["_law_size", "_law_kind", "_law_procedures", "_law_cells", "_law_opened"] [] (fun__law_said m__law_numbered m__law_triple) :=
  def_mk (N := ["_law_size", "_law_kind", "_law_procedures", "_law_cells", "_law_opened", "_law_row_here", "_law_cell_here", "_law_words", "_law_triple_here"]) (g := body__law_said m__law_numbered m__law_triple) T.s__law_said sc__law_said (by decide) (fun _ _ _ _ _ _ us hl => match us, hl with | [_, _, _, _, _], _ => rfl) fun f cdv A outer s H E Y hr hct tk =>
    (psm_cons (psm_setLc (i := 5) (own := [("_law_triple_here", 8)]) (t := .nm 8) rfl sc__law_said.nd rfl rfl (sw_true rfl rfl rfl (by decide +kernel)) (pim_seq (pem_var 2 (pv 2))) (blkOk_by (N := ["_law_size", "_law_kind", "_law_procedures", "_law_cells", "_law_opened", "_law_row_here", "_law_cell_here", "_law_words", "_law_triple_here"]) (sc := defScope s__law_said) (by decide +kernel)) rfl (fun _ _ _ _ _ => pg_name (i := 8) sc__law_said.nd rfl (by first | exact Or.inl rfl | exact Or.inr rfl) (by first | exact .inl rfl | exact .inr rfl)) (fun _ _ _ _ _ => pcs_nil) (fun _ _ _ _ _ Y1 hY1 wY1 => (pem_op o_add g_add (pem_str) (pem_ix (pem_var 8 (pv 8)) (pem_int))))) (psm_cons (psm_for (passes_of rfl) rfl (pim_seq (pem_var 3 (pv 3))) (pgm_name (pg_name (i := 6) sc__law_said.nd rfl (Or.inl rfl))) (psm_cons (psm_expr (pem_append (pv 5) (pem_op o_add g_add (pem_str) (pem_var 6 (pv 6))))) (psm_one (psm_set (i := 5) sc__law_said.nd rfl (Or.inl rfl) (pem_op o_add g_add (pem_var 5 (pv 5)) (pem_callD D__law_numbered hct hr tk rfl (pam_cons (pem_op o_add g_add (pem_str) (pem_var 6 (pv 6))) (pam_cons (pem_str) (pam_cons (pem_var 0 (pv 0)) (pam_nil)))) rfl)))))) (psm_cons (psm_set (i := 7) sc__law_said.nd rfl (Or.inl rfl) (pem_split (pem_ix (pem_var 4 (pv 4)) (pem_neg (pem_int))) (pem_str))) (psm_cons (psm_if (ptm_cmp (o_eq (hu200 hr)) g_eq (pem_ix (pem_var 7 (pv 7)) (pem_int)) (pem_str) (nomark _)) (psm_one (psm_ret (pem_op o_add g_add (pem_var 5 (pv 5)) (pem_callD D__law_numbered hct hr tk rfl (pam_cons (pem_str) (pam_cons (pem_var 1 (pv 1)) (pam_cons (pem_var 0 (pv 0)) (pam_nil)))) rfl)))) (psm_nil)) (psm_cons (psm_set (i := 8) sc__law_said.nd rfl (Or.inl rfl) (pem_callD D__law_triple hct hr tk rfl (pam_cons (pem_var 2 (pv 2)) (pam_cons (pem_ix (pem_var 7 (pv 7)) (pem_int)) (pam_nil))) rfl)) (psm_one (psm_ret (pem_op o_add g_add (pem_var 5 (pv 5)) (pem_callD D__law_numbered hct hr tk rfl (pam_cons (pem_op o_add g_add (pem_op o_add g_add (pem_op o_add g_add (pem_str) (pem_ix (pem_var 7 (pv 7)) (pem_int))) (pem_str)) (pem_ix (pem_var 7 (pv 7)) (pem_int))) (pam_cons (pem_ix (pem_ix (pem_var 8 (pv 8)) (pem_int)) (pem_callTy c_int rfl T.b_int (by rfl) g_int (pam_cons (pem_ix (pem_var 7 (pv 7)) (pem_int)) (pam_nil)))) (pam_cons (pem_var 0 (pv 0)) (pam_nil)))) rfl)))))))))
/-! _law_name -/
theorem sc__law_name : FnScope ["_law_reader_here", "_law_used", "_law_letters", "_law_barred", "_law_words", "_law_name_here", "_law_k"] ["_law_reader_here", "_law_used"] (defScope s__law_name) := ⟨rfl, rfl, rfl, by decide +kernel, rfl, by decide +kernel, by decide +kernel⟩
def body__law_name (m__law_next : List W → FR) : Rho → ML.R Fl := mSeq (mSet [0, 1] 2 (mC (.str "abcdefghijklmnopqrstuvwxyz"))) (mSeq (mSet [0, 1] 3 (mSplit (mC (.str "skip quit if then else fi while do od new in end let be command number")) (mC (.str " ")))) (mSeq (mSet [0, 1] 4 (mLst [0, 1] [mC (.str "run"), mC (.str "call"), mC (.str "ask"), mC (.str "back"), mC (.str "told"), mC (.str "get"), mC (.str "set"), mC (.str "is"), mC (.str "kept"), mC (.str "p"), mC (.str "p0"), mC (.str "c0")])) (mSeq (mSet [0, 1] 5 (mOp gIx (mVar 2) (mCall [0, 1] [0] m__law_next [mVar 0, mC (.int 26)]))) (mSeq (mFor (mRange1 [mCall [0, 1] [0] m__law_next [mVar 0, mC (.int 8)]]) (gSet [0, 1] 6) (mSet [0, 1] 5 (mOp gAdd (mVar 5) (mOp gIx (mOp gAdd (mVar 2) (mC (.str "0123456789"))) (mCall [0, 1] [0] m__law_next [mVar 0, mC (.int 36)]))))) (mSeq (mIf (mTest (mOp gEq (mCall [0, 1] [0] m__law_next [mVar 0, mC (.int 4)]) (mC (.int 0)))) (mSet [0, 1] 5 (mOp gIx (mVar 4) (mCall [0, 1] [0] m__law_next [mVar 0, mC (.int 12)]))) (mNext)) (mSeq (mIf (mAnd (mTest (mOp (gCmp (fun i j => decide (j < i))) (mCB gLen [mVar 1]) (mC (.int 0)))) (mTest (mOp gEq (mCall [0, 1] [0] m__law_next [mVar 0, mC (.int 4)]) (mC (.int 0))))) (mSet [0, 1] 5 (mOp gAdd (mSl (mOp gIx (mVar 1) (mOp gSub (mCB gLen [mVar 1]) (mC (.int 1)))) none (some (mC (.int 7)))) (mOp gIx (mC (.str "01ab")) (mCall [0, 1] [0] m__law_next [mVar 0, mC (.int 4)])))) (mNext)) (mSeq (mFor (mRange1 [mC (.int 20)]) (gSet [0, 1] 6) (mSeq (mIf (mAnd (mTest (mOp (gIn true) (mVar 5) (mVar 1))) (mTest (mOp (gIn true) (mVar 5) (mVar 3)))) (mBreak) (mNext)) (mSet [0, 1] 5 (mOp gAdd (mSl (mVar 5) none (some (mOp gSub (mC (.int 7)) (mCB gInt [mOp (gCmp (fun i j => decide (i < j))) (mCB gLen [mVar 5]) (mC (.int 8))])))) (mOp gIx (mC (.str "0123456789abcdefghij")) (mVar 6)))))) (mRet [0, 1] (mVar 5)))))))))
def fun__law_name (m__law_next : List W → FR) : List W → FR := mFun [0, 1] 7 (body__law_name m__law_next)
theorem def__law_name (T : Txt w K mg) {m__law_next : List W → FR} (D__law_next : Def P w K mg base (He.ga K) k "_law_next" ["_law_reader_here", "_law_many"] [0] m__law_next) : Def P w K mg base (He.ga K) (k + 1) "_law_name" ["_law_reader_here", "_law_used"] [0, 1] (fun__law_name m__law_next) :=
  def_mk (N := ["_law_reader_here", "_law_used", "_law_letters", "_law_barred", "_law_words", "_law_name_here", "_law_k"]) (g := body__law_name m__law_next) T.s__law_name sc__law_name (by decide) (fun _ _ _ _ _ _ us hl => match us, hl with | [_, _], _ => rfl) fun f cdv A outer s H E Y hr hct tk =>
    (psm_cons (psm_set (i := 2) sc__law_name.nd rfl (Or.inl rfl) (pem_str)) (psm_cons (psm_set (i := 3) sc__law_name.nd rfl (Or.inl rfl) (pem_split (pem_str) (pem_str))) (psm_cons (psm_set (i := 4) sc__law_name.nd rfl (Or.inl rfl) (pem_lst (pam_cons (pem_str) (pam_cons (pem_str) (pam_cons (pem_str) (pam_cons (pem_str) (pam_cons (pem_str) (pam_cons (pem_str) (pam_cons (pem_str) (pam_cons (pem_str) (pam_cons (pem_str) (pam_cons (pem_str) (pam_cons (pem_str) (pam_cons (pem_str) (pam_nil))))))))))))))) (psm_cons (psm_set (i := 5) sc__law_name.nd rfl (Or.inl rfl) (pem_ix (pem_var 2 (pv 2)) (pem_callD D__law_next hct hr tk rfl (pam_cons (pem_var 0 (pv 0)) (pam_cons (pem_int) (pam_nil))) rfl))) (psm_cons (psm_for (passes_of rfl) rfl (pim_range1 rfl T.b_range (pam_cons (pem_callD D__law_next hct hr tk rfl (pam_cons (pem_var 0 (pv 0)) (pam_cons (pem_int) (pam_nil))) rfl) (pam_nil))) (pgm_name (pg_name (i := 6) sc__law_name.nd rfl (Or.inl rfl))) (psm_one (psm_set (i := 5) sc__law_name.nd rfl (Or.inl rfl) (pem_op o_add g_add (pem_var 5 (pv 5)) (pem_ix (pem_op o_add g_add (pem_var 2 (pv 2)) (pem_str)) (pem_callD D__law_next hct hr tk rfl (pam_cons (pem_var 0 (pv 0)) (pam_cons (pem_int) (pam_nil))) rfl)))))) (psm_cons (psm_if (ptm_cmp (o_eq (hu200 hr)) g_eq (pem_callD D__law_next hct hr tk rfl (pam_cons (pem_var 0 (pv 0)) (pam_cons (pem_int) (pam_nil))) rfl) (pem_int) (nomark _)) (psm_one (psm_set (i := 5) sc__law_name.nd rfl (Or.inl rfl) (pem_ix (pem_var 4 (pv 4)) (pem_callD D__law_next hct hr tk rfl (pam_cons (pem_var 0 (pv 0)) (pam_cons (pem_int) (pam_nil))) rfl)))) (psm_nil)) (psm_cons (psm_if (PW.pt (pwm_and (ptm_cmp op_gt g_cmp (pem_callB (call_len) rfl T.b_len (by rfl) g_len (pam_cons (pem_var 1 (pv 1)) (pam_nil))) (pem_int) (nomark _)) (pwm_and1 (ptm_cmp (o_eq (hu200 hr)) g_eq (pem_callD D__law_next hct hr tk rfl (pam_cons (pem_var 0 (pv 0)) (pam_cons (pem_int) (pam_nil))) rfl) (pem_int) (nomark _))))) (psm_one (psm_set (i := 5) sc__law_name.nd rfl (Or.inl rfl) (pem_op o_add g_add (pem_slice (pem_ix (pem_var 1 (pv 1)) (pem_op o_sub g_sub (pem_callB (call_len) rfl T.b_len (by rfl) g_len (pam_cons (pem_var 1 (pv 1)) (pam_nil))) (pem_int))) pom_none (pom_some (pem_int))) (pem_ix (pem_str) (pem_callD D__law_next hct hr tk rfl (pam_cons (pem_var 0 (pv 0)) (pam_cons (pem_int) (pam_nil))) rfl))))) (psm_nil)) (psm_cons (psm_for (passes_of rfl) rfl (pim_range1 rfl T.b_range (pam_cons (pem_int) (pam_nil))) (pgm_name (pg_name (i := 6) sc__law_name.nd rfl (Or.inl rfl))) (psm_cons (psm_if (PW.pt (pwm_and (ptm_cmp o_notin g_in (pem_var 5 (pv 5)) (pem_var 1 (pv 1)) rfl) (pwm_and1 (ptm_cmp o_notin g_in (pem_var 5 (pv 5)) (pem_var 3 (pv 3)) rfl)))) (psm_one (psm_break)) (psm_nil)) (psm_one (psm_set (i := 5) sc__law_name.nd rfl (Or.inl rfl) (pem_op o_add g_add (pem_slice (pem_var 5 (pv 5)) pom_none (pom_some (pem_op o_sub g_sub (pem_int) (pem_callTy c_int rfl T.b_int (by rfl) g_int (pam_cons (pem_cmp op_lt g_cmp (pem_callB (call_len) rfl T.b_len (by rfl) g_len (pam_cons (pem_var 5 (pv 5)) (pam_nil))) (pem_int) (nomark _)) (pam_nil)))))) (pem_ix (pem_str) (pem_var 6 (pv 6)))))))) (psm_one (psm_ret (pem_var 5 (pv 5))))))))))))
/-! _law_names -/
theorem sc__law_names : FnScope ["_law_cell_here", "_law_reader_here", "_law_size", "_law_many", "_law_free", "_law_kinds", "_law_used", "_law_procedures", "_law_k", "_law_count", "_law_parameters", "_law_j"] ["_law_cell_here"] (defScope s__law_names) := ⟨rfl, rfl, rfl, by decide +kernel, rfl, by decide +kernel, by decide +kernel⟩
def body__law_names (m__law_reader : List W → FR) (m__law_next : List W → FR) (m__law_name : List W → FR) : Rho → ML.R Fl := mSeq (mSet [] 1 (mCall [] [] m__law_reader [mVar 0])) (mSeq (mSet [] 2 (mOp gAdd (mC (.int 2)) (mCall [] [0] m__law_next [mVar 1, mC (.int 3)]))) (mSeq (mSet [] 3 (mOp gIx (mLst [] [mC (.int 1), mC (.int 2), mC (.int 0), mC (.int 3), mC (.int 2), mC (.int 1), mC (.int 6), mC (.int 4)]) (mCall [] [0] m__law_next [mVar 1, mC (.int 8)]))) (mSeq (mSet [] 4 (mOp gIx (mLst [] [mC (.int 0), mC (.int 1), mC (.int 2), mC (.int 0), mC (.int 1), mC (.int 3), mC (.int 2), mC (.int 4)]) (mCall [] [0] m__law_next [mVar 1, mC (.int 8)]))) (mSeq (mSet [] 5 (mLst [] [mC (.str "command"), mC (.str "number")])) (mSeq (mSet [] 6 (mLst [] [])) (mSeq (mSet [] 7 (mLst [] [])) (mSeq (mFor (mRange1 [mVar 3]) (gSet [] 8) (mSeq (mDrop (mAppend 6 [] (mCall [] [0, 1] m__law_name [mVar 1, mVar 6]))) (mSeq (mSet [] 9 (mOp gIx (mLst [] [mC (.int 1), mC (.int 2), mC (.int 0), mC (.int 1), mC (.int 3)]) (mCall [] [0] m__law_next [mVar 1, mC (.int 5)]))) (mSeq (mSet [] 10 (mCB gTupC [mLc [] (mRange1 [mVar 9]) (.nm 11) (mYes) (mOp gIx (mVar 5) (mCall [] [0] m__law_next [mVar 1, mC (.int 2)]))])) (mDrop (mAppend 7 [] (mTup [] [mOp gIx (mVar 6) (mVar 8), mVar 10, mOp gIx (mVar 5) (mCall [] [0] m__law_next [mVar 1, mC (.int 2)])]))))))) (mSeq (mFor (mRange1 [mVar 4]) (gSet [] 8) (mDrop (mAppend 6 [] (mCall [] [0, 1] m__law_name [mVar 1, mVar 6])))) (mRet [] (mLst [] [mVar 2, mCB gTupC [mVar 7], mCB gTupC [mSl (mVar 6) (some (mVar 3)) none]]))))))))))
def fun__law_names (m__law_reader : List W → FR) (m__law_next : List W → FR) (m__law_name : List W → FR) : List W → FR := mFun [] 12 (body__law_names m__law_reader m__law_next m__law_name)
theorem def__law_names (T : Txt w K mg) {m__law_reader : List W → FR} (D__law_reader : Def P w K mg base (He.ga K) k "_law_reader" ["_law_cell_here"] [] m__law_reader) {m__law_next : List W → FR} (D__law_next : Def P w K mg base (He.ga K) k "_law_next" ["_law_reader_here", "_law_many"] [0] m__law_next) {m__law_name : List W → FR} (D__law_name : Def P w K mg base (He.ga K) k "_law_name" ["_law_reader_here", "_law_used"] [0, 1] m__law_name) : Def P w K mg base (He.ga K) (k + 1) "_law_names" ["_law_cell_here"] [] (fun__law_names m__law_reader m__law_next m__law_name) :=
  def_mk (N := ["_law_cell_here", "_law_reader_here", "_law_size", "_law_many", "_law_free", "_law_kinds", "_law_used", "_law_procedures", "_law_k", "_law_count", "_law_parameters", "_law_j"]) (g := body__law_names m__law_reader m__law_next m__law_name) T.s__law_names sc__law_names (by decide) (fun _ _ _ _ _ _ us hl => match us, hl with | [_], _ => rfl) fun f cdv A outer s H E Y hr hct tk =>
    (psm_cons (psm_set (i := 1) sc__law_names.nd rfl (Or.inr rfl) (pem_callD D__law_reader hct hr tk rfl (pam_cons (pem_var 0 (pv 0)) (pam_nil)) rfl)) (psm_cons (psm_set (i := 2) sc__law_names.nd rfl (Or.inl rfl) (pem_op o_add g_add (pem_int) (pem_callD D__law_next hct hr tk rfl (pam_cons (pem_var 1 (pv 1)) (pam_cons (pem_int) (pam_nil))) rfl))) (psm_cons (psm_set (i := 3) sc__law_names.nd rfl (Or.inl rfl) (pem_ix (pem_lst (pam_cons (pem_int) (pam_cons (pem_int) (pam_cons (pem_int) (pam_cons (pem_int) (pam_cons (pem_int) (pam_cons (pem_int) (pam_cons (pem_int) (pam_cons (pem_int) (pam_nil)))))))))) (pem_callD D__law_next hct hr tk rfl (pam_cons (pem_var 1 (pv 1)) (pam_cons (pem_int) (pam_nil))) rfl))) (psm_cons (psm_set (i := 4) sc__law_names.nd rfl (Or.inl rfl) (pem_ix (pem_lst (pam_cons (pem_int) (pam_cons (pem_int) (pam_cons (pem_int) (pam_cons (pem_int) (pam_cons (pem_int) (pam_cons (pem_int) (pam_cons (pem_int) (pam_cons (pem_int) (pam_nil)))))))))) (pem_callD D__law_next hct hr tk rfl (pam_cons (pem_var 1 (pv 1)) (pam_cons (pem_int) (pam_nil))) rfl))) (psm_cons (psm_set (i := 5) sc__law_names.nd rfl (Or.inr rfl) (pem_lst (pam_cons (pem_str) (pam_cons (pem_str) (pam_nil))))) (psm_cons (psm_set (i := 6) sc__law_names.nd rfl (Or.inl rfl) (pem_lst (pam_nil))) (psm_cons (psm_set (i := 7) sc__law_names.nd rfl (Or.inl rfl) (pem_lst (pam_nil))) (psm_cons (psm_for (passes_of rfl) rfl (pim_range1 rfl T.b_range (pam_cons (pem_var 3 (pv 3)) (pam_nil))) (pgm_name (pg_name (i := 8) sc__law_names.nd rfl (Or.inl rfl))) (psm_cons (psm_expr (pem_append (pv 6) (pem_callD D__law_name hct hr tk rfl (pam_cons (pem_var 1 (pv 1)) (pam_cons (pem_var 6 (pv 6)) (pam_nil))) rfl))) (psm_cons (psm_set (i := 9) sc__law_names.nd rfl (Or.inl rfl) (pem_ix (pem_lst (pam_cons (pem_int) (pam_cons (pem_int) (pam_cons (pem_int) (pam_cons (pem_int) (pam_cons (pem_int) (pam_nil))))))) (pem_callD D__law_next hct hr tk rfl (pam_cons (pem_var 1 (pv 1)) (pam_cons (pem_int) (pam_nil))) rfl))) (psm_cons (psm_set (i := 10) sc__law_names.nd rfl (Or.inl rfl) (pem_callTy call_tuple_of rfl T.b_tuple (by rfl) g_tupC (pam_cons (pem_lc (own := [("_law_j", 11)]) (t := .nm 11) rfl sc__law_names.nd (pim_range1 rfl T.b_range (pam_cons (pem_var 9 (pv 9)) (pam_nil))) (blkOk_by (N := ["_law_cell_here", "_law_reader_here", "_law_size", "_law_many", "_law_free", "_law_kinds", "_law_used", "_law_procedures", "_law_k", "_law_count", "_law_parameters", "_law_j"]) (sc := defScope s__law_names) (by decide +kernel)) rfl (fun _ _ _ _ _ => pg_name (i := 11) sc__law_names.nd rfl (by first | exact Or.inl rfl | exact Or.inr rfl) (by first | exact .inl rfl | exact .inr rfl)) (fun _ _ _ _ _ => pcs_nil) (fun _ _ _ _ _ Y1 hY1 wY1 => (pem_ix (pem_var 5 (pv 5)) (pem_callD D__law_next (hY1.trans hct) hr (takesF wY1) rfl (pam_cons (pem_var 1 (pv 1)) (pam_cons (pem_int) (pam_nil))) rfl)))) (pam_nil)))) (psm_one (psm_expr (pem_append (pv 7) (pem_tup (pam_cons (pem_ix (pem_var 6 (pv 6)) (pem_var 8 (pv 8))) (pam_cons (pem_var 10 (pv 10)) (pam_cons (pem_ix (pem_var 5 (pv 5)) (pem_callD D__law_next hct hr tk rfl (pam_cons (pem_var 1 (pv 1)) (pam_cons (pem_int) (pam_nil))) rfl)) (pam_nil)))))))))))) (psm_cons (psm_for (passes_of rfl) rfl (pim_range1 rfl T.b_range (pam_cons (pem_var 4 (pv 4)) (pam_nil))) (pgm_name (pg_name (i := 8) sc__law_names.nd rfl (Or.inl rfl))) (psm_one (psm_expr (pem_append (pv 6) (pem_callD D__law_name hct hr tk rfl (pam_cons (pem_var 1 (pv 1)) (pam_cons (pem_var 6 (pv 6)) (pam_nil))) rfl))))) (psm_one (psm_ret (pem_lst (pam_cons (pem_var 2 (pv 2)) (pam_cons (pem_callTy call_tuple_of rfl T.b_tuple (by rfl) g_tupC (pam_cons (pem_var 7 (pv 7)) (pam_nil))) (pam_cons (pem_callTy call_tuple_of rfl T.b_tuple (by rfl) g_tupC (pam_cons (pem_slice (pem_var 6 (pv 6)) (pom_some (pem_var 3 (pv 3))) pom_none) (pam_nil))) (pam_nil))))))))))))))))
/-! _law_may -/
theorem sc__law_may : FnScope ["_law_signature", "_law_kind", "_law_begun", "_law_opened"] ["_law_signature", "_law_kind", "_law_begun", "_law_opened"] (defScope s__law_may) := ⟨rfl, rfl, rfl, by decide +kernel, rfl, by decide +kernel, by decide +kernel⟩
def body__law_may (m__law_said : List W → FR) (m__law_heard : List W → FR) : Rho → ML.R Fl := mSeq (mIf (mTest (mOp gEq (mCB gLen [mVar 3]) (mC (.int 0)))) (mRet [] (mIfE (mTest (mVar 2)) (mLst [] []) (mLst [] [mC (.str "run")]))) (mNext)) (mSeq (mIf (mTest (mOp (gIn false) (mOp gIx (mSplit (mOp gIx (mVar 3) (mNeg (mC (.int 1)))) (mC (.str " "))) (mC (.int 0))) (mTup [] [mC (.str "run"), mC (.str "ask")]))) (mRet [] (mCall [] [] m__law_said [mOp gIx (mVar 0) (mC (.int 0)), mVar 1, mOp gIx (mVar 0) (mC (.int 1)), mOp gIx (mVar 0) (mC (.int 2)), mVar 3])) (mNext)) (mRet [] (mCall [] [] m__law_heard [mOp gIx (mVar 0) (mC (.int 0)), mOp gIx (mVar 0) (mC (.int 1)), mVar 3])))
def fun__law_may (m__law_said : List W → FR) (m__law_heard : List W → FR) : List W → FR := mFun [] 4 (body__law_may m__law_said m__law_heard)
theorem def__law_may (T : Txt w K mg) {m__law_said : List W → FR} (D__law_said : Def P w K mg base (He.ga K) k "_law_said" ["_law_size", "_law_kind", "_law_procedures", "_law_cells", "_law_opened"] [] m__law_said) {m__law_heard : List W → FR} (D__law_heard : Def P w K mg base (He.ga K) k "_law_heard" ["_law_size", "_law_procedures", "_law_opened"] [] m__law_heard) : Def P w K mg base (He.ga K) (k + 1) "_law_may" ["_law_signature", "_law_kind", "_law_begun", "_law_opened"] [] (fun__law_may m__law_said m__law_heard) :=
  def_mk (N := ["_law_signature", "_law_kind", "_law_begun", "_law_opened"]) (g := body__law_may m__law_said m__law_heard) T.s__law_may sc__law_may (by decide) (fun _ _ _ _ _ _ us hl => match us, hl with | [_, _, _, _], _ => rfl) fun f cdv A outer s H E Y hr hct tk =>
    (psm_cons (psm_if (ptm_cmp (o_eq (hu200 hr)) g_eq (pem_callB (call_len) rfl T.b_len (by rfl) g_len (pam_cons (pem_var 3 (pv 3)) (pam_nil))) (pem_int) (nomark _)) (psm_one (psm_ret (pem_ifE (ptm_val (pem_var 2 (pv 2))) (pem_lst (pam_nil)) (pem_lst (pam_cons (pem_str) (pam_nil)))))) (psm_nil)) (psm_cons (psm_if (ptm_cmp o_in g_in (pem_ix (pem_split (pem_ix (pem_var 3 (pv 3)) (pem_neg (pem_int))) (pem_str)) (pem_int)) (pem_tup (pam_cons (pem_str) (pam_cons (pem_str) (pam_nil)))) rfl) (psm_one (psm_ret (pem_callD D__law_said hct hr tk rfl (pam_cons (pem_ix (pem_var 0 (pv 0)) (pem_int)) (pam_cons (pem_var 1 (pv 1)) (pam_cons (pem_ix (pem_var 0 (pv 0)) (pem_int)) (pam_cons (pem_ix (pem_var 0 (pv 0)) (pem_int)) (pam_cons (pem_var 3 (pv 3)) (pam_nil)))))) rfl))) (psm_nil)) (psm_one (psm_ret (pem_callD D__law_heard hct hr tk rfl (pam_cons (pem_ix (pem_var 0 (pv 0)) (pem_int)) (pam_cons (pem_ix (pem_var 0 (pv 0)) (pem_int)) (pam_cons (pem_var 3 (pv 3)) (pam_nil)))) rfl)))))
/-! _law_row -/
theorem sc__law_row : FnScope ["_law_signature", "_law_kind", "_law_cell_here", "_law_reader_here", "_law_length", "_law_ends", "_law_row_here", "_law_opened", "_law_k", "_law_choices", "_law_pick", "_law_late", "_law_move"] ["_law_signature", "_law_kind", "_law_cell_here"] (defScope s__law_row) := ⟨rfl, rfl, rfl, by decide +kernel, rfl, by decide +kernel, by decide +kernel⟩
def body__law_row (m__law_reader : List W → FR) (m__law_next : List W → FR) (m__law_may : List W → FR) (m__law_after : List W → FR) : Rho → ML.R Fl := mSeq (mSet [] 3 (mCall [] [] m__law_reader [mVar 2])) (mSeq (mSet [] 4 (mCall [] [0] m__law_next [mVar 3, mC (.int 16)])) (mSeq (mIf (mTest (mOp gEq (mCall [] [0] m__law_next [mVar 3, mC (.int 5)]) (mC (.int 0)))) (mSet [] 4 (mOp gAdd (mVar 4) (mCall [] [0] m__law_next [mVar 3, mOp gIx (mLst [] [mC (.int 30), mC (.int 30), mC (.int 30), mC (.int 150)]) (mCall [] [0] m__law_next [mVar 3, mC (.int 4)])]))) (mNext)) (mSeq (mSet [] 5 (mIfE (mTest (mOp gEq (mVar 1) (mC (.str "command")))) (mC (.int 1)) (mOp gIx (mVar 0) (mC (.int 0))))) (mSeq (mSet [] 6 (mLst [] [])) (mSeq (mSet [] 7 (mTup [] [])) (mSeq (mFor (mRange1 [mVar 4]) (gSet [] 8) (mSeq (mSet [] 9 (mCall [] [] m__law_may [mVar 0, mVar 1, mOp (gCmp (fun i j => decide (j < i))) (mVar 8) (mC (.int 0)), mVar 7])) (mSeq (mIf (mTest (mOp gEq (mCB gLen [mVar 9]) (mC (.int 0)))) (mBreak) (mNext)) (mSeq (mSet [] 10 (mCall [] [0] m__law_next [mVar 3, mC (.int 5040)])) (mSeq (mSet [] 11 (mOp (gCmp (fun i j => decide (j ≤ i))) (mVar 8) (mOp gFdiv (mOp gMul (mVar 4) (mC (.int 3))) (mC (.int 4))))) (mSeq (mIf (mOr (mTest (mVar 11)) (mAnd (mTest (mOp (gCmp (fun i j => decide (j < i))) (mCB gLen [mVar 7]) (mC (.int 1)))) (mTest (mOp gEq (mCall [] [0] m__law_next [mVar 3, mC (.int 3)]) (mC (.int 0)))))) (mSet [] 12 (mOp gIx (mVar 9) (mOp gSub (mOp gSub (mCB gLen [mVar 9]) (mC (.int 1))) (mOp gMod (mOp gFdiv (mVar 10) (mC (.int 2))) (mCB gMin [mC (.int 2), mCB gLen [mVar 9]]))))) (mIf (mAnd (mTest (mOp gEq (mCB gLen [mVar 7]) (mC (.int 1)))) (mTest (mOp (gCmp (fun i j => decide (j < i))) (mCB gLen [mVar 9]) (mVar 5)))) (mSet [] 12 (mOp gIx (mVar 9) (mOp gMod (mVar 10) (mOp gSub (mCB gLen [mVar 9]) (mVar 5))))) (mSet [] 12 (mOp gIx (mVar 9) (mOp gMod (mVar 10) (mCB gLen [mVar 9])))))) (mSeq (mDrop (mAppend 6 [] (mVar 12))) (mSet [] 7 (mCall [] [] m__law_after [mVar 7, mVar 12]))))))))) (mRet [] (mVar 6))))))))
def fun__law_row (m__law_reader : List W → FR) (m__law_next : List W → FR) (m__law_may : List W → FR) (m__law_after : List W → FR) : List W → FR := mFun [] 13 (body__law_row m__law_reader m__law_next m__law_may m__law_after)
theorem def__law_row (T : Txt w K mg) {m__law_reader : List W → FR} (D__law_reader : Def P w K mg base (He.ga K) k "_law_reader" ["_law_cell_here"] [] m__law_reader) {m__law_next : List W → FR} (D__law_next : Def P w K mg base (He.ga K) k "_law_next" ["_law_reader_here", "_law_many"] [0] m__law_next) {m__law_may : List W → FR} (D__law_may : Def P w K mg base (He.ga K) k "_law_may" ["_law_signature", "_law_kind", "_law_begun", "_law_opened"] [] m__law_may) {m__law_after : List W → FR} (D__law_after : Def P w K mg base (He.ga K) k "_law_after" ["_law_opened", "_law_move"] [] m__law_after) : Def P w K mg base (He.ga K) (k + 1) "_law_row" ["_law_signature", "_law_kind", "_law_cell_here"] [] (fun__law_row m__law_reader m__law_next m__law_may m__law_after) :=
  def_mk (N := ["_law_signature", "_law_kind", "_law_cell_here", "_law_reader_here", "_law_length", "_law_ends", "_law_row_here", "_law_opened", "_law_k", "_law_choices", "_law_pick", "_law_late", "_law_move"]) (g := body__law_row m__law_reader m__law_next m__law_may m__law_after) T.s__law_row sc__law_row (by decide) (fun _ _ _ _ _ _ us hl => match us, hl with | [_, _, _], _ => rfl) fun f cdv A outer s H E Y hr hct tk =>
    (psm_cons (psm_set (i := 3) sc__law_row.nd rfl (Or.inl rfl) (pem_callD D__law_reader hct hr tk rfl (pam_cons (pem_var 2 (pv 2)) (pam_nil)) rfl)) (psm_cons (psm_set (i := 4) sc__law_row.nd rfl (Or.inl rfl) (pem_callD D__law_next hct hr tk rfl (pam_cons (pem_var 3 (pv 3)) (pam_cons (pem_int) (pam_nil))) rfl)) (psm_cons (psm_if (ptm_cmp (o_eq (hu200 hr)) g_eq (pem_callD D__law_next hct hr tk rfl (pam_cons (pem_var 3 (pv 3)) (pam_cons (pem_int) (pam_nil))) rfl) (pem_int) (nomark _)) (psm_one (psm_set (i := 4) sc__law_row.nd rfl (Or.inl rfl) (pem_op o_add g_add (pem_var 4 (pv 4)) (pem_callD D__law_next hct hr tk rfl (pam_cons (pem_var 3 (pv 3)) (pam_cons (pem_ix (pem_lst (pam_cons (pem_int) (pam_cons (pem_int) (pam_cons (pem_int) (pam_cons (pem_int) (pam_nil)))))) (pem_callD D__law_next hct hr tk rfl (pam_cons (pem_var 3 (pv 3)) (pam_cons (pem_int) (pam_nil))) rfl)) (pam_nil))) rfl)))) (psm_nil)) (psm_cons (psm_set (i := 5) sc__law_row.nd rfl (Or.inl rfl) (pem_ifE (ptm_cmp (o_eq (hu200 hr)) g_eq (pem_var 1 (pv 1)) (pem_str) (nomark _)) (pem_int) (pem_ix (pem_var 0 (pv 0)) (pem_int)))) (psm_cons (psm_set (i := 6) sc__law_row.nd rfl (Or.inl rfl) (pem_lst (pam_nil))) (psm_cons (psm_set (i := 7) sc__law_row.nd rfl (Or.inl rfl) (pem_tup (pam_nil))) (psm_cons (psm_for (passes_of rfl) rfl (pim_range1 rfl T.b_range (pam_cons (pem_var 4 (pv 4)) (pam_nil))) (pgm_name (pg_name (i := 8) sc__law_row.nd rfl (Or.inl rfl))) (psm_cons (psm_set (i := 9) sc__law_row.nd rfl (Or.inl rfl) (pem_callD D__law_may hct hr tk rfl (pam_cons (pem_var 0 (pv 0)) (pam_cons (pem_var 1 (pv 1)) (pam_cons (pem_cmp op_gt g_cmp (pem_var 8 (pv 8)) (pem_int) (nomark _)) (pam_cons (pem_var 7 (pv 7)) (pam_nil))))) rfl)) (psm_cons (psm_if (ptm_cmp (o_eq (hu200 hr)) g_eq (pem_callB (call_len) rfl T.b_len (by rfl) g_len (pam_cons (pem_var 9 (pv 9)) (pam_nil))) (pem_int) (nomark _)) (psm_one (psm_break)) (psm_nil)) (psm_cons (psm_set (i := 10) sc__law_row.nd rfl (Or.inl rfl) (pem_callD D__law_next hct hr tk rfl (pam_cons (pem_var 3 (pv 3)) (pam_cons (pem_int) (pam_nil))) rfl)) (psm_cons (psm_set (i := 11) sc__law_row.nd rfl (Or.inl rfl) (pem_cmp op_ge g_cmp (pem_var 8 (pv 8)) (pem_op op_fdiv g_fdiv (pem_op o_mul g_mul (pem_var 4 (pv 4)) (pem_int)) (pem_int)) (nomark _))) (psm_cons (psm_if (PW.pt (pwm_or (ptm_val (pem_var 11 (pv 11))) (pwm_or1 (PW.pt (pwm_and (ptm_cmp op_gt g_cmp (pem_callB (call_len) rfl T.b_len (by rfl) g_len (pam_cons (pem_var 7 (pv 7)) (pam_nil))) (pem_int) (nomark _)) (pwm_and1 (ptm_cmp (o_eq (hu200 hr)) g_eq (pem_callD D__law_next hct hr tk rfl (pam_cons (pem_var 3 (pv 3)) (pam_cons (pem_int) (pam_nil))) rfl) (pem_int) (nomark _)))))))) (psm_one (psm_set (i := 12) sc__law_row.nd rfl (Or.inl rfl) (pem_ix (pem_var 9 (pv 9)) (pem_op o_sub g_sub (pem_op o_sub g_sub (pem_callB (call_len) rfl T.b_len (by rfl) g_len (pam_cons (pem_var 9 (pv 9)) (pam_nil))) (pem_int)) (pem_op op_mod g_mod (pem_op op_fdiv g_fdiv (pem_var 10 (pv 10)) (pem_int)) (pem_callB (call_min2 rfl) rfl T.b_min (by rfl) g_min (pam_cons (pem_int) (pam_cons (pem_callB (call_len) rfl T.b_len (by rfl) g_len (pam_cons (pem_var 9 (pv 9)) (pam_nil))) (pam_nil))))))))) (psm_one (psm_if (PW.pt (pwm_and (ptm_cmp (o_eq (hu200 hr)) g_eq (pem_callB (call_len) rfl T.b_len (by rfl) g_len (pam_cons (pem_var 7 (pv 7)) (pam_nil))) (pem_int) (nomark _)) (pwm_and1 (ptm_cmp op_gt g_cmp (pem_callB (call_len) rfl T.b_len (by rfl) g_len (pam_cons (pem_var 9 (pv 9)) (pam_nil))) (pem_var 5 (pv 5)) (nomark _))))) (psm_one (psm_set (i := 12) sc__law_row.nd rfl (Or.inl rfl) (pem_ix (pem_var 9 (pv 9)) (pem_op op_mod g_mod (pem_var 10 (pv 10)) (pem_op o_sub g_sub (pem_callB (call_len) rfl T.b_len (by rfl) g_len (pam_cons (pem_var 9 (pv 9)) (pam_nil))) (pem_var 5 (pv 5))))))) (psm_one (psm_set (i := 12) sc__law_row.nd rfl (Or.inl rfl) (pem_ix (pem_var 9 (pv 9)) (pem_op op_mod g_mod (pem_var 10 (pv 10)) (pem_callB (call_len) rfl T.b_len (by rfl) g_len (pam_cons (pem_var 9 (pv 9)) (pam_nil)))))))))) (psm_cons (psm_expr (pem_append (pv 6) (pem_var 12 (pv 12)))) (psm_one (psm_set (i := 7) sc__law_row.nd rfl (Or.inl rfl) (pem_callD D__law_after hct hr tk rfl (pam_cons (pem_var 7 (pv 7)) (pam_cons (pem_var 12 (pv 12)) (pam_nil))) rfl)))))))))) (psm_one (psm_ret (pem_var 6 (pv 6)))))))))))
/-! _law_judge -/
theorem sc__law_judge : FnScope ["_law_signature", "_law_kind", "_law_row_here", "_law_opened", "_law_choices", "_law_k"] ["_law_signature", "_law_kind", "_law_row_here"] (defScope s__law_judge) := ⟨rfl, rfl, rfl, by decide +kernel, rfl, by decide +kernel, by decide +kernel⟩
def body__law_judge (m__law_after : List W → FR) (m__law_may : List W → FR) : Rho → ML.R Fl := mSeq (mSet [] 3 (mTup [] [])) (mSeq (mSet [] 4 (mLst [] [mC (.str "run")])) (mSeq (mFor (mRange1 [mCB gLen [mVar 2]]) (gSet [] 5) (mSeq (mIf (mTest (mOp (gIn true) (mOp gIx (mVar 2) (mVar 5)) (mVar 4))) (mRet [] (mLst [] [mVar 5, mVar 3, mVar 4])) (mNext)) (mSeq (mSet [] 3 (mCall [] [] m__law_after [mVar 3, mOp gIx (mVar 2) (mVar 5)])) (mSet [] 4 (mCall [] [] m__law_may [mVar 0, mVar 1, mC (.bl true), mVar 3]))))) (mRet [] (mLst [] [mNeg (mC (.int 1)), mVar 3, mVar 4]))))
def fun__law_judge (m__law_after : List W → FR) (m__law_may : List W → FR) : List W → FR := mFun [] 6 (body__law_judge m__law_after m__law_may)
theorem def__law_judge (T : Txt w K mg) {m__law_after : List W → FR} (D__law_after : Def P w K mg base (He.ga K) k "_law_after" ["_law_opened", "_law_move"] [] m__law_after) {m__law_may : List W → FR} (D__law_may : Def P w K mg base (He.ga K) k "_law_may" ["_law_signature", "_law_kind", "_law_begun", "_law_opened"] [] m__law_may) : Def P w K mg base (He.ga K) (k + 1) "_law_judge" ["_law_signature", "_law_kind", "_law_row_here"] [] (fun__law_judge m__law_after m__law_may) :=
  def_mk (N := ["_law_signature", "_law_kind", "_law_row_here", "_law_opened", "_law_choices", "_law_k"]) (g := body__law_judge m__law_after m__law_may) T.s__law_judge sc__law_judge (by decide) (fun _ _ _ _ _ _ us hl => match us, hl with | [_, _, _], _ => rfl) fun f cdv A outer s H E Y hr hct tk =>
    (psm_cons (psm_set (i := 3) sc__law_judge.nd rfl (Or.inl rfl) (pem_tup (pam_nil))) (psm_cons (psm_set (i := 4) sc__law_judge.nd rfl (Or.inl rfl) (pem_lst (pam_cons (pem_str) (pam_nil)))) (psm_cons (psm_for (passes_of rfl) rfl (pim_range1 rfl T.b_range (pam_cons (pem_callB (call_len) rfl T.b_len (by rfl) g_len (pam_cons (pem_var 2 (pv 2)) (pam_nil))) (pam_nil))) (pgm_name (pg_name (i := 5) sc__law_judge.nd rfl (Or.inl rfl))) (psm_cons (psm_if (ptm_cmp o_notin g_in (pem_ix (pem_var 2 (pv 2)) (pem_var 5 (pv 5))) (pem_var 4 (pv 4)) rfl) (psm_one (psm_ret (pem_lst (pam_cons (pem_var 5 (pv 5)) (pam_cons (pem_var 3 (pv 3)) (pam_cons (pem_var 4 (pv 4)) (pam_nil))))))) (psm_nil)) (psm_cons (psm_set (i := 3) sc__law_judge.nd rfl (Or.inl rfl) (pem_callD D__law_after hct hr tk rfl (pam_cons (pem_var 3 (pv 3)) (pam_cons (pem_ix (pem_var 2 (pv 2)) (pem_var 5 (pv 5))) (pam_nil))) rfl)) (psm_one (psm_set (i := 4) sc__law_judge.nd rfl (Or.inl rfl) (pem_callD D__law_may hct hr tk rfl (pam_cons (pem_var 0 (pv 0)) (pam_cons (pem_var 1 (pv 1)) (pam_cons (pem_bl) (pam_cons (pem_var 3 (pv 3)) (pam_nil))))) rfl)))))) (psm_one (psm_ret (pem_lst (pam_cons (pem_neg (pem_int)) (pam_cons (pem_var 3 (pv 3)) (pam_cons (pem_var 4 (pv 4)) (pam_nil))))))))))
/-! _law_odd -/
theorem sc__law_odd : FnScope ["_law_reader_here", "_law_signature", "_law_size", "_law_number", "_law_strange", "_law_pick", "_law_cell_here", "_law_moves", "_law_turn", "_law_triple_here", "_law_name_here", "_law_index"] ["_law_reader_here", "_law_signature"] (defScope s__law_odd) := ⟨rfl, rfl, rfl, by decide +kernel, rfl, by decide +kernel, by decide +kernel⟩
def body__law_odd (m__law_next : List W → FR) : Rho → ML.R Fl := mSeq (mSet [0] 2 (mOp gIx (mVar 1) (mC (.int 0)))) (mSeq (mSet [0] 3 (mCB gStr [mCall [0] [0] m__law_next [mVar 0, mOp gAdd (mVar 2) (mC (.int 1))]])) (mSeq (mSet [0] 4 (mLst [0] [mC (.str ""), mC (.str "run "), mC (.str " run"), mC (.str "Run"), mC (.str "call"), mC (.str "run 0"), mC (.str "end -1"), mC (.str "end 00"), mC (.str "call zz9"), mC (.str "get zz9"), mC (.str "run\n"), mC (.str "ask"), mC (.str "end  1")])) (mSeq (mSet [0] 5 (mCall [0] [0] m__law_next [mVar 0, mC (.int 6)])) (mSeq (mIf (mTest (mOp gEq (mVar 5) (mC (.int 0)))) (mRet [0] (mOp gIx (mVar 4) (mCall [0] [0] m__law_next [mVar 0, mC (.int 13)]))) (mNext)) (mSeq (mIf (mOr (mTest (mOp gEq (mVar 5) (mC (.int 1)))) (mTest (mOp gEq (mOp gAdd (mCB gLen [mOp gIx (mVar 1) (mC (.int 1))]) (mCB gLen [mOp gIx (mVar 1) (mC (.int 2))])) (mC (.int 0))))) (mRet [0] (mOp gIx (mLst [0] [mC (.str "run"), mC (.str "end"), mOp gAdd (mC (.str "end ")) (mVar 3), mOp gAdd (mC (.str "end ")) (mCB gStr [mOp gSub (mVar 2) (mC (.int 1))])]) (mCall [0] [0] m__law_next [mVar 0, mC (.int 4)]))) (mNext)) (mSeq (mIf (mOr (mTest (mOp gEq (mCB gLen [mOp gIx (mVar 1) (mC (.int 1))]) (mC (.int 0)))) (mAnd (mTest (mOp (gCmp (fun i j => decide (j < i))) (mCB gLen [mOp gIx (mVar 1) (mC (.int 2))]) (mC (.int 0)))) (mTest (mOp gEq (mVar 5) (mC (.int 2)))))) (mSeq (mSet [0] 6 (mOp gIx (mOp gIx (mVar 1) (mC (.int 2))) (mCall [0] [0] m__law_next [mVar 0, mCB gLen [mOp gIx (mVar 1) (mC (.int 2))]]))) (mSeq (mSet [0] 7 (mLst [0] [mC (.str "get "), mC (.str "set "), mC (.str "is "), mC (.str "kept "), mC (.str "set "), mC (.str "is "), mC (.str "call "), mC (.str "kept ")])) (mSeq (mSet [0] 8 (mCall [0] [0] m__law_next [mVar 0, mC (.int 8)])) (mRet [0] (mOp gAdd (mOp gAdd (mOp gIx (mVar 7) (mVar 8)) (mVar 6)) (mOp gIx (mLst [0] [mC (.str ""), mOp gAdd (mC (.str " ")) (mVar 3), mOp gAdd (mC (.str " ")) (mVar 3), mC (.str ""), mC (.str ""), mC (.str ""), mC (.str ""), mC (.str " 0")]) (mVar 8))))))) (mNext)) (mSeq (mSet [0] 9 (mOp gIx (mOp gIx (mVar 1) (mC (.int 1))) (mCall [0] [0] m__law_next [mVar 0, mCB gLen [mOp gIx (mVar 1) (mC (.int 1))]]))) (mSeq (mSet [0] 10 (mOp gIx (mVar 9) (mC (.int 0)))) (mSeq (mSet [0] 11 (mOp gAdd (mC (.str " ")) (mCB gStr [mCall [0] [0] m__law_next [mVar 0, mOp gAdd (mCB gLen [mOp gIx (mVar 9) (mC (.int 1))]) (mC (.int 1))]]))) (mSeq (mSet [0] 7 (mLst [0] [mOp gAdd (mC (.str "call ")) (mVar 10), mOp gAdd (mOp gAdd (mC (.str "ask ")) (mVar 10)) (mVar 11), mOp gAdd (mC (.str "back ")) (mVar 10), mOp gAdd (mOp gAdd (mOp gAdd (mC (.str "back ")) (mVar 10)) (mC (.str " "))) (mVar 3), mOp gAdd (mOp gAdd (mC (.str "told ")) (mVar 10)) (mVar 11)])) (mSeq (mSet [0] 7 (mOp gAdd (mVar 7) (mLst [0] [mOp gAdd (mOp gAdd (mOp gAdd (mOp gAdd (mC (.str "told ")) (mVar 10)) (mVar 11)) (mC (.str " "))) (mVar 3), mOp gAdd (mC (.str "ask ")) (mVar 10), mOp gAdd (mC (.str "told ")) (mVar 10), mOp gAdd (mOp gAdd (mC (.str "call ")) (mVar 10)) (mC (.str " ")), mOp gAdd (mC (.str "get ")) (mVar 10)]))) (mRet [0] (mOp gIx (mVar 7) (mCall [0] [0] m__law_next [mVar 0, mC (.int 10)]))))))))))))))
def fun__law_odd (m__law_next : List W → FR) : List W → FR := mFun [0] 12 (body__law_odd m__law_next)
theorem def__law_odd (T : Txt w K mg) {m__law_next : List W → FR} (D__law_next : Def P w K mg base (He.ga K) k "_law_next" ["_law_reader_here", "_law_many"] [0] m__law_next) : Def P w K mg base (He.ga K) (k + 1) "_law_odd" ["_law_reader_here", "_law_signature"] [0] (fun__law_odd m__law_next) :=
  def_mk (N := ["_law_reader_here", "_law_signature", "_law_size", "_law_number", "_law_strange", "_law_pick", "_law_cell_here", "_law_moves", "_law_turn", "_law_triple_here", "_law_name_here", "_law_index"]) (g := body__law_odd m__law_next) T.s__law_odd sc__law_odd (by decide) (fun _ _ _ _ _ _ us hl => match us, hl with | [_, _], _ => rfl) fun f cdv A outer s H E Y hr hct tk =>
    (psm_cons (psm_set (i := 2) sc__law_odd.nd rfl (Or.inl rfl) (pem_ix (pem_var 1 (pv 1)) (pem_int))) (psm_cons (psm_set (i := 3) sc__law_odd.nd rfl (Or.inl rfl) (pem_callTy c_str rfl T.b_str (by rfl) g_str (pam_cons (pem_callD D__law_next hct hr tk rfl (pam_cons (pem_var 0 (pv 0)) (pam_cons (pem_op o_add g_add (pem_var 2 (pv 2)) (pem_int)) (pam_nil))) rfl) (pam_nil)))) (psm_cons (psm_set (i := 4) sc__law_odd.nd rfl (Or.inl rfl) (pem_lst (pam_cons (pem_str) (pam_cons (pem_str) (pam_cons (pem_str) (pam_cons (pem_str) (pam_cons (pem_str) (pam_cons (pem_str) (pam_cons (pem_str) (pam_cons (pem_str) (pam_cons (pem_str) (pam_cons (pem_str) (pam_cons (pem_str) (pam_cons (pem_str) (pam_cons (pem_str) (pam_nil)))))))))))))))) (psm_cons (psm_set (i := 5) sc__law_odd.nd rfl (Or.inl rfl) (pem_callD D__law_next hct hr tk rfl (pam_cons (pem_var 0 (pv 0)) (pam_cons (pem_int) (pam_nil))) rfl)) (psm_cons (psm_if (ptm_cmp (o_eq (hu200 hr)) g_eq (pem_var 5 (pv 5)) (pem_int) (nomark _)) (psm_one (psm_ret (pem_ix (pem_var 4 (pv 4)) (pem_callD D__law_next hct hr tk rfl (pam_cons (pem_var 0 (pv 0)) (pam_cons (pem_int) (pam_nil))) rfl)))) (psm_nil)) (psm_cons (psm_if (PW.pt (pwm_or (ptm_cmp (o_eq (hu200 hr)) g_eq (pem_var 5 (pv 5)) (pem_int) (nomark _)) (pwm_or1 (ptm_cmp (o_eq (hu200 hr)) g_eq (pem_op o_add g_add (pem_callB (call_len) rfl T.b_len (by rfl) g_len (pam_cons (pem_ix (pem_var 1 (pv 1)) (pem_int)) (pam_nil))) (pem_callB (call_len) rfl T.b_len (by rfl) g_len (pam_cons (pem_ix (pem_var 1 (pv 1)) (pem_int)) (pam_nil)))) (pem_int) (nomark _))))) (psm_one (psm_ret (pem_ix (pem_lst (pam_cons (pem_str) (pam_cons (pem_str) (pam_cons (pem_op o_add g_add (pem_str) (pem_var 3 (pv 3))) (pam_cons (pem_op o_add g_add (pem_str) (pem_callTy c_str rfl T.b_str (by rfl) g_str (pam_cons (pem_op o_sub g_sub (pem_var 2 (pv 2)) (pem_int)) (pam_nil)))) (pam_nil)))))) (pem_callD D__law_next hct hr tk rfl (pam_cons (pem_var 0 (pv 0)) (pam_cons (pem_int) (pam_nil))) rfl)))) (psm_nil)) (psm_cons (psm_if (PW.pt (pwm_or (ptm_cmp (o_eq (hu200 hr)) g_eq (pem_callB (call_len) rfl T.b_len (by rfl) g_len (pam_cons (pem_ix (pem_var 1 (pv 1)) (pem_int)) (pam_nil))) (pem_int) (nomark _)) (pwm_or1 (PW.pt (pwm_and (ptm_cmp op_gt g_cmp (pem_callB (call_len) rfl T.b_len (by rfl) g_len (pam_cons (pem_ix (pem_var 1 (pv 1)) (pem_int)) (pam_nil))) (pem_int) (nomark _)) (pwm_and1 (ptm_cmp (o_eq (hu200 hr)) g_eq (pem_var 5 (pv 5)) (pem_int) (nomark _)))))))) (psm_cons (psm_set (i := 6) sc__law_odd.nd rfl (Or.inl rfl) (pem_ix (pem_ix (pem_var 1 (pv 1)) (pem_int)) (pem_callD D__law_next hct hr tk rfl (pam_cons (pem_var 0 (pv 0)) (pam_cons (pem_callB (call_len) rfl T.b_len (by rfl) g_len (pam_cons (pem_ix (pem_var 1 (pv 1)) (pem_int)) (pam_nil))) (pam_nil))) rfl))) (psm_cons (psm_set (i := 7) sc__law_odd.nd rfl (Or.inl rfl) (pem_lst (pam_cons (pem_str) (pam_cons (pem_str) (pam_cons (pem_str) (pam_cons (pem_str) (pam_cons (pem_str) (pam_cons (pem_str) (pam_cons (pem_str) (pam_cons (pem_str) (pam_nil))))))))))) (psm_cons (psm_set (i := 8) sc__law_odd.nd rfl (Or.inl rfl) (pem_callD D__law_next hct hr tk rfl (pam_cons (pem_var 0 (pv 0)) (pam_cons (pem_int) (pam_nil))) rfl)) (psm_one (psm_ret (pem_op o_add g_add (pem_op o_add g_add (pem_ix (pem_var 7 (pv 7)) (pem_var 8 (pv 8))) (pem_var 6 (pv 6))) (pem_ix (pem_lst (pam_cons (pem_str) (pam_cons (pem_op o_add g_add (pem_str) (pem_var 3 (pv 3))) (pam_cons (pem_op o_add g_add (pem_str) (pem_var 3 (pv 3))) (pam_cons (pem_str) (pam_cons (pem_str) (pam_cons (pem_str) (pam_cons (pem_str) (pam_cons (pem_str) (pam_nil)))))))))) (pem_var 8 (pv 8))))))))) (psm_nil)) (psm_cons (psm_set (i := 9) sc__law_odd.nd rfl (Or.inl rfl) (pem_ix (pem_ix (pem_var 1 (pv 1)) (pem_int)) (pem_callD D__law_next hct hr tk rfl (pam_cons (pem_var 0 (pv 0)) (pam_cons (pem_callB (call_len) rfl T.b_len (by rfl) g_len (pam_cons (pem_ix (pem_var 1 (pv 1)) (pem_int)) (pam_nil))) (pam_nil))) rfl))) (psm_cons (psm_set (i := 10) sc__law_odd.nd rfl (Or.inl rfl) (pem_ix (pem_var 9 (pv 9)) (pem_int))) (psm_cons (psm_set (i := 11) sc__law_odd.nd rfl (Or.inl rfl) (pem_op o_add g_add (pem_str) (pem_callTy c_str rfl T.b_str (by rfl) g_str (pam_cons (pem_callD D__law_next hct hr tk rfl (pam_cons (pem_var 0 (pv 0)) (pam_cons (pem_op o_add g_add (pem_callB (call_len) rfl T.b_len (by rfl) g_len (pam_cons (pem_ix (pem_var 9 (pv 9)) (pem_int)) (pam_nil))) (pem_int)) (pam_nil))) rfl) (pam_nil))))) (psm_cons (psm_set (i := 7) sc__law_odd.nd rfl (Or.inl rfl) (pem_lst (pam_cons (pem_op o_add g_add (pem_str) (pem_var 10 (pv 10))) (pam_cons (pem_op o_add g_add (pem_op o_add g_add (pem_str) (pem_var 10 (pv 10))) (pem_var 11 (pv 11))) (pam_cons (pem_op o_add g_add (pem_str) (pem_var 10 (pv 10))) (pam_cons (pem_op o_add g_add (pem_op o_add g_add (pem_op o_add g_add (pem_str) (pem_var 10 (pv 10))) (pem_str)) (pem_var 3 (pv 3))) (pam_cons (pem_op o_add g_add (pem_op o_add g_add (pem_str) (pem_var 10 (pv 10))) (pem_var 11 (pv 11))) (pam_nil)))))))) (psm_cons (psm_set (i := 7) sc__law_odd.nd rfl (Or.inl rfl) (pem_op o_add g_add (pem_var 7 (pv 7)) (pem_lst (pam_cons (pem_op o_add g_add (pem_op o_add g_add (pem_op o_add g_add (pem_op o_add g_add (pem_str) (pem_var 10 (pv 10))) (pem_var 11 (pv 11))) (pem_str)) (pem_var 3 (pv 3))) (pam_cons (pem_op o_add g_add (pem_str) (pem_var 10 (pv 10))) (pam_cons (pem_op o_add g_add (pem_str) (pem_var 10 (pv 10))) (pam_cons (pem_op o_add g_add (pem_op o_add g_add (pem_str) (pem_var 10 (pv 10))) (pem_str)) (pam_cons (pem_op o_add g_add (pem_str) (pem_var 10 (pv 10))) (pam_nil))))))))) (psm_one (psm_ret (pem_ix (pem_var 7 (pv 7)) (pem_callD D__law_next hct hr tk rfl (pam_cons (pem_var 0 (pv 0)) (pam_cons (pem_int) (pam_nil))) rfl))))))))))))))))
/-! _law_flawed -/
theorem sc__law_flawed : FnScope ["_law_move", "_law_pick", "_law_last", "_law_words"] ["_law_move", "_law_pick"] (defScope s__law_flawed) := ⟨rfl, rfl, rfl, by decide +kernel, rfl, by decide +kernel, by decide +kernel⟩
def body__law_flawed : Rho → ML.R Fl := mSeq (mSet [] 2 (mSl (mVar 0) (some (mOp gSub (mCB gLen [mVar 0]) (mC (.int 1)))) none)) (mSeq (mSet [] 3 (mSplit (mVar 0) (mC (.str " ")))) (mSeq (mIf (mTest (mOp (gCmp (fun i j => decide (i < j))) (mVar 1) (mC (.int 4)))) (mRet [] (mOp gIx (mLst [] [mOp gAdd (mVar 0) (mC (.str " ")), mOp gAdd (mC (.str " ")) (mVar 0), mOp gAdd (mVar 0) (mC (.str "\n")), mOp gAdd (mVar 0) (mC (.str " 0"))]) (mVar 1))) (mNext)) (mSeq (mIf (mTest (mOp (gCmp (fun i j => decide (i < j))) (mVar 1) (mC (.int 7)))) (mRet [] (mOp gAdd (mOp gAdd (mSl (mVar 0) none (some (mOp gSub (mCB gLen [mVar 0]) (mC (.int 1))))) (mOp gIx (mLst [] [mC (.str "0"), mC (.str "+"), mC (.str "-")]) (mOp gSub (mVar 1) (mC (.int 4))))) (mVar 2))) (mNext)) (mSeq (mIf (mTest (mOp gEq (mVar 1) (mC (.int 7)))) (mRet [] (mJoin (mC (.str "  ")) (mVar 3))) (mNext)) (mSeq (mIf (mTest (mOp gEq (mVar 1) (mC (.int 8)))) (mRet [] (mOp gAdd (mUpper (mSl (mVar 0) none (some (mC (.int 1))))) (mSl (mVar 0) (some (mC (.int 1))) none))) (mNext)) (mRet [] (mJoin (mC (.str " ")) (mSl (mVar 3) none (some (mOp gSub (mCB gLen [mVar 3]) (mC (.int 1))))))))))))
def fun__law_flawed : List W → FR := mFun [] 4 (body__law_flawed)
theorem def__law_flawed (T : Txt w K mg) : Def P w K mg base (He.ga K) (k + 1) "_law_flawed" ["_law_move", "_law_pick"] [] (fun__law_flawed) :=
  def_mk (N := ["_law_move", "_law_pick", "_law_last", "_law_words"]) (g := body__law_flawed) T.s__law_flawed sc__law_flawed (by decide) (fun _ _ _ _ _ _ us hl => match us, hl with | [_, _], _ => rfl) fun f cdv A outer s H E Y hr hct tk =>
    (psm_cons (psm_set (i := 2) sc__law_flawed.nd rfl (Or.inl rfl) (pem_slice (pem_var 0 (pv 0)) (pom_some (pem_op o_sub g_sub (pem_callB (call_len) rfl T.b_len (by rfl) g_len (pam_cons (pem_var 0 (pv 0)) (pam_nil))) (pem_int))) pom_none)) (psm_cons (psm_set (i := 3) sc__law_flawed.nd rfl (Or.inl rfl) (pem_split (pem_var 0 (pv 0)) (pem_str))) (psm_cons (psm_if (ptm_cmp op_lt g_cmp (pem_var 1 (pv 1)) (pem_int) (nomark _)) (psm_one (psm_ret (pem_ix (pem_lst (pam_cons (pem_op o_add g_add (pem_var 0 (pv 0)) (pem_str)) (pam_cons (pem_op o_add g_add (pem_str) (pem_var 0 (pv 0))) (pam_cons (pem_op o_add g_add (pem_var 0 (pv 0)) (pem_str)) (pam_cons (pem_op o_add g_add (pem_var 0 (pv 0)) (pem_str)) (pam_nil)))))) (pem_var 1 (pv 1))))) (psm_nil)) (psm_cons (psm_if (ptm_cmp op_lt g_cmp (pem_var 1 (pv 1)) (pem_int) (nomark _)) (psm_one (psm_ret (pem_op o_add g_add (pem_op o_add g_add (pem_slice (pem_var 0 (pv 0)) pom_none (pom_some (pem_op o_sub g_sub (pem_callB (call_len) rfl T.b_len (by rfl) g_len (pam_cons (pem_var 0 (pv 0)) (pam_nil))) (pem_int)))) (pem_ix (pem_lst (pam_cons (pem_str) (pam_cons (pem_str) (pam_cons (pem_str) (pam_nil))))) (pem_op o_sub g_sub (pem_var 1 (pv 1)) (pem_int)))) (pem_var 2 (pv 2))))) (psm_nil)) (psm_cons (psm_if (ptm_cmp (o_eq (hu200 hr)) g_eq (pem_var 1 (pv 1)) (pem_int) (nomark _)) (psm_one (psm_ret (pem_join (pem_str) (pem_var 3 (pv 3))))) (psm_nil)) (psm_cons (psm_if (ptm_cmp (o_eq (hu200 hr)) g_eq (pem_var 1 (pv 1)) (pem_int) (nomark _)) (psm_one (psm_ret (pem_op o_add g_add (pem_upper (pem_slice (pem_var 0 (pv 0)) pom_none (pom_some (pem_int)))) (pem_slice (pem_var 0 (pv 0)) (pom_some (pem_int)) pom_none)))) (psm_nil)) (psm_one (psm_ret (pem_join (pem_str) (pem_slice (pem_var 3 (pv 3)) pom_none (pom_some (pem_op o_sub g_sub (pem_callB (call_len) rfl T.b_len (by rfl) g_len (pam_cons (pem_var 3 (pv 3)) (pam_nil))) (pem_int)))))))))))))
/-! _law_changed -/
theorem sc__law_changed : FnScope ["_law_reader_here", "_law_signature", "_law_row_here", "_law_deed", "_law_at", "_law_move"] ["_law_reader_here", "_law_signature", "_law_row_here"] (defScope s__law_changed) := ⟨rfl, rfl, rfl, by decide +kernel, rfl, by decide +kernel, by decide +kernel⟩
def body__law_changed (m__law_next : List W → FR) (m__law_odd : List W → FR) (m__law_flawed : List W → FR) : Rho → ML.R Fl := mSeq (mSet [0] 3 (mCall [0] [0] m__law_next [mVar 0, mC (.int 11)])) (mSeq (mSet [0] 4 (mCall [0] [0] m__law_next [mVar 0, mOp gAdd (mCB gLen [mVar 2]) (mC (.int 1))])) (mSeq (mSet [0] 5 (mCall [0] [0] m__law_odd [mVar 0, mVar 1])) (mSeq (mIf (mAnd (mTest (mOp (gCmp (fun i j => decide (j < i))) (mVar 3) (mC (.int 7)))) (mTest (mOp (gCmp (fun i j => decide (i < j))) (mVar 4) (mCB gLen [mVar 2])))) (mSeq (mSet [0] 5 (mCall [0] [] m__law_flawed [mOp gIx (mVar 2) (mVar 4), mCall [0] [0] m__law_next [mVar 0, mC (.int 10)]])) (mSet [0] 3 (mC (.int 0)))) (mNext)) (mSeq (mIf (mTest (mOp (gCmp (fun i j => decide (i < j))) (mVar 3) (mC (.int 3)))) (mRet [0] (mOp gAdd (mOp gAdd (mSl (mVar 2) none (some (mVar 4))) (mLst [0] [mVar 5])) (mSl (mVar 2) (some (mOp gAdd (mVar 4) (mC (.int 1)))) none))) (mNext)) (mSeq (mIf (mTest (mOp gEq (mVar 3) (mC (.int 3)))) (mRet [0] (mOp gAdd (mOp gAdd (mSl (mVar 2) none (some (mVar 4))) (mLst [0] [mVar 5])) (mSl (mVar 2) (some (mVar 4)) none))) (mNext)) (mSeq (mIf (mTest (mOp gEq (mVar 3) (mC (.int 4)))) (mRet [0] (mOp gAdd (mSl (mVar 2) none (some (mVar 4))) (mSl (mVar 2) (some (mOp gAdd (mVar 4) (mC (.int 1)))) none))) (mNext)) (mSeq (mIf (mTest (mOp gEq (mVar 3) (mC (.int 5)))) (mRet [0] (mOp gAdd (mOp gAdd (mSl (mVar 2) none (some (mVar 4))) (mSl (mVar 2) (some (mVar 4)) (some (mOp gAdd (mVar 4) (mC (.int 1)))))) (mSl (mVar 2) (some (mVar 4)) none))) (mNext)) (mSeq (mIf (mTest (mOp gEq (mVar 3) (mC (.int 6)))) (mRet [0] (mOp gAdd (mOp gAdd (mOp gAdd (mSl (mVar 2) none (some (mVar 4))) (mSl (mVar 2) (some (mOp gAdd (mVar 4) (mC (.int 1)))) (some (mOp gAdd (mVar 4) (mC (.int 2)))))) (mSl (mVar 2) (some (mVar 4)) (some (mOp gAdd (mVar 4) (mC (.int 1)))))) (mSl (mVar 2) (some (mOp gAdd (mVar 4) (mC (.int 2)))) none))) (mNext)) (mRet [0] (mOp gAdd (mVar 2) (mLst [0] [mVar 5])))))))))))
def fun__law_changed (m__law_next : List W → FR) (m__law_odd : List W → FR) (m__law_flawed : List W → FR) : List W → FR := mFun [0] 6 (body__law_changed m__law_next m__law_odd m__law_flawed)
theorem def__law_changed (T : Txt w K mg) {m__law_next : List W → FR} (D__law_next : Def P w K mg base (He.ga K) k "_law_next" ["_law_reader_here", "_law_many"] [0] m__law_next) {m__law_odd : List W → FR} (D__law_odd : Def P w K mg base (He.ga K) k "_law_odd" ["_law_reader_here", "_law_signature"] [0] m__law_odd) {m__law_flawed : List W → FR} (D__law_flawed : Def P w K mg base (He.ga K) k "_law_flawed" ["_law_move", "_law_pick"] [] m__law_flawed) : Def P w K mg base (He.ga K) (k + 1) "_law_changed" ["_law_reader_here", "_law_signature", "_law_row_here"] [0] (fun__law_changed m__law_next m__law_odd m__law_flawed) :=
  def_mk (N := ["_law_reader_here", "_law_signature", "_law_row_here", "_law_deed", "_law_at", "_law_move"]) (g := body__law_changed m__law_next m__law_odd m__law_flawed) T.s__law_changed sc__law_changed (by decide) (fun _ _ _ _ _ _ us hl => match us, hl with | [_, _, _], _ => rfl) fun f cdv A outer s H E Y hr hct tk =>
    (psm_cons (psm_set (i := 3) sc__law_changed.nd rfl (Or.inl rfl) (pem_callD D__law_next hct hr tk rfl (pam_cons (pem_var 0 (pv 0)) (pam_cons (pem_int) (pam_nil))) rfl)) (psm_cons (psm_set (i := 4) sc__law_changed.nd rfl (Or.inl rfl) (pem_callD D__law_next hct hr tk rfl (pam_cons (pem_var 0 (pv 0)) (pam_cons (pem_op o_add g_add (pem_callB (call_len) rfl T.b_len (by rfl) g_len (pam_cons (pem_var 2 (pv 2)) (pam_nil))) (pem_int)) (pam_nil))) rfl)) (psm_cons (psm_set (i := 5) sc__law_changed.nd rfl (Or.inl rfl) (pem_callD D__law_odd hct hr tk rfl (pam_cons (pem_var 0 (pv 0)) (pam_cons (pem_var 1 (pv 1)) (pam_nil))) rfl)) (psm_cons (psm_if (PW.pt (pwm_and (ptm_cmp op_gt g_cmp (pem_var 3 (pv 3)) (pem_int) (nomark _)) (pwm_and1 (ptm_cmp op_lt g_cmp (pem_var 4 (pv 4)) (pem_callB (call_len) rfl T.b_len (by rfl) g_len (pam_cons (pem_var 2 (pv 2)) (pam_nil))) (nomark _))))) (psm_cons (psm_set (i := 5) sc__law_changed.nd rfl (Or.inl rfl) (pem_callD D__law_flawed hct hr tk rfl (pam_cons (pem_ix (pem_var 2 (pv 2)) (pem_var 4 (pv 4))) (pam_cons (pem_callD D__law_next hct hr tk rfl (pam_cons (pem_var 0 (pv 0)) (pam_cons (pem_int) (pam_nil))) rfl) (pam_nil))) rfl)) (psm_one (psm_set (i := 3) sc__law_changed.nd rfl (Or.inl rfl) (pem_int)))) (psm_nil)) (psm_cons (psm_if (ptm_cmp op_lt g_cmp (pem_var 3 (pv 3)) (pem_int) (nomark _)) (psm_one (psm_ret (pem_op o_add g_add (pem_op o_add g_add (pem_slice (pem_var 2 (pv 2)) pom_none (pom_some (pem_var 4 (pv 4)))) (pem_lst (pam_cons (pem_var 5 (pv 5)) (pam_nil)))) (pem_slice (pem_var 2 (pv 2)) (pom_some (pem_op o_add g_add (pem_var 4 (pv 4)) (pem_int))) pom_none)))) (psm_nil)) (psm_cons (psm_if (ptm_cmp (o_eq (hu200 hr)) g_eq (pem_var 3 (pv 3)) (pem_int) (nomark _)) (psm_one (psm_ret (pem_op o_add g_add (pem_op o_add g_add (pem_slice (pem_var 2 (pv 2)) pom_none (pom_some (pem_var 4 (pv 4)))) (pem_lst (pam_cons (pem_var 5 (pv 5)) (pam_nil)))) (pem_slice (pem_var 2 (pv 2)) (pom_some (pem_var 4 (pv 4))) pom_none)))) (psm_nil)) (psm_cons (psm_if (ptm_cmp (o_eq (hu200 hr)) g_eq (pem_var 3 (pv 3)) (pem_int) (nomark _)) (psm_one (psm_ret (pem_op o_add g_add (pem_slice (pem_var 2 (pv 2)) pom_none (pom_some (pem_var 4 (pv 4)))) (pem_slice (pem_var 2 (pv 2)) (pom_some (pem_op o_add g_add (pem_var 4 (pv 4)) (pem_int))) pom_none)))) (psm_nil)) (psm_cons (psm_if (ptm_cmp (o_eq (hu200 hr)) g_eq (pem_var 3 (pv 3)) (pem_int) (nomark _)) (psm_one (psm_ret (pem_op o_add g_add (pem_op o_add g_add (pem_slice (pem_var 2 (pv 2)) pom_none (pom_some (pem_var 4 (pv 4)))) (pem_slice (pem_var 2 (pv 2)) (pom_some (pem_var 4 (pv 4))) (pom_some (pem_op o_add g_add (pem_var 4 (pv 4)) (pem_int))))) (pem_slice (pem_var 2 (pv 2)) (pom_some (pem_var 4 (pv 4))) pom_none)))) (psm_nil)) (psm_cons (psm_if (ptm_cmp (o_eq (hu200 hr)) g_eq (pem_var 3 (pv 3)) (pem_int) (nomark _)) (psm_one (psm_ret (pem_op o_add g_add (pem_op o_add g_add (pem_op o_add g_add (pem_slice (pem_var 2 (pv 2)) pom_none (pom_some (pem_var 4 (pv 4)))) (pem_slice (pem_var 2 (pv 2)) (pom_some (pem_op o_add g_add (pem_var 4 (pv 4)) (pem_int))) (pom_some (pem_op o_add g_add (pem_var 4 (pv 4)) (pem_int))))) (pem_slice (pem_var 2 (pv 2)) (pom_some (pem_var 4 (pv 4))) (pom_some (pem_op o_add g_add (pem_var 4 (pv 4)) (pem_int))))) (pem_slice (pem_var 2 (pv 2)) (pom_some (pem_op o_add g_add (pem_var 4 (pv 4)) (pem_int))) pom_none)))) (psm_nil)) (psm_one (psm_ret (pem_op o_add g_add (pem_var 2 (pv 2)) (pem_lst (pam_cons (pem_var 5 (pv 5)) (pam_nil)))))))))))))))
/-! _law_told -/
theorem sc__law_told : FnScope ["_law_which", "_law_signature", "_law_kind", "_law_row_here", "e"] ["_law_which", "_law_signature", "_law_kind", "_law_row_here"] (defScope s__law_told) := ⟨rfl, rfl, rfl, by decide +kernel, rfl, by decide +kernel, by decide +kernel⟩
def body__law_told (m_open_moves : List W → FR) (m_next_moves : List W → FR) (m_is_finished : List W → FR) : Rho → ML.R Fl := mTry [] 4 cm_all (mSeq (mIf (mTest (mOp gEq (mVar 0) (mC (.int 0)))) (mRet [] (mTup [] [mC (.str "is"), mCall [] [] m_open_moves [mVar 1, mVar 2, mVar 3]])) (mNext)) (mSeq (mIf (mTest (mOp gEq (mVar 0) (mC (.int 1)))) (mRet [] (mTup [] [mC (.str "is"), mCall [] [] m_next_moves [mVar 1, mVar 2, mVar 3]])) (mNext)) (mRet [] (mTup [] [mC (.str "is"), mCall [] [] m_is_finished [mVar 1, mVar 2, mVar 3]])))) (fun c ns ws => mSeq (mIf (mOr (mNot (mTest (mIsE 4 (kiT "BadMove" c)))) (mNot (mTest (mIsE 4 (kiV c))))) (mRet [] (mTup [] [mC (.str "other"), mC .non])) (mNext)) (mSeq (mIf (mTest (mIsT 4 (kiTs ["BadNumber", "BadTable", "NoSuchName", "WrongMachine"] c) ["BadNumber", "BadTable", "NoSuchName", "WrongMachine"])) (mRet [] (mTup [] [mC (.str "other"), mC .non])) (mNext)) (mRet [] (mTup [] [mC (.str "bad"), mXf fl_index 4 "index" c ns ws]))))
def fun__law_told (m_open_moves : List W → FR) (m_next_moves : List W → FR) (m_is_finished : List W → FR) : List W → FR := mFun [] 5 (body__law_told m_open_moves m_next_moves m_is_finished)
theorem def__law_told (T : Txt w K mg) {m_open_moves : List W → FR} (D_open_moves : Def P w K mg base (He.ga K) k "open_moves" ["signature", "kind", "moves"] [] m_open_moves) {m_next_moves : List W → FR} (D_next_moves : Def P w K mg base (He.ga K) k "next_moves" ["signature", "kind", "moves"] [] m_next_moves) {m_is_finished : List W → FR} (D_is_finished : Def P w K mg base (He.ga K) k "is_finished" ["signature", "kind", "moves"] [] m_is_finished) : Def P w K mg base (He.ga K) (k + 1) "_law_told" ["_law_which", "_law_signature", "_law_kind", "_law_row_here"] [] (fun__law_told m_open_moves m_next_moves m_is_finished) :=
  def_mk (N := ["_law_which", "_law_signature", "_law_kind", "_law_row_here", "e"]) (g := body__law_told m_open_moves m_next_moves m_is_finished) T.s__law_told sc__law_told (by decide) (fun _ _ _ _ _ _ us hl => match us, hl with | [_, _, _, _], _ => rfl) fun f cdv A outer s H E Y hr hct tk =>
    (psm_one (psm_try (i := 4) rfl rfl sc__law_told.nd rfl rfl ⟨rfl, by decide, .inl T.g_HeardError⟩ tk (fun c b h => by rw [hct]; exact T.cm c b h) (fun Yt pn xe hYt wYt pYt => (psm_cons (psm_if (ptm_cmp (o_eq (hu200 hr)) g_eq (pem_var 0 (pv 0)) (pem_int) (nomark _)) (psm_one (psm_ret (pem_tup (pam_cons (pem_str) (pam_cons (pem_callD D_open_moves (hYt.trans hct) hr wYt rfl (pam_cons (pem_var 1 (pv 1)) (pam_cons (pem_var 2 (pv 2)) (pam_cons (pem_var 3 (pv 3)) (pam_nil)))) rfl) (pam_nil)))))) (psm_nil)) (psm_cons (psm_if (ptm_cmp (o_eq (hu200 hr)) g_eq (pem_var 0 (pv 0)) (pem_int) (nomark _)) (psm_one (psm_ret (pem_tup (pam_cons (pem_str) (pam_cons (pem_callD D_next_moves (hYt.trans hct) hr wYt rfl (pam_cons (pem_var 1 (pv 1)) (pam_cons (pem_var 2 (pv 2)) (pam_cons (pem_var 3 (pv 3)) (pam_nil)))) rfl) (pam_nil)))))) (psm_nil)) (psm_one (psm_ret (pem_tup (pam_cons (pem_str) (pam_cons (pem_callD D_is_finished (hYt.trans hct) hr wYt rfl (pam_cons (pem_var 1 (pv 1)) (pam_cons (pem_var 2 (pv 2)) (pam_cons (pem_var 3 (pv 3)) (pam_nil)))) rfl) (pam_nil))))))))) (fun a oe cls d pn Ys c ns ws hz hf su => (psm_cons (psm_if (PW.pt (pwm_or (ptm_not (ptm_val (pem_isX (cl := cl_all) (D := "BadMove") (cv := .ref (He.ga K "BadMove")) (cw := .ref (He.ga K "BadMove")) (t := kiT "BadMove" c) su hz hf (fun c h => by rw [hct]; exact T.i_all c h) rfl T.b_isinstance (pv 4) (pe_glob (x := "BadMove") (v := .ref (He.ga K "BadMove")) rfl T.g_BadMove rfl) (fun _ h => h) (fun b h => by rw [hct]; exact T.kit "BadMove" (by decide) c b h)))) (pwm_or1 (ptm_not (ptm_val (pem_isX (cl := cl_all) (D := "ValueError") (cv := .ty "ValueError") (cw := .type "ValueError") (t := kiV c) su hz hf (fun c h => by rw [hct]; exact T.i_all c h) rfl T.b_isinstance (pv 4) (pe_bltn (x := "ValueError") (v := .ty "ValueError") rfl T.b_ValueError (by rfl) rfl) (fun _ h => h) (fun b h => by rw [hct]; exact T.kit_ValueError c b h))))))) (psm_one (psm_ret (pem_tup (pam_cons (pem_str) (pam_cons (pem_non) (pam_nil)))))) (psm_nil)) (psm_cons (psm_if (ptm_val (pem_isT (cl := cl_all) (Ds := ["BadNumber", "BadTable", "NoSuchName", "WrongMachine"]) (t := kiTs ["BadNumber", "BadTable", "NoSuchName", "WrongMachine"] c) su hz hf (fun c h => by rw [hct]; exact T.i_all c h) rfl T.b_isinstance (pv 4) (pem_tup (pam_cons (pem_glob (x := "BadNumber") (v := .ref (He.ga K "BadNumber")) rfl T.g_BadNumber rfl (fun _ _ => rfl)) (pam_cons (pem_glob (x := "BadTable") (v := .ref (He.ga K "BadTable")) rfl T.g_BadTable rfl (fun _ _ => rfl)) (pam_cons (pem_glob (x := "NoSuchName") (v := .ref (He.ga K "NoSuchName")) rfl T.g_NoSuchName rfl (fun _ _ => rfl)) (pam_cons (pem_glob (x := "WrongMachine") (v := .ref (He.ga K "WrongMachine")) rfl T.g_WrongMachine rfl (fun _ _ => rfl)) (pam_nil)))))) (fun b h => by rw [hct]; exact T.kits ["BadNumber", "BadTable", "NoSuchName", "WrongMachine"] (by decide) c b h))) (psm_one (psm_ret (pem_tup (pam_cons (pem_str) (pam_cons (pem_non) (pam_nil)))))) (psm_nil)) (psm_one (psm_ret (pem_tup (pam_cons (pem_str) (pam_cons (pem_xf su hz hf (fun c h => by rw [hct]; exact T.f_index c h) (pv 4)) (pam_nil)))))))))))
/-! _law_is_row -/
theorem sc__law_is_row : FnScope ["_law_actual", "_law_due", "_law_k"] ["_law_actual", "_law_due"] (defScope s__law_is_row) := ⟨rfl, rfl, rfl, by decide +kernel, rfl, by decide +kernel, by decide +kernel⟩
def body__law_is_row : Rho → ML.R Fl := mSeq (mIf (mOr (mNot (mTest (mCB gIsi [mVar 0, mC (.ty "tuple")]))) (mTest (mOp gNe (mCB gLen [mVar 0]) (mCB gLen [mVar 1])))) (mRet [] (mC (.bl false))) (mNext)) (mSeq (mFor (mRange1 [mCB gLen [mVar 1]]) (gSet [] 2) (mIf (mOr (mNot (mTest (mCB gIsi [mOp gIx (mVar 0) (mVar 2), mC (.ty "str")]))) (mTest (mOp gNe (mOp gIx (mVar 0) (mVar 2)) (mOp gIx (mVar 1) (mVar 2))))) (mRet [] (mC (.bl false))) (mNext))) (mRet [] (mC (.bl true))))
def fun__law_is_row : List W → FR := mFun [] 3 (body__law_is_row)
theorem def__law_is_row (T : Txt w K mg) : Def P w K mg base (He.ga K) (k + 1) "_law_is_row" ["_law_actual", "_law_due"] [] (fun__law_is_row) :=
  def_mk (N := ["_law_actual", "_law_due", "_law_k"]) (g := body__law_is_row) T.s__law_is_row sc__law_is_row (by decide) (fun _ _ _ _ _ _ us hl => match us, hl with | [_, _], _ => rfl) fun f cdv A outer s H E Y hr hct tk =>
    (psm_cons (psm_if (PW.pt (pwm_or (ptm_not (ptm_val (pem_callB (c_isi) rfl T.b_isinstance (by rfl) g_isi (pam_cons (pem_var 0 (pv 0)) (pam_cons (pem_ty rfl T.b_tuple (by rfl)) (pam_nil)))))) (pwm_or1 (ptm_cmp (o_ne (hu200 hr)) g_ne (pem_callB (call_len) rfl T.b_len (by rfl) g_len (pam_cons (pem_var 0 (pv 0)) (pam_nil))) (pem_callB (call_len) rfl T.b_len (by rfl) g_len (pam_cons (pem_var 1 (pv 1)) (pam_nil))) (nomark _))))) (psm_one (psm_ret (pem_bl))) (psm_nil)) (psm_cons (psm_for (passes_of rfl) rfl (pim_range1 rfl T.b_range (pam_cons (pem_callB (call_len) rfl T.b_len (by rfl) g_len (pam_cons (pem_var 1 (pv 1)) (pam_nil))) (pam_nil))) (pgm_name (pg_name (i := 2) sc__law_is_row.nd rfl (Or.inl rfl))) (psm_one (psm_if (PW.pt (pwm_or (ptm_not (ptm_val (pem_callB (c_isi) rfl T.b_isinstance (by rfl) g_isi (pam_cons (pem_ix (pem_var 0 (pv 0)) (pem_var 2 (pv 2))) (pam_cons (pem_ty rfl T.b_str (by rfl)) (pam_nil)))))) (pwm_or1 (ptm_cmp (o_ne (hu200 hr)) g_ne (pem_ix (pem_var 0 (pv 0)) (pem_var 2 (pv 2))) (pem_ix (pem_var 1 (pv 1)) (pem_var 2 (pv 2))) (nomark _))))) (psm_one (psm_ret (pem_bl))) (psm_nil)))) (psm_one (psm_ret (pem_bl)))))
/-! _law_agrees -/
theorem sc__law_agrees : FnScope ["_law_signature", "_law_kind", "_law_row_here", "_law_due", "_law_listed", "_law_which", "_law_handed", "_law_actual"] ["_law_signature", "_law_kind", "_law_row_here", "_law_due", "_law_listed"] (defScope s__law_agrees) := ⟨rfl, rfl, rfl, by decide +kernel, rfl, by decide +kernel, by decide +kernel⟩
def body__law_agrees (m__law_told : List W → FR) (m__law_whole : List W → FR) (m__law_is_row : List W → FR) : Rho → ML.R Fl := mSeq (mFor (mRange1 [mC (.int 3)]) (gSet [] 5) (mSeq (mSet [] 6 (mIfE (mTest (mVar 4)) (mCB gLstC [mVar 2]) (mCB gTupC [mVar 2]))) (mSeq (mSet [] 7 (mCall [] [] m__law_told [mVar 5, mVar 0, mVar 1, mVar 6])) (mSeq (mIf (mTest (mOp gNe (mCB gLstC [mVar 6]) (mVar 2))) (mRet [] (mC (.bl false))) (mNext)) (mIf (mTest (mOp (gCmp (fun i j => decide (j ≤ i))) (mOp gIx (mVar 3) (mC (.int 0))) (mC (.int 0)))) (mIf (mOr (mTest (mOp gNe (mOp gIx (mVar 7) (mC (.int 0))) (mC (.str "bad")))) (mOr (mNot (mTest (mCall [] [] m__law_whole [mOp gIx (mVar 7) (mC (.int 1))]))) (mTest (mOp gNe (mOp gIx (mVar 7) (mC (.int 1))) (mOp gIx (mVar 3) (mC (.int 0))))))) (mRet [] (mC (.bl false))) (mNext)) (mIf (mTest (mOp gNe (mOp gIx (mVar 7) (mC (.int 0))) (mC (.str "is")))) (mRet [] (mC (.bl false))) (mIf (mTest (mOp gEq (mVar 5) (mC (.int 2)))) (mIf (mOr (mNot (mTest (mCB gIsi [mOp gIx (mVar 7) (mC (.int 1)), mC (.ty "bool")]))) (mTest (mOp gNe (mOp gIx (mVar 7) (mC (.int 1))) (mAndV (mOp (gCmp (fun i j => decide (j < i))) (mCB gLen [mVar 2]) (mC (.int 0))) (mOp gEq (mCB gLen [mOp gIx (mVar 3) (mC (.int 1))]) (mC (.int 0))))))) (mRet [] (mC (.bl false))) (mNext)) (mIf (mNot (mTest (mCall [] [] m__law_is_row [mOp gIx (mVar 7) (mC (.int 1)), mOp gIx (mVar 3) (mOp gAdd (mC (.int 1)) (mVar 5))]))) (mRet [] (mC (.bl false))) (mNext))))))))) (mRet [] (mC (.bl true)))
def fun__law_agrees (m__law_told : List W → FR) (m__law_whole : List W → FR) (m__law_is_row : List W → FR) : List W → FR := mFun [] 8 (body__law_agrees m__law_told m__law_whole m__law_is_row)
theorem def__law_agrees (T : Txt w K mg) {m__law_told : List W → FR} (D__law_told : Def P w K mg base (He.ga K) k "_law_told" ["_law_which", "_law_signature", "_law_kind", "_law_row_here"] [] m__law_told) {m__law_whole : List W → FR} (D__law_whole : Def P w K mg base (He.ga K) k "_law_whole" ["_law_value"] [] m__law_whole) {m__law_is_row : List W → FR} (D__law_is_row : Def P w K mg base (He.ga K) k "_law_is_row" ["_law_actual", "_law_due"] [] m__law_is_row) : Def P w K mg base (He.ga K) (k + 1) "_law_agrees" ["_law_signature", "_law_kind", "_law_row_here", "_law_due", "_law_listed"] [] (fun__law_agrees m__law_told m__law_whole m__law_is_row) :=
  def_mk (N := ["_law_signature", "_law_kind", "_law_row_here", "_law_due", "_law_listed", "_law_which", "_law_handed", "_law_actual"]) (g := body__law_agrees m__law_told m__law_whole m__law_is_row) T.s__law_agrees sc__law_agrees (by decide) (fun _ _ _ _ _ _ us hl => match us, hl with | [_, _, _, _, _], _ => rfl) fun f cdv A outer s H E Y hr hct tk =>
    (psm_cons (psm_for (passes_of rfl) rfl (pim_range1 rfl T.b_range (pam_cons (pem_int) (pam_nil))) (pgm_name (pg_name (i := 5) sc__law_agrees.nd rfl (Or.inl rfl))) (psm_cons (psm_set (i := 6) sc__law_agrees.nd rfl (Or.inl rfl) (pem_ifE (ptm_val (pem_var 4 (pv 4))) (pem_callTy call_list_of rfl T.b_list (by rfl) g_lstC (pam_cons (pem_var 2 (pv 2)) (pam_nil))) (pem_callTy call_tuple_of rfl T.b_tuple (by rfl) g_tupC (pam_cons (pem_var 2 (pv 2)) (pam_nil))))) (psm_cons (psm_set (i := 7) sc__law_agrees.nd rfl (Or.inl rfl) (pem_callD D__law_told hct hr tk rfl (pam_cons (pem_var 5 (pv 5)) (pam_cons (pem_var 0 (pv 0)) (pam_cons (pem_var 1 (pv 1)) (pam_cons (pem_var 6 (pv 6)) (pam_nil))))) rfl)) (psm_cons (psm_if (ptm_cmp (o_ne (hu200 hr)) g_ne (pem_callTy call_list_of rfl T.b_list (by rfl) g_lstC (pam_cons (pem_var 6 (pv 6)) (pam_nil))) (pem_var 2 (pv 2)) (nomark _)) (psm_one (psm_ret (pem_bl))) (psm_nil)) (psm_one (psm_if (ptm_cmp op_ge g_cmp (pem_ix (pem_var 3 (pv 3)) (pem_int)) (pem_int) (nomark _)) (psm_one (psm_if (PW.pt (pwm_or (ptm_cmp (o_ne (hu200 hr)) g_ne (pem_ix (pem_var 7 (pv 7)) (pem_int)) (pem_str) (nomark _)) (pwm_or (ptm_not (ptm_val (pem_callD D__law_whole hct hr tk rfl (pam_cons (pem_ix (pem_var 7 (pv 7)) (pem_int)) (pam_nil)) rfl))) (pwm_or1 (ptm_cmp (o_ne (hu200 hr)) g_ne (pem_ix (pem_var 7 (pv 7)) (pem_int)) (pem_ix (pem_var 3 (pv 3)) (pem_int)) (nomark _)))))) (psm_one (psm_ret (pem_bl))) (psm_nil))) (psm_one (psm_if (ptm_cmp (o_ne (hu200 hr)) g_ne (pem_ix (pem_var 7 (pv 7)) (pem_int)) (pem_str) (nomark _)) (psm_one (psm_ret (pem_bl))) (psm_one (psm_if (ptm_cmp (o_eq (hu200 hr)) g_eq (pem_var 5 (pv 5)) (pem_int) (nomark _)) (psm_one (psm_if (PW.pt (pwm_or (ptm_not (ptm_val (pem_callB (c_isi) rfl T.b_isinstance (by rfl) g_isi (pam_cons (pem_ix (pem_var 7 (pv 7)) (pem_int)) (pam_cons (pem_ty rfl T.b_bool (by rfl)) (pam_nil)))))) (pwm_or1 (ptm_cmp (o_ne (hu200 hr)) g_ne (pem_ix (pem_var 7 (pv 7)) (pem_int)) (pem_and (pem_cmp op_gt g_cmp (pem_callB (call_len) rfl T.b_len (by rfl) g_len (pam_cons (pem_var 2 (pv 2)) (pam_nil))) (pem_int) (nomark _)) (pem_one (pem_cmp (o_eq (hu200 hr)) g_eq (pem_callB (call_len) rfl T.b_len (by rfl) g_len (pam_cons (pem_ix (pem_var 3 (pv 3)) (pem_int)) (pam_nil))) (pem_int) (nomark _)))) (nomark _))))) (psm_one (psm_ret (pem_bl))) (psm_nil))) (psm_one (psm_if (ptm_not (ptm_val (pem_callD D__law_is_row hct hr tk rfl (pam_cons (pem_ix (pem_var 7 (pv 7)) (pem_int)) (pam_cons (pem_ix (pem_var 3 (pv 3)) (pem_op o_add g_add (pem_int) (pem_var 5 (pv 5)))) (pam_nil))) rfl))) (psm_one (psm_ret (pem_bl))) (psm_nil))))))))))))) (psm_one (psm_ret (pem_bl))))
/-! law -/
theorem sc_law : FnScope ["_law_script", "_law_signature", "_law_kind", "_law_listed", "_law_passed", "_law_row_here", "_law_size", "_law_begun", "_law_unlike", "_law_k", "_law_reader_here", "_law_other"] ["_law_script"] (defScope s_law) := ⟨rfl, rfl, rfl, by decide +kernel, rfl, by decide +kernel, by decide +kernel⟩
def body_law (m__law_cell : List W → FR) (m__law_names : List W → FR) (m_Signature : List W → FR) (m__law_row : List W → FR) (m__law_judge : List W → FR) (m__law_agrees : List W → FR) (m__law_reader : List W → FR) (m__law_changed : List W → FR) : Rho → ML.R Fl := mSeq (mSet [] 1 (mCall [] [] m__law_names [mCall [] [] m__law_cell [mVar 0, mC (.int 0)]])) (mSeq (mSet [] 2 (mOp gIx (mLst [] [mC (.str "command"), mC (.str "number")]) (mOp gMod (mCB gInt [mCall [] [] m__law_cell [mVar 0, mC (.int 1)]]) (mC (.int 2))))) (mSeq (mSet [] 3 (mOp gEq (mOp gMod (mOp gFdiv (mCB gInt [mCall [] [] m__law_cell [mVar 0, mC (.int 1)]]) (mC (.int 2))) (mC (.int 2))) (mC (.int 0)))) (mSeq (mSet [] 4 (mMake [] "Signature" m_Signature [mOp gIx (mVar 1) (mC (.int 0)), mOp gIx (mVar 1) (mC (.int 1)), mOp gIx (mVar 1) (mC (.int 2))])) (mSeq (mSet [] 5 (mCall [] [] m__law_row [mVar 1, mVar 2, mCall [] [] m__law_cell [mVar 0, mC (.int 2)]])) (mSeq (mFor (mRange2 [mCB gMax [mC (.int 0), mOp gSub (mCB gLen [mVar 5]) (mC (.int 8))], mOp gAdd (mCB gLen [mVar 5]) (mC (.int 1))]) (gSet [] 6) (mSeq (mSet [] 7 (mSl (mVar 5) none (some (mVar 6)))) (mIf (mNot (mTest (mCall [] [] m__law_agrees [mVar 4, mVar 2, mVar 7, mCall [] [] m__law_judge [mVar 1, mVar 2, mVar 7], mVar 3]))) (mRet [] (mC (.bl false))) (mNext)))) (mSeq (mSet [] 8 (mOp gIx (mLst [] [mC (.str "number"), mC (.str "command")]) (mCB gInt [mOp gEq (mVar 2) (mC (.str "number"))]))) (mSeq (mIf (mNot (mTest (mCall [] [] m__law_agrees [mVar 4, mVar 8, mVar 5, mCall [] [] m__law_judge [mVar 1, mVar 8, mVar 5], mVar 3]))) (mRet [] (mC (.bl false))) (mNext)) (mSeq (mFor (mRange1 [mC (.int 5)]) (gSet [] 9) (mSeq (mSet [] 10 (mCall [] [] m__law_reader [mCall [] [] m__law_cell [mVar 0, mOp gAdd (mC (.int 3)) (mVar 9)]])) (mSeq (mSet [] 11 (mCall [] [0] m__law_changed [mVar 10, mVar 1, mVar 5])) (mIf (mNot (mTest (mCall [] [] m__law_agrees [mVar 4, mVar 2, mVar 11, mCall [] [] m__law_judge [mVar 1, mVar 2, mVar 11], mNotV (mVar 3)]))) (mRet [] (mC (.bl false))) (mNext))))) (mRet [] (mCall [] [] m__law_agrees [mVar 4, mVar 2, mVar 5, mCall [] [] m__law_judge [mVar 1, mVar 2, mVar 5], mNotV (mVar 3)]))))))))))
def fun_law (m__law_cell : List W → FR) (m__law_names : List W → FR) (m_Signature : List W → FR) (m__law_row : List W → FR) (m__law_judge : List W → FR) (m__law_agrees : List W → FR) (m__law_reader : List W → FR) (m__law_changed : List W → FR) : List W → FR := mFun [] 12 (body_law m__law_cell m__law_names m_Signature m__law_row m__law_judge m__law_agrees m__law_reader m__law_changed)
theorem def_law (T : Txt w K mg) {m__law_cell : List W → FR} (D__law_cell : Def P w K mg base (He.ga K) (k + 1) "_law_cell" ["_law_script", "_law_k"] [] m__law_cell) {m__law_names : List W → FR} (D__law_names : Def P w K mg base (He.ga K) (k + 1) "_law_names" ["_law_cell_here"] [] m__law_names) {m_Signature : List W → FR} (D_Signature : KDef P w K mg base (He.ga K) k "Signature" ["self", "size", "procedures", "cells"] m_Signature) {m__law_row : List W → FR} (D__law_row : Def P w K mg base (He.ga K) (k + 1) "_law_row" ["_law_signature", "_law_kind", "_law_cell_here"] [] m__law_row) {m__law_judge : List W → FR} (D__law_judge : Def P w K mg base (He.ga K) (k + 1) "_law_judge" ["_law_signature", "_law_kind", "_law_row_here"] [] m__law_judge) {m__law_agrees : List W → FR} (D__law_agrees : Def P w K mg base (He.ga K) (k + 1) "_law_agrees" ["_law_signature", "_law_kind", "_law_row_here", "_law_due", "_law_listed"] [] m__law_agrees) {m__law_reader : List W → FR} (D__law_reader : Def P w K mg base (He.ga K) (k + 1) "_law_reader" ["_law_cell_here"] [] m__law_reader) {m__law_changed : List W → FR} (D__law_changed : Def P w K mg base (He.ga K) (k + 1) "_law_changed" ["_law_reader_here", "_law_signature", "_law_row_here"] [0] m__law_changed) : Def P w K mg base (He.ga K) ((k + 1) + 1) "law" ["_law_script"] [] (fun_law m__law_cell m__law_names m_Signature m__law_row m__law_judge m__law_agrees m__law_reader m__law_changed) :=
  def_mk (N := ["_law_script", "_law_signature", "_law_kind", "_law_listed", "_law_passed", "_law_row_here", "_law_size", "_law_begun", "_law_unlike", "_law_k", "_law_reader_here", "_law_other"]) (g := body_law m__law_cell m__law_names m_Signature m__law_row m__law_judge m__law_agrees m__law_reader m__law_changed) T.s_law sc_law (by decide) (fun _ _ _ _ _ _ us hl => match us, hl with | [_], _ => rfl) fun f cdv A outer s H E Y hr hct tk =>
    (psm_cons (psm_set (i := 1) sc_law.nd rfl (Or.inl rfl) (pem_callD D__law_names hct hr tk rfl (pam_cons (pem_callD D__law_cell hct hr tk rfl (pam_cons (pem_var 0 (pv 0)) (pam_cons (pem_int) (pam_nil))) rfl) (pam_nil)) rfl)) (psm_cons (psm_set (i := 2) sc_law.nd rfl (Or.inl rfl) (pem_ix (pem_lst (pam_cons (pem_str) (pam_cons (pem_str) (pam_nil)))) (pem_op op_mod g_mod (pem_callTy c_int rfl T.b_int (by rfl) g_int (pam_cons (pem_callD D__law_cell hct hr tk rfl (pam_cons (pem_var 0 (pv 0)) (pam_cons (pem_int) (pam_nil))) rfl) (pam_nil))) (pem_int)))) (psm_cons (psm_set (i := 3) sc_law.nd rfl (Or.inl rfl) (pem_cmp (o_eq (hu200 hr)) g_eq (pem_op op_mod g_mod (pem_op op_fdiv g_fdiv (pem_callTy c_int rfl T.b_int (by rfl) g_int (pam_cons (pem_callD D__law_cell hct hr tk rfl (pam_cons (pem_var 0 (pv 0)) (pam_cons (pem_int) (pam_nil))) rfl) (pam_nil))) (pem_int)) (pem_int)) (pem_int) (nomark _))) (psm_cons (psm_set (i := 4) sc_law.nd rfl (Or.inl rfl) (pem_make D_Signature hr rfl (pam_cons (pem_ix (pem_var 1 (pv 1)) (pem_int)) (pam_cons (pem_ix (pem_var 1 (pv 1)) (pem_int)) (pam_cons (pem_ix (pem_var 1 (pv 1)) (pem_int)) (pam_nil)))) rfl)) (psm_cons (psm_set (i := 5) sc_law.nd rfl (Or.inl rfl) (pem_callD D__law_row hct hr tk rfl (pam_cons (pem_var 1 (pv 1)) (pam_cons (pem_var 2 (pv 2)) (pam_cons (pem_callD D__law_cell hct hr tk rfl (pam_cons (pem_var 0 (pv 0)) (pam_cons (pem_int) (pam_nil))) rfl) (pam_nil)))) rfl)) (psm_cons (psm_for (passes_of rfl) rfl (pim_range2 rfl T.b_range (pam_cons (pem_callB (call_max2 rfl) rfl T.b_max (by rfl) g_max (pam_cons (pem_int) (pam_cons (pem_op o_sub g_sub (pem_callB (call_len) rfl T.b_len (by rfl) g_len (pam_cons (pem_var 5 (pv 5)) (pam_nil))) (pem_int)) (pam_nil)))) (pam_cons (pem_op o_add g_add (pem_callB (call_len) rfl T.b_len (by rfl) g_len (pam_cons (pem_var 5 (pv 5)) (pam_nil))) (pem_int)) (pam_nil)))) (pgm_name (pg_name (i := 6) sc_law.nd rfl (Or.inl rfl))) (psm_cons (psm_set (i := 7) sc_law.nd rfl (Or.inl rfl) (pem_slice (pem_var 5 (pv 5)) pom_none (pom_some (pem_var 6 (pv 6))))) (psm_one (psm_if (ptm_not (ptm_val (pem_callD D__law_agrees hct hr tk rfl (pam_cons (pem_var 4 (pv 4)) (pam_cons (pem_var 2 (pv 2)) (pam_cons (pem_var 7 (pv 7)) (pam_cons (pem_callD D__law_judge hct hr tk rfl (pam_cons (pem_var 1 (pv 1)) (pam_cons (pem_var 2 (pv 2)) (pam_cons (pem_var 7 (pv 7)) (pam_nil)))) rfl) (pam_cons (pem_var 3 (pv 3)) (pam_nil)))))) rfl))) (psm_one (psm_ret (pem_bl))) (psm_nil))))) (psm_cons (psm_set (i := 8) sc_law.nd rfl (Or.inl rfl) (pem_ix (pem_lst (pam_cons (pem_str) (pam_cons (pem_str) (pam_nil)))) (pem_callTy c_int rfl T.b_int (by rfl) g_int (pam_cons (pem_cmp (o_eq (hu200 hr)) g_eq (pem_var 2 (pv 2)) (pem_str) (nomark _)) (pam_nil))))) (psm_cons (psm_if (ptm_not (ptm_val (pem_callD D__law_agrees hct hr tk rfl (pam_cons (pem_var 4 (pv 4)) (pam_cons (pem_var 8 (pv 8)) (pam_cons (pem_var 5 (pv 5)) (pam_cons (pem_callD D__law_judge hct hr tk rfl (pam_cons (pem_var 1 (pv 1)) (pam_cons (pem_var 8 (pv 8)) (pam_cons (pem_var 5 (pv 5)) (pam_nil)))) rfl) (pam_cons (pem_var 3 (pv 3)) (pam_nil)))))) rfl))) (psm_one (psm_ret (pem_bl))) (psm_nil)) (psm_cons (psm_for (passes_of rfl) rfl (pim_range1 rfl T.b_range (pam_cons (pem_int) (pam_nil))) (pgm_name (pg_name (i := 9) sc_law.nd rfl (Or.inl rfl))) (psm_cons (psm_set (i := 10) sc_law.nd rfl (Or.inl rfl) (pem_callD D__law_reader hct hr tk rfl (pam_cons (pem_callD D__law_cell hct hr tk rfl (pam_cons (pem_var 0 (pv 0)) (pam_cons (pem_op o_add g_add (pem_int) (pem_var 9 (pv 9))) (pam_nil))) rfl) (pam_nil)) rfl)) (psm_cons (psm_set (i := 11) sc_law.nd rfl (Or.inl rfl) (pem_callD D__law_changed hct hr tk rfl (pam_cons (pem_var 10 (pv 10)) (pam_cons (pem_var 1 (pv 1)) (pam_cons (pem_var 5 (pv 5)) (pam_nil)))) rfl)) (psm_one (psm_if (ptm_not (ptm_val (pem_callD D__law_agrees hct hr tk rfl (pam_cons (pem_var 4 (pv 4)) (pam_cons (pem_var 2 (pv 2)) (pam_cons (pem_var 11 (pv 11)) (pam_cons (pem_callD D__law_judge hct hr tk rfl (pam_cons (pem_var 1 (pv 1)) (pam_cons (pem_var 2 (pv 2)) (pam_cons (pem_var 11 (pv 11)) (pam_nil)))) rfl) (pam_cons (pem_not (pem_var 3 (pv 3))) (pam_nil)))))) rfl))) (psm_one (psm_ret (pem_bl))) (psm_nil)))))) (psm_one (psm_ret (pem_callD D__law_agrees hct hr tk rfl (pam_cons (pem_var 4 (pv 4)) (pam_cons (pem_var 2 (pv 2)) (pam_cons (pem_var 5 (pv 5)) (pam_cons (pem_callD D__law_judge hct hr tk rfl (pam_cons (pem_var 1 (pv 1)) (pam_cons (pem_var 2 (pv 2)) (pam_cons (pem_var 5 (pv 5)) (pam_nil)))) rfl) (pam_cons (pem_not (pem_var 3 (pv 3))) (pam_nil)))))) rfl))))))))))))
/-! Signature___init__ -/
theorem sc_Signature___init__ : FnScope ["self", "size", "procedures", "cells", "names", "triple"] ["self", "size", "procedures", "cells"] (defScope s_Signature___init__) := ⟨rfl, rfl, rfl, by decide +kernel, rfl, by decide +kernel, by decide +kernel⟩
def body_Signature___init__ (m_frozen : List W → FR) (m_check_procedures : List W → FR) (m_check_cells : List W → FR) : Rho → ML.R Fl := mSeq (mIf (mOr (mNot (mTest (mCB gIsi [mVar 1, mC (.ty "int")]))) (mOr (mTest (mCB gIsi [mVar 1, mC (.ty "bool")])) (mOr (mTest (mOp (gCmp (fun i j => decide (i < j))) (mVar 1) (mC (.int 2)))) (mTest (mOp (gCmp (fun i j => decide (j < i))) (mVar 1) (mC (.int 4))))))) (mStk) (mNext)) (mSeq (mFset 0 [0] oc_size "size" (mVar 1)) (mSeq (mFset 0 [0] oc_procedures "procedures" (mCall [0] [] m_frozen [mVar 2])) (mSeq (mFset 0 [0] oc_cells "cells" (mCall [0] [] m_frozen [mVar 3])) (mSeq (mDrop (mCall [0] [] m_check_procedures [mFld oc_procedures "procedures" (mVar 0)])) (mSeq (mSet [0] 4 (mCB gTupC [mLc [0] (mItems [0] (mFld oc_procedures "procedures" (mVar 0))) (.nm 5) (mYes) (mOp gIx (mVar 5) (mC (.int 0)))])) (mSeq (mDrop (mCall [0] [] m_check_cells [mVar 4, mFld oc_cells "cells" (mVar 0)])) (mFset 0 [0] oc_names "names" (mOp gAdd (mVar 4) (mFld oc_cells "cells" (mVar 0))))))))))
def fun_Signature___init__ (m_frozen : List W → FR) (m_check_procedures : List W → FR) (m_check_cells : List W → FR) : List W → FR := mFun [0] 6 (body_Signature___init__ m_frozen m_check_procedures m_check_cells)
theorem def_Signature___init__ (T : Txt w K mg) {m_frozen : List W → FR} (D_frozen : Def P w K mg base (He.ga K) k "frozen" ["value"] [] m_frozen) {m_check_procedures : List W → FR} (D_check_procedures : Def P w K mg base (He.ga K) k "check_procedures" ["procedures"] [] m_check_procedures) {m_check_cells : List W → FR} (D_check_cells : Def P w K mg base (He.ga K) k "check_cells" ["names", "cells"] [] m_check_cells) : KDef P w K mg base (He.ga K) (k + 1) "Signature" ["self", "size", "procedures", "cells"] (fun_Signature___init__ m_frozen m_check_procedures m_check_cells) :=
  make_mk (N := ["self", "size", "procedures", "cells", "names", "triple"]) (g := body_Signature___init__ m_frozen m_check_procedures m_check_cells) T.mk_Signature sc_Signature___init__ (by decide) (fun _ _ _ _ _ _ us hl => match us, hl with | [_, _, _, _], _ => rfl) (fun _ _ _ _ _ _ _ us its hl hi => match us, hl, its, hi with | [_, _, _, _], _, [_, _], _ => ⟨_, rfl, rfl⟩) fun f cdv A outer s H E Y hr hct tk =>
    (psm_cons (psm_if (PW.pt (pwm_or (ptm_not (ptm_val (pem_callB (c_isi) rfl T.b_isinstance (by rfl) g_isi (pam_cons (pem_var 1 (pv 1)) (pam_cons (pem_ty rfl T.b_int (by rfl)) (pam_nil)))))) (pwm_or (ptm_val (pem_callB (c_isi) rfl T.b_isinstance (by rfl) g_isi (pam_cons (pem_var 1 (pv 1)) (pam_cons (pem_ty rfl T.b_bool (by rfl)) (pam_nil))))) (pwm_or (ptm_cmp op_lt g_cmp (pem_var 1 (pv 1)) (pem_int) (nomark _)) (pwm_or1 (ptm_cmp op_gt g_cmp (pem_var 1 (pv 1)) (pem_int) (nomark _))))))) (psm_one (psm_never)) (psm_nil)) (psm_cons (psm_fset T.n_size (pv 0) (pem_var 1 (pv 1))) (psm_cons (psm_fset T.n_procedures (pv 0) (pem_callD D_frozen hct hr tk rfl (pam_cons (pem_var 2 (pv 2)) (pam_nil)) rfl)) (psm_cons (psm_fset T.n_cells (pv 0) (pem_callD D_frozen hct hr tk rfl (pam_cons (pem_var 3 (pv 3)) (pam_nil)) rfl)) (psm_cons (psm_expr (pem_callD D_check_procedures hct hr tk rfl (pam_cons (pem_fld T.n_procedures (pem_var 0 (pv 0))) (pam_nil)) rfl)) (psm_cons (psm_set (i := 4) sc_Signature___init__.nd rfl (Or.inl rfl) (pem_callTy call_tuple_of rfl T.b_tuple (by rfl) g_tupC (pam_cons (pem_lc (own := [("triple", 5)]) (t := .nm 5) rfl sc_Signature___init__.nd (pim_seq (pem_fld T.n_procedures (pem_var 0 (pv 0)))) (blkOk_by (N := ["self", "size", "procedures", "cells", "names", "triple"]) (sc := defScope s_Signature___init__) (by decide +kernel)) rfl (fun _ _ _ _ _ => pg_name (i := 5) sc_Signature___init__.nd rfl (by first | exact Or.inl rfl | exact Or.inr rfl) (by first | exact .inl rfl | exact .inr rfl)) (fun _ _ _ _ _ => pcs_nil) (fun _ _ _ _ _ Y1 hY1 wY1 => (pem_ix (pem_var 5 (pv 5)) (pem_int)))) (pam_nil)))) (psm_cons (psm_expr (pem_callD D_check_cells hct hr tk rfl (pam_cons (pem_var 4 (pv 4)) (pam_cons (pem_fld T.n_cells (pem_var 0 (pv 0))) (pam_nil))) rfl)) (psm_one (psm_fset T.n_names (pv 0) (pem_op o_add g_add (pem_var 4 (pv 4)) (pem_fld T.n_cells (pem_var 0 (pv 0)))))))))))))
/-! Signature_procedure -/
theorem sc_Signature_procedure : FnScope ["self", "name", "triple"] ["self", "name"] (defScope s_Signature_procedure) := ⟨rfl, rfl, rfl, by decide +kernel, rfl, by decide +kernel, by decide +kernel⟩
def body_Signature_procedure : Rho → ML.R Fl := mSeq (mFor (mItems [] (mFld oc_procedures "procedures" (mVar 0))) (gSet [] 2) (mIf (mTest (mOp gEq (mOp gIx (mVar 2) (mC (.int 0))) (mVar 1))) (mRet [] (mVar 2)) (mNext))) (mRet [] (mC .non))
def fun_Signature_procedure : List W → FR := mFun [] 3 (body_Signature_procedure)
theorem def_Signature_procedure (T : Txt w K mg) : MDef P w K mg base (He.ga K) (k + 1) "Signature" "procedure" ["self", "name"] (fun_Signature_procedure) :=
  meth_mk (N := ["self", "name", "triple"]) (g := body_Signature_procedure) T.mt_Signature_procedure sc_Signature_procedure (by decide) (fun _ _ _ _ _ _ us hl => match us, hl with | [_, _], _ => rfl) fun f cdv A outer s H E Y hr hct tk =>
    (psm_cons (psm_for (passes_of rfl) rfl (pim_seq (pem_fld T.n_procedures (pem_var 0 (pv 0)))) (pgm_name (pg_name (i := 2) sc_Signature_procedure.nd rfl (Or.inl rfl))) (psm_one (psm_if (ptm_cmp (o_eq (hu200 hr)) g_eq (pem_ix (pem_var 2 (pv 2)) (pem_int)) (pem_var 1 (pv 1)) (nomark _)) (psm_one (psm_ret (pem_var 2 (pv 2)))) (psm_nil)))) (psm_one (psm_ret (pem_non))))
end
end K08

namespace K08
open PySem PySem.Spec PyProof.Rows L2 ML
@[simp] theorem lit0 : Str.ofString "heardsaid.errors" = S [104, 101, 97, 114, 100, 115, 97, 105, 100, 46, 101, 114, 114, 111, 114, 115] := by decide +kernel
@[simp] theorem lit1 : Str.ofString "heardsaid.freezing" = S [104, 101, 97, 114, 100, 115, 97, 105, 100, 46, 102, 114, 101, 101, 122, 105, 110, 103] := by decide +kernel
@[simp] theorem lit2 : Str.ofString "heardsaid.moves" = S [104, 101, 97, 114, 100, 115, 97, 105, 100, 46, 109, 111, 118, 101, 115] := by decide +kernel
@[simp] theorem lit3 : Str.ofString "heardsaid.signatures" = S [104, 101, 97, 114, 100, 115, 97, 105, 100, 46, 115, 105, 103, 110, 97, 116, 117, 114, 101, 115] := by decide +kernel
@[simp] theorem lit4 : Str.ofString "abcdefghijklmnopqrstuvwxyz" = S [97, 98, 99, 100, 101, 102, 103, 104, 105, 106, 107, 108, 109, 110, 111, 112, 113, 114, 115, 116, 117, 118, 119, 120, 121, 122] := by decide +kernel
@[simp] theorem lit5 : Str.ofString "0123456789" = S [48, 49, 50, 51, 52, 53, 54, 55, 56, 57] := by decide +kernel
@[simp] theorem lit6 : Str.ofString "law_heardsaid_k08_moves_that_may_come" = S [108, 97, 119, 95, 104, 101, 97, 114, 100, 115, 97, 105, 100, 95, 107, 48, 56, 95, 109, 111, 118, 101, 115, 95, 116, 104, 97, 116, 95, 109, 97, 121, 95, 99, 111, 109, 101] := by decide +kernel
@[simp] theorem lit7 : Str.ofString "run" = S [114, 117, 110] := by decide +kernel
@[simp] theorem lit8 : Str.ofString "call" = S [99, 97, 108, 108] := by decide +kernel
@[simp] theorem lit9 : Str.ofString "ask" = S [97, 115, 107] := by decide +kernel
@[simp] theorem lit10 : Str.ofString "get" = S [103, 101, 116] := by decide +kernel
@[simp] theorem lit11 : Str.ofString "set" = S [115, 101, 116] := by decide +kernel
@[simp] theorem lit12 : Str.ofString "command" = S [99, 111, 109, 109, 97, 110, 100] := by decide +kernel
@[simp] theorem lit13 : Str.ofString "number" = S [110, 117, 109, 98, 101, 114] := by decide +kernel
@[simp] theorem lit14 : Str.ofString "skip" = S [115, 107, 105, 112] := by decide +kernel
@[simp] theorem lit15 : Str.ofString "quit" = S [113, 117, 105, 116] := by decide +kernel
@[simp] theorem lit16 : Str.ofString "if" = S [105, 102] := by decide +kernel
@[simp] theorem lit17 : Str.ofString "then" = S [116, 104, 101, 110] := by decide +kernel
@[simp] theorem lit18 : Str.ofString "else" = S [101, 108, 115, 101] := by decide +kernel
@[simp] theorem lit19 : Str.ofString "fi" = S [102, 105] := by decide +kernel
@[simp] theorem lit20 : Str.ofString "while" = S [119, 104, 105, 108, 101] := by decide +kernel
@[simp] theorem lit21 : Str.ofString "do" = S [100, 111] := by decide +kernel
@[simp] theorem lit22 : Str.ofString "od" = S [111, 100] := by decide +kernel
@[simp] theorem lit23 : Str.ofString "new" = S [110, 101, 119] := by decide +kernel
@[simp] theorem lit24 : Str.ofString "in" = S [105, 110] := by decide +kernel
@[simp] theorem lit25 : Str.ofString "end" = S [101, 110, 100] := by decide +kernel
@[simp] theorem lit26 : Str.ofString "let" = S [108, 101, 116] := by decide +kernel
@[simp] theorem lit27 : Str.ofString "be" = S [98, 101] := by decide +kernel
@[simp] theorem lit28 : Str.ofString " " = S [32] := by decide +kernel
@[simp] theorem lit29 : Str.ofString "back" = S [98, 97, 99, 107] := by decide +kernel
@[simp] theorem lit30 : Str.ofString "told" = S [116, 111, 108, 100] := by decide +kernel
@[simp] theorem lit31 : Str.ofString "is" = S [105, 115] := by decide +kernel
@[simp] theorem lit32 : Str.ofString "kept" = S [107, 101, 112, 116] := by decide +kernel
@[simp] theorem lit33 : Str.ofString "p" = S [112] := by decide +kernel
@[simp] theorem lit34 : Str.ofString "p0" = S [112, 48] := by decide +kernel
@[simp] theorem lit35 : Str.ofString "c0" = S [99, 48] := by decide +kernel
@[simp] theorem lit36 : Str.ofString "" = S [] := by decide +kernel
@[simp] theorem lit37 : Str.ofString "run " = S [114, 117, 110, 32] := by decide +kernel
@[simp] theorem lit38 : Str.ofString " run" = S [32, 114, 117, 110] := by decide +kernel
@[simp] theorem lit39 : Str.ofString "Run" = S [82, 117, 110] := by decide +kernel
@[simp] theorem lit40 : Str.ofString "run 0" = S [114, 117, 110, 32, 48] := by decide +kernel
@[simp] theorem lit41 : Str.ofString "end -1" = S [101, 110, 100, 32, 45, 49] := by decide +kernel
@[simp] theorem lit42 : Str.ofString "end 00" = S [101, 110, 100, 32, 48, 48] := by decide +kernel
@[simp] theorem lit43 : Str.ofString "call zz9" = S [99, 97, 108, 108, 32, 122, 122, 57] := by decide +kernel
@[simp] theorem lit44 : Str.ofString "get zz9" = S [103, 101, 116, 32, 122, 122, 57] := by decide +kernel
@[simp] theorem lit45 : Str.ofString "run\n" = S [114, 117, 110, 10] := by decide +kernel
@[simp] theorem lit46 : Str.ofString "end  1" = S [101, 110, 100, 32, 32, 49] := by decide +kernel
@[simp] theorem lit47 : Str.ofString "kept " = S [107, 101, 112, 116, 32] := by decide +kernel
@[simp] theorem lit48 : Str.ofString "call " = S [99, 97, 108, 108, 32] := by decide +kernel
@[simp] theorem lit49 : Str.ofString "skip quit if then else fi while do od new in end let be command number" = S [115, 107, 105, 112, 32, 113, 117, 105, 116, 32, 105, 102, 32, 116, 104, 101, 110, 32, 101, 108, 115, 101, 32, 102, 105, 32, 119, 104, 105, 108, 101, 32, 100, 111, 32, 111, 100, 32, 110, 101, 119, 32, 105, 110, 32, 101, 110, 100, 32, 108, 101, 116, 32, 98, 101, 32, 99, 111, 109, 109, 97, 110, 100, 32, 110, 117, 109, 98, 101, 114] := by decide +kernel
@[simp] theorem lit50 : Str.ofString "get " = S [103, 101, 116, 32] := by decide +kernel
@[simp] theorem lit51 : Str.ofString "set " = S [115, 101, 116, 32] := by decide +kernel
@[simp] theorem lit52 : Str.ofString "is " = S [105, 115, 32] := by decide +kernel
@[simp] theorem lit53 : Str.ofString "back " = S [98, 97, 99, 107, 32] := by decide +kernel
@[simp] theorem lit54 : Str.ofString "told " = S [116, 111, 108, 100, 32] := by decide +kernel
@[simp] theorem lit55 : Str.ofString "01ab" = S [48, 49, 97, 98] := by decide +kernel
@[simp] theorem lit56 : Str.ofString "0123456789abcdefghij" = S [48, 49, 50, 51, 52, 53, 54, 55, 56, 57, 97, 98, 99, 100, 101, 102, 103, 104, 105, 106] := by decide +kernel
@[simp] theorem lit57 : Str.ofString "ask " = S [97, 115, 107, 32] := by decide +kernel
@[simp] theorem lit58 : Str.ofString "  " = S [32, 32] := by decide +kernel
@[simp] theorem lit59 : Str.ofString "bad" = S [98, 97, 100] := by decide +kernel
@[simp] theorem lit60 : Str.ofString "end " = S [101, 110, 100, 32] := by decide +kernel
@[simp] theorem lit61 : Str.ofString " 0" = S [32, 48] := by decide +kernel
@[simp] theorem lit62 : Str.ofString "\n" = S [10] := by decide +kernel
@[simp] theorem lit63 : Str.ofString "other" = S [111, 116, 104, 101, 114] := by decide +kernel
@[simp] theorem lit64 : Str.ofString "0" = S [48] := by decide +kernel
@[simp] theorem lit65 : Str.ofString "+" = S [43] := by decide +kernel
@[simp] theorem lit66 : Str.ofString "-" = S [45] := by decide +kernel
@[simp] theorem in_w_OPENING (neg : Bool) (x : List Nat) : gIn neg (.str (S x)) w_OPENING = some (.val, .bl (if neg then !decide (x ∈ ([[114, 117, 110], [99, 97, 108, 108], [97, 115, 107], [103, 101, 116], [115, 101, 116]] : List (List Nat))) else decide (x ∈ ([[114, 117, 110], [99, 97, 108, 108], [97, 115, 107], [103, 101, 116], [115, 101, 116]] : List (List Nat))))) := in_ST neg x _ _ (by simp) (by simp)
@[simp] theorem in_w_KINDS (neg : Bool) (x : List Nat) : gIn neg (.str (S x)) w_KINDS = some (.val, .bl (if neg then !decide (x ∈ ([[99, 111, 109, 109, 97, 110, 100], [110, 117, 109, 98, 101, 114]] : List (List Nat))) else decide (x ∈ ([[99, 111, 109, 109, 97, 110, 100], [110, 117, 109, 98, 101, 114]] : List (List Nat))))) := in_ST neg x _ _ (by simp) (by simp)
@[simp] theorem in_w_RESERVED (neg : Bool) (x : List Nat) : gIn neg (.str (S x)) w_RESERVED = some (.val, .bl (if neg then !decide (x ∈ ([[115, 107, 105, 112], [113, 117, 105, 116], [105, 102], [116, 104, 101, 110], [101, 108, 115, 101], [102, 105], [119, 104, 105, 108, 101], [100, 111], [111, 100], [110, 101, 119], [105, 110], [101, 110, 100], [108, 101, 116], [98, 101], [99, 111, 109, 109, 97, 110, 100], [110, 117, 109, 98, 101, 114]] : List (List Nat))) else decide (x ∈ ([[115, 107, 105, 112], [113, 117, 105, 116], [105, 102], [116, 104, 101, 110], [101, 108, 115, 101], [102, 105], [119, 104, 105, 108, 101], [100, 111], [111, 100], [110, 101, 119], [105, 110], [101, 110, 100], [108, 101, 116], [98, 101], [99, 111, 109, 109, 97, 110, 100], [110, 117, 109, 98, 101, 114]] : List (List Nat))))) := in_ST neg x _ _ (by simp) (by simp)
@[simp] theorem in_t1 (neg : Bool) (x a0 : List Nat) : gIn neg (.str (S x)) (.tup [.str (S a0)]) = some (.val, .bl (if neg then !decide (x ∈ [a0]) else decide (x ∈ [a0]))) := in_ST neg x [a0] _ rfl (by simp)
@[simp] theorem in_t2 (neg : Bool) (x a0 a1 : List Nat) : gIn neg (.str (S x)) (.tup [.str (S a0), .str (S a1)]) = some (.val, .bl (if neg then !decide (x ∈ [a0, a1]) else decide (x ∈ [a0, a1]))) := in_ST neg x [a0, a1] _ rfl (by simp)
@[simp] theorem in_t3 (neg : Bool) (x a0 a1 a2 : List Nat) : gIn neg (.str (S x)) (.tup [.str (S a0), .str (S a1), .str (S a2)]) = some (.val, .bl (if neg then !decide (x ∈ [a0, a1, a2]) else decide (x ∈ [a0, a1, a2]))) := in_ST neg x [a0, a1, a2] _ rfl (by simp)
@[simp] theorem in_t4 (neg : Bool) (x a0 a1 a2 a3 : List Nat) : gIn neg (.str (S x)) (.tup [.str (S a0), .str (S a1), .str (S a2), .str (S a3)]) = some (.val, .bl (if neg then !decide (x ∈ [a0, a1, a2, a3]) else decide (x ∈ [a0, a1, a2, a3]))) := in_ST neg x [a0, a1, a2, a3] _ rfl (by simp)
@[simp] theorem in_t5 (neg : Bool) (x a0 a1 a2 a3 a4 : List Nat) : gIn neg (.str (S x)) (.tup [.str (S a0), .str (S a1), .str (S a2), .str (S a3), .str (S a4)]) = some (.val, .bl (if neg then !decide (x ∈ [a0, a1, a2, a3, a4]) else decide (x ∈ [a0, a1, a2, a3, a4]))) := in_ST neg x [a0, a1, a2, a3, a4] _ rfl (by simp)
@[simp] theorem in_t6 (neg : Bool) (x a0 a1 a2 a3 a4 a5 : List Nat) : gIn neg (.str (S x)) (.tup [.str (S a0), .str (S a1), .str (S a2), .str (S a3), .str (S a4), .str (S a5)]) = some (.val, .bl (if neg then !decide (x ∈ [a0, a1, a2, a3, a4, a5]) else decide (x ∈ [a0, a1, a2, a3, a4, a5]))) := in_ST neg x [a0, a1, a2, a3, a4, a5] _ rfl (by simp)
@[simp] theorem in_t7 (neg : Bool) (x a0 a1 a2 a3 a4 a5 a6 : List Nat) : gIn neg (.str (S x)) (.tup [.str (S a0), .str (S a1), .str (S a2), .str (S a3), .str (S a4), .str (S a5), .str (S a6)]) = some (.val, .bl (if neg then !decide (x ∈ [a0, a1, a2, a3, a4, a5, a6]) else decide (x ∈ [a0, a1, a2, a3, a4, a5, a6]))) := in_ST neg x [a0, a1, a2, a3, a4, a5, a6] _ rfl (by simp)
@[simp] theorem in_t8 (neg : Bool) (x a0 a1 a2 a3 a4 a5 a6 a7 : List Nat) : gIn neg (.str (S x)) (.tup [.str (S a0), .str (S a1), .str (S a2), .str (S a3), .str (S a4), .str (S a5), .str (S a6), .str (S a7)]) = some (.val, .bl (if neg then !decide (x ∈ [a0, a1, a2, a3, a4, a5, a6, a7]) else decide (x ∈ [a0, a1, a2, a3, a4, a5, a6, a7]))) := in_ST neg x [a0, a1, a2, a3, a4, a5, a6, a7] _ rfl (by simp)
end K08

namespace K08
open PySem PySem.Spec PyProof.Rows L2 ML
abbrev A : Type := List Nat
@[simp] theorem line0 : (0 ≤ sizeLine) = True := by simp
@[simp] theorem line1 : (1 ≤ sizeLine) = True := by simp [line_is]
@[simp] theorem line2 : (2 ≤ sizeLine) = True := by simp [line_is]
@[simp] theorem line3 : (3 ≤ sizeLine) = True := by simp [line_is]
@[simp] theorem line4 : (4 ≤ sizeLine) = True := by simp [line_is]
theorem l1 : (1 ≤ sizeLine) = True := by simp [line_is]
theorem l2 : (2 ≤ sizeLine) = True := by simp [line_is]
theorem l3 : (3 ≤ sizeLine) = True := by simp [line_is]
theorem l4 : (4 ≤ sizeLine) = True := by simp [line_is]
@[simp] theorem ev_neg (f : Rho → R (Md × W)) (ρ : Rho) : mNeg f ρ = (f ρ).bind fun x ρ1 => (match x.1, x.2 with
  | .val, .int i => .ok (.val, .int (-i)) ρ1
  | _, _ => .stk) := rfl
theorem all2_ints (n : Nat) : All2 (fun (w : W) (z : Nat) => w = .int z ∧ z < n) (intsW 0 n) (List.range n) := by
  have : ∀ l : List Nat, (∀ x ∈ l, x < n) → All2 (fun (w : W) (z : Nat) => w = .int z ∧ z < n) (l.map fun i => W.int (0 + (i : Nat))) l := by
    intro l
    induction l with
    | nil => exact fun _ => .nil
    | cons x l ihl => exact fun h => .cons ⟨by simp, h x (List.mem_cons_self ..)⟩ (ihl fun y hy => h y (List.mem_cons_of_mem _ hy))
  exact this _ fun x hx => List.mem_range.mp hx
theorem all2_rng (n : Nat) : All2 (fun (w : W) (z : Nat) => w = .int z ∧ z < n) (intsW 0 n) (List.range' 0 n) := by
  have := all2_ints n
  rwa [List.range_eq_range'] at this
theorem all2_w (ns : List Int) : All2 (fun (w : W) (n : Int) => w = .int n) (ns.map W.int) ns := by
  induction ns with
  | nil => exact .nil
  | cons y l ih => exact .cons rfl ih
theorem cell_ok (ns : List Int) (k : Nat) : ∃ v, fun__law_cell [.frl (ns.map W.int), .int k] = .ok false (.int v) [] := by
  by_cases hk : k < ns.length
  · have e : atI (ns.map W.int) (k : Int) = some (.int ns[k]) := by
      rw [ML.atI_nat, List.getElem?_map, List.getElem?_eq_getElem hk]
      rfl
    refine ⟨ns[k], ?_⟩
    unfold fun__law_cell body__law_cell
    simp -implicitDefEqProofs [ev_var, hk, e]
  · have e0 : gSet [] 3 = fun w ρ => some (ρ.set 3 (.val w)) := gset_is (by simp)
    obtain ⟨ρ1, e1, sd, s, rfl, b0, b1⟩ := for_inv (i := 3) (g := mSet [] 2 (mOp gMod (mCB gInt [mOp gAdd (mOp gMul (mVar 2) (mC (.int 31))) (mOp gMod (mCB gInt [mVar 3]) (mC (.int 1000003)))]) (mC (.int 1000003))))
      (ρ := [Sl.val (.frl (ns.map W.int)), Sl.val (.int k), Sl.val (.int 17), Sl.no])
      (P := fun zs ρ => ∃ (sd : Int) (s : Sl), ρ = [Sl.val (.frl (ns.map W.int)), Sl.val (.int k), Sl.val (.int sd), s] ∧ 0 ≤ sd ∧ sd < 1000003) (.inr trivial) (all2_w ns) (fun a z zs' ρ q ⟨sd, s, er, b0, b1⟩ => by
        subst er q
        have hm : okMul sd 31 = true := by simp [okMul]
        exact ⟨[Sl.val (.frl (ns.map W.int)), Sl.val (.int k), Sl.val (.int ((sd * 31 + z % 1000003) % 1000003)), Sl.val (.int z)], by simp -implicitDefEqProofs [ev_var, ev_own, ev_mod, hm], _, _, rfl, Int.emod_nonneg _ (by omega), Int.emod_lt_of_pos _ (by omega)⟩) ⟨17, Sl.no, rfl, by omega, by omega⟩
    have hm : ∀ a, okMul a 69621 = true := fun a => by simp [okMul]
    have hb : okMul (sd + 7) ((k : Int) + 3) = true := by
      have h1 : (-(2 ^ 64 : Int)) < sd + 7 := by omega
      have h2 : sd + 7 < (2 ^ 64 : Int) := by omega
      unfold okMul
      rw [decide_eq_true h1, decide_eq_true h2]
      rfl
    refine ⟨(sd + 7) * ((k : Int) + 3) * 69621 % 2147483647, ?_⟩
    unfold fun__law_cell body__law_cell
    simp -implicitDefEqProofs [ev_var, hk, e0, e1, ev_mod, hm, hb]
theorem pow18 : gPow (.int 10) (.int 18) = some (.val, .int (10 ^ 18)) := rfl
def bdD : Rho → ML.R Fl := mSeq (mSet [] 5 (mOp gMod (mCB gInt [mOp gAdd (mOp gAdd (mOp gMul (mVar 5) (mC (.int 48271))) (mOp gMul (mC (.int 974711)) (mVar 6))) (mC (.int 12345))]) (mC (.int 2147483647)))) (mSeq (mSet [] 7 (mOp gMod (mCB gInt [mOp gMul (mVar 5) (mOp gAdd (mOp gFdiv (mVar 5) (mC (.int 65537))) (mC (.int 3)))]) (mC (.int 2147483629)))) (mIf (mAnd (mTest (mVar 4)) (mTest (mOp (gCmp (fun i j => decide (j < i))) (mVar 3) (mC (.int 0))))) (mSeq (mDrop (mAppend 2 [] (mOp gMod (mCB gInt [mVar 3]) (mOp gIx (mVar 1) (mVar 6))))) (mSet [] 3 (mOp gFdiv (mCB gInt [mVar 3]) (mOp gIx (mVar 1) (mVar 6))))) (mDrop (mAppend 2 [] (mOp gMod (mCB gInt [mOp gFdiv (mVar 7) (mC (.int 19))]) (mOp gIx (mVar 1) (mVar 6)))))))
def frD (c : Int) (szs row : List W) (rest : Int) (g : Bool) (sd : Int) (s6 s7 : Sl) : Rho := [Sl.val (.int c), Sl.val (.lst szs), Sl.own (.lst row), Sl.val (.int rest), Sl.val (.bl g), Sl.val (.int sd), s6, s7]
theorem bd_ok {c rest sd z k : Int} {szs row : List W} {g : Bool} {s7 : Sl} (hz : atI szs k = some (.int z)) (z0 : 0 < z) (z1 : z < 1073741824) (hl : row.length ≤ 2000) : ∃ d rest' sd' s7', bdD (frD c szs row rest g sd (Sl.val (.int k)) s7) = .ok .nx (frD c szs (row ++ [.int d]) rest' g sd' (Sl.val (.int k)) s7') ∧ 0 ≤ d ∧ d < z := by
  have hsz : row.length < sizeLine := by rw [line_is]; omega
  have m1 : okMul sd 48271 = true := by simp [okMul]
  have m2 : okMul 974711 k = true := by simp [okMul]
  obtain ⟨sd', hsd⟩ : ∃ sd' : Int, sd' = (sd * 48271 + 974711 * k + 12345) % 2147483647 := ⟨_, rfl⟩
  have b0 : 0 ≤ sd' := by rw [hsd]; exact Int.emod_nonneg _ (by omega)
  have b1 : sd' < 2147483647 := by rw [hsd]; exact Int.emod_lt_of_pos _ (by omega)
  have m3 : okMul sd' (sd' / 65537 + 3) = true := by
    have h1 : (-(2 ^ 64 : Int)) < sd' := by omega
    have h2 : sd' < (2 ^ 64 : Int) := by omega
    unfold okMul
    rw [decide_eq_true h1, decide_eq_true h2]
    rfl
  obtain ⟨tw, htw⟩ : ∃ tw : Int, tw = sd' * (sd' / 65537 + 3) % 2147483629 := ⟨_, rfl⟩
  have s1 : mSet [] 5 (mOp gMod (mCB gInt [mOp gAdd (mOp gAdd (mOp gMul (mVar 5) (mC (.int 48271))) (mOp gMul (mC (.int 974711)) (mVar 6))) (mC (.int 12345))]) (mC (.int 2147483647))) (frD c szs row rest g sd (Sl.val (.int k)) s7) = .ok .nx (frD c szs row rest g sd' (Sl.val (.int k)) s7) := by
    unfold frD
    rw [hsd]
    simp -implicitDefEqProofs [ev_var, ev_own, ev_mod, m1, m2]
  have s2 : mSet [] 7 (mOp gMod (mCB gInt [mOp gMul (mVar 5) (mOp gAdd (mOp gFdiv (mVar 5) (mC (.int 65537))) (mC (.int 3)))]) (mC (.int 2147483629))) (frD c szs row rest g sd' (Sl.val (.int k)) s7) = .ok .nx (frD c szs row rest g sd' (Sl.val (.int k)) (Sl.val (.int tw))) := by
    unfold frD
    rw [htw]
    simp -implicitDefEqProofs [ev_var, ev_own, ev_mod, ev_div, m3]
  unfold bdD
  rw [ev_seq, s1, ev_tn, ev_seq, s2, ev_tn]
  by_cases hg : g = true ∧ 0 < rest
  · obtain ⟨rfl, h0⟩ := hg
    refine ⟨rest % z, rest / z, sd', Sl.val (.int tw), ?_, Int.emod_nonneg _ (by omega), Int.emod_lt_of_pos _ z0⟩
    unfold frD
    simp -implicitDefEqProofs [ev_var, ev_own, ev_mod, ev_div, hz, z0, z1, h0, hsz]
  · refine ⟨tw / 19 % z, rest, sd', Sl.val (.int tw), ?_, Int.emod_nonneg _ (by omega), Int.emod_lt_of_pos _ z0⟩
    unfold frD
    cases g with
    | false => simp -implicitDefEqProofs [ev_var, ev_own, ev_mod, ev_div, hz, z0, hsz]
    | true =>
      have h0 : ¬ 0 < rest := fun h => hg ⟨rfl, h⟩
      simp -implicitDefEqProofs [ev_var, ev_own, ev_mod, ev_div, hz, z0, hsz, h0]
theorem digits_ok (c : Int) (szs : List Int) (hl : szs.length ≤ 1000) (hs : ∀ z ∈ szs, 0 < z ∧ z < 1073741824) : ∃ ds : List Int, fun__law_digits [.int c, .lst (szs.map W.int)] = .ok true (.lst (ds.map W.int)) [] ∧ ds.length = szs.length ∧ ∀ (i : Nat) (d : Int), ds[i]? = some d → ∃ z, szs[i]? = some z ∧ 0 ≤ d ∧ d < z := by
  have e0 : gSet [] 6 = fun w ρ => some (ρ.set 6 (.val w)) := gset_is (by simp)
  have hok : okR (szs.length : Int) = true := by
    unfold okR
    simp
    omega
  have key : ∀ (rest : Int) (g : Bool) (sd : Int), ∃ (ds : List Int) (rest' sd' : Int) (s6 s7 : Sl), forL (fun w ρ => some (ρ.set 6 (.val w))) bdD (intsW 0 szs.length) (frD c (szs.map W.int) [] rest g sd Sl.no Sl.no) = .ok .nx (frD c (szs.map W.int) (ds.map W.int) rest' g sd' s6 s7) ∧ ds.length = szs.length ∧ ∀ (i : Nat) (d : Int), ds[i]? = some d → ∃ z, szs[i]? = some z ∧ 0 ≤ d ∧ d < z := by
    intro rest g sd
    obtain ⟨ρ1, e1, ds, rest', sd', s6, s7, rfl, h1, _, h2⟩ := for_inv (i := 6) (g := bdD) (ρ := frD c (szs.map W.int) [] rest g sd Sl.no Sl.no)
      (P := fun zs ρ => ∃ (ds : List Int) (rest' sd' : Int) (s6 s7 : Sl), ρ = frD c (szs.map W.int) (ds.map W.int) rest' g sd' s6 s7 ∧ ds.length + zs.length = szs.length ∧ zs = List.range' ds.length zs.length ∧ ∀ (i : Nat) (d : Int), ds[i]? = some d → ∃ z, szs[i]? = some z ∧ 0 ≤ d ∧ d < z) (.inr trivial) (all2_rng szs.length) (fun a k zs' ρ q ⟨ds, rest', sd', s6, s7, er, h1, hr, h2⟩ => by
        subst er
        obtain ⟨rfl, hk⟩ := q
        rw [List.length_cons, List.range'_succ] at hr
        obtain ⟨hkd, hr2⟩ := List.cons.inj hr
        have hz : atI (szs.map W.int) (k : Int) = some (.int szs[k]) := by
          rw [ML.atI_nat, List.getElem?_map, List.getElem?_eq_getElem hk]
          rfl
        obtain ⟨z0, z1⟩ := hs szs[k] (List.getElem_mem hk)
        obtain ⟨d, r2, sd2, s72, f1, f2, f3⟩ := bd_ok (c := c) (rest := rest') (sd := sd') (g := g) (s7 := s7) (row := ds.map W.int) hz z0 z1 (by simp at h1 ⊢; omega)
        refine ⟨_, f1, ds ++ [d], r2, sd2, Sl.val (.int (k : Int)), s72, by simp, by simp at h1 ⊢; omega, by rw [List.length_append]; exact hr2, fun i y hy => ?_⟩
        by_cases hi : i < ds.length
        · rw [List.getElem?_append_left hi] at hy
          exact h2 i y hy
        · have hi2 : i < (ds ++ [d]).length := (List.getElem?_eq_some_iff.mp hy).1
          have e : i = ds.length := by simp at hi2; omega
          subst e
          rw [List.getElem?_append_right (Nat.le_refl _), Nat.sub_self] at hy
          cases hy
          exact ⟨szs[k], by rw [← hkd]; exact List.getElem?_eq_getElem hk, f2, f3⟩) ⟨[], rest, sd, Sl.no, Sl.no, rfl, by simp, by simp, fun i d h => by simp at h⟩
    exact ⟨ds, rest', sd', s6, s7, e1, by simpa using h1, h2⟩
  have l0 : ([] : List W).length ≤ sizeLine := by simp
  by_cases hg : (10 ^ 18 : Int) ≤ c
  · obtain ⟨ds, rest', sd', s6, s7, e1, h1, h2⟩ := key (c - 10 ^ 18) true (c % 2147483629)
    refine ⟨ds, ?_, h1, h2⟩
    unfold bdD frD at e1
    have hg' : (1000000000000000000 : Int) ≤ c := hg
    unfold fun__law_digits body__law_digits
    simp at e1
    simp -implicitDefEqProofs [ev_var, ev_own, ev_mod, pow18, hg', e0, hok, e1]
  · obtain ⟨ds, rest', sd', s6, s7, e1, h1, h2⟩ := key c false (c % 2147483629)
    refine ⟨ds, ?_, h1, h2⟩
    unfold bdD frD at e1
    have hg' : ¬ (1000000000000000000 : Int) ≤ c := hg
    unfold fun__law_digits body__law_digits
    try simp at e1
    simp -implicitDefEqProofs [ev_var, ev_own, ev_mod, pow18, hg', e0, hok, e1]
end K08

namespace K08
open PySem PySem.Spec PyProof.Rows L2 ML
/-! ### names, drawing -/
def lowC (c : Nat) : Bool := decide (97 ≤ c) && decide (c ≤ 122)
def digC (c : Nat) : Bool := decide (48 ≤ c) && decide (c ≤ 57)
def resv : List A := [[115, 107, 105, 112], [113, 117, 105, 116], [105, 102], [116, 104, 101, 110], [101, 108, 115, 101], [102, 105], [119, 104, 105, 108, 101], [100, 111], [111, 100], [110, 101, 119], [105, 110], [101, 110, 100], [108, 101, 116], [98, 101], [99, 111, 109, 109, 97, 110, 100], [110, 117, 109, 98, 101, 114]]
structure IsName (x : A) : Prop where
  pos : 1 ≤ x.length
  len : x.length ≤ 8
  nres : x ∉ resv
  hd : ∃ c r, x = c :: r ∧ lowC c = true
  all : ∀ c ∈ x, lowC c = true ∨ digC c = true
def IsR (w : W) : Prop := ∃ row p, w = .lst [.lst row, .int p] ∧ row.length = 70 ∧ ∀ x ∈ row, ∃ i, x = .int i
theorem e_next (row : List W) (p m d : Int) (hm : 0 < m) (hd : atI row (p % 70) = some (.int d)) :
    fun__law_next [.lst [.lst row, .int p], .int m] = .ok false (.int ((d + 13 * (p / 70)) % m)) [.lst [.lst row, .int (p+1)]] := by
  unfold fun__law_next body__law_next
  simp -implicitDefEqProofs [ev_var, ev_own, ev_mod, ev_div, hm, hd, okMul, ixN]
def NextOk (nx : List W → FR) : Prop := ∀ {r : W}, IsR r → ∀ {m : Int}, 0 < m → ∃ (v : Nat) (r' : W), nx [r, .int m] = .ok false (.int (v : Int)) [r'] ∧ (v : Int) < m ∧ IsR r'
theorem next_ok : NextOk fun__law_next := by
  intro r h m hm
  obtain ⟨row, p, rfl, hl, hx⟩ := h
  have h0 : 0 ≤ p % 70 := Int.emod_nonneg _ (by omega)
  have h1 : p % 70 < 70 := Int.emod_lt_of_pos _ (by omega)
  obtain ⟨n, hn⟩ := Int.eq_ofNat_of_zero_le h0
  have hn2 : n < row.length := by omega
  obtain ⟨d, hd⟩ := hx row[n] (List.getElem_mem hn2)
  have e := e_next row p m d hm (by rw [hn, ML.atI_nat, List.getElem?_eq_getElem hn2, hd])
  obtain ⟨v, hv⟩ := Int.eq_ofNat_of_zero_le (Int.emod_nonneg (d + 13 * (p / 70)) (show m ≠ 0 by omega))
  have hlt : (d + 13 * (p / 70)) % m < m := Int.emod_lt_of_pos _ hm
  rw [hv] at e hlt
  exact ⟨v, _, e, hlt, _, _, rfl, hl, hx⟩
theorem mul70 : gMul (.lst [W.int 5040]) (.int 70) = some (.fre, .lst ((List.replicate 70 (5040 : Int)).map W.int)) := by
  have e : gMul (.lst [W.int 5040]) (.int 70) = if -(2 ^ 63) ≤ (70 : Int) ∧ (70 : Int) < 2 ^ 63 ∧ [W.int 5040].length * (70 : Int).toNat ≤ sizeLine then some (.fre, .lst (List.replicate (70 : Int).toNat [W.int 5040]).flatten) else none := rfl
  rw [e, if_pos (by rw [line_is]; decide)]
  rfl
def rrF : List W → FR := fun__law_reader fun__law_digits
theorem reader_ok (c : Int) : ∃ r, rrF [.int c] = .ok true r [] ∧ IsR r := by
  obtain ⟨ds, e1, e2, _⟩ := digits_ok c (List.replicate 70 5040) (by simp) (fun z hz => by rw [(List.mem_replicate.mp hz).2]; omega)
  refine ⟨.lst [.lst (ds.map W.int), .int 0], ?_, ds.map W.int, 0, rfl, by simpa using e2, fun x hx => ?_⟩
  · have m7 := mul70
    unfold rrF
    generalize fun__law_digits = dg at *
    unfold fun__law_reader body__law_reader
    generalize (List.replicate 70 (5040 : Int)).map W.int = S70 at *
    simp -implicitDefEqProofs [ev_var, ev_own, l1, l2, e1, m7]
  · obtain ⟨i, _, rfl⟩ := List.mem_map.mp hx
    exact ⟨i, rfl⟩
/-- a for with any ends -/
theorem for_run {α : Type} {tg : W → Rho → Option Rho} {g : Rho → R Fl} {Q : W → α → Prop} {P : List α → Rho → Prop} {Post : R Fl → Prop} (hn : ∀ ρ, P [] ρ → Post (.ok .nx ρ))
    (hs : ∀ w z zs ρ, Q w z → P (z :: zs) ρ → ∃ ρ0, tg w ρ = some ρ0 ∧ ((∃ ρ1, (g ρ0 = .ok .nx ρ1 ∨ g ρ0 = .ok .ct ρ1) ∧ P zs ρ1) ∨ (∃ ρ1, g ρ0 = .ok .bk ρ1 ∧ Post (.ok .nx ρ1)) ∨ (∃ m u ρ1, g ρ0 = .ok (.rt m u) ρ1 ∧ Post (.ok (.rt m u) ρ1)) ∨ (∃ c ns ws ρ1, g ρ0 = .exc c ns ws ρ1 ∧ Post (.exc c ns ws ρ1)))) :
    ∀ {ws : List W} {zs : List α} {ρ : Rho}, All2 Q ws zs → P zs ρ → Post (forL tg g ws ρ)
  | [], _, ρ, .nil, hp => hn ρ hp
  | w :: ws, z :: zs, ρ, .cons q qs, hp => by
    obtain ⟨ρ0, e0, h⟩ := hs w z zs ρ q hp
    rw [ev_forc, e0]
    show Post (loopF (g ρ0) (forL tg g ws))
    rcases h with ⟨ρ1, e, hp1⟩ | ⟨ρ1, e, hp1⟩ | ⟨m, u, ρ1, e, hp1⟩ | ⟨c, ns, vs, ρ1, e, hp1⟩
    · rcases e with e | e
      · rw [e, ev_lpn]; exact for_run hn hs qs hp1
      · rw [e, ev_lpc]; exact for_run hn hs qs hp1
    · rw [e, ev_lpb]; exact hp1
    · rw [e, ev_lpr]; exact hp1
    · rw [e]; exact hp1
end K08

namespace K08
open PySem PySem.Spec PyProof.Rows L2 ML
/-! ### moves -/
inductive Mv where
  | run | call (n : A) | ask (n : A) (i : Nat) | get (c : A) | set (c : A) (k : Nat)
  | ends (k : Option Nat) | told (n : A) (i : Nat) (k : Option Nat) | back (n : A) (k : Option Nat) | is (c : A) (k : Nat) | kept (c : A)
def nk : Option Nat → List A
  | none => []
  | some k => [TL.numL k]
def Mv.ws : Mv → List A
  | .run => [[114, 117, 110]]
  | .call n => [[99, 97, 108, 108], n]
  | .ask n i => [[97, 115, 107], n, TL.numL i]
  | .get c => [[103, 101, 116], c]
  | .set c k => [[115, 101, 116], c, TL.numL k]
  | .ends k => [101, 110, 100] :: nk k
  | .told n i k => [116, 111, 108, 100] :: n :: TL.numL i :: nk k
  | .back n k => [98, 97, 99, 107] :: n :: nk k
  | .is c k => [[105, 115], c, TL.numL k]
  | .kept c => [[107, 101, 112, 116], c]
def Mv.tx (m : Mv) : A := TL.joinL [32] m.ws
def kOk : Option Nat → Prop
  | none => True
  | some k => k < 10
/-- its names are names, its numbers small -/
def Mv.Ok : Mv → Prop
  | .run => True
  | .call n => IsName n
  | .ask n i => IsName n ∧ i < 10
  | .get c => IsName c
  | .set c k => IsName c ∧ k < 10
  | .ends k => kOk k
  | .told n i k => IsName n ∧ i < 10 ∧ kOk k
  | .back n k => IsName n ∧ kOk k
  | .is c k => IsName c ∧ k < 10
  | .kept c => IsName c
def Mv.opn : Mv → Bool
  | .run => true
  | .call _ => true
  | .ask _ _ => true
  | .get _ => true
  | .set _ _ => true
  | _ => false
theorem name32 {x : A} (h : IsName x) : 32 ∉ x := fun hm => by
  rcases h.all 32 hm with h | h <;> simp [lowC, digC] at h
theorem num_is {k : Nat} (h : k < 10) : TL.numL k = [48 + k] := TL.numL_lt h
theorem num32 {k : Nat} (h : k < 10) : 32 ∉ TL.numL k := by
  rw [num_is h]
  simp
  omega
theorem nk32 {k : Option Nat} (h : kOk k) : ∀ w ∈ nk k, 32 ∉ w := by
  cases k with
  | none => simp [nk]
  | some k =>
    intro w hw
    simp [nk] at hw
    rw [hw]
    exact num32 h
theorem ws32 : ∀ {m : Mv}, m.Ok → ∀ w ∈ m.ws, 32 ∉ w
  | .run, _ => by simp [Mv.ws]
  | .call n, h => by simp [Mv.ws, name32 h]
  | .ask n i, h => by simp [Mv.ws, name32 h.1, num32 h.2]
  | .get c, h => by simp [Mv.ws, name32 h]
  | .set c k, h => by simp [Mv.ws, name32 h.1, num32 h.2]
  | .ends k, h => by
    have := nk32 h
    simp [Mv.ws]
    exact this
  | .told n i k, h => by
    have := nk32 h.2.2
    simp [Mv.ws, name32 h.1, num32 h.2.1]
    exact this
  | .back n k, h => by
    have := nk32 h.2
    simp [Mv.ws, name32 h.1]
    exact this
  | .is c k, h => by simp [Mv.ws, name32 h.1, num32 h.2]
  | .kept c, h => by simp [Mv.ws, name32 h]
theorem ws_ne (m : Mv) : m.ws ≠ [] := by cases m <;> simp [Mv.ws]
theorem split_of {ws : List A} (hn : ws ≠ []) (h : ∀ w ∈ ws, 32 ∉ w) : Txt.split (S (TL.joinL [32] ws)) (S [32]) = ws.map S := by
  have e : Txt.split (S (TL.joinL [32] ws)) (S [32]) = (TL.spl [32] 0 [] (TL.joinL [32] ws)).map S := SX.split_S (by simp) (by decide)
  rw [e, TL.spl_join hn h]
theorem split_tx {m : Mv} (h : m.Ok) : Txt.split (S m.tx) (S [32]) = m.ws.map S := split_of (ws_ne m) (ws32 h)
theorem nk_len {k : Option Nat} (h : kOk k) : (TL.joinL [32] (nk k)).length ≤ 1 := by
  cases k with
  | none => simp [nk, TL.joinL]
  | some k => simp [nk, TL.joinL, num_is h]
theorem tx_len : ∀ {m : Mv}, m.Ok → m.tx.length ≤ 40
  | .run, _ => by simp [Mv.tx, Mv.ws, TL.joinL]
  | .call n, h => by have := h.len; simp [Mv.tx, Mv.ws, TL.joinL]; omega
  | .ask n i, h => by have := h.1.len; simp [Mv.tx, Mv.ws, TL.joinL, num_is h.2]; omega
  | .get c, h => by have := h.len; simp [Mv.tx, Mv.ws, TL.joinL]; omega
  | .set c k, h => by have := h.1.len; simp [Mv.tx, Mv.ws, TL.joinL, num_is h.2]; omega
  | .ends none, h => by simp [Mv.tx, Mv.ws, TL.joinL, nk]
  | .ends (some k), h => by simp [Mv.tx, Mv.ws, TL.joinL, nk, num_is h]
  | .told n i none, h => by have := h.1.len; simp [Mv.tx, Mv.ws, TL.joinL, nk, num_is h.2.1]; omega
  | .told n i (some k), h => by have := h.1.len; simp [Mv.tx, Mv.ws, TL.joinL, nk, num_is h.2.1, num_is h.2.2]; omega
  | .back n none, h => by have := h.1.len; simp [Mv.tx, Mv.ws, TL.joinL, nk]; omega
  | .back n (some k), h => by have := h.1.len; simp [Mv.tx, Mv.ws, TL.joinL, nk, num_is h.2]; omega
  | .is c k, h => by have := h.1.len; simp [Mv.tx, Mv.ws, TL.joinL, num_is h.2]; omega
  | .kept c, h => by have := h.len; simp [Mv.tx, Mv.ws, TL.joinL]; omega
theorem tx_pos (m : Mv) : 1 ≤ m.tx.length := by
  cases m with
  | ends k => cases k <;> simp [Mv.tx, Mv.ws, TL.joinL, nk]
  | told n i k => cases k <;> simp [Mv.tx, Mv.ws, TL.joinL, nk]
  | back n k => cases k <;> simp [Mv.tx, Mv.ws, TL.joinL, nk]
  | _ => simp [Mv.tx, Mv.ws, TL.joinL]
/-! ### the signature, the moves that may come -/
structure Sg where
  z : Nat
  ps : List (A × List Bool × Bool)
  cs : List A
structure SgOk (g : Sg) : Prop where
  z1 : 2 ≤ g.z
  z2 : g.z ≤ 4
  pl : g.ps.length ≤ 6
  cl : g.cs.length ≤ 4
  pn : ∀ t ∈ g.ps, IsName t.1 ∧ t.2.1.length ≤ 3
  cn : ∀ c ∈ g.cs, IsName c
def fnd (ps : List (A × List Bool × Bool)) (n : A) : Option (A × List Bool × Bool) := ps.find? fun t => decide (t.1 = n)
def num (f : Option Nat → Mv) (b : Bool) (z : Nat) : List Mv := if b then (List.range z).map fun k => f (some k) else [f none]
def Sg.base (g : Sg) : List Mv := g.ps.map (fun t => .call t.1) ++ g.cs.flatMap fun c => .get c :: (List.range g.z).map fun k => .set c k
def mayT (g : Sg) (kd : Bool) : Mv → List Mv
  | .run => g.base ++ num .ends kd g.z
  | .ask n i => (match fnd g.ps n with
    | some t => g.base ++ num (.told n i) (t.2.1.getD i false) g.z
    | none => [])
  | .call n => (match fnd g.ps n with
    | some t => (List.range t.2.1.length).map (fun i => .ask n i) ++ num (.back n) t.2.2 g.z
    | none => [])
  | .get c => (List.range g.z).map fun k => .is c k
  | .set c _ => [.kept c]
  | _ => []
theorem mayT_ask {g : Sg} {kd : Bool} {n : A} {i : Nat} {t : A × List Bool × Bool} (h : fnd g.ps n = some t) : mayT g kd (.ask n i) = g.base ++ num (.told n i) (t.2.1.getD i false) g.z := by simp only [mayT, h]
theorem mayT_call {g : Sg} {kd : Bool} {n : A} {t : A × List Bool × Bool} (h : fnd g.ps n = some t) : mayT g kd (.call n) = (List.range t.2.1.length).map (fun i => .ask n i) ++ num (.back n) t.2.2 g.z := by simp only [mayT, h]
def may (g : Sg) (kd : Bool) (o : List Mv) : List Mv := match o.getLast? with
  | some t => mayT g kd t
  | none => []
/-- a move that opens, for this signature -/
def Mv.V (g : Sg) : Mv → Prop
  | .run => True
  | .call n => ∃ t, fnd g.ps n = some t
  | .ask n i => ∃ t, fnd g.ps n = some t ∧ i < t.2.1.length
  | .get c => c ∈ g.cs
  | .set c k => c ∈ g.cs ∧ k < g.z
  | _ => False
/-- a move that may come -/
def Mv.M (g : Sg) (m : Mv) : Prop := m.Ok ∧ (m.opn = true → m.V g)
theorem fnd_mem {ps : List (A × List Bool × Bool)} {n : A} {t : A × List Bool × Bool} (h : fnd ps n = some t) : t ∈ ps ∧ t.1 = n := ⟨List.mem_of_find?_eq_some h, by simpa using List.find?_some h⟩
theorem fnd_of {ps : List (A × List Bool × Bool)} {t : A × List Bool × Bool} (h : t ∈ ps) : ∃ u, fnd ps t.1 = some u := by
  unfold fnd
  cases e : ps.find? (fun u => decide (u.1 = t.1)) with
  | some u => exact ⟨u, rfl⟩
  | none =>
    have := List.find?_eq_none.mp e t h
    simp at this
theorem V_ok {g : Sg} (G : SgOk g) : ∀ {m : Mv}, m.V g → m.Ok
  | .run, _ => trivial
  | .call n, ⟨t, h⟩ => by
    obtain ⟨h1, h2⟩ := fnd_mem h
    rw [← h2]
    exact (G.pn t h1).1
  | .ask n i, ⟨t, h, hi⟩ => by
    obtain ⟨h1, h2⟩ := fnd_mem h
    obtain ⟨h3, h4⟩ := G.pn t h1
    exact ⟨by rw [← h2]; exact h3, by omega⟩
  | .get c, h => G.cn c h
  | .set c k, ⟨h, hk⟩ => ⟨G.cn c h, by have := G.z2; omega⟩
theorem V_opn {g : Sg} {m : Mv} (h : m.V g) : m.opn = true := by cases m <;> first | rfl | exact h.elim
theorem num_M {g : Sg} (G : SgOk g) {f : Option Nat → Mv} {b : Bool} (h : ∀ k, kOk k → (f k).Ok ∧ (f k).opn = false) {m : Mv} (hm : m ∈ num f b g.z) : m.M g := by
  have z2 := G.z2
  unfold num at hm
  split at hm
  · obtain ⟨k, hk, rfl⟩ := List.mem_map.mp hm
    have := h (some k) (show k < 10 by have := List.mem_range.mp hk; omega)
    exact ⟨this.1, fun z => by rw [this.2] at z; cases z⟩
  · rw [List.mem_singleton.mp hm]
    have := h none trivial
    exact ⟨this.1, fun z => by rw [this.2] at z; cases z⟩
theorem base_M {g : Sg} (G : SgOk g) {m : Mv} (hm : m ∈ g.base) : m.M g := by
  have V : m.V g := by
    rcases List.mem_append.mp hm with hm | hm
    · obtain ⟨t, ht, rfl⟩ := List.mem_map.mp hm
      exact fnd_of ht
    · obtain ⟨c, hc, hm⟩ := List.mem_flatMap.mp hm
      rcases List.mem_cons.mp hm with rfl | hm
      · exact hc
      · obtain ⟨k, hk, rfl⟩ := List.mem_map.mp hm
        exact ⟨hc, List.mem_range.mp hk⟩
  exact ⟨V_ok G V, fun _ => V⟩
theorem mayT_M {g : Sg} (G : SgOk g) {kd : Bool} : ∀ {t : Mv}, t.V g → ∀ m ∈ mayT g kd t, m.M g := by
  intro t hV m hm
  have ok := V_ok G hV
  have z2 := G.z2
  cases t with
  | run =>
    rcases List.mem_append.mp hm with hm | hm
    · exact base_M G hm
    · exact num_M G (f := .ends) (fun k hk => ⟨hk, rfl⟩) hm
  | ask n i =>
    obtain ⟨t, h, hi⟩ := hV
    rw [mayT_ask h] at hm
    rcases List.mem_append.mp hm with hm | hm
    · exact base_M G hm
    · exact num_M G (f := .told n i) (fun k hk => ⟨⟨ok.1, ok.2, hk⟩, rfl⟩) hm
  | call n =>
    obtain ⟨t, h⟩ := hV
    rw [mayT_call h] at hm
    rcases List.mem_append.mp hm with hm | hm
    · obtain ⟨i, hi, rfl⟩ := List.mem_map.mp hm
      have V : (Mv.ask n i).V g := ⟨t, h, List.mem_range.mp hi⟩
      exact ⟨V_ok G V, fun _ => V⟩
    · exact num_M G (f := .back n) (fun k hk => ⟨⟨ok, hk⟩, rfl⟩) hm
  | get c =>
    obtain ⟨k, hk, rfl⟩ := List.mem_map.mp hm
    have := List.mem_range.mp hk
    exact ⟨⟨ok, by omega⟩, fun z => by cases z⟩
  | set c k =>
    rw [List.mem_singleton.mp hm]
    exact ⟨ok.1, fun z => by cases z⟩
  | _ => exact hV.elim
/-- a row of open moves -/
def OkO (g : Sg) (o : List Mv) : Prop := ∀ m ∈ o, m.V g
theorem may_M {g : Sg} (G : SgOk g) {kd : Bool} {o : List Mv} (h : OkO g o) : ∀ m ∈ may g kd o, m.M g := by
  intro m hm
  unfold may at hm
  cases e : o.getLast? with
  | none => rw [e] at hm; cases hm
  | some t => rw [e] at hm; exact mayT_M G (h t (List.mem_of_getLast? e)) m hm
def aft (o : List Mv) (m : Mv) : List Mv := if m.opn then o ++ [m] else o.dropLast
theorem aft_ok {g : Sg} {o : List Mv} {m : Mv} (h : OkO g o) (hm : m.M g) : OkO g (aft o m) := by
  unfold aft
  split
  · rename_i ho
    intro x hx
    rcases List.mem_append.mp hx with hx | hx
    · exact h x hx
    · rw [List.mem_singleton.mp hx]; exact hm.2 ho
  · exact fun x hx => h x (List.dropLast_subset o hx)
end K08

namespace K08
open PySem PySem.Spec PyProof.Rows L2 ML
/-! ### reckoning -/
section
variable {I J : List Nat} {ρ : Rho}
@[simp] theorem ev_split (fo fe : Rho → ML.R (Md × W)) (ρ : Rho) : mSplit fo fe ρ = (fo ρ).bind fun x ρ1 => (match x.1, x.2 with
  | .val, .str a => (fe ρ1).bind fun y ρ2 => (match y.1, y.2 with
    | .val, .str b => if b.length ≠ 0 ∧ a.length + 2 ≤ sizeLine then .ok (.fre, .lst ((Txt.split a b).map .str)) ρ2 else .stk
    | _, _ => .stk)
  | _, _ => .stk) := rfl
@[simp] theorem ev_upper (fo : Rho → ML.R (Md × W)) (ρ : Rho) : mUpper fo ρ = (fo ρ).bind fun x ρ1 => (match x.1, x.2 with
  | .val, .str a => if a.length ≤ 5592405 then .ok (.val, .str (Txt.upper a)) ρ1 else .stk
  | _, _ => .stk) := rfl
theorem ev_fld (cl : List Str) (f : Str) (fe : Rho → ML.R (Md × W)) (ρ : Rho) : mFld cl f fe ρ = (fe ρ).bind fun b ρ1 => (match peek b.1 b.2 ρ1 with
  | some (.obj c ns l) => if c ∈ cl then (match (ns.zip l).lookup f with
    | some w => .ok (.val, w) ρ1
    | none => .stk) else .stk
  | _ => .stk) := rfl
theorem ev_meth (c m : Str) (fm : List W → FR) (fo : Rho → ML.R (Md × W)) (fs : List (Rho → ML.R (Md × W))) (ρ : Rho) : mMeth I c m fm fo fs ρ = (fo ρ).bind fun b ρ1 => (match b with
  | (.val, .obj c' ns l) => if c' = c ∧ (ns.zip l).lookup m = none then (mHold fs ρ1).bind fun bs ρ2 => (valsL I bs ρ2).bind fun ws ρ3 => (match fm (.obj c ns l :: ws) with
    | .ok fr w [] => .ok (if fr then .fre else .val, w) ρ3
    | _ => .stk) else .stk
  | _ => .stk) := rfl
@[simp] theorem ev_make (c : Str) (fm : List W → FR) (fs : List (Rho → ML.R (Md × W))) (ρ : Rho) : mMake I c fm fs ρ = (mHold fs ρ).bind fun bs ρ1 => (valsL I bs ρ1).bind fun ws ρ2 => (match fm (.obj c [] [] :: ws) with
  | .ok false .non [.obj c' ns l] => .ok (.fre, .obj c' ns l) ρ2
  | _ => .stk) := rfl
@[simp] theorem ev_fset (i : Nat) (cl : List Str) (f : Str) (fe : Rho → ML.R (Md × W)) (ρ : Rho) : mFset i I cl f fe ρ = (fe ρ).bind fun b ρ1 => (toVal I b ρ1).bind fun w ρ2 => (match ownAt ρ2 i with
  | some (.obj c ns l) => if c ∈ cl ∧ ns.length < 900 then .ok .nx (ρ2.set i (.own (.obj c (putN f ns) (putL f w ns l)))) else .stk
  | _ => .stk) := rfl
@[simp] theorem ev_ext (i : Nat) (fe : Rho → ML.R (Md × W)) (ρ : Rho) : mExtend i I fe ρ = (match ownAt ρ i with
  | some (.lst _) => (fe ρ).bind fun b ρ1 => (toVal I b ρ1).bind fun w ρ2 => (match ownAt ρ2 i, w with
    | some (.lst l), .tup m => if l.length + m.length ≤ sizeLine then .ok (.val, .non) (ρ2.set i (.own (.lst (l ++ m)))) else .stk
    | _, _ => .stk)
  | _ => .stk) := rfl
@[simp] theorem ev_enum (fs : List (Rho → ML.R (Md × W))) (ρ : Rho) : mEnum fs ρ = (mHold fs ρ).bind fun bs ρ1 => (match bs with
  | [(.val, .tup l)] => .ok (enumW 0 l) ρ1
  | _ => .stk) := rfl
@[simp] theorem ev_raise (I : List Nat) (c : Str) (ns : List Str) (fs : List (Rho → ML.R (Md × W))) (ρ : Rho) : mRaise I c ns fs ρ = (mHold fs ρ).bind fun bs ρ1 => (valsL I bs ρ1).bind fun ws ρ2 => if ws.length = ns.length ∧ ns ≠ [] ∧ ns.length ≤ 900 then .exc c ns.reverse ws.reverse ρ2 else .stk := rfl
end
theorem atL (l : List W) (x : W) : atI (l ++ [x]) (-1) = some x := by
  unfold atI ixN
  rw [if_neg (by omega), if_pos (by rw [List.length_append, List.length_singleton]; omega)]
  show (l ++ [x])[((l ++ [x]).length + (-1 : Int)).toNat]? = some x
  have e : ((l ++ [x]).length + (-1 : Int)).toNat = l.length := by rw [List.length_append, List.length_singleton]; omega
  rw [e, List.getElem?_append_right (Nat.le_refl _), Nat.sub_self]
  rfl
/-- a comprehension over one name -/
theorem lc_gen {α : Type} {I : List Nat} {it : Rho → ML.R (List W)} {i : Nat} {fe : Rho → ML.R (Md × W)} {g : α → W} {Q : W → α → Prop} {ws : List W} {zs : List α} {ρ : Rho} (hit : it ρ = .ok ws ρ) (hI : i ∉ I) (h : ∀ w z, Q w z → mEl I fe (ρ.set i (.val w)) = .ok (g z) (ρ.set i (.val w))) (qs : All2 Q ws zs) (hl : ws.length ≤ sizeLine) (hn : ρ.set i .no = ρ) :
    mLc I it (.nm i) mYes fe ρ = .ok (.fre, .lst (zs.map g)) ρ := by
  rw [ev_lc, hit, ev_bo]
  have e : CT.ix (.nm i) = [i] := rfl
  rw [e, if_pos (by simp [hI]), comp2 (g := g) (Q := Q) (ρ := ρ) h qs (by simpa using hl) hn]
  rfl
theorem okR_nat {n : Nat} (h : n ≤ 1000000) : okR (n : Int) = true := by
  unfold okR
  simp
  omega
theorem all2_len {n : Nat} : (intsW 0 n).length = n := by simp [intsW]
/-- [.. for k in range(n)] -/
theorem lc_rng {I : List Nat} {f : Rho → ML.R (Md × W)} {i n : Nat} {fe : Rho → ML.R (Md × W)} {g : Nat → W} {ρ : Rho} (hf : f ρ = .ok (.val, .int (n : Int)) ρ) (hI : i ∉ I) (hn : n ≤ 1000) (h : ∀ k : Nat, k < n → mEl I fe (ρ.set i (.val (.int (k : Int)))) = .ok (g k) (ρ.set i (.val (.int (k : Int))))) (hr : ρ.set i .no = ρ) :
    mLc I (mRange1 [f]) (.nm i) mYes fe ρ = .ok (.fre, .lst ((List.range n).map g)) ρ := by
  refine lc_gen (Q := fun (w : W) (z : Nat) => w = .int (z : Int) ∧ z < n) (ws := intsW 0 n) ?_ hI (fun w z q => by rw [q.1]; exact h z q.2) (all2_ints n) (by rw [all2_len, line_is]; omega) hr
  have ho := okR_nat (show n ≤ 1000000 by omega)
  simp -implicitDefEqProofs [ev_r1, hf, ho]
abbrev tW (x : A) : W := .str (S x)
def kd (b : Bool) : A := if b then [110, 117, 109, 98, 101, 114] else [99, 111, 109, 109, 97, 110, 100]
abbrev kW (b : Bool) : W := tW (kd b)
@[simp] theorem kd_t : kd true = [110, 117, 109, 98, 101, 114] := rfl
@[simp] theorem kd_f : kd false = [99, 111, 109, 109, 97, 110, 100] := rfl
/-- the texts of num -/
def numT (x : A) (b : Bool) (z : Nat) : List A := if b then (List.range z).map fun k => x ++ (32 :: TL.numL k) else [x]
theorem numT_is {f : Option Nat → Mv} {x : A} {b : Bool} {z : Nat} (h0 : (f none).tx = x) (h1 : ∀ k, (f (some k)).tx = x ++ (32 :: TL.numL k)) : (num f b z).map Mv.tx = numT x b z := by
  unfold num numT
  split
  · rw [List.map_map]
    exact List.map_congr_left fun k _ => h1 k
  · rw [List.map_singleton, h0]
theorem answer_ok {x : A} {b : Bool} {z : Nat} (hx : x.length ≤ 1000) (hz : z ≤ 4) : fun_answer_moves [tW x, kW b, .int (z : Int)] = .ok false (.tup ((numT x b z).map tW)) [] := by
  cases b with
  | false =>
    unfold fun_answer_moves body_answer_moves
    simp -implicitDefEqProofs [ev_var, numT, l1]
  | true =>
    have e := lc_rng (I := []) (f := mVar 2) (i := 3) (n := z) (fe := mOp gAdd (mOp gAdd (mVar 0) (mC (.str " "))) (mCB gStr [mVar 3])) (g := fun k => tW (x ++ (32 :: TL.numL k))) (ρ := [Sl.val (tW x), Sl.val (kW true), Sl.val (.int (z : Int)), Sl.no]) rfl (by simp) (by omega) (fun k hk => by
      have hs := ev_strI (n := k) (by omega)
      have hl := num_is (k := k) (by omega)
      have a1 := ev_addSS (a := x) (b := [32]) (by simp; omega)
      have a2 := ev_addSS (a := x ++ [32]) (b := TL.numL k) (by rw [hl]; simp; omega)
      rw [List.append_assoc] at a2
      simp -implicitDefEqProofs [ev_var, hs, a1, a2]) rfl
    simp at e
    unfold fun_answer_moves body_answer_moves
    simp -implicitDefEqProofs [ev_var, numT, e]
theorem numbered_ok {x : A} {b : Bool} {z : Nat} (hx : x.length ≤ 1000) (hz : z ≤ 4) : fun__law_numbered [tW x, kW b, .int (z : Int)] = .ok true (.lst ((numT x b z).map tW)) [] := by
  cases b with
  | false =>
    unfold fun__law_numbered body__law_numbered
    simp -implicitDefEqProofs [ev_var, numT, l1]
  | true =>
    have e := lc_rng (I := []) (f := mVar 2) (i := 3) (n := z) (fe := mOp gAdd (mOp gAdd (mVar 0) (mC (.str " "))) (mCB gStr [mVar 3])) (g := fun k => tW (x ++ (32 :: TL.numL k))) (ρ := [Sl.val (tW x), Sl.val (kW true), Sl.val (.int (z : Int)), Sl.no]) rfl (by simp) (by omega) (fun k hk => by
      have hs := ev_strI (n := k) (by omega)
      have hl := num_is (k := k) (by omega)
      have a1 := ev_addSS (a := x) (b := [32]) (by simp; omega)
      have a2 := ev_addSS (a := x ++ [32]) (b := TL.numL k) (by rw [hl]; simp; omega)
      rw [List.append_assoc] at a2
      simp -implicitDefEqProofs [ev_var, hs, a1, a2]) rfl
    simp at e
    unfold fun__law_numbered body__law_numbered
    simp -implicitDefEqProofs [ev_var, numT, e]
end K08

namespace K08
open PySem PySem.Spec PyProof.Rows L2 ML
/-! ### the signature as a value -/
abbrev Tr : Type := A × List Bool × Bool
def trW (t : Tr) : W := .tup [tW t.1, .tup (t.2.1.map kW), kW t.2.2]
def pW (g : Sg) : W := .tup (g.ps.map trW)
def cW (g : Sg) : W := .tup (g.cs.map tW)
def nmW (g : Sg) : W := .tup ((g.ps.map (·.1) ++ g.cs).map tW)
def objW (g : Sg) : W := .obj "Signature" ["size", "procedures", "cells", "names"] [.int (g.z : Int), pW g, cW g, nmW g]
def lsW (g : Sg) : W := .lst [.int (g.z : Int), pW g, cW g]
section
variable {ρ : Rho} {I : List Nat}
@[simp] theorem fld_sz (g : Sg) : mFld oc_size "size" (mVar 0) (Sl.val (objW g) :: ρ) = .ok (.val, .int (g.z : Int)) (Sl.val (objW g) :: ρ) := rfl
@[simp] theorem fld_ps (g : Sg) : mFld oc_procedures "procedures" (mVar 0) (Sl.val (objW g) :: ρ) = .ok (.val, pW g) (Sl.val (objW g) :: ρ) := rfl
@[simp] theorem fld_cs (g : Sg) : mFld oc_cells "cells" (mVar 0) (Sl.val (objW g) :: ρ) = .ok (.val, cW g) (Sl.val (objW g) :: ρ) := rfl
@[simp] theorem meth_pr (g : Sg) (fm : List W → FR) (fs : List (Rho → ML.R (Md × W))) : mMeth I "Signature" "procedure" fm (mVar 0) fs (Sl.val (objW g) :: ρ) = (mHold fs (Sl.val (objW g) :: ρ)).bind fun bs ρ2 => (valsL I bs ρ2).bind fun ws ρ3 => (match fm (objW g :: ws) with
    | .ok fr w [] => .ok (if fr then .fre else .val, w) ρ3
    | _ => .stk) := by
  have e : mMeth I "Signature" "procedure" fm (mVar 0) fs (Sl.val (objW g) :: ρ) = if ("Signature" : Str) = "Signature" ∧ ((["size", "procedures", "cells", "names"] : List Str).zip [W.int (g.z : Int), pW g, cW g, nmW g]).lookup ("procedure" : Str) = none then (mHold fs (Sl.val (objW g) :: ρ)).bind fun bs ρ2 => (valsL I bs ρ2).bind fun ws ρ3 => (match fm (objW g :: ws) with
    | .ok fr w [] => .ok (if fr then .fre else .val, w) ρ3
    | _ => .stk) else .stk := rfl
  rw [e, if_pos ⟨rfl, rfl⟩]
end
theorem all2_map {α : Type} {f : α → W} : ∀ l : List α, All2 (fun w z => w = f z) (l.map f) l
  | [] => .nil
  | _ :: l => .cons rfl (all2_map l)
theorem triple_ok {ps : List Tr} {n : A} {t : Tr} (h : fnd ps n = some t) : fun__law_triple [.tup (ps.map trW), tW n] = .ok false (trW t) [] := by
  have e : ∃ s, forL (gSet [] 2) (mIf (mTest (mOp gEq (mOp gIx (mVar 2) (mC (.int 0))) (mVar 1))) (mRet [] (mVar 2)) (mNext)) (ps.map trW) [Sl.val (.tup (ps.map trW)), Sl.val (tW n), Sl.no] = .ok (.rt .val (trW t)) [Sl.val (.tup (ps.map trW)), Sl.val (tW n), s] := by
    refine for_run (Q := fun w z => w = trW z) (P := fun zs ρ => (∃ s, ρ = [Sl.val (.tup (ps.map trW)), Sl.val (tW n), s]) ∧ fnd zs n = some t) (Post := fun r => ∃ s, r = .ok (.rt .val (trW t)) [Sl.val (.tup (ps.map trW)), Sl.val (tW n), s]) (fun ρ h => by cases h.2) (fun w z zs ρ q hp => ?_) (all2_map ps) ⟨⟨_, rfl⟩, h⟩
    obtain ⟨⟨s, rfl⟩, hf⟩ := hp
    subst q
    refine ⟨[Sl.val (.tup (ps.map trW)), Sl.val (tW n), Sl.val (trW z)], by simp, ?_⟩
    generalize W.tup (ps.map trW) = PW
    by_cases c : z.1 = n
    · have ht : z = t := by
        unfold fnd at hf
        rw [List.find?_cons_of_pos (by simp [c])] at hf
        exact Option.some.inj hf
      subst ht
      refine .inr (.inr (.inl ⟨.val, trW z, [Sl.val PW, Sl.val (tW n), Sl.val (trW z)], ?_, _, rfl⟩))
      simp -implicitDefEqProofs [ev_var, trW, c]
    · refine .inl ⟨[Sl.val PW, Sl.val (tW n), Sl.val (trW z)], .inl ?_, ⟨_, rfl⟩, ?_⟩
      · simp -implicitDefEqProofs [ev_var, trW, c]
      · unfold fnd at hf ⊢
        rwa [List.find?_cons_of_neg (by simp [c])] at hf
  obtain ⟨s, e⟩ := e
  try simp at e
  unfold fun__law_triple body__law_triple
  simp -implicitDefEqProofs [ev_var, e]
theorem procedure_ok {g : Sg} {n : A} {t : Tr} (h : fnd g.ps n = some t) : fun_Signature_procedure [objW g, tW n] = .ok false (trW t) [] := by
  have e : ∃ s, forL (gSet [] 2) (mIf (mTest (mOp gEq (mOp gIx (mVar 2) (mC (.int 0))) (mVar 1))) (mRet [] (mVar 2)) (mNext)) (g.ps.map trW) [Sl.val (objW g), Sl.val (tW n), Sl.no] = .ok (.rt .val (trW t)) [Sl.val (objW g), Sl.val (tW n), s] := by
    refine for_run (Q := fun w z => w = trW z) (P := fun zs ρ => (∃ s, ρ = [Sl.val (objW g), Sl.val (tW n), s]) ∧ fnd zs n = some t) (Post := fun r => ∃ s, r = .ok (.rt .val (trW t)) [Sl.val (objW g), Sl.val (tW n), s]) (fun ρ h => by cases h.2) (fun w z zs ρ q hp => ?_) (all2_map g.ps) ⟨⟨_, rfl⟩, h⟩
    obtain ⟨⟨s, rfl⟩, hf⟩ := hp
    subst q
    refine ⟨[Sl.val (objW g), Sl.val (tW n), Sl.val (trW z)], by simp, ?_⟩
    generalize objW g = PW
    by_cases c : z.1 = n
    · have ht : z = t := by
        unfold fnd at hf
        rw [List.find?_cons_of_pos (by simp [c])] at hf
        exact Option.some.inj hf
      subst ht
      refine .inr (.inr (.inl ⟨.val, trW z, [Sl.val PW, Sl.val (tW n), Sl.val (trW z)], ?_, _, rfl⟩))
      simp -implicitDefEqProofs [ev_var, trW, c]
    · refine .inl ⟨[Sl.val PW, Sl.val (tW n), Sl.val (trW z)], .inl ?_, ⟨_, rfl⟩, ?_⟩
      · simp -implicitDefEqProofs [ev_var, trW, c]
      · unfold fnd at hf ⊢
        rwa [List.find?_cons_of_neg (by simp [c])] at hf
  obtain ⟨s, e⟩ := e
  try simp at e
  unfold fun_Signature_procedure body_Signature_procedure
  simp -implicitDefEqProofs [ev_var, pW, e]
/-! ### asks, answers -/
def asksT (t : Tr) : List A := (List.range t.2.1.length).map fun k => [97, 115, 107, 32] ++ (t.1 ++ (32 :: TL.numL k))
theorem asks_lc {t : Tr} (hn : t.1.length ≤ 8) (hp : t.2.1.length ≤ 3) {f : Rho → ML.R (Md × W)} {fn : Rho → ML.R (Md × W)} {i : Nat} {ρ : Rho} (hf : f ρ = .ok (.val, .int (t.2.1.length : Int)) ρ) (hfn : ∀ k : Nat, fn (ρ.set i (.val (.int (k : Int)))) = .ok (.val, tW t.1) (ρ.set i (.val (.int (k : Int))))) (hi : i < ρ.length) (hr : ρ.set i .no = ρ) :
    mLc [] (mRange1 [f]) (.nm i) mYes (mOp gAdd (mOp gAdd (mOp gAdd (mC (.str (S [97, 115, 107, 32]))) fn) (mC (.str (S [32])))) (mCB gStr [mVar i])) ρ = .ok (.fre, .lst ((asksT t).map tW)) ρ := by
  have e := lc_rng (I := []) (f := f) (i := i) (n := t.2.1.length) (fe := mOp gAdd (mOp gAdd (mOp gAdd (mC (.str (S [97, 115, 107, 32]))) fn) (mC (.str (S [32])))) (mCB gStr [mVar i])) (g := fun k => tW ([97, 115, 107, 32] ++ (t.1 ++ (32 :: TL.numL k)))) (ρ := ρ) hf (by simp) (by omega) (fun k hk => by
    have hs := ev_strI (n := k) (by omega)
    have hl := num_is (k := k) (by omega)
    have hll : (TL.numL k).length = 1 := by rw [hl]; rfl
    have hg : (ρ.set i (.val (.int (k : Int))))[i]? = some (.val (.int (k : Int))) := by rw [List.getElem?_set_self hi]
    have hfk := hfn k
    simp -implicitDefEqProofs (disch := first | omega | (simp; done) | (simp <;> omega) | fail) [ev_var, hg, hfk, hs, ev_addSS]) hr
  rw [e]
  unfold asksT
  rw [List.map_map]
  rfl
end K08

namespace K08
open PySem PySem.Spec PyProof.Rows L2 ML
abbrev txW (m : Mv) : W := tW m.tx
theorem numT_len {x : A} {b : Bool} {z : Nat} (h : z ≤ 4) : (numT x b z).length ≤ 4 := by
  unfold numT
  split
  · simpa using h
  · simp
theorem asksT_len (t : Tr) : (asksT t).length = t.2.1.length := by simp [asksT]
def AnsOk (m : List W → FR) : Prop := ∀ {x : A} {b : Bool} {z : Nat}, x.length ≤ 1000 → z ≤ 4 → m [tW x, kW b, .int (z : Int)] = .ok false (.tup ((numT x b z).map tW)) []
def NumOk (m : List W → FR) : Prop := ∀ {x : A} {b : Bool} {z : Nat}, x.length ≤ 1000 → z ≤ 4 → m [tW x, kW b, .int (z : Int)] = .ok true (.lst ((numT x b z).map tW)) []
def PrOk (m : List W → FR) : Prop := ∀ {g : Sg} {n : A} {t : Tr}, fnd g.ps n = some t → m [objW g, tW n] = .ok false (trW t) []
def TrOk (m : List W → FR) : Prop := ∀ {ps : List Tr} {n : A} {t : Tr}, fnd ps n = some t → m [.tup (ps.map trW), tW n] = .ok false (trW t) []
def callT (t : Tr) (z : Nat) : List A := asksT t ++ numT ([98, 97, 99, 107, 32] ++ t.1) t.2.2 z
def CcOk (m : List W → FR) : Prop := ∀ {t : Tr} {z : Nat}, t.1.length ≤ 8 → t.2.1.length ≤ 3 → z ≤ 4 → m [.int (z : Int), trW t] = .ok false (.tup ((callT t z).map tW)) []
theorem call_tx {g : Sg} {kd : Bool} {n : A} {t : Tr} (h : fnd g.ps n = some t) : (mayT g kd (.call n)).map Mv.tx = callT t g.z := by
  obtain ⟨_, e⟩ := fnd_mem h
  rw [mayT_call h, List.map_append, List.map_map, numT_is (x := [98, 97, 99, 107, 32] ++ n) (by simp [Mv.tx, Mv.ws, nk, TL.joinL]) (fun k => by simp [Mv.tx, Mv.ws, nk, TL.joinL])]
  unfold callT asksT
  rw [e]
  exact congrArg (· ++ _) (List.map_congr_left fun k _ => by simp [Mv.tx, Mv.ws, TL.joinL])
theorem call_choices_ok {am : List W → FR} (ha : AnsOk am) : CcOk (fun_call_choices am) := by
  intro t z hn hp hz
  have e := asks_lc (f := mCB gLen [mOp gIx (mVar 1) (mC (.int 1))]) (fn := mVar 2) (i := 4) (ρ := [Sl.val (.int (z : Int)), Sl.val (trW t), Sl.val (tW t.1), Sl.no, Sl.no]) hn hp (by simp -implicitDefEqProofs [ev_var, trW]) (fun k => by simp -implicitDefEqProofs [ev_var]) (by simp) rfl
  have ea := ha (x := [98, 97, 99, 107, 32] ++ t.1) (b := t.2.2) (z := z) (by simp; omega) hz
  have hL : (asksT t).length + (numT ([98, 97, 99, 107, 32] ++ t.1) t.2.2 z).length ≤ sizeLine := by
    have := numT_len (x := [98, 97, 99, 107, 32] ++ t.1) (b := t.2.2) hz
    rw [asksT_len, line_is]
    omega
  simp [trW] at e
  simp at ea hL
  unfold fun_call_choices body_call_choices callT
  simp -implicitDefEqProofs (disch := first | omega | (simp; done) | (simp <;> omega) | fail) [ev_var, trW, e, ev_addSS, ea, hL]
section
variable {g : Sg} {pr tr cc am nm : List W → FR} {f : List Mv} {b : Bool}
theorem heard_call (G : SgOk g) (hp : PrOk pr) (hc : CcOk cc) {n : A} (hV : (Mv.call n).V g) : fun_heard_choices pr cc am [objW g, .tup (f.map txW ++ [txW (.call n)])] = .ok false (.tup (((mayT g b (.call n)).map Mv.tx).map tW)) [] := by
  have ok := V_ok G hV
  obtain ⟨t, h⟩ := hV
  have hs := split_tx ok
  have hl := tx_len ok
  have hl2 : (Mv.tx (.call n)).length + 2 ≤ sizeLine := by rw [line_is]; omega
  simp only [Mv.ws, List.map_cons, List.map_nil] at hs
  obtain ⟨h1, h2⟩ := fnd_mem h
  obtain ⟨h3, h4⟩ := G.pn t h1
  have e1 := hp h
  have e2 := hc h3.len h4 G.z2
  have hne : ¬ ((f.length : Int) + 1 = 0) := by omega
  rw [call_tx h]
  unfold fun_heard_choices body_heard_choices
  simp -implicitDefEqProofs [ev_var, hne, atL, hs, hl2, e1, e2]
theorem heard_get (G : SgOk g) (ha : AnsOk am) {c : A} (hV : (Mv.get c).V g) : fun_heard_choices pr cc am [objW g, .tup (f.map txW ++ [txW (.get c)])] = .ok false (.tup (((mayT g b (.get c)).map Mv.tx).map tW)) [] := by
  have ok := V_ok G hV
  have hs := split_tx ok
  have hl := tx_len ok
  have hl2 : (Mv.tx (.get c)).length + 2 ≤ sizeLine := by rw [line_is]; omega
  simp only [Mv.ws, List.map_cons, List.map_nil] at hs
  have hn : c.length ≤ 8 := (show IsName c from ok).len
  have e2 : am [tW ([105, 115, 32] ++ c), .str (S [110, 117, 109, 98, 101, 114]), .int (g.z : Int)] = _ := ha (x := [105, 115, 32] ++ c) (b := true) (z := g.z) (by simp; omega) G.z2
  have hne : ¬ ((f.length : Int) + 1 = 0) := by omega
  have et : (mayT g b (.get c)).map Mv.tx = numT ([105, 115, 32] ++ c) true g.z := by
    show ((List.range g.z).map fun k => Mv.is c k).map Mv.tx = _
    rw [List.map_map]
    exact List.map_congr_left fun k _ => by simp [Mv.tx, Mv.ws, TL.joinL]
  rw [et]
  simp at e2
  unfold fun_heard_choices body_heard_choices
  simp -implicitDefEqProofs (disch := first | omega | (simp; done) | (simp <;> omega) | fail) [ev_var, hne, atL, hs, hl2, ev_addSS, e2]
theorem heard_set (G : SgOk g) {c : A} {k : Nat} (hV : (Mv.set c k).V g) : fun_heard_choices pr cc am [objW g, .tup (f.map txW ++ [txW (.set c k)])] = .ok false (.tup (((mayT g b (.set c k)).map Mv.tx).map tW)) [] := by
  have ok := V_ok G hV
  have hs := split_tx ok
  have hl := tx_len ok
  have hl2 : (Mv.tx (.set c k)).length + 2 ≤ sizeLine := by rw [line_is]; omega
  simp only [Mv.ws, List.map_cons, List.map_nil] at hs
  have hn : c.length ≤ 8 := (show IsName c from ok.1).len
  have hne : ¬ ((f.length : Int) + 1 = 0) := by omega
  have et : (mayT g b (.set c k)).map Mv.tx = [[107, 101, 112, 116, 32] ++ c] := by simp [mayT, Mv.tx, Mv.ws, TL.joinL]
  rw [et]
  unfold fun_heard_choices body_heard_choices
  simp -implicitDefEqProofs (disch := first | omega | (simp; done) | (simp <;> omega) | fail) [ev_var, hne, atL, hs, hl2, ev_addSS, l1]
theorem lheard_call (G : SgOk g) (hp : TrOk tr) (ha : NumOk nm) {n : A} (hV : (Mv.call n).V g) : fun__law_heard tr nm [.int (g.z : Int), pW g, .tup (f.map txW ++ [txW (.call n)])] = .ok true (.lst (((mayT g b (.call n)).map Mv.tx).map tW)) [] := by
  have ok := V_ok G hV
  obtain ⟨t, h⟩ := hV
  have hs := split_tx ok
  have hl := tx_len ok
  have hl2 : (Mv.tx (.call n)).length + 2 ≤ sizeLine := by rw [line_is]; omega
  simp only [Mv.ws, List.map_cons, List.map_nil] at hs
  obtain ⟨h1, h2⟩ := fnd_mem h
  obtain ⟨h3, h4⟩ := G.pn t h1
  have e1 := hp h
  have hn := h3.len
  have hne : ¬ ((f.length : Int) + 1 = 0) := by omega
  rw [call_tx h]
  have z2 := G.z2
  subst h2
  have ea := ha (x := [98, 97, 99, 107, 32] ++ t.1) (b := t.2.2) (z := g.z) (by simp; omega) z2
  have hL : (asksT t).length + (numT ([98, 97, 99, 107, 32] ++ t.1) t.2.2 g.z).length ≤ sizeLine := by
    have := numT_len (x := [98, 97, 99, 107, 32] ++ t.1) (b := t.2.2) z2
    rw [asksT_len, line_is]
    omega
  have e := asks_lc (f := mCB gLen [mOp gIx (mVar 4) (mC (.int 1))]) (fn := mOp gIx (mVar 3) (mC (.int 1))) (i := 6) (ρ := [Sl.val (.int (g.z : Int)), Sl.val (pW g), Sl.val (.tup (f.map txW ++ [txW (.call t.1)])), Sl.own (.lst [tW [99, 97, 108, 108], tW t.1]), Sl.val (trW t), Sl.no, Sl.no]) hn h4 (by simp -implicitDefEqProofs [ev_var, trW]) (fun k => by simp -implicitDefEqProofs [ev_var]) (by simp) rfl
  simp [trW] at e
  simp at ea hL
  unfold pW at e ⊢
  unfold fun__law_heard body__law_heard callT
  simp [trW] at e1
  simp -implicitDefEqProofs (disch := first | omega | (simp; done) | (simp <;> omega) | fail) [ev_var, hne, atL, hs, hl2, e1, e, ev_addSS, ea, hL, trW]
theorem lheard_get (G : SgOk g) (ha : NumOk nm) {c : A} (hV : (Mv.get c).V g) : fun__law_heard tr nm [.int (g.z : Int), pW g, .tup (f.map txW ++ [txW (.get c)])] = .ok true (.lst (((mayT g b (.get c)).map Mv.tx).map tW)) [] := by
  have ok := V_ok G hV
  have hs := split_tx ok
  have hl := tx_len ok
  have hl2 : (Mv.tx (.get c)).length + 2 ≤ sizeLine := by rw [line_is]; omega
  simp only [Mv.ws, List.map_cons, List.map_nil] at hs
  have hn : c.length ≤ 8 := (show IsName c from ok).len
  have e2 : nm [tW ([105, 115, 32] ++ c), .str (S [110, 117, 109, 98, 101, 114]), .int (g.z : Int)] = _ := ha (x := [105, 115, 32] ++ c) (b := true) (z := g.z) (by simp; omega) G.z2
  have hne : ¬ ((f.length : Int) + 1 = 0) := by omega
  have et : (mayT g b (.get c)).map Mv.tx = numT ([105, 115, 32] ++ c) true g.z := by
    show ((List.range g.z).map fun k => Mv.is c k).map Mv.tx = _
    rw [List.map_map]
    exact List.map_congr_left fun k _ => by simp [Mv.tx, Mv.ws, TL.joinL]
  rw [et]
  simp at e2
  unfold fun__law_heard body__law_heard
  simp -implicitDefEqProofs (disch := first | omega | (simp; done) | (simp <;> omega) | fail) [ev_var, hne, atL, hs, hl2, ev_addSS, e2]
theorem lheard_set (G : SgOk g) {c : A} {k : Nat} (hV : (Mv.set c k).V g) : fun__law_heard tr nm [.int (g.z : Int), pW g, .tup (f.map txW ++ [txW (.set c k)])] = .ok true (.lst (((mayT g b (.set c k)).map Mv.tx).map tW)) [] := by
  have ok := V_ok G hV
  have hs := split_tx ok
  have hl := tx_len ok
  have hl2 : (Mv.tx (.set c k)).length + 2 ≤ sizeLine := by rw [line_is]; omega
  simp only [Mv.ws, List.map_cons, List.map_nil] at hs
  have hn : c.length ≤ 8 := (show IsName c from ok.1).len
  have hne : ¬ ((f.length : Int) + 1 = 0) := by omega
  have et : (mayT g b (.set c k)).map Mv.tx = [[107, 101, 112, 116, 32] ++ c] := by simp [mayT, Mv.tx, Mv.ws, TL.joinL]
  rw [et]
  unfold fun__law_heard body__law_heard
  simp -implicitDefEqProofs (disch := first | omega | (simp; done) | (simp <;> omega) | fail) [ev_var, hne, atL, hs, hl2, ev_addSS, l1]
end
end K08

namespace K08
open PySem PySem.Spec PyProof.Rows L2 ML
theorem num_facts : ∀ n, n < 10 → (TL.numL n).all digC = true ∧ TL.numL n ≠ [] ∧ (TL.numL n).length ≤ 3 := by decide +kernel
theorem num_val : ∀ n, n < 10 → NumText.digitsVal (TL.numL n) = n := by decide +kernel
theorem num_int {n : Nat} (h : n < 10) : gInt [.str (S (TL.numL n))] = some (.val, .int n) := by
  obtain ⟨f1, f2, f8⟩ := num_facts n h
  have e : gInt [.str (S (TL.numL n))] = if (S (TL.numL n)).length ≤ 640 then (PySem.intText? (S (TL.numL n))).map fun n => (.val, .int n) else none := rfl
  have e2 := SX.int_S (a := TL.numL n) f1 f2 (by omega)
  rw [e, S_len, if_pos (by omega), S_is, e2, num_val n h]
  rfl
def cellT (z : Nat) (c : A) : List A := ([103, 101, 116, 32] ++ c) :: numT ([115, 101, 116, 32] ++ c) true z
def baseT (g : Sg) : List A := g.ps.map (fun t => [99, 97, 108, 108, 32] ++ t.1) ++ g.cs.flatMap (cellT g.z)
theorem base_tx (g : Sg) : g.base.map Mv.tx = baseT g := by
  unfold Sg.base baseT
  rw [List.map_append, List.map_map, List.map_flatMap]
  have e1 : (g.ps.map (Mv.tx ∘ fun t => Mv.call t.1)) = g.ps.map fun t => [99, 97, 108, 108, 32] ++ t.1 := List.map_congr_left fun t _ => by simp [Mv.tx, Mv.ws, TL.joinL]
  have e2 : ∀ c, List.map Mv.tx (Mv.get c :: (List.range g.z).map fun k => Mv.set c k) = cellT g.z c := fun c => by
    unfold cellT numT
    rw [List.map_cons, List.map_map, if_pos rfl]
    have a : (Mv.get c).tx = [103, 101, 116, 32] ++ c := by simp [Mv.tx, Mv.ws, TL.joinL]
    rw [a]
    exact congrArg (_ :: ·) (List.map_congr_left fun k _ => by simp [Mv.tx, Mv.ws, TL.joinL])
  rw [e1]
  have e3 : (fun c => List.map Mv.tx (Mv.get c :: (List.range g.z).map fun k => Mv.set c k)) = cellT g.z := funext e2
  rw [e3]
theorem base_len {g : Sg} (G : SgOk g) : (baseT g).length ≤ 100 := by
  have h : ∀ cs : List A, (cs.flatMap (cellT g.z)).length ≤ 5 * cs.length := by
    intro cs
    induction cs with
    | nil => simp
    | cons c cs ih =>
      have := numT_len (x := [115, 101, 116, 32] ++ c) (b := true) G.z2
      have e : (cellT g.z c).length = (numT ([115, 101, 116, 32] ++ c) true g.z).length + 1 := rfl
      rw [List.flatMap_cons, List.length_append, List.length_cons]
      omega
  have := h g.cs
  have := G.pl
  have := G.cl
  unfold baseT
  rw [List.length_append, List.length_map]
  omega
theorem run_tx {g : Sg} {kd' : Bool} : (mayT g kd' .run).map Mv.tx = baseT g ++ numT [101, 110, 100] kd' g.z := by
  show (g.base ++ num .ends kd' g.z).map Mv.tx = _
  rw [List.map_append, base_tx, numT_is (x := [101, 110, 100]) (by simp [Mv.tx, Mv.ws, nk, TL.joinL]) (fun k => by simp [Mv.tx, Mv.ws, nk, TL.joinL])]
theorem ask_tx {g : Sg} {kd' : Bool} {n : A} {i : Nat} {t : Tr} (h : fnd g.ps n = some t) : (mayT g kd' (.ask n i)).map Mv.tx = baseT g ++ numT ([116, 111, 108, 100, 32] ++ (n ++ (32 :: TL.numL i))) (t.2.1.getD i false) g.z := by
  rw [mayT_ask h, List.map_append, base_tx, numT_is (x := [116, 111, 108, 100, 32] ++ (n ++ (32 :: TL.numL i))) (by simp [Mv.tx, Mv.ws, nk, TL.joinL]) (fun k => by simp [Mv.tx, Mv.ws, nk, TL.joinL])]
theorem all2_mem {α : Type} {f : α → W} (l : List α) : All2 (fun w z => w = f z ∧ z ∈ l) (l.map f) l := by
  have : ∀ m : List α, (∀ x ∈ m, x ∈ l) → All2 (fun w z => w = f z ∧ z ∈ l) (m.map f) m := by
    intro m
    induction m with
    | nil => exact fun _ => .nil
    | cons x m ih => exact fun h => .cons ⟨rfl, h x (List.mem_cons_self ..)⟩ (ih fun y hy => h y (List.mem_cons_of_mem _ hy))
  exact this l fun _ h => h
theorem par_at {t : Tr} {i : Nat} (h : i < t.2.1.length) : atI (t.2.1.map kW) (i : Int) = some (kW (t.2.1.getD i false)) := by
  rw [ML.atI_nat, List.getElem?_map, List.getElem?_eq_getElem h]
  simp [h]
section
variable {g : Sg} {pr tr am nm : List W → FR} {f : List Mv} {b : Bool}
theorem calls_lc (G : SgOk g) {it : Rho → ML.R (List W)} {i : Nat} {ρ : Rho} (hit : it ρ = .ok (g.ps.map trW) ρ) (hi : i < ρ.length) (hr : ρ.set i .no = ρ) : mLc [] it (.nm i) mYes (mOp gAdd (mC (.str (S [99, 97, 108, 108, 32]))) (mOp gIx (mVar i) (mC (.int 0)))) ρ = .ok (.fre, .lst ((g.ps.map fun t => [99, 97, 108, 108, 32] ++ t.1).map tW)) ρ := by
  have e := lc_gen (I := []) (it := it) (i := i) (fe := mOp gAdd (mC (.str (S [99, 97, 108, 108, 32]))) (mOp gIx (mVar i) (mC (.int 0)))) (g := fun t : Tr => tW ([99, 97, 108, 108, 32] ++ t.1)) (Q := fun w t => w = trW t ∧ t ∈ g.ps) (ρ := ρ) hit (by simp) (fun w t ⟨q, ht⟩ => by
    subst q
    have hl := (G.pn t ht).1.len
    have hg : (ρ.set i (.val (trW t)))[i]? = some (.val (trW t)) := by rw [List.getElem?_set_self hi]
    unfold trW at hg ⊢
    simp -implicitDefEqProofs (disch := first | omega | (simp; done) | (simp <;> omega) | fail) [ev_var, hg, ev_addSS]) (all2_mem g.ps) (by rw [List.length_map, line_is]; have := G.pl; omega) hr
  rw [e, List.map_map]
  rfl
theorem said_loop (G : SgOk g) (ha : AnsOk am) (kw op s5 s6 s7 s8 : Sl) : ∃ s4, forL (gSet [] 4) (mSeq (mDrop (mAppend 3 [] (mOp gAdd (mC (.str "get ")) (mVar 4)))) (mDrop (mExtend 3 [] (mCall [] [] am [mOp gAdd (mC (.str "set ")) (mVar 4), mC (.str "number"), mFld oc_size "size" (mVar 0)])))) (g.cs.map tW) [Sl.val (objW g), kw, op, Sl.own (.lst ((g.ps.map fun t => [99, 97, 108, 108, 32] ++ t.1).map tW)), Sl.no, s5, s6, s7, s8] = .ok .nx [Sl.val (objW g), kw, op, Sl.own (.lst ((baseT g).map tW)), s4, s5, s6, s7, s8] := by
  refine for_run (Q := fun w z => w = tW z ∧ z ∈ g.cs) (P := fun zs ρ => ∃ L s4, ρ = [Sl.val (objW g), kw, op, Sl.own (.lst (L.map tW)), s4, s5, s6, s7, s8] ∧ L ++ zs.flatMap (cellT g.z) = baseT g) (Post := fun r => ∃ s4, r = .ok .nx [Sl.val (objW g), kw, op, Sl.own (.lst ((baseT g).map tW)), s4, s5, s6, s7, s8]) (fun ρ ⟨L, s4, e, h⟩ => ⟨s4, by rw [e, ← h]; simp⟩) (fun w z zs ρ ⟨q, hz⟩ ⟨L, s4, e, h⟩ => ?_) (all2_mem g.cs) ⟨_, _, rfl, rfl⟩
  subst q e
  refine ⟨_, by simp; rfl, .inl ⟨[Sl.val (objW g), kw, op, Sl.own (.lst ((L ++ cellT g.z z).map tW)), Sl.val (tW z), s5, s6, s7, s8], .inl ?_, L ++ cellT g.z z, _, rfl, by rw [List.append_assoc, ← h, List.flatMap_cons]⟩⟩
  have hn := (G.cn z hz).len
  have hb := base_len G
  have hl : L.length ≤ 100 := by rw [← h, List.length_append] at hb; omega
  have n4 := numT_len (x := [115, 101, 116, 32] ++ z) (b := true) G.z2
  have e2 : am [tW ([115, 101, 116, 32] ++ z), .str (S [110, 117, 109, 98, 101, 114]), .int (g.z : Int)] = _ := ha (x := [115, 101, 116, 32] ++ z) (b := true) (z := g.z) (by simp; omega) G.z2
  have c1 : L.length < sizeLine := by rw [line_is]; omega
  have c2 : L.length + 1 + (numT ([115, 101, 116, 32] ++ z) true g.z).length ≤ sizeLine := by rw [line_is]; omega
  unfold cellT
  simp at e2 c2
  simp -implicitDefEqProofs (disch := first | omega | (simp; done) | (simp <;> omega) | fail) [ev_var, ev_own, ev_addSS, c1, e2, c2]
theorem lsaid_loop (G : SgOk g) (ha : NumOk nm) (kw p c op s7 s8 : Sl) : ∃ s6, forL (gSet [] 6) (mSeq (mDrop (mAppend 5 [] (mOp gAdd (mC (.str "get ")) (mVar 6)))) (mSet [] 5 (mOp gAdd (mVar 5) (mCall [] [] nm [mOp gAdd (mC (.str "set ")) (mVar 6), mC (.str "number"), mVar 0])))) (g.cs.map tW) [Sl.val (.int (g.z : Int)), kw, p, c, op, Sl.own (.lst ((g.ps.map fun t => [99, 97, 108, 108, 32] ++ t.1).map tW)), Sl.no, s7, s8] = .ok .nx [Sl.val (.int (g.z : Int)), kw, p, c, op, Sl.own (.lst ((baseT g).map tW)), s6, s7, s8] := by
  refine for_run (Q := fun w z => w = tW z ∧ z ∈ g.cs) (P := fun zs ρ => ∃ L s6, ρ = [Sl.val (.int (g.z : Int)), kw, p, c, op, Sl.own (.lst (L.map tW)), s6, s7, s8] ∧ L ++ zs.flatMap (cellT g.z) = baseT g) (Post := fun r => ∃ s6, r = .ok .nx [Sl.val (.int (g.z : Int)), kw, p, c, op, Sl.own (.lst ((baseT g).map tW)), s6, s7, s8]) (fun ρ ⟨L, s4, e, h⟩ => ⟨s4, by rw [e, ← h]; simp⟩) (fun w z zs ρ ⟨q, hz⟩ ⟨L, s4, e, h⟩ => ?_) (all2_mem g.cs) ⟨_, _, rfl, rfl⟩
  subst q e
  refine ⟨_, by simp; rfl, .inl ⟨[Sl.val (.int (g.z : Int)), kw, p, c, op, Sl.own (.lst ((L ++ cellT g.z z).map tW)), Sl.val (tW z), s7, s8], .inl ?_, L ++ cellT g.z z, _, rfl, by rw [List.append_assoc, ← h, List.flatMap_cons]⟩⟩
  have hn := (G.cn z hz).len
  have hb := base_len G
  have hl : L.length ≤ 100 := by rw [← h, List.length_append] at hb; omega
  have n4 := numT_len (x := [115, 101, 116, 32] ++ z) (b := true) G.z2
  have e2 : nm [tW ([115, 101, 116, 32] ++ z), .str (S [110, 117, 109, 98, 101, 114]), .int (g.z : Int)] = _ := ha (x := [115, 101, 116, 32] ++ z) (b := true) (z := g.z) (by simp; omega) G.z2
  have c1 : L.length < sizeLine := by rw [line_is]; omega
  have c2 : L.length + 1 + (numT ([115, 101, 116, 32] ++ z) true g.z).length ≤ sizeLine := by rw [line_is]; omega
  unfold cellT
  simp at e2 c2
  simp -implicitDefEqProofs (disch := first | omega | (simp; done) | (simp <;> omega) | fail) [ev_var, ev_own, ev_addSS, c1, e2, c2]
end
end K08

namespace K08
open PySem PySem.Spec PyProof.Rows L2 ML
section
variable {g : Sg} {pr tr am nm : List W → FR} {f : List Mv} {b : Bool}
theorem said_run (G : SgOk g) (ha : AnsOk am) : fun_said_choices am pr [objW g, kW b, .tup (f.map txW ++ [txW .run])] = .ok false (.tup (((mayT g b .run).map Mv.tx).map tW)) [] := by
  have hs := split_tx (m := .run) trivial
  have hl2 : (Mv.tx .run).length + 2 ≤ sizeLine := by rw [line_is]; have := tx_len (m := .run) trivial; omega
  simp only [Mv.ws, List.map_cons, List.map_nil] at hs
  have e1 := calls_lc (g := g) G (it := mItems [] (mFld oc_procedures "procedures" (mVar 0))) (i := 8) (ρ := [Sl.val (objW g), Sl.val (kW b), Sl.val (.tup (f.map txW ++ [txW .run])), Sl.no, Sl.no, Sl.no, Sl.no, Sl.no, Sl.no]) (by simp -implicitDefEqProofs [ev_items, pW]) (by simp) rfl
  obtain ⟨s4, e2⟩ := said_loop G ha (Sl.val (kW b)) (Sl.val (.tup (f.map txW ++ [txW .run]))) Sl.no Sl.no Sl.no Sl.no
  have e3 := ha (x := [101, 110, 100]) (b := b) (z := g.z) (by simp) G.z2
  have hL : (baseT g).length + (numT [101, 110, 100] b g.z).length ≤ sizeLine := by
    have := base_len G
    have := numT_len (x := [101, 110, 100]) (b := b) G.z2
    rw [line_is]
    omega
  rw [run_tx]
  simp at e1 e2
  unfold fun_said_choices body_said_choices
  simp -implicitDefEqProofs [ev_var, ev_own, e1, e2, cW, atL, hs, hl2, e3, hL]
theorem said_ask (G : SgOk g) (ha : AnsOk am) (hp : PrOk pr) {n : A} {i : Nat} (hV : (Mv.ask n i).V g) : fun_said_choices am pr [objW g, kW b, .tup (f.map txW ++ [txW (.ask n i)])] = .ok false (.tup (((mayT g b (.ask n i)).map Mv.tx).map tW)) [] := by
  have ok := V_ok G hV
  obtain ⟨t, h, hi⟩ := hV
  have hs := split_tx ok
  have hl2 : (Mv.tx (.ask n i)).length + 2 ≤ sizeLine := by rw [line_is]; have := tx_len ok; omega
  simp only [Mv.ws, List.map_cons, List.map_nil] at hs
  have hn : n.length ≤ 8 := (show IsName n from ok.1).len
  have hi10 : i < 10 := ok.2
  have hli : (TL.numL i).length = 1 := by rw [num_is hi10]; rfl
  have e1 := calls_lc (g := g) G (it := mItems [] (mFld oc_procedures "procedures" (mVar 0))) (i := 8) (ρ := [Sl.val (objW g), Sl.val (kW b), Sl.val (.tup (f.map txW ++ [txW (.ask n i)])), Sl.no, Sl.no, Sl.no, Sl.no, Sl.no, Sl.no]) (by simp -implicitDefEqProofs [ev_items, pW]) (by simp) rfl
  obtain ⟨s4, e2⟩ := said_loop G ha (Sl.val (kW b)) (Sl.val (.tup (f.map txW ++ [txW (.ask n i)]))) Sl.no Sl.no Sl.no Sl.no
  have e3 := ha (x := [116, 111, 108, 100, 32] ++ (n ++ (32 :: TL.numL i))) (b := t.2.1.getD i false) (z := g.z) (by simp; omega) G.z2
  have e4 := hp h
  have e5 := num_int hi10
  have e6 := par_at hi
  have hL : (baseT g).length + (numT ([116, 111, 108, 100, 32] ++ (n ++ (32 :: TL.numL i))) (t.2.1.getD i false) g.z).length ≤ sizeLine := by
    have := base_len G
    have := numT_len (x := [116, 111, 108, 100, 32] ++ (n ++ (32 :: TL.numL i))) (b := t.2.1.getD i false) G.z2
    rw [line_is]
    omega
  rw [ask_tx h]
  generalize t.2.1.getD i false = bb at *
  unfold trW at e4
  simp at e1 e2 e3 hL
  unfold fun_said_choices body_said_choices
  simp -implicitDefEqProofs (disch := first | omega | (simp; done) | (simp <;> omega) | fail) [ev_var, ev_own, e1, e2, cW, atL, hs, hl2, e4, e5, e6, ev_addSS, e3, hL]
theorem lsaid_run (G : SgOk g) (ha : NumOk nm) : fun__law_said nm tr [.int (g.z : Int), kW b, pW g, cW g, .tup (f.map txW ++ [txW .run])] = .ok true (.lst (((mayT g b .run).map Mv.tx).map tW)) [] := by
  have hs := split_tx (m := .run) trivial
  have hl2 : (Mv.tx .run).length + 2 ≤ sizeLine := by rw [line_is]; have := tx_len (m := .run) trivial; omega
  simp only [Mv.ws, List.map_cons, List.map_nil] at hs
  have e1 := calls_lc (g := g) G (it := mItems [] (mVar 2)) (i := 8) (ρ := [Sl.val (.int (g.z : Int)), Sl.val (kW b), Sl.val (pW g), Sl.val (cW g), Sl.val (.tup (f.map txW ++ [txW .run])), Sl.no, Sl.no, Sl.no, Sl.no]) (by simp -implicitDefEqProofs [ev_items, ev_var, pW]) (by simp) rfl
  obtain ⟨s6, e2⟩ := lsaid_loop G ha (Sl.val (kW b)) (Sl.val (pW g)) (Sl.val (cW g)) (Sl.val (.tup (f.map txW ++ [txW .run]))) Sl.no Sl.no
  have e3 := ha (x := [101, 110, 100]) (b := b) (z := g.z) (by simp) G.z2
  have hL : (baseT g).length + (numT [101, 110, 100] b g.z).length ≤ sizeLine := by
    have := base_len G
    have := numT_len (x := [101, 110, 100]) (b := b) G.z2
    rw [line_is]
    omega
  rw [run_tx]
  simp at e1 e2
  unfold cW at e1 e2 ⊢
  unfold fun__law_said body__law_said
  simp -implicitDefEqProofs [ev_var, ev_own, e1, e2, atL, hs, hl2, e3, hL]
theorem lsaid_ask (G : SgOk g) (ha : NumOk nm) (hp : TrOk tr) {n : A} {i : Nat} (hV : (Mv.ask n i).V g) : fun__law_said nm tr [.int (g.z : Int), kW b, pW g, cW g, .tup (f.map txW ++ [txW (.ask n i)])] = .ok true (.lst (((mayT g b (.ask n i)).map Mv.tx).map tW)) [] := by
  have ok := V_ok G hV
  obtain ⟨t, h, hi⟩ := hV
  have hs := split_tx ok
  have hl2 : (Mv.tx (.ask n i)).length + 2 ≤ sizeLine := by rw [line_is]; have := tx_len ok; omega
  simp only [Mv.ws, List.map_cons, List.map_nil] at hs
  have hn : n.length ≤ 8 := (show IsName n from ok.1).len
  have hi10 : i < 10 := ok.2
  have hli : (TL.numL i).length = 1 := by rw [num_is hi10]; rfl
  have e1 := calls_lc (g := g) G (it := mItems [] (mVar 2)) (i := 8) (ρ := [Sl.val (.int (g.z : Int)), Sl.val (kW b), Sl.val (pW g), Sl.val (cW g), Sl.val (.tup (f.map txW ++ [txW (.ask n i)])), Sl.no, Sl.no, Sl.no, Sl.no]) (by simp -implicitDefEqProofs [ev_items, ev_var, pW]) (by simp) rfl
  obtain ⟨s6, e2⟩ := lsaid_loop G ha (Sl.val (kW b)) (Sl.val (pW g)) (Sl.val (cW g)) (Sl.val (.tup (f.map txW ++ [txW (.ask n i)]))) Sl.no Sl.no
  have e3 := ha (x := [116, 111, 108, 100, 32] ++ (n ++ (32 :: TL.numL i))) (b := t.2.1.getD i false) (z := g.z) (by simp; omega) G.z2
  have e4 : tr [pW g, tW n] = _ := hp h
  have e5 := num_int hi10
  have e6 := par_at hi
  have hL : (baseT g).length + (numT ([116, 111, 108, 100, 32] ++ (n ++ (32 :: TL.numL i))) (t.2.1.getD i false) g.z).length ≤ sizeLine := by
    have := base_len G
    have := numT_len (x := [116, 111, 108, 100, 32] ++ (n ++ (32 :: TL.numL i))) (b := t.2.1.getD i false) G.z2
    rw [line_is]
    omega
  rw [ask_tx h]
  generalize t.2.1.getD i false = bb at *
  unfold trW at e4
  simp at e1 e2 e3 hL
  unfold cW at e1 e2 ⊢
  unfold fun__law_said body__law_said
  simp -implicitDefEqProofs (disch := first | omega | (simp; done) | (simp <;> omega) | fail) [ev_var, ev_own, e1, e2, atL, hs, hl2, e4, e5, e6, ev_addSS, e3, hL]
end
end K08

namespace K08
open PySem PySem.Spec PyProof.Rows L2 ML
theorem cutL (l : List W) : cutW l none (some (-1)) = l.dropLast := by
  unfold cutW
  rw [HT.sIx_none]
  have e : HT.sIx l.length l.length (some (-1)) = l.length - 1 := by
    show (if (-1 : Int) < 0 then ((-1 : Int) + (l.length : Int)).toNat else min (-1 : Int).toNat l.length) = _
    rw [if_pos (by omega)]
    omega
  rw [e, List.drop_zero, Nat.sub_zero, List.dropLast_eq_take]
theorem head_opn (m : Mv) : ∃ w0 r, m.ws = w0 :: r ∧ decide (w0 ∈ ([[114, 117, 110], [99, 97, 108, 108], [97, 115, 107], [103, 101, 116], [115, 101, 116]] : List A)) = m.opn := by
  cases m <;> exact ⟨_, _, rfl, by simp [Mv.opn]⟩
def AftOk (m : List W → FR) : Prop := ∀ {o : List Mv} {x : Mv}, x.Ok → o.length ≤ 10000 → m [.tup (o.map txW), txW x] = .ok false (.tup ((aft o x).map txW)) []
theorem opened_after_ok : AftOk fun_opened_after := by
  intro o x hx ho
  have hs := split_tx hx
  have hl2 : x.tx.length + 2 ≤ sizeLine := by rw [line_is]; have := tx_len hx; omega
  obtain ⟨w0, r, e1, e2⟩ := head_opn x
  rw [e1] at hs
  have hL : o.length + 1 ≤ sizeLine := by rw [line_is]; omega
  have h5 : (5 ≤ sizeLine) = True := by simp [line_is]
  unfold fun_opened_after body_opened_after aft
  cases hb : x.opn with
  | true =>
    rw [hb] at e2
    simp at hs e2
    simp -implicitDefEqProofs [ev_var, w_OPENING, hs, hl2, e2, hL]
  | false =>
    rw [hb] at e2
    simp at hs e2
    simp -implicitDefEqProofs [ev_var, w_OPENING, hs, hl2, e2, cutL]
theorem after_ok : AftOk fun__law_after := by
  intro o x hx ho
  have hs := split_tx hx
  have hl2 : x.tx.length + 2 ≤ sizeLine := by rw [line_is]; have := tx_len hx; omega
  obtain ⟨w0, r, e1, e2⟩ := head_opn x
  rw [e1] at hs
  have hL : o.length + 1 ≤ sizeLine := by rw [line_is]; omega
  have h5 : (5 ≤ sizeLine) = True := by simp [line_is]
  unfold fun__law_after body__law_after aft
  cases hb : x.opn with
  | true =>
    rw [hb] at e2
    simp at hs e2
    simp -implicitDefEqProofs [ev_var, h5, hs, hl2, e2, hL]
  | false =>
    rw [hb] at e2
    simp at hs e2
    simp -implicitDefEqProofs [ev_var, h5, hs, hl2, e2, cutL]
theorem may_top {g : Sg} {b : Bool} (f : List Mv) (t : Mv) : may g b (f ++ [t]) = mayT g b t := by
  unfold may
  rw [List.getLast?_concat]
theorem snoc_of (o : List Mv) : o = [] ∨ ∃ f t, o = f ++ [t] := by
  rcases List.eq_nil_or_concat o with h | ⟨f, t, h⟩
  · exact .inl h
  · exact .inr ⟨f, t, by rw [h, List.concat_eq_append]⟩
def scF : List W → FR := fun_said_choices fun_answer_moves fun_Signature_procedure
def hcF : List W → FR := fun_heard_choices fun_Signature_procedure (fun_call_choices fun_answer_moves) fun_answer_moves
def caF : List W → FR := fun_choices_after scF hcF
def lsF : List W → FR := fun__law_said fun__law_numbered fun__law_triple
def lhF : List W → FR := fun__law_heard fun__law_triple fun__law_numbered
def maF : List W → FR := fun__law_may lsF lhF
def MayOk (m : List W → FR) : Prop := ∀ {g : Sg} {b : Bool} {o : List Mv}, SgOk g → OkO g o → m [objW g, kW b, .tup (o.map txW)] = .ok false (.tup (((may g b o).map Mv.tx).map tW)) []
theorem choices_ok : MayOk caF := by
  intro g b o G hO
  have hA : AnsOk fun_answer_moves := answer_ok
  have hP : PrOk fun_Signature_procedure := procedure_ok
  rcases snoc_of o with rfl | ⟨f, t, rfl⟩
  · unfold caF
    generalize scF = sc
    generalize hcF = hc
    unfold fun_choices_after body_choices_after may
    simp -implicitDefEqProofs [ev_var]
  · have hV := hO t (by simp)
    have ok := V_ok G hV
    have hs := split_tx ok
    have hl2 : t.tx.length + 2 ≤ sizeLine := by rw [line_is]; have := tx_len ok; omega
    have hne : ¬ ((f.length : Int) + 1 = 0) := by omega
    rw [may_top, List.map_append, List.map_singleton]
    unfold caF
    have key : ∀ (sd : Bool) (w0 : A) (r : List A), t.ws = w0 :: r → decide (w0 ∈ ([[114, 117, 110], [97, 115, 107]] : List A)) = sd → (∀ sc hc : List W → FR, (if sd then sc [objW g, kW b, .tup (f.map txW ++ [txW t])] else hc [objW g, .tup (f.map txW ++ [txW t])]) = .ok false (.tup (((mayT g b t).map Mv.tx).map tW)) [] → fun_choices_after sc hc [objW g, kW b, .tup (f.map txW ++ [txW t])] = .ok false (.tup (((mayT g b t).map Mv.tx).map tW)) []) := by
      intro sd w0 r e1 e2 sc hc e3
      rw [e1] at hs
      unfold fun_choices_after body_choices_after
      cases sd with
      | true =>
        simp at hs e2 e3
        simp -implicitDefEqProofs [ev_var, hne, atL, hs, hl2, e2, e3]
      | false =>
        simp at hs e2 e3
        simp -implicitDefEqProofs [ev_var, hne, atL, hs, hl2, e2, e3]
    cases t with
    | run => exact key true _ _ rfl (by decide) _ _ (said_run G hA)
    | ask n i => exact key true _ _ rfl (by decide) _ _ (said_ask G hA hP hV)
    | call n => exact key false _ _ rfl (by decide) _ _ (heard_call G hP (call_choices_ok hA) hV)
    | get c => exact key false _ _ rfl (by decide) _ _ (heard_get G hA hV)
    | set c k => exact key false _ _ rfl (by decide) _ _ (heard_set G hV)
    | _ => exact hV.elim
def mayB (g : Sg) (b begun : Bool) (o : List Mv) : List Mv := match o with
  | [] => if begun then [] else [.run]
  | _ => may g b o
def LMayOk (m : List W → FR) : Prop := ∀ {g : Sg} {b bg : Bool} {o : List Mv}, SgOk g → OkO g o → m [lsW g, kW b, .bl bg, .tup (o.map txW)] = .ok true (.lst (((mayB g b bg o).map Mv.tx).map tW)) []
theorem may_ok : LMayOk maF := by
  intro g b bg o G hO
  have hA : NumOk fun__law_numbered := numbered_ok
  have hP : TrOk fun__law_triple := triple_ok
  rcases snoc_of o with rfl | ⟨f, t, rfl⟩
  · unfold maF
    generalize lsF = sc
    generalize lhF = hc
    unfold fun__law_may body__law_may mayB lsW
    cases bg with
    | true => simp -implicitDefEqProofs [ev_var, l1]
    | false => simp -implicitDefEqProofs [ev_var, l1, Mv.tx, Mv.ws, TL.joinL]
  · have hV := hO t (by simp)
    have ok := V_ok G hV
    have hs := split_tx ok
    have hl2 : t.tx.length + 2 ≤ sizeLine := by rw [line_is]; have := tx_len ok; omega
    have hne : ¬ ((f.length : Int) + 1 = 0) := by omega
    have eB : mayB g b bg (f ++ [t]) = mayT g b t := by
      cases f with
      | nil => exact may_top [] t
      | cons x f => exact may_top (x :: f) t
    rw [eB, List.map_append, List.map_singleton]
    unfold maF
    have key : ∀ (sd : Bool) (w0 : A) (r : List A), t.ws = w0 :: r → decide (w0 ∈ ([[114, 117, 110], [97, 115, 107]] : List A)) = sd → (∀ sc hc : List W → FR, (if sd then sc [.int (g.z : Int), kW b, pW g, cW g, .tup (f.map txW ++ [txW t])] else hc [.int (g.z : Int), pW g, .tup (f.map txW ++ [txW t])]) = .ok true (.lst (((mayT g b t).map Mv.tx).map tW)) [] → fun__law_may sc hc [lsW g, kW b, .bl bg, .tup (f.map txW ++ [txW t])] = .ok true (.lst (((mayT g b t).map Mv.tx).map tW)) []) := by
      intro sd w0 r e1 e2 sc hc e3
      rw [e1] at hs
      unfold fun__law_may body__law_may lsW
      cases sd with
      | true =>
        simp at hs e2 e3
        simp -implicitDefEqProofs [ev_var, hne, atL, hs, hl2, e2, e3]
      | false =>
        simp at hs e2 e3
        simp -implicitDefEqProofs [ev_var, hne, atL, hs, hl2, e2, e3]
    cases t with
    | run => exact key true _ _ rfl (by decide) _ _ (lsaid_run G hA)
    | ask n i => exact key true _ _ rfl (by decide) _ _ (lsaid_ask G hA hP hV)
    | call n => exact key false _ _ rfl (by decide) _ _ (lheard_call G hP hA hV)
    | get c => exact key false _ _ rfl (by decide) _ _ (lheard_get G hA hV)
    | set c k => exact key false _ _ rfl (by decide) _ _ (lheard_set G hV)
    | _ => exact hV.elim
end K08

namespace K08
open PySem PySem.Spec PyProof.Rows L2 ML
/-! ### nested values: v is w, some tuples made lists -/
def Lsd : Nat → W → W → Prop
  | 0, _, _ => False
  | d + 1, v, w => (∃ i, v = .int i ∧ w = .int i) ∨ (∃ s, v = .str s ∧ w = .str s ∧ PyData.strOk s = true) ∨ ∃ vs ws, (v = .tup vs ∨ v = .lst vs) ∧ w = .tup ws ∧ vs.length ≤ 1000 ∧ All2 (Lsd d) vs ws
theorem Lsd.mono : ∀ {d : Nat} {v w : W}, Lsd d v w → Lsd (d + 1) v w
  | 0, _, _, h => h.elim
  | d + 1, v, w, h => by
    rcases h with h | h | ⟨vs, ws, h1, h2, h3, h4⟩
    · exact .inl h
    · exact .inr (.inl h)
    · exact .inr (.inr ⟨vs, ws, h1, h2, h3, h4.imp fun a b h => Lsd.mono h⟩)
theorem Lsd.up {d e : Nat} {v w : W} (h : Lsd d v w) (l : d ≤ e) : Lsd e v w := by
  induction l with
  | refl => exact h
  | step _ ih => exact ih.mono
theorem toD_ok : ∀ {d : Nat} {v w : W}, Lsd d v w → ∃ x, toD v = some x ∧ x.canLay0 = true ∧ x.depth ≤ d
  | 0, _, _, h => h.elim
  | d + 1, v, w, h => by
    rcases h with ⟨i, rfl, rfl⟩ | ⟨s, rfl, rfl, hs⟩ | ⟨vs, ws, h1, rfl, h3, h4⟩
    · exact ⟨.int i, rfl, by simp [PyData.canLay0], by simp [PyData.depth]⟩
    · exact ⟨.str s, rfl, by simp [PyData.canLay0, hs], by simp [PyData.depth]⟩
    · have q : ∃ xs, toDL vs = some xs ∧ PyData.canLayAll0 xs = true ∧ PyData.depthAll xs ≤ d := by
        clear h1 h3
        induction h4 with
        | nil => exact ⟨[], rfl, by simp [PyData.canLayAll0], by simp [PyData.depthAll]⟩
        | cons h _ ih =>
          obtain ⟨x, e1, e2, e3⟩ := toD_ok h
          obtain ⟨xs, f1, f2, f3⟩ := ih
          exact ⟨x :: xs, by simp [toDL, e1, f1], by simp [PyData.canLayAll0, e2, f2], by simp [PyData.depthAll]; omega⟩
      obtain ⟨xs, f1, f2, f3⟩ := q
      rcases h1 with rfl | rfl
      · exact ⟨.tuple xs, by simp [toD, f1], by simp [PyData.canLay0, f2], by simp [PyData.depth]; omega⟩
      · exact ⟨.list xs, by simp [toD, f1], by simp [PyData.canLay0, f2], by simp [PyData.depth]; omega⟩
theorem ne_self {d : Nat} {v w : W} (h : Lsd d v w) (hd : d ≤ 150) : gNe v v = some (.val, .bl false) := by
  obtain ⟨x, e1, e2, e3⟩ := toD_ok h
  have e : eqW v v = some true := by
    unfold eqW
    split
    · simp
    · rw [e1]
      have := SeqAt.eqv_refl x e2
      have h5 : x.depth ≤ 150 := by omega
      simp [e2, this, h5]
  unfold gNe
  rw [e]
  rfl
theorem frozen_step {m : List W → FR} {d : Nat} {v w : W} (ih : ∀ {v w : W}, Lsd d v w → m [v] = .ok false w []) (h : Lsd (d + 1) v w) : fun_frozen m [v] = .ok false w [] := by
  unfold fun_frozen body_frozen
  rcases h with ⟨i, rfl, rfl⟩ | ⟨s, rfl, rfl, hs⟩ | ⟨vs, ws, h1, rfl, h3, h4⟩
  · simp -implicitDefEqProofs [ev_var, gIsi, tyN, isAny, isB]
  · simp -implicitDefEqProofs [ev_var, gIsi, tyN, isAny, isB]
  · obtain ⟨ρ1, e1, acc, s, rfl, ea, _⟩ := for_inv (i := 2) (g := mDrop (mAppend 1 [] (mCall [] [] m [mVar 2]))) (ρ := [Sl.val v, Sl.own (.lst []), Sl.no])
      (P := fun zs ρ => ∃ acc s, ρ = [Sl.val v, Sl.own (.lst acc), s] ∧ acc ++ zs = ws ∧ acc.length + zs.length ≤ 1000) (.inr trivial) h4 (fun a z zs' ρ q ⟨acc, s, er, ea, el⟩ => by
        subst er
        have h6 : acc.length < sizeLine := by rw [line_is]; simp at el; omega
        refine ⟨_, by simp -implicitDefEqProofs [ev_var, ev_own, ih q, h6], acc ++ [z], Sl.val a, rfl, by simp [← ea], by simp at el ⊢; omega⟩) ⟨[], Sl.no, rfl, rfl, by have := h4.len; simp; omega⟩
    simp at ea
    subst ea
    have e0 : gSet [] 2 = fun w ρ => some (ρ.set 2 (.val w)) := gset_is (by simp)
    rcases h1 with rfl | rfl
    · simp -implicitDefEqProofs [ev_var, gIsi, tyN, isAny, isB, e0, e1]
    · simp -implicitDefEqProofs [ev_var, gIsi, tyN, isAny, isB, e0, e1]
noncomputable def frF : Nat → List W → FR
  | 0 => fun _ => .stk
  | d + 1 => fun_frozen (frF d)
theorem frozen_ok : ∀ (d : Nat) {v w : W}, Lsd d v w → frF d [v] = .ok false w []
  | 0, _, _, h => h.elim
  | d + 1, _, _, h => frozen_step (fun h => frozen_ok d h) h
theorem code_ok {l : List Nat} (h : ∀ c ∈ l, c < 128) : PyData.strOk (S l) = true := by
  show (S l).cps.all _ = true
  rw [← Array.all_toList]
  refine List.all_eq_true.mpr fun c hc => ?_
  have := h c hc
  simp
  omega
end K08

namespace K08
open PySem PySem.Spec PyProof.Rows L2 ML
@[simp] theorem ev_gEqB (x y : Bool) : gEq (.bl x) (.bl y) = some (.val, .bl (decide (x = y))) := by cases x <;> cases y <;> rfl
@[simp] theorem ev_gNeB (x y : Bool) : gNe (.bl x) (.bl y) = some (.val, .bl (!decide (x = y))) := by cases x <;> cases y <;> rfl
@[simp] theorem ev_fx (J : List Nat) (c : Str) (ns : List Str) (ws : List W) (ρ : Rho) : finF J (.exc c ns ws ρ) = (match outsOf J ρ with
  | some outs => .exc c ns ws outs
  | none => .stk) := rfl
@[simp] theorem noX_nil : noX [] = [] := rfl
@[simp] theorem noX_no (ρ : Rho) : noX (.no :: ρ) = .no :: noX ρ := rfl
@[simp] theorem noX_exn (ρ : Rho) : noX (.exn :: ρ) = .no :: noX ρ := rfl
@[simp] theorem noX_val (w : W) (ρ : Rho) : noX (.val w :: ρ) = .val w :: noX ρ := rfl
@[simp] theorem noX_ow (w : W) (ρ : Rho) : noX (.own w :: ρ) = .own w :: noX ρ := rfl
theorem ev_isE (i : Nat) (t : Option Bool) (ρ : Rho) : mIsE i t ρ = (match ρ[i]?, t with
  | some .exn, some b => .ok (.val, .bl b) ρ
  | _, _ => .stk) := rfl
theorem try_exc {I : List Nat} {i : Nat} {cm : Str → Option Bool} {g : Rho → ML.R Fl} {h : Str → List Str → List W → Rho → ML.R Fl} {ρ ρ1 ρ2 : Rho} {c : Str} {ns : List Str} {ws : List W} {w : W} (hg : g (noX ρ) = .exc c ns ws ρ1) (hc : cm c = some true) (hi : i ∉ I ∧ i < ρ1.length) (hh : h c ns ws ((noX ρ1).set i .exn) = .ok (.rt .val w) ρ2) : mTry I i cm g h ρ = .ok (.rt .val w) (noX ((noX ρ2).set i .no)) := by
  unfold mTry
  rw [hg]
  dsimp only
  rw [hc]
  dsimp only
  rw [if_pos hi, hh]
theorem ev_xf {cl : List Str} {i : Nat} {f c : Str} {ns : List Str} {ws : List W} {ρ : Rho} {w : W} (hc : c ∈ cl) (hl : ns.length = ws.length) (hi : ρ[i]? = some .exn) (hw : (ns.zip ws).lookup f = some w) : mXf cl i f c ns ws ρ = .ok (.val, w) ρ := by
  unfold mXf
  rw [if_pos ⟨hc, hl⟩, hi, hw]
theorem ev_cut {l : List W} {a b : Nat} (ha : a ≤ l.length) : cutW l (some (a : Int)) (some (b : Int)) = (l.drop a).take (b - a) := by
  unfold cutW
  rw [HT.sIx_nat, HT.sIx_nat, Nat.min_eq_left ha]
  by_cases h : b ≤ l.length
  · rw [Nat.min_eq_left h]
  · rw [Nat.min_eq_right (by omega), List.take_of_length_le (by rw [List.length_drop]; omega), List.take_of_length_le (by rw [List.length_drop]; omega)]
theorem ev_cut0 {l : List W} {b : Nat} : cutW l none (some (b : Int)) = l.take b := by
  unfold cutW
  rw [show HT.sIx l.length 0 none = 0 from rfl, HT.sIx_nat, List.drop_zero, Nat.sub_zero]
  by_cases h : b ≤ l.length
  · rw [Nat.min_eq_left h]
  · rw [Nat.min_eq_right (by omega), List.take_of_length_le (Nat.le_refl _), List.take_of_length_le (by omega)]
/-! ### rows walked -/
def TxOk (x : A) : Prop := x.length ≤ 100 ∧ ∀ c ∈ x, c < 128
def wk (g : Sg) (b : Bool) : Nat → List Mv → List Mv → List A → Option Nat × List Mv × List Mv
  | _, o, ch, [] => (none, o, ch)
  | i, o, ch, x :: xs => match ch.find? fun m => decide (m.tx = x) with
    | none => (some i, o, ch)
    | some m => wk g b (i + 1) (aft o m) (may g b (aft o m)) xs
def wk0 (g : Sg) (b : Bool) (xs : List A) : Option Nat × List Mv × List Mv := wk g b 0 [] [.run] xs
def chW (ch : List Mv) : W := .tup ((ch.map Mv.tx).map tW)
def chL (ch : List Mv) : W := .lst ((ch.map Mv.tx).map tW)
def opW (o : List Mv) : W := .tup (o.map txW)
theorem in_ch {ch : List Mv} {x : A} (neg : Bool) : gIn neg (tW x) (chW ch) = some (.val, .bl (if neg then !decide (x ∈ ch.map Mv.tx) else decide (x ∈ ch.map Mv.tx))) := in_ST neg x (ch.map Mv.tx) _ rfl (fun z h => by cases h)
theorem in_chL {ch : List Mv} {x : A} (neg : Bool) : gIn neg (tW x) (chL ch) = some (.val, .bl (if neg then !decide (x ∈ ch.map Mv.tx) else decide (x ∈ ch.map Mv.tx))) := in_ST neg x (ch.map Mv.tx) _ rfl (fun z h => by cases h)
theorem find_in {ch : List Mv} {x : A} : (x ∈ ch.map Mv.tx ∧ ∃ m ∈ ch, m.tx = x ∧ ch.find? (fun m => decide (m.tx = x)) = some m) ∨ (x ∉ ch.map Mv.tx ∧ ch.find? (fun m => decide (m.tx = x)) = none) := by
  cases e : ch.find? (fun m => decide (m.tx = x)) with
  | none =>
    right
    refine ⟨fun h => ?_, rfl⟩
    obtain ⟨m, hm, e2⟩ := List.mem_map.mp h
    have := List.find?_eq_none.mp e m hm
    simp [e2] at this
  | some m =>
    left
    have h1 := List.mem_of_find?_eq_some e
    have h2 : m.tx = x := by simpa using List.find?_some e
    exact ⟨List.mem_map.mpr ⟨m, h1, h2⟩, m, h1, h2, rfl⟩
theorem wk_stop {g : Sg} {b : Bool} {i : Nat} {o ch : List Mv} {x : A} {xs : List A} (h : ch.find? (fun m => decide (m.tx = x)) = none) : wk g b i o ch (x :: xs) = (some i, o, ch) := by
  unfold wk
  rw [h]
theorem wk_go {g : Sg} {b : Bool} {i : Nat} {o ch : List Mv} {x : A} {xs : List A} {m : Mv} (h : ch.find? (fun m => decide (m.tx = x)) = some m) : wk g b i o ch (x :: xs) = wk g b (i + 1) (aft o m) (may g b (aft o m)) xs := by
  rw [wk]
  rw [h]
def idx : Nat → List A → List (Nat × A)
  | _, [] => []
  | i, x :: xs => (i, x) :: idx (i + 1) xs
theorem idx_len : ∀ (xs : List A) (i : Nat), (idx i xs).length = xs.length
  | [], _ => rfl
  | _ :: xs, i => by rw [idx, List.length_cons, List.length_cons, idx_len xs]
theorem all2_enum : ∀ (xs : List A) (i : Nat), All2 (fun (w : W) (z : Nat × A) => w = .tup [.int (z.1 : Int), tW z.2]) (enumW i (xs.map tW)) (idx i xs)
  | [], _ => .nil
  | _ :: xs, i => .cons rfl (all2_enum xs (i + 1))
theorem aft_len (o : List Mv) (m : Mv) : (aft o m).length ≤ o.length + 1 := by
  unfold aft
  split <;> simp
  omega
/-- what the walk gives -/
def walkR (g : Sg) (b : Bool) (xs : List A) : FR := match wk0 g b xs with
  | (none, o, ch) => .ok false (.tup [opW o, chW ch]) []
  | (some i, _, _) => .exc "BadMove" ["index"] [.int (i : Int)] []
def WalkOk (m : List W → FR) : Prop := ∀ {g : Sg} {b : Bool} {xs : List A}, SgOk g → xs.length ≤ 1000 → m [objW g, kW b, .tup (xs.map tW)] = walkR g b xs
theorem run_ch (g : Sg) : ∀ m ∈ [Mv.run], m.M g := fun m h => by
  rw [List.mem_singleton.mp h]
  exact ⟨trivial, fun _ => trivial⟩
theorem walked_ok {oa ca : List W → FR} (ho : AftOk oa) (hc : MayOk ca) : WalkOk (fun_walked oa ca) := by
  intro g b xs G hl
  have e : (match wk0 g b xs with
    | (none, o, ch) => ∃ s5 s6, forL (gTup [gSet [] 5, gSet [] 6]) (mSeq (mIf (mTest (mOp (gIn true) (mVar 6) (mVar 4))) (mRaise [] "BadMove" ["index"] [mVar 5]) (mNext)) (mSeq (mSet [] 3 (mCall [] [] oa [mVar 3, mVar 6])) (mSet [] 4 (mCall [] [] ca [mVar 0, mVar 1, mVar 3])))) (enumW 0 (xs.map tW)) [Sl.val (objW g), Sl.val (kW b), Sl.val (.tup (xs.map tW)), Sl.val (opW []), Sl.val (chW [.run]), Sl.no, Sl.no] = .ok .nx [Sl.val (objW g), Sl.val (kW b), Sl.val (.tup (xs.map tW)), Sl.val (opW o), Sl.val (chW ch), s5, s6]
    | (some i, _, _) => ∃ ρ1, forL (gTup [gSet [] 5, gSet [] 6]) (mSeq (mIf (mTest (mOp (gIn true) (mVar 6) (mVar 4))) (mRaise [] "BadMove" ["index"] [mVar 5]) (mNext)) (mSeq (mSet [] 3 (mCall [] [] oa [mVar 3, mVar 6])) (mSet [] 4 (mCall [] [] ca [mVar 0, mVar 1, mVar 3])))) (enumW 0 (xs.map tW)) [Sl.val (objW g), Sl.val (kW b), Sl.val (.tup (xs.map tW)), Sl.val (opW []), Sl.val (chW [.run]), Sl.no, Sl.no] = .exc "BadMove" ["index"] [.int (i : Int)] ρ1) := by
    generalize hX : W.tup (xs.map tW) = X
    have Post := @for_run (Nat × A) (gTup [gSet [] 5, gSet [] 6]) (mSeq (mIf (mTest (mOp (gIn true) (mVar 6) (mVar 4))) (mRaise [] "BadMove" ["index"] [mVar 5]) (mNext)) (mSeq (mSet [] 3 (mCall [] [] oa [mVar 3, mVar 6])) (mSet [] 4 (mCall [] [] ca [mVar 0, mVar 1, mVar 3]))))
      (fun w z => w = .tup [.int (z.1 : Int), tW z.2])
      (fun zs ρ => ∃ i o ch ys s5 s6, ρ = [Sl.val (objW g), Sl.val (kW b), Sl.val X, Sl.val (opW o), Sl.val (chW ch), s5, s6] ∧ zs = idx i ys ∧ OkO g o ∧ (∀ m ∈ ch, m.M g) ∧ wk g b i o ch ys = wk0 g b xs ∧ o.length + ys.length ≤ 1000)
      (fun r => (match wk0 g b xs with
        | (none, o, ch) => ∃ s5 s6, r = .ok .nx [Sl.val (objW g), Sl.val (kW b), Sl.val X, Sl.val (opW o), Sl.val (chW ch), s5, s6]
        | (some i, _, _) => ∃ ρ1, r = .exc "BadMove" ["index"] [.int (i : Int)] ρ1))
      (fun ρ ⟨i, o, ch, ys, s5, s6, e, h1, h2, h3, h4, h5⟩ => by
        have hy : ys = [] := by
          have := congrArg List.length h1
          rw [idx_len] at this
          exact List.length_eq_zero_iff.mp this.symm
        subst hy
        rw [← h4]
        exact ⟨s5, s6, by rw [e]⟩)
      (fun w z zs ρ q ⟨i, o, ch, ys, s5, s6, e, h1, h2, h3, h4, h5⟩ => by
        subst q e
        cases ys with
        | nil => cases h1
        | cons y ys =>
          obtain ⟨hz, hzs⟩ := List.cons.inj h1
          subst hz hzs
          have hi := in_ch (ch := ch) (x := y) true
          refine ⟨[Sl.val (objW g), Sl.val (kW b), Sl.val X, Sl.val (opW o), Sl.val (chW ch), Sl.val (.int (i : Int)), Sl.val (tW y)], by simp, ?_⟩
          rcases find_in (ch := ch) (x := y) with ⟨hin, m, hm, ht, hf⟩ | ⟨hin, hf⟩
          · have hM := h3 m hm
            have hO2 := aft_ok h2 hM
            have ea := ho (o := o) hM.1 (by simp at h5; omega)
            have ec := hc (b := b) G hO2
            replace ea : oa [.tup (o.map txW), tW m.tx] = _ := ea
            rw [ht] at ea
            refine .inl ⟨[Sl.val (objW g), Sl.val (kW b), Sl.val X, Sl.val (opW (aft o m)), Sl.val (chW (may g b (aft o m))), Sl.val (.int (i : Int)), Sl.val (tW y)], .inl ?_, i + 1, aft o m, _, ys, _, _, rfl, rfl, hO2, may_M G hO2, by rw [← h4, wk_go hf], by have := aft_len o m; simp at h5; omega⟩
            rw [decide_eq_true hin] at hi
            unfold opW chW at *
            generalize (may g b (aft o m)).map Mv.tx = CH2 at *
            generalize ch.map Mv.tx = CH at *
            simp at hi
            simp -implicitDefEqProofs [ev_var, hi, ea, ec]
          · refine .inr (.inr (.inr ⟨"BadMove", ["index"], [.int (i : Int)], [Sl.val (objW g), Sl.val (kW b), Sl.val X, Sl.val (opW o), Sl.val (chW ch), Sl.val (.int (i : Int)), Sl.val (tW y)], ?_, ?_⟩))
            · rw [decide_eq_false hin] at hi
              unfold chW at *
              generalize ch.map Mv.tx = CH at *
              simp at hi
              simp -implicitDefEqProofs [ev_var, hi]
            · rw [wk_stop hf] at h4
              rw [← h4]
              exact ⟨_, rfl⟩)
    have := Post (all2_enum xs 0) ⟨0, [], [.run], xs, Sl.no, Sl.no, rfl, rfl, (fun m h => nomatch h), run_ch g, rfl, by simpa using hl⟩
    revert this
    cases hw : wk0 g b xs with
    | mk r oc =>
      obtain ⟨o, ch⟩ := oc
      cases r <;> exact fun h => h
  unfold walkR
  revert e
  cases hw : wk0 g b xs with
  | mk r oc =>
    obtain ⟨o, ch⟩ := oc
    cases r with
    | none =>
      intro ⟨s5, s6, e⟩
      unfold opW chW at e ⊢
      simp [Mv.tx, Mv.ws, TL.joinL] at e
      unfold fun_walked body_walked
      simp -implicitDefEqProofs [ev_var, e]
    | some i =>
      intro ⟨ρ1, e⟩
      unfold opW chW at e
      simp [Mv.tx, Mv.ws, TL.joinL] at e
      unfold fun_walked body_walked
      simp -implicitDefEqProofs [ev_var, e]
end K08

namespace K08
open PySem PySem.Spec PyProof.Rows L2 ML
theorem mayB_t {g : Sg} {b : Bool} (o : List Mv) : mayB g b true o = may g b o := by cases o <;> rfl
def dueW (r : Option Nat × List Mv × List Mv) : W := .lst [.int (match r.1 with | none => -1 | some i => (i : Int)), opW r.2.1, chL r.2.2]
def JudgeOk (m : List W → FR) : Prop := ∀ {g : Sg} {b : Bool} {xs : List A}, SgOk g → xs.length ≤ 1000 → m [lsW g, kW b, .lst (xs.map tW)] = .ok true (dueW (wk0 g b xs)) []
theorem judge_ok {la ma : List W → FR} (ho : AftOk la) (hc : LMayOk ma) : JudgeOk (fun__law_judge la ma) := by
  intro g b xs G hl
  have hlr : okR (xs.length : Int) = true := okR_nat (by omega)
  have e : (match wk0 g b xs with
    | (none, o, ch) => ∃ s5, forL (gSet [] 5) (mSeq (mIf (mTest (mOp (gIn true) (mOp gIx (mVar 2) (mVar 5)) (mVar 4))) (mRet [] (mLst [] [mVar 5, mVar 3, mVar 4])) (mNext)) (mSeq (mSet [] 3 (mCall [] [] la [mVar 3, mOp gIx (mVar 2) (mVar 5)])) (mSet [] 4 (mCall [] [] ma [mVar 0, mVar 1, mC (.bl true), mVar 3])))) (intsW 0 xs.length) [Sl.val (lsW g), Sl.val (kW b), Sl.val (.lst (xs.map tW)), Sl.val (opW []), Sl.own (chL [.run]), Sl.no] = .ok .nx [Sl.val (lsW g), Sl.val (kW b), Sl.val (.lst (xs.map tW)), Sl.val (opW o), Sl.own (chL ch), s5]
    | (some i, o, ch) => ∃ ρ1, forL (gSet [] 5) (mSeq (mIf (mTest (mOp (gIn true) (mOp gIx (mVar 2) (mVar 5)) (mVar 4))) (mRet [] (mLst [] [mVar 5, mVar 3, mVar 4])) (mNext)) (mSeq (mSet [] 3 (mCall [] [] la [mVar 3, mOp gIx (mVar 2) (mVar 5)])) (mSet [] 4 (mCall [] [] ma [mVar 0, mVar 1, mC (.bl true), mVar 3])))) (intsW 0 xs.length) [Sl.val (lsW g), Sl.val (kW b), Sl.val (.lst (xs.map tW)), Sl.val (opW []), Sl.own (chL [.run]), Sl.no] = .ok (.rt .fre (.lst [.int (i : Int), opW o, chL ch])) ρ1) := by
    have Post := @for_run Nat (gSet [] 5) (mSeq (mIf (mTest (mOp (gIn true) (mOp gIx (mVar 2) (mVar 5)) (mVar 4))) (mRet [] (mLst [] [mVar 5, mVar 3, mVar 4])) (mNext)) (mSeq (mSet [] 3 (mCall [] [] la [mVar 3, mOp gIx (mVar 2) (mVar 5)])) (mSet [] 4 (mCall [] [] ma [mVar 0, mVar 1, mC (.bl true), mVar 3]))))
      (fun w z => w = .int z ∧ z < xs.length)
      (fun zs ρ => ∃ i o ch ys s5, ρ = [Sl.val (lsW g), Sl.val (kW b), Sl.val (.lst (xs.map tW)), Sl.val (opW o), Sl.own (chL ch), s5] ∧ zs = List.range' i ys.length ∧ xs.drop i = ys ∧ OkO g o ∧ (∀ m ∈ ch, m.M g) ∧ wk g b i o ch ys = wk0 g b xs ∧ o.length + ys.length ≤ 1000)
      (fun r => (match wk0 g b xs with
        | (none, o, ch) => ∃ s5, r = .ok .nx [Sl.val (lsW g), Sl.val (kW b), Sl.val (.lst (xs.map tW)), Sl.val (opW o), Sl.own (chL ch), s5]
        | (some i, o, ch) => ∃ ρ1, r = .ok (.rt .fre (.lst [.int (i : Int), opW o, chL ch])) ρ1))
      (fun ρ ⟨i, o, ch, ys, s5, e, h1, h0, h2, h3, h4, h5⟩ => by
        have hy : ys = [] := by
          have := congrArg List.length h1
          rw [List.length_range'] at this
          exact List.length_eq_zero_iff.mp this.symm
        subst hy
        rw [← h4]
        exact ⟨s5, by rw [e]⟩)
      (fun w z zs ρ q ⟨i, o, ch, ys, s5, e, h1, h0, h2, h3, h4, h5⟩ => by
        obtain ⟨q, hzl⟩ := q
        subst q e
        cases ys with
        | nil => cases h1
        | cons y ys =>
          rw [List.length_cons, List.range'_succ] at h1
          obtain ⟨hz, hzs⟩ := List.cons.inj h1
          subst hz hzs
          have hi := in_chL (ch := ch) (x := y) true
          have hgy : xs[z]? = some y := by
            have := congrArg (fun l => l[0]?) h0
            simpa using this
          have hat : atI (xs.map tW) (z : Int) = some (tW y) := by
            rw [ML.atI_nat, List.getElem?_map, hgy]
            rfl
          have hd2 : xs.drop (z + 1) = ys := by
            have := congrArg List.tail h0
            simpa using this
          generalize xs.map tW = X at *
          refine ⟨[Sl.val (lsW g), Sl.val (kW b), Sl.val (.lst X), Sl.val (opW o), Sl.own (chL ch), Sl.val (.int (z : Int))], by simp, ?_⟩
          rcases find_in (ch := ch) (x := y) with ⟨hin, m, hm, ht, hf⟩ | ⟨hin, hf⟩
          · have hM := h3 m hm
            have hO2 := aft_ok h2 hM
            have ea := ho (o := o) hM.1 (by simp at h5; omega)
            have ec := hc (b := b) (bg := true) G hO2
            rw [mayB_t] at ec
            replace ea : la [.tup (o.map txW), tW m.tx] = _ := ea
            rw [ht] at ea
            refine .inl ⟨[Sl.val (lsW g), Sl.val (kW b), Sl.val (.lst X), Sl.val (opW (aft o m)), Sl.own (chL (may g b (aft o m))), Sl.val (.int (z : Int))], .inl ?_, z + 1, aft o m, _, ys, _, rfl, rfl, hd2, hO2, may_M G hO2, by rw [← h4, wk_go hf], by have := aft_len o m; simp at h5; omega⟩
            rw [decide_eq_true hin] at hi
            unfold opW chL at *
            generalize (may g b (aft o m)).map Mv.tx = CH2 at *
            generalize ch.map Mv.tx = CH at *
            simp at hi
            simp -implicitDefEqProofs [ev_var, hat, hi, ea, ec]
          · refine .inr (.inr (.inl ⟨.fre, .lst [.int (z : Int), opW o, chL ch], [Sl.val (lsW g), Sl.val (kW b), Sl.val (.lst X), Sl.val (opW o), Sl.val (chL ch), Sl.val (.int (z : Int))], ?_, ?_⟩))
            · rw [decide_eq_false hin] at hi
              unfold chL at *
              generalize ch.map Mv.tx = CH at *
              simp at hi
              simp -implicitDefEqProofs [ev_var, hat, hi, l3]
            · rw [wk_stop hf] at h4
              rw [← h4]
              exact ⟨_, rfl⟩)
    have := Post (ws := intsW 0 xs.length) (all2_rng xs.length) ⟨0, [], [.run], xs, Sl.no, rfl, rfl, rfl, (fun m h => nomatch h), run_ch g, rfl, by simpa using hl⟩
    revert this
    cases hw : wk0 g b xs with
    | mk r oc =>
      obtain ⟨o, ch⟩ := oc
      cases r <;> exact fun h => h
  unfold dueW
  revert e
  cases hw : wk0 g b xs with
  | mk r oc =>
    obtain ⟨o, ch⟩ := oc
    cases r with
    | none =>
      intro ⟨s5, e⟩
      unfold opW chL at e ⊢
      simp [Mv.tx, Mv.ws, TL.joinL] at e
      unfold fun__law_judge body__law_judge
      simp -implicitDefEqProofs [ev_var, hlr, e, l1, l3]
    | some i =>
      intro ⟨ρ1, e⟩
      unfold opW chL at e ⊢
      simp [Mv.tx, Mv.ws, TL.joinL] at e
      unfold fun__law_judge body__law_judge
      simp -implicitDefEqProofs [ev_var, hlr, e, l1, l3]
/-! ### what the walk leaves -/
theorem wk_end {g : Sg} {b : Bool} (G : SgOk g) : ∀ {ys : List A} {i : Nat} {o ch o' ch' : List Mv}, OkO g o → (∀ m ∈ ch, m.M g) → wk g b i o ch ys = (none, o', ch') → (ys = [] ∧ o' = o ∧ ch' = ch) ∨ (ys ≠ [] ∧ OkO g o' ∧ ch' = may g b o')
  | [], _, _, _, _, _, _, _, h => by
    cases h
    exact .inl ⟨rfl, rfl, rfl⟩
  | y :: ys, i, o, ch, o', ch', hO, hC, h => by
    right
    rcases find_in (ch := ch) (x := y) with ⟨_, m, hm, _, hf⟩ | ⟨_, hf⟩
    · rw [wk_go hf] at h
      have hO2 := aft_ok hO (hC m hm)
      rcases wk_end G hO2 (may_M G hO2) h with ⟨_, h1, h2⟩ | ⟨_, h1, h2⟩
      · exact ⟨by simp, by rw [h1]; exact hO2, by rw [h1, h2]⟩
      · exact ⟨by simp, h1, h2⟩
    · rw [wk_stop hf] at h
      cases h
theorem num_ne {f : Option Nat → Mv} {b : Bool} {z : Nat} (h : 2 ≤ z) : num f b z ≠ [] := by
  unfold num
  split
  · intro e
    have := congrArg List.length e
    simp at this
    omega
  · simp
theorem may_ne {g : Sg} {b : Bool} (G : SgOk g) {o : List Mv} (hO : OkO g o) (hne : o ≠ []) : may g b o ≠ [] := by
  rcases snoc_of o with rfl | ⟨f, t, rfl⟩
  · exact absurd rfl hne
  · have hV := hO t (by simp)
    rw [may_top]
    cases t with
    | run =>
      intro e
      exact num_ne (f := .ends) (b := b) G.z1 (List.append_eq_nil_iff.mp e).2
    | ask n i =>
      obtain ⟨t, h, _⟩ := hV
      rw [mayT_ask h]
      intro e
      exact num_ne G.z1 (List.append_eq_nil_iff.mp e).2
    | call n =>
      obtain ⟨t, h⟩ := hV
      rw [mayT_call h]
      intro e
      exact num_ne G.z1 (List.append_eq_nil_iff.mp e).2
    | get c =>
      intro e
      have e2 : (List.range g.z).map (fun k => Mv.is c k) = [] := e
      have := congrArg List.length e2
      have := G.z1
      simp at *
      omega
    | set c k =>
      intro e
      have e2 : [Mv.kept c] = [] := e
      cases e2
    | _ => exact hV.elim
theorem fin_eq {g : Sg} {b : Bool} (G : SgOk g) {xs : List A} {o ch : List Mv} (h : wk0 g b xs = (none, o, ch)) : decide (ch.length = 0) = (decide (0 < xs.length) && decide (o.length = 0)) := by
  rcases wk_end G (fun m hm => (List.not_mem_nil hm).elim) (run_ch g) h with ⟨h1, h2, h3⟩ | ⟨h1, h2, h3⟩
  · subst h1 h2 h3
    rfl
  · have hp : 0 < xs.length := List.length_pos_iff.mpr h1
    rw [decide_eq_true hp, Bool.true_and]
    by_cases ho : o = []
    · subst ho
      rw [h3]
      rfl
    · have hn := may_ne (b := b) G h2 ho
      rw [← h3] at hn
      have a1 : 0 < ch.length := List.length_pos_iff.mpr hn
      have a2 : 0 < o.length := List.length_pos_iff.mpr ho
      rw [decide_eq_false (by omega), decide_eq_false (by omega)]
end K08

namespace K08
open PySem PySem.Spec PyProof.Rows L2 ML
@[simp] theorem ev_lcL (l : List W) : gLstC [.lst l] = some (.fre, .lst l) := rfl
@[simp] theorem ev_lcT (l : List W) : gLstC [.tup l] = some (.fre, .lst l) := rfl
theorem lsd_row {v : W} {xs : List A} (hv : v = .lst (xs.map tW) ∨ v = .tup (xs.map tW)) (hx : ∀ x ∈ xs, TxOk x) (hl : xs.length ≤ 1000) : Lsd 2 v (.tup (xs.map tW)) := by
  refine .inr (.inr ⟨xs.map tW, xs.map tW, hv.symm, rfl, by simpa using hl, All2.same fun w hw => ?_⟩)
  obtain ⟨x, h, rfl⟩ := List.mem_map.mp hw
  exact .inr (.inl ⟨_, rfl, rfl, code_ok (hx x h).2⟩)
def FrOk (m : List W → FR) : Prop := ∀ {v : W} {xs : List A}, (v = .lst (xs.map tW) ∨ v = .tup (xs.map tW)) → (∀ x ∈ xs, TxOk x) → xs.length ≤ 1000 → m [v] = .ok false (.tup (xs.map tW)) []
theorem fr_row : FrOk (frF 2) := fun hv hx hl => frozen_ok 2 (lsd_row hv hx hl)
theorem ne_row {xs : List A} (hx : ∀ x ∈ xs, TxOk x) (hl : xs.length ≤ 1000) : gNe (.lst (xs.map tW)) (.lst (xs.map tW)) = some (.val, .bl false) := ne_self (lsd_row (.inl rfl) hx hl) (by omega)
def ansW (k : Nat) (o ch : List Mv) : W := if k = 0 then opW o else if k = 1 then chW ch else .bl (decide (ch.length = 0))
def ansR (k : Nat) (r : Option Nat × List Mv × List Mv) : FR := match r with
  | (none, o, ch) => .ok false (ansW k o ch) []
  | (some i, _, _) => .exc "BadMove" ["index"] [.int (i : Int)] []
def AskOk (k : Nat) (m : List W → FR) : Prop := ∀ {g : Sg} {b : Bool} {v : W} {xs : List A}, SgOk g → (v = .lst (xs.map tW) ∨ v = .tup (xs.map tW)) → (∀ x ∈ xs, TxOk x) → xs.length ≤ 1000 → m [objW g, kW b, v] = ansR k (wk0 g b xs)
section
variable {fr wa : List W → FR}
theorem open_ok (hf : FrOk fr) (hw : WalkOk wa) : AskOk 0 (fun_open_moves fr wa) := by
  intro g b v xs G hv hx hl
  have e1 := hf hv hx hl
  have e2 := hw (b := b) G hl
  unfold walkR at e2
  unfold fun_open_moves body_open_moves
  cases e : wk0 g b xs with
  | mk r oc =>
    obtain ⟨o, ch⟩ := oc
    rw [e] at e2
    cases r with
    | none =>
      dsimp only at e2
      unfold ansR ansW
      rcases hv with rfl | rfl
      · simp -implicitDefEqProofs [ev_var, e1, e2]
      · simp -implicitDefEqProofs [ev_var, e1, e2]
    | some i =>
      dsimp only at e2
      unfold ansR
      rcases hv with rfl | rfl
      · simp -implicitDefEqProofs [ev_var, e1, e2]
      · simp -implicitDefEqProofs [ev_var, e1, e2]
theorem nexts_ok (hf : FrOk fr) (hw : WalkOk wa) : AskOk 1 (fun_next_moves fr wa) := by
  intro g b v xs G hv hx hl
  have e1 := hf hv hx hl
  have e2 := hw (b := b) G hl
  unfold walkR at e2
  unfold fun_next_moves body_next_moves
  cases e : wk0 g b xs with
  | mk r oc =>
    obtain ⟨o, ch⟩ := oc
    rw [e] at e2
    cases r with
    | none =>
      dsimp only at e2
      unfold ansR ansW
      rcases hv with rfl | rfl
      · simp -implicitDefEqProofs [ev_var, e1, e2]
      · simp -implicitDefEqProofs [ev_var, e1, e2]
    | some i =>
      dsimp only at e2
      unfold ansR
      rcases hv with rfl | rfl
      · simp -implicitDefEqProofs [ev_var, e1, e2]
      · simp -implicitDefEqProofs [ev_var, e1, e2]
theorem finished_ok (hf : FrOk fr) (hw : WalkOk wa) : AskOk 2 (fun_is_finished fr wa) := by
  intro g b v xs G hv hx hl
  have e1 := hf hv hx hl
  have e2 := hw (b := b) G hl
  unfold walkR at e2
  unfold fun_is_finished body_is_finished
  cases e : wk0 g b xs with
  | mk r oc =>
    obtain ⟨o, ch⟩ := oc
    rw [e] at e2
    cases r with
    | none =>
      unfold chW at e2
      dsimp only at e2
      unfold ansR ansW
      rcases hv with rfl | rfl
      · simp -implicitDefEqProofs [ev_var, e1, e2]
      · simp -implicitDefEqProofs [ev_var, e1, e2]
    | some i =>
      dsimp only at e2
      unfold ansR
      rcases hv with rfl | rfl
      · simp -implicitDefEqProofs [ev_var, e1, e2]
      · simp -implicitDefEqProofs [ev_var, e1, e2]
end
@[simp] theorem ev_try (I : List Nat) (i : Nat) (cm : Str → Option Bool) (g : Rho → ML.R Fl) (h : Str → List Str → List W → Rho → ML.R Fl) (ρ : Rho) : mTry I i cm g h ρ = (match g (noX ρ) with
  | .exc c ns ws ρ1 => (match cm c with
    | some true => if i ∉ I ∧ i < ρ1.length then (match h c ns ws ((noX ρ1).set i .exn) with
      | .ok (.rt (.bor _) _) _ => .stk
      | .ok fl ρ2 => .ok fl (noX ((noX ρ2).set i .no))
      | _ => .stk) else .stk
    | some false => .exc c ns ws (noX ρ1)
    | none => .stk)
  | .ok fl ρ1 => .ok fl (noX ρ1)
  | .stk => .stk) := rfl
@[simp] theorem ev_isT (i : Nat) (t : Option Bool) (Ds : List Str) (ρ : Rho) : mIsT i t Ds ρ = (match ρ[i]?, t with
  | some .exn, some b => if Ds.length ≤ sizeLine then .ok (.val, .bl b) ρ else .stk
  | _, _ => .stk) := rfl
def toldW (k : Nat) (r : Option Nat × List Mv × List Mv) : W := match r with
  | (none, o, ch) => .tup [tW [105, 115], ansW k o ch]
  | (some i, _, _) => .tup [tW [98, 97, 100], .int (i : Int)]
def ToldOk (m : List W → FR) : Prop := ∀ {k : Nat} {g : Sg} {b : Bool} {v : W} {xs : List A}, k < 3 → SgOk g → (v = .lst (xs.map tW) ∨ v = .tup (xs.map tW)) → (∀ x ∈ xs, TxOk x) → xs.length ≤ 1000 → m [.int (k : Int), objW g, kW b, v] = .ok false (toldW k (wk0 g b xs)) []
theorem cm_bm : cm_all "BadMove" = some true := by decide
theorem kt_bm : kiT "BadMove" "BadMove" = some true := by decide
theorem kv_bm : kiV "BadMove" = some true := by decide
theorem kts_bm : kiTs ["BadNumber", "BadTable", "NoSuchName", "WrongMachine"] "BadMove" = some false := by decide
theorem told_ok {m0 m1 m2 : List W → FR} (h0 : AskOk 0 m0) (h1 : AskOk 1 m1) (h2 : AskOk 2 m2) : ToldOk (fun__law_told m0 m1 m2) := by
  intro k g b v xs hk G hv hx hl
  have e0 := h0 (b := b) G hv hx hl
  have e1 := h1 (b := b) G hv hx hl
  have e2 := h2 (b := b) G hv hx hl
  unfold ansR at e0 e1 e2
  unfold toldW
  have c1 := cm_bm
  have c2 := kt_bm
  have c3 := kv_bm
  have c4 := kts_bm
  have hk3 : k = 0 ∨ k = 1 ∨ k = 2 := by omega
  cases e : wk0 g b xs with
  | mk r oc =>
    obtain ⟨o, ch⟩ := oc
    rw [e] at e0 e1 e2
    cases r with
    | none =>
      dsimp only at e0 e1 e2 ⊢
      unfold fun__law_told body__law_told
      rcases hk3 with rfl | rfl | rfl
      · generalize ansW 0 o ch = aw at *
        simp -implicitDefEqProofs [ev_var, e0]
      · generalize ansW 1 o ch = aw at *
        simp -implicitDefEqProofs [ev_var, e1]
      · generalize ansW 2 o ch = aw at *
        simp -implicitDefEqProofs [ev_var, e2]
    | some i =>
      dsimp only at e0 e1 e2 ⊢
      have x_i : ∀ ρ : Rho, ρ[4]? = some .exn → mXf fl_index 4 "index" "BadMove" ["index"] [.int (i : Int)] ρ = .ok (.val, .int (i : Int)) ρ := fun ρ h => ev_xf (by decide) rfl h rfl
      unfold fun__law_told body__law_told
      rcases hk3 with rfl | rfl | rfl
      · simp -implicitDefEqProofs [ev_var, e0, c1, c2, c3, c4, ev_isE, x_i]
      · simp -implicitDefEqProofs [ev_var, e1, c1, c2, c3, c4, ev_isE, x_i]
      · simp -implicitDefEqProofs [ev_var, e2, c1, c2, c3, c4, ev_isE, x_i]
end K08

namespace K08
open PySem PySem.Spec PyProof.Rows L2 ML
def IsRowOk (m : List W → FR) : Prop := ∀ {l : List A} {d : W}, (d = .tup (l.map tW) ∨ d = .lst (l.map tW)) → l.length ≤ 1000000 → m [.tup (l.map tW), d] = .ok false (.bl true) []
theorem is_row_ok : IsRowOk fun__law_is_row := by
  intro l d hd hl
  have hlr : okR (l.length : Int) = true := okR_nat hl
  have e : ∃ s, forL (gSet [] 2) (mIf (mOr (mNot (mTest (mCB gIsi [mOp gIx (mVar 0) (mVar 2), mC (.ty "str")]))) (mTest (mOp gNe (mOp gIx (mVar 0) (mVar 2)) (mOp gIx (mVar 1) (mVar 2))))) (mRet [] (mC (.bl false))) (mNext)) (intsW 0 l.length) [Sl.val (.tup (l.map tW)), Sl.val d, Sl.no] = .ok .nx [Sl.val (.tup (l.map tW)), Sl.val d, s] := by
    refine for_run (Q := fun (w : W) (z : Nat) => w = .int z ∧ z < l.length) (P := fun _ ρ => ∃ s, ρ = [Sl.val (.tup (l.map tW)), Sl.val d, s]) (Post := fun r => ∃ s, r = .ok .nx [Sl.val (.tup (l.map tW)), Sl.val d, s]) (fun ρ ⟨s, e⟩ => ⟨s, by rw [e]⟩) (fun w z zs ρ ⟨q, hz⟩ ⟨s, e⟩ => ?_) (all2_rng l.length) ⟨_, rfl⟩
    subst q e
    have hat : atI (l.map tW) (z : Int) = some (tW l[z]) := by
      rw [ML.atI_nat, List.getElem?_map, List.getElem?_eq_getElem hz]
      rfl
    generalize l.map tW = L at *
    refine ⟨[Sl.val (.tup L), Sl.val d, Sl.val (.int (z : Int))], by simp, .inl ⟨[Sl.val (.tup L), Sl.val d, Sl.val (.int (z : Int))], .inl ?_, _, rfl⟩⟩
    rcases hd with rfl | rfl
    · simp -implicitDefEqProofs [ev_var, hat, gIsi, tyN, isB]
    · simp -implicitDefEqProofs [ev_var, hat, gIsi, tyN, isB]
  obtain ⟨s, e⟩ := e
  unfold fun__law_is_row body__law_is_row
  rcases hd with rfl | rfl
  · try simp at e
    simp -implicitDefEqProofs [ev_var, gIsi, tyN, isB, hlr, e]
  · try simp at e
    simp -implicitDefEqProofs [ev_var, gIsi, tyN, isB, hlr, e]
def WhOk (m : List W → FR) : Prop := ∀ i : Int, m [.int i] = .ok false (.bl true) []
theorem whole_ok : WhOk fun__law_whole := by
  intro i
  unfold fun__law_whole body__law_whole
  simp -implicitDefEqProofs [ev_var, gIsi, tyN, isB]
theorem mayT_len {g : Sg} {b : Bool} (G : SgOk g) {t : Mv} (hV : t.V g) : (mayT g b t).length ≤ 200 := by
  have hb := base_len G
  have hn := fun x b => numT_len (x := x) (b := b) G.z2
  have h : ((mayT g b t).map Mv.tx).length ≤ 200 := by
    cases t with
    | run =>
      rw [run_tx, List.length_append]
      have := hn [101, 110, 100] b
      omega
    | ask n i =>
      obtain ⟨t, h, _⟩ := hV
      rw [ask_tx h, List.length_append]
      have := hn ([116, 111, 108, 100, 32] ++ (n ++ (32 :: TL.numL i))) (t.2.1.getD i false)
      omega
    | call n =>
      obtain ⟨t, h⟩ := hV
      have h3 := (G.pn t (fnd_mem h).1).2
      have := hn ([98, 97, 99, 107, 32] ++ t.1) t.2.2
      have h4 := asksT_len t
      rw [call_tx h]
      unfold callT
      rw [List.length_append]
      omega
    | get c =>
      have := G.z2
      show (((List.range g.z).map fun k => Mv.is c k).map Mv.tx).length ≤ 200
      simp
      omega
    | set c k => exact (show 1 ≤ 200 by omega)
    | _ => exact hV.elim
  simpa using h
theorem wk_len {g : Sg} {b : Bool} (G : SgOk g) : ∀ {ys : List A} {i : Nat} {o ch o' ch' : List Mv} {r : Option Nat}, OkO g o → (∀ m ∈ ch, m.M g) → ch.length ≤ 200 → wk g b i o ch ys = (r, o', ch') → o'.length ≤ o.length + ys.length ∧ ch'.length ≤ 200
  | [], _, _, _, _, _, _, _, _, hc, h => by
    cases h
    exact ⟨by simp, hc⟩
  | y :: ys, i, o, ch, o', ch', r, hO, hC, hc, h => by
    rcases find_in (ch := ch) (x := y) with ⟨_, m, hm, _, hf⟩ | ⟨_, hf⟩
    · rw [wk_go hf] at h
      have hO2 := aft_ok hO (hC m hm)
      have hc2 : (may g b (aft o m)).length ≤ 200 := by
        rcases snoc_of (aft o m) with e | ⟨f, t, e⟩
        · rw [e]; exact (show 0 ≤ 200 by omega)
        · rw [e, may_top]
          exact mayT_len G (hO2 t (by rw [e]; simp))
      obtain ⟨h1, h2⟩ := wk_len G hO2 (may_M G hO2) hc2 h
      have := aft_len o m
      exact ⟨by simp; omega, h2⟩
    · rw [wk_stop hf] at h
      cases h
      exact ⟨by simp, hc⟩
theorem wk0_len {g : Sg} {b : Bool} (G : SgOk g) {xs : List A} {r : Option Nat} {o ch : List Mv} (hl : xs.length ≤ 1000) (h : wk0 g b xs = (r, o, ch)) : o.length ≤ 1000 ∧ ch.length ≤ 200 := by
  obtain ⟨h1, h2⟩ := wk_len G (fun m hm => (List.not_mem_nil hm).elim) (run_ch g) (by simp) h
  simp at h1
  exact ⟨by omega, h2⟩
def agB (tl wh ir : List W → FR) : Rho → ML.R Fl := mSeq (mSet [] 6 (mIfE (mTest (mVar 4)) (mCB gLstC [mVar 2]) (mCB gTupC [mVar 2]))) (mSeq (mSet [] 7 (mCall [] [] tl [mVar 5, mVar 0, mVar 1, mVar 6])) (mSeq (mIf (mTest (mOp gNe (mCB gLstC [mVar 6]) (mVar 2))) (mRet [] (mC (.bl false))) (mNext)) (mIf (mTest (mOp (gCmp (fun i j => decide (j ≤ i))) (mOp gIx (mVar 3) (mC (.int 0))) (mC (.int 0)))) (mIf (mOr (mTest (mOp gNe (mOp gIx (mVar 7) (mC (.int 0))) (mC (.str "bad")))) (mOr (mNot (mTest (mCall [] [] wh [mOp gIx (mVar 7) (mC (.int 1))]))) (mTest (mOp gNe (mOp gIx (mVar 7) (mC (.int 1))) (mOp gIx (mVar 3) (mC (.int 0))))))) (mRet [] (mC (.bl false))) (mNext)) (mIf (mTest (mOp gNe (mOp gIx (mVar 7) (mC (.int 0))) (mC (.str "is")))) (mRet [] (mC (.bl false))) (mIf (mTest (mOp gEq (mVar 5) (mC (.int 2)))) (mIf (mOr (mNot (mTest (mCB gIsi [mOp gIx (mVar 7) (mC (.int 1)), mC (.ty "bool")]))) (mTest (mOp gNe (mOp gIx (mVar 7) (mC (.int 1))) (mAndV (mOp (gCmp (fun i j => decide (j < i))) (mCB gLen [mVar 2]) (mC (.int 0))) (mOp gEq (mCB gLen [mOp gIx (mVar 3) (mC (.int 1))]) (mC (.int 0))))))) (mRet [] (mC (.bl false))) (mNext)) (mIf (mNot (mTest (mCall [] [] ir [mOp gIx (mVar 7) (mC (.int 1)), mOp gIx (mVar 3) (mOp gAdd (mC (.int 1)) (mVar 5))]))) (mRet [] (mC (.bl false))) (mNext)))))))
theorem ag_step {tl wh ir : List W → FR} (ht : ToldOk tl) (hw : WhOk wh) (hi : IsRowOk ir) {k : Nat} {g : Sg} {b ls : Bool} {xs : List A} (hk : k < 3) (G : SgOk g) (hx : ∀ x ∈ xs, TxOk x) (hl : xs.length ≤ 1000) (s6 s7 : Sl) : ∃ t6 t7, agB tl wh ir [Sl.val (objW g), Sl.val (kW b), Sl.val (.lst (xs.map tW)), Sl.val (dueW (wk0 g b xs)), Sl.val (.bl ls), Sl.val (.int (k : Int)), s6, s7] = .ok .nx [Sl.val (objW g), Sl.val (kW b), Sl.val (.lst (xs.map tW)), Sl.val (dueW (wk0 g b xs)), Sl.val (.bl ls), Sl.val (.int (k : Int)), t6, t7] := by
  obtain ⟨hv, eh⟩ : ∃ hv : W, hv = if ls then W.lst (xs.map tW) else W.tup (xs.map tW) := ⟨_, rfl⟩
  have hvv : hv = .lst (xs.map tW) ∨ hv = .tup (xs.map tW) := by cases ls <;> simp [eh]
  have e1 := ht (b := b) hk G hvv hx hl
  have e2 := ne_row hx hl
  refine ⟨Sl.val hv, Sl.val (toldW k (wk0 g b xs)), ?_⟩
  have hln : (xs.map tW).length = xs.length := by simp
  generalize xs.map tW = X at *
  unfold toldW at e1 ⊢
  unfold dueW
  have hk3 : k = 0 ∨ k = 1 ∨ k = 2 := by omega
  cases e : wk0 g b xs with
  | mk r oc =>
    obtain ⟨o, ch⟩ := oc
    rw [e] at e1
    cases r with
    | some i =>
      dsimp only at e1 ⊢
      have e3 := hw i
      have hi0 : (0 : Int) ≤ (i : Int) := by omega
      have nb : ¬ ((i : Int) < 0) := by omega
      unfold agB
      cases ls with
      | true =>
        simp at eh
        subst eh
        simp -implicitDefEqProofs [ev_var, ev_own, e1, e2, e3, hi0]
      | false =>
        simp at eh
        subst eh
        simp -implicitDefEqProofs [ev_var, ev_own, e1, e2, e3, hi0]
    | none =>
      dsimp only at e1 ⊢
      obtain ⟨l1', l2'⟩ := wk0_len G hl e
      have f0 := hi (l := o.map Mv.tx) (d := opW o) (.inl (by unfold opW; rw [List.map_map]; rfl)) (by simp; omega)
      have f0' : ir [opW o, opW o] = .ok false (.bl true) [] := by
        unfold opW at f0 ⊢
        rw [List.map_map] at f0
        exact f0
      have f1 := hi (l := ch.map Mv.tx) (d := chL ch) (.inr rfl) (by simp; omega)
      have f1' : ir [chW ch, chL ch] = .ok false (.bl true) [] := f1
      have f2 := fin_eq G e
      unfold agB
      rcases hk3 with rfl | rfl | rfl
      · have ea : ansW 0 o ch = opW o := rfl
        rw [ea] at e1 ⊢
        generalize opW o = OW at *
        generalize chL ch = CL at *
        cases ls with
        | true =>
          simp at eh
          subst eh
          simp at e1
          simp -implicitDefEqProofs [ev_var, ev_own, e1, e2, f0']
        | false =>
          simp at eh
          subst eh
          simp at e1
          simp -implicitDefEqProofs [ev_var, ev_own, e1, e2, f0']
      · have ea : ansW 1 o ch = chW ch := rfl
        rw [ea] at e1 ⊢
        generalize opW o = OW at *
        generalize chL ch = CL at *
        generalize chW ch = CW at *
        cases ls with
        | true =>
          simp at eh
          subst eh
          simp at e1
          simp -implicitDefEqProofs [ev_var, ev_own, e1, e2, f1']
        | false =>
          simp at eh
          subst eh
          simp at e1
          simp -implicitDefEqProofs [ev_var, ev_own, e1, e2, f1']
      · have ea : ansW 2 o ch = .bl (decide (0 < xs.length) && decide (o.length = 0)) := by rw [← f2]; rfl
        rw [ea] at e1 ⊢
        have ho : gLen [opW o] = some (.val, .int (o.length : Int)) := by unfold opW; simp
        generalize opW o = OW at *
        generalize chL ch = CL at *
        have hX : gLen [.lst X] = some (.val, .int (xs.length : Int)) := by simp [hln]
        have d0 : decide ((0 : Int) < (xs.length : Int)) = decide (0 < xs.length) := by simp
        have d1 : decide ((o.length : Int) = 0) = decide (o.length = 0) := by simp
        generalize xs.length = n at *
        generalize o.length = p at *
        by_cases hn : 0 < n
        · have hn' : (0 : Int) < (n : Int) := by omega
          cases ls with
          | true =>
            simp at eh
            subst eh
            simp [hn] at e1
            simp -implicitDefEqProofs [ev_var, ev_own, e1, e2, ho, hln, hn, gIsi, tyN, isB]
          | false =>
            simp at eh
            subst eh
            simp [hn] at e1
            simp -implicitDefEqProofs [ev_var, ev_own, e1, e2, ho, hln, hn, gIsi, tyN, isB]
        · cases ls with
          | true =>
            simp at eh
            subst eh
            simp [hn] at e1
            simp -implicitDefEqProofs [ev_var, ev_own, e1, e2, ho, hln, hn, gIsi, tyN, isB]
          | false =>
            simp at eh
            subst eh
            simp [hn] at e1
            simp -implicitDefEqProofs [ev_var, ev_own, e1, e2, ho, hln, hn, gIsi, tyN, isB]
def AgOk (m : List W → FR) : Prop := ∀ {g : Sg} {b ls : Bool} {xs : List A}, SgOk g → (∀ x ∈ xs, TxOk x) → xs.length ≤ 1000 → m [objW g, kW b, .lst (xs.map tW), dueW (wk0 g b xs), .bl ls] = .ok false (.bl true) []
theorem agrees_ok {tl wh ir : List W → FR} (ht : ToldOk tl) (hw : WhOk wh) (hi : IsRowOk ir) : AgOk (fun__law_agrees tl wh ir) := by
  intro g b ls xs G hx hl
  have hok : okR 3 = true := by decide
  have e : ∃ s5 s6 s7, forL (gSet [] 5) (agB tl wh ir) (intsW 0 3) [Sl.val (objW g), Sl.val (kW b), Sl.val (.lst (xs.map tW)), Sl.val (dueW (wk0 g b xs)), Sl.val (.bl ls), Sl.no, Sl.no, Sl.no] = .ok .nx [Sl.val (objW g), Sl.val (kW b), Sl.val (.lst (xs.map tW)), Sl.val (dueW (wk0 g b xs)), Sl.val (.bl ls), s5, s6, s7] := by
    refine for_run (Q := fun (w : W) (z : Nat) => w = .int z ∧ z < 3) (P := fun _ ρ => ∃ s5 s6 s7, ρ = [Sl.val (objW g), Sl.val (kW b), Sl.val (.lst (xs.map tW)), Sl.val (dueW (wk0 g b xs)), Sl.val (.bl ls), s5, s6, s7]) (Post := fun r => ∃ s5 s6 s7, r = .ok .nx [Sl.val (objW g), Sl.val (kW b), Sl.val (.lst (xs.map tW)), Sl.val (dueW (wk0 g b xs)), Sl.val (.bl ls), s5, s6, s7]) (fun ρ ⟨s5, s6, s7, e⟩ => ⟨s5, s6, s7, by rw [e]⟩) (fun w z zs ρ ⟨q, hz⟩ ⟨s5, s6, s7, e⟩ => ?_) (all2_rng 3) ⟨_, _, _, rfl⟩
    subst q e
    obtain ⟨t6, t7, h⟩ := ag_step ht hw hi (b := b) (ls := ls) hz G hx hl s6 s7
    exact ⟨_, by simp, .inl ⟨_, .inl h, _, _, _, rfl⟩⟩
  obtain ⟨s5, s6, s7, e⟩ := e
  unfold fun__law_agrees body__law_agrees
  unfold agB at e
  simp at e
  simp -implicitDefEqProofs [ev_var, hok, e]
end K08

namespace K08
open PySem PySem.Spec PyProof.Rows L2 ML
theorem in_low (c : Nat) : decide (c ∈ [97, 98, 99, 100, 101, 102, 103, 104, 105, 106, 107, 108, 109, 110, 111, 112, 113, 114, 115, 116, 117, 118, 119, 120, 121, 122]) = lowC c := by
  rw [Bool.eq_iff_iff]
  simp [lowC]
  omega
theorem in_dig (c : Nat) : decide (c ∈ [48, 49, 50, 51, 52, 53, 54, 55, 56, 57]) = digC c := by
  rw [Bool.eq_iff_iff]
  simp [digC]
  omega
theorem lets_is : w_LETTERS = .str (S [97, 98, 99, 100, 101, 102, 103, 104, 105, 106, 107, 108, 109, 110, 111, 112, 113, 114, 115, 116, 117, 118, 119, 120, 121, 122]) := by unfold w_LETTERS; simp
theorem digs_is : w_DIGITS = .str (S [48, 49, 50, 51, 52, 53, 54, 55, 56, 57]) := by unfold w_DIGITS; simp
@[simp] theorem ev_letters (neg : Bool) (c : Nat) : gIn neg (.str (S [c])) w_LETTERS = some (.val, .bl (if neg then !lowC c else lowC c)) := by
  rw [lets_is, in_SS, in_low]
@[simp] theorem ev_digits (neg : Bool) (c : Nat) : gIn neg (.str (S [c])) w_DIGITS = some (.val, .bl (if neg then !digC c else digC c)) := by
  rw [digs_is, in_SS, in_dig]
theorem bools_map {α : Type} (f : α → Bool) : ∀ l : List α, boolsW (l.map fun c => W.bl (f c)) = some (l.map f)
  | [] => rfl
  | c :: l => by
    rw [List.map_cons, List.map_cons]
    show (boolsW _).map _ = _
    rw [bools_map f l]
    rfl
theorem gall_map {α : Type} (f : α → Bool) (l : List α) : gAll [.lst (l.map fun c => W.bl (f c))] = some (.val, .bl (l.all f)) := by
  show (boolsW _).map _ = _
  rw [bools_map]
  simp [List.all_map]
theorem all2_chars (l : List Nat) : All2 (fun (w : W) (c : Nat) => w = .str (S [c])) (l.map fun c => W.str (S [c])) l := by
  induction l with
  | nil => exact .nil
  | cons c l ih => exact .cons rfl ih
theorem lc_chars {x : A} {f : Nat → Bool} {fe : Rho → ML.R (Md × W)} (hl : x.length ≤ 1000) (h : ∀ c, fe [Sl.val (.str (S x)), Sl.val (.str (S [c]))] = .ok (.val, .bl (f c)) [Sl.val (.str (S x)), Sl.val (.str (S [c]))]) :
    mLc [] (mItems [] (mVar 0)) (.nm 1) mYes fe [Sl.val (.str (S x)), Sl.no] = .ok (.fre, .lst (x.map fun c => .bl (f c))) [Sl.val (.str (S x)), Sl.no] := by
  rw [ev_lc]
  simp -implicitDefEqProofs [ev_var, CT.ix]
  rw [comp2 (g := fun c => W.bl (f c)) (zs := x) (ρ := [Sl.val (.str (S x)), Sl.no]) (fun w z q => by
    subst q
    simp [h]) (all2_chars x) (by rw [line_is]; simp; omega) rfl]
  simp
theorem e_is_name {x : A} (h : IsName x) : fun_is_name [.str (S x)] = .ok false (.bl true) [] := by
  unfold fun_is_name body_is_name
  have h1 := h.pos
  have h2 := h.len
  have h3 := h.nres
  obtain ⟨c, r, hx, hc⟩ := h.hd
  have h4 : x[0]? = some c := by rw [hx]; rfl
  have e := lc_chars (x := x) (f := fun c => lowC c || digC c) (fe := mOrV (mOp (gIn false) (mVar 1) (mC w_LETTERS)) (mOp (gIn false) (mVar 1) (mC w_DIGITS))) (by omega) (fun c => by
    cases hc : lowC c <;> simp -implicitDefEqProofs [ev_var, hc])
  have h5 : x.all (fun c => lowC c || digC c) = true := List.all_eq_true.mpr fun c hc => by
    rcases h.all c hc with h | h <;> simp [h]
  have e1 : gIn false (.str (S x)) w_RESERVED = some (.val, .bl false) := by
    unfold resv at h3
    rw [in_w_RESERVED]; simp only [h3]; rfl
  subst hx
  simp only [List.length_cons] at h2
  have h6 : ¬ ((r.length : Int) + 1) < 1 := by omega
  have h7 : ¬ (8 : Int) < (r.length : Int) + 1 := by omega
  have h8 := gall_map (fun c => lowC c || digC c) (c :: r)
  rw [h5] at h8
  simp [hc] at h8
  simp -implicitDefEqProofs (disch := first | omega | (simp; done) | (simp <;> omega) | fail) [-in_w_RESERVED, ev_var, ev_lenSS, ev_ixSS, e1, h6, h7, hc, e, h8]
/-! ### the signature is made -/
def NamOk (m : List W → FR) : Prop := ∀ {x : A}, IsName x → m [tW x] = .ok false (.bl true) []
theorem is_name_ok : NamOk fun_is_name := fun h => e_is_name h
theorem nm_code {x : A} (h : IsName x) : PyData.strOk (S x) = true := code_ok fun c hc => by
  rcases h.all c hc with h | h
  · simp [lowC] at h; omega
  · simp [digC] at h; omega
theorem kd_code (b : Bool) : PyData.strOk (S (kd b)) = true := by cases b <;> exact code_ok (by simp [kd])
theorem lsd_s {d : Nat} {l : List Nat} (h : PyData.strOk (S l) = true) : Lsd (d + 1) (.str (S l)) (.str (S l)) := .inr (.inl ⟨_, rfl, rfl, h⟩)
theorem lsd_t {d : Nat} {ws : List W} (hl : ws.length ≤ 1000) (h : All2 (Lsd d) ws ws) : Lsd (d + 1) (.tup ws) (.tup ws) := .inr (.inr ⟨ws, ws, .inl rfl, rfl, hl, h⟩)
theorem lsd_cs {g : Sg} (G : SgOk g) : Lsd 2 (cW g) (cW g) := lsd_t (by rw [List.length_map]; have := G.cl; omega) (All2.same fun w hw => by
  obtain ⟨c, hc, rfl⟩ := List.mem_map.mp hw
  exact lsd_s (nm_code (G.cn c hc)))
theorem lsd_ps {g : Sg} (G : SgOk g) : Lsd 4 (pW g) (pW g) := lsd_t (by rw [List.length_map]; have := G.pl; omega) (All2.same fun w hw => by
  obtain ⟨t, ht, rfl⟩ := List.mem_map.mp hw
  obtain ⟨h1, h2⟩ := G.pn t ht
  refine lsd_t (by simp) (.cons (lsd_s (nm_code h1)) (.cons (lsd_t (by simp; omega) (All2.same fun w hw => ?_)) (.cons (lsd_s (kd_code _)) .nil)))
  obtain ⟨b, _, rfl⟩ := List.mem_map.mp hw
  exact lsd_s (kd_code b))
def FrS (m : List W → FR) : Prop := ∀ {g : Sg}, SgOk g → m [pW g] = .ok false (pW g) [] ∧ m [cW g] = .ok false (cW g) []
theorem fr_sig : FrS (frF 4) := fun G => ⟨frozen_ok 4 (lsd_ps G), frozen_ok 4 (Lsd.up (lsd_cs G) (by omega))⟩
/-- all names differ -/
def SgNd (g : Sg) : Prop := (g.ps.map (·.1) ++ g.cs).Nodup
theorem kind_in (b : Bool) : gIn false (kW b) w_KINDS = some (.val, .bl true) := by cases b <;> simp [w_KINDS]
theorem kinds_lc {l : List Bool} (hl : l.length ≤ 10) {it : Rho → ML.R (List W)} {i : Nat} {ρ : Rho} (hit : it ρ = .ok (l.map kW) ρ) (hi : i < ρ.length) (hr : ρ.set i .no = ρ) : mLc [] it (.nm i) mYes (mOp (gIn false) (mVar i) (mC w_KINDS)) ρ = .ok (.fre, .lst (l.map fun _ => .bl true)) ρ :=
  lc_gen (I := []) (it := it) (i := i) (fe := mOp (gIn false) (mVar i) (mC w_KINDS)) (g := fun _ : Bool => W.bl true) (Q := fun w b => w = kW b) (ρ := ρ) hit (by simp) (fun w b q => by
    subst q
    have hg : (ρ.set i (.val (kW b)))[i]? = some (.val (kW b)) := by rw [List.getElem?_set_self hi]
    have hk := kind_in b
    generalize kW b = KW at *
    simp -implicitDefEqProofs [ev_var, hg, hk]) (all2_map l) (by rw [List.length_map, line_is]; omega) hr
def CpOk (m : List W → FR) : Prop := ∀ {g : Sg}, SgOk g → SgNd g → m [pW g] = .ok false .non []
theorem check_ps {nm : List W → FR} (hN : NamOk nm) : CpOk (fun_check_procedures nm) := by
  intro g G D
  have e : ∃ s2 s3 s4, forL (gTup [gSet [] 2, gSet [] 3, gSet [] 4]) (mSeq (mIf (mNot (mTest (mCall [] [] nm [mVar 2]))) (mStk) (mNext)) (mSeq (mIf (mTest (mOp (gIn false) (mVar 2) (mVar 1))) (mStk) (mNext)) (mSeq (mIf (mOr (mTest (mOp (gCmp (fun i j => decide (j < i))) (mCB gLen [mVar 3]) (mC (.int 3)))) (mNot (mTest (mCB gAll [mLc [] (mItems [] (mOp gAdd (mVar 3) (mTup [] [mVar 4]))) (.nm 5) (mYes) (mOp (gIn false) (mVar 5) (mC w_KINDS))])))) (mStk) (mNext)) (mDrop (mAppend 1 [] (mVar 2)))))) (g.ps.map trW) [Sl.val (pW g), Sl.own (.lst []), Sl.no, Sl.no, Sl.no, Sl.no] = .ok .nx [Sl.val (pW g), Sl.own (.lst ((g.ps.map (·.1)).map tW)), s2, s3, s4, Sl.no] := by
    refine for_run (Q := fun w t => w = trW t) (P := fun zs ρ => ∃ done s2 s3 s4, ρ = [Sl.val (pW g), Sl.own (.lst ((done.map (·.1)).map tW)), s2, s3, s4, Sl.no] ∧ done ++ zs = g.ps) (Post := fun r => ∃ s2 s3 s4, r = .ok .nx [Sl.val (pW g), Sl.own (.lst ((g.ps.map (·.1)).map tW)), s2, s3, s4, Sl.no]) (fun ρ ⟨d, s2, s3, s4, e, h⟩ => ⟨s2, s3, s4, by rw [e, ← h, List.append_nil]⟩) (fun w t zs ρ q ⟨d, s2, s3, s4, e, h⟩ => ?_) (all2_map g.ps) ⟨[], _, _, _, rfl, rfl⟩
    subst q e
    have ht : t ∈ g.ps := by rw [← h]; simp
    obtain ⟨h1, h2⟩ := G.pn t ht
    have e1 := hN h1
    have hnd : t.1 ∉ d.map (·.1) := by
      have D' := D
      unfold SgNd at D'
      rw [← h, List.map_append, List.map_cons, List.append_assoc, List.cons_append] at D'
      have := List.nodup_append.mp D'
      intro hm
      exact this.2.2 _ hm _ (List.mem_cons_self ..) rfl
    have e2 := in_ST false t.1 (d.map (·.1)) (.lst ((d.map (·.1)).map tW)) rfl (fun z h => by cases h)
    rw [decide_eq_false hnd] at e2
    have hd : d.length ≤ 6 := by have := G.pl; rw [← h, List.length_append] at this; omega
    have e3 := kinds_lc (l := t.2.1 ++ [t.2.2]) (it := mItems [] (mOp gAdd (mVar 3) (mTup [] [mVar 4]))) (i := 5) (ρ := [Sl.val (pW g), Sl.own (.lst ((d.map (·.1)).map tW)), Sl.val (tW t.1), Sl.val (.tup (t.2.1.map kW)), Sl.val (kW t.2.2), Sl.no]) (by simp; omega) (by
      have hL : t.2.1.length + 1 ≤ sizeLine := by rw [line_is]; omega
      simp -implicitDefEqProofs [ev_var, ev_items, hL]) (by simp) rfl
    have e4 := gall_map (fun _ : Bool => true) (t.2.1 ++ [t.2.2])
    have e5 : (t.2.1 ++ [t.2.2]).all (fun _ => true) = true := by simp
    rw [e5] at e4
    have h3 : ¬ (3 : Int) < (t.2.1.length : Int) := by omega
    have hds : d.length < sizeLine := by rw [line_is]; omega
    refine ⟨[Sl.val (pW g), Sl.own (.lst ((d.map (·.1)).map tW)), Sl.val (tW t.1), Sl.val (.tup (t.2.1.map kW)), Sl.val (kW t.2.2), Sl.no], by unfold trW; simp, .inl ⟨[Sl.val (pW g), Sl.own (.lst (((d ++ [t]).map (·.1)).map tW)), Sl.val (tW t.1), Sl.val (.tup (t.2.1.map kW)), Sl.val (kW t.2.2), Sl.no], .inl ?_, d ++ [t], _, _, _, rfl, by rw [List.append_assoc]; exact h⟩⟩
    have hlen : (((d.map (·.1)).map tW)).length = d.length := by simp
    rw [List.map_append, List.map_append]
    generalize (d.map (·.1)).map tW = DW at *
    simp at e2 e3 e4
    simp -implicitDefEqProofs [ev_var, ev_own, e1, e2, e3, e4, h3, hlen, hds]
  obtain ⟨s2, s3, s4, e⟩ := e
  unfold pW at e ⊢
  unfold fun_check_procedures body_check_procedures
  try simp at e
  simp -implicitDefEqProofs [ev_var, ev_own, e]
def CcsOk (m : List W → FR) : Prop := ∀ {g : Sg}, SgOk g → SgNd g → m [.tup ((g.ps.map (·.1)).map tW), cW g] = .ok false .non []
theorem check_cs {nm : List W → FR} (hN : NamOk nm) : CcsOk (fun_check_cells nm) := by
  intro g G D
  have e : ∃ s3 kn, forL (gSet [] 3) (mSeq (mIf (mNot (mTest (mCall [] [] nm [mVar 3]))) (mStk) (mNext)) (mSeq (mIf (mTest (mOp (gIn false) (mVar 3) (mVar 2))) (mStk) (mNext)) (mDrop (mAppend 2 [] (mVar 3))))) (g.cs.map tW) [Sl.val (.tup ((g.ps.map (·.1)).map tW)), Sl.val (cW g), Sl.own (.lst ((g.ps.map (·.1)).map tW)), Sl.no] = .ok .nx [Sl.val (.tup ((g.ps.map (·.1)).map tW)), Sl.val (cW g), Sl.own kn, s3] := by
    refine for_run (Q := fun w c => w = tW c ∧ c ∈ g.cs) (P := fun zs ρ => ∃ done s3, ρ = [Sl.val (.tup ((g.ps.map (·.1)).map tW)), Sl.val (cW g), Sl.own (.lst ((g.ps.map (·.1) ++ done).map tW)), s3] ∧ done ++ zs = g.cs) (Post := fun r => ∃ s3 kn, r = .ok .nx [Sl.val (.tup ((g.ps.map (·.1)).map tW)), Sl.val (cW g), Sl.own kn, s3]) (fun ρ ⟨d, s3, e, h⟩ => ⟨s3, .lst ((g.ps.map (·.1) ++ d).map tW), by rw [e]⟩) (fun w c zs ρ ⟨q, hc⟩ ⟨d, s3, e, h⟩ => ?_) (all2_mem g.cs) ⟨[], _, by rw [List.append_nil], rfl⟩
    subst q e
    have e1 := hN (G.cn c hc)
    have hnd : c ∉ g.ps.map (·.1) ++ d := by
      have D' := D
      unfold SgNd at D'
      rw [← h, ← List.append_assoc] at D'
      have := List.nodup_append.mp D'
      intro hm
      exact this.2.2 _ hm _ (List.mem_cons_self ..) rfl
    have e2 := in_ST false c (g.ps.map (·.1) ++ d) (.lst ((g.ps.map (·.1) ++ d).map tW)) rfl (fun z h => by cases h)
    rw [decide_eq_false hnd] at e2
    have hds : (g.ps.map (·.1) ++ d).length < sizeLine := by
      have := G.pl
      have := G.cl
      have h4 : d.length ≤ g.cs.length := by rw [← h, List.length_append]; omega
      rw [List.length_append, List.length_map, line_is]
      omega
    refine ⟨[Sl.val (.tup ((g.ps.map (·.1)).map tW)), Sl.val (cW g), Sl.own (.lst ((g.ps.map (·.1) ++ d).map tW)), Sl.val (tW c)], by simp, .inl ⟨[Sl.val (.tup ((g.ps.map (·.1)).map tW)), Sl.val (cW g), Sl.own (.lst ((g.ps.map (·.1) ++ (d ++ [c])).map tW)), Sl.val (tW c)], .inl ?_, d ++ [c], _, rfl, by rw [List.append_assoc]; exact h⟩⟩
    have hlen : ((g.ps.map (·.1) ++ d).map tW).length = (g.ps.map (·.1) ++ d).length := by rw [List.length_map]
    rw [← List.append_assoc, List.map_append (l₂ := [c])]
    generalize (g.ps.map (·.1) ++ d).map tW = DW at *
    generalize (g.ps.map (·.1) ++ d).length = dl at *
    generalize (g.ps.map (·.1)).map tW = NW at *
    simp at e2
    simp -implicitDefEqProofs [ev_var, ev_own, e1, e2, hlen, hds]
  obtain ⟨s3, kn, e⟩ := e
  unfold cW at e ⊢
  unfold fun_check_cells body_check_cells
  generalize (g.ps.map (·.1)).map tW = NW at *
  try simp at e
  simp -implicitDefEqProofs [ev_var, ev_own, e]
section
variable {ρ : Rho} {a p c n : W}
theorem pn1 : putN "size" [] = (["size"] : List Str) := rfl
theorem pn2 : putN "procedures" ["size"] = (["size", "procedures"] : List Str) := rfl
theorem pn3 : putN "cells" ["size", "procedures"] = (["size", "procedures", "cells"] : List Str) := rfl
theorem pn4 : putN "names" ["size", "procedures", "cells"] = (["size", "procedures", "cells", "names"] : List Str) := rfl
theorem pl1 : putL "size" a [] [] = [a] := rfl
theorem pl2 : putL "procedures" p ["size"] [a] = [a, p] := rfl
theorem pl3 : putL "cells" c ["size", "procedures"] [a, p] = [a, p, c] := rfl
theorem pl4 : putL "names" n ["size", "procedures", "cells"] [a, p, c] = [a, p, c, n] := rfl
theorem fo_ps : mFld oc_procedures "procedures" (mVar 0) (Sl.own (.obj "Signature" ["size", "procedures", "cells"] [a, p, c]) :: ρ) = .ok (.val, p) (Sl.own (.obj "Signature" ["size", "procedures", "cells"] [a, p, c]) :: ρ) := rfl
theorem fo_cs : mFld oc_cells "cells" (mVar 0) (Sl.own (.obj "Signature" ["size", "procedures", "cells"] [a, p, c]) :: ρ) = .ok (.val, c) (Sl.own (.obj "Signature" ["size", "procedures", "cells"] [a, p, c]) :: ρ) := rfl
end
def InitOk (m : List W → FR) : Prop := ∀ {g : Sg}, SgOk g → SgNd g → m [.obj "Signature" [] [], .int (g.z : Int), pW g, cW g] = .ok false .non [objW g]
theorem init_sig {fr cp cc : List W → FR} (hf : FrS fr) (h1 : CpOk cp) (h2 : CcsOk cc) : InitOk (fun_Signature___init__ fr cp cc) := by
  intro g G D
  obtain ⟨f1, f2⟩ := hf G
  have e1 := h1 G D
  have e2 := h2 G D
  have z1 := G.z1
  have z2 := G.z2
  have a1 : ¬ (g.z : Int) < 2 := by omega
  have a2 : ¬ (4 : Int) < (g.z : Int) := by omega
  have e3 := lc_gen (I := [0]) (it := mItems [0] (mFld oc_procedures "procedures" (mVar 0))) (i := 5) (fe := mOp gIx (mVar 5) (mC (.int 0))) (g := fun t : Tr => tW t.1) (Q := fun w t => w = trW t) (ws := g.ps.map trW) (zs := g.ps) (ρ := [Sl.own (.obj "Signature" ["size", "procedures", "cells"] [.int (g.z : Int), pW g, cW g]), Sl.val (.int (g.z : Int)), Sl.val (pW g), Sl.val (cW g), Sl.no, Sl.no]) (by
      rw [ev_items, fo_ps]
      simp [pW]) (by simp) (fun w t q => by
      subst q
      unfold trW
      simp -implicitDefEqProofs [ev_var]) (all2_map g.ps) (by rw [List.length_map, line_is]; have := G.pl; omega) rfl
  have hL : g.ps.length + g.cs.length ≤ sizeLine := by
    have := G.pl
    have := G.cl
    rw [line_is]
    omega
  have e4 : g.ps.map (fun t : Tr => tW t.1) = (g.ps.map (·.1)).map tW := by rw [List.map_map]; rfl
  rw [e4] at e3
  have hm : ("Signature" : Str) ∈ oc_size ∧ ("Signature" : Str) ∈ oc_procedures ∧ ("Signature" : Str) ∈ oc_cells ∧ ("Signature" : Str) ∈ oc_names := by decide
  obtain ⟨m1, m2, m3, m4⟩ := hm
  unfold objW nmW
  have hn : (((g.ps.map (·.1)) ++ g.cs).map tW) = (g.ps.map (·.1)).map tW ++ g.cs.map tW := List.map_append
  have hl1 : ((g.ps.map (·.1)).map tW).length = g.ps.length := by simp
  have hl2 : (g.cs.map tW).length = g.cs.length := by simp
  have ec : cW g = .tup (g.cs.map tW) := rfl
  rw [hn]
  generalize (g.ps.map (·.1)).map tW = NW at *
  generalize hCW : cW g = CW at *
  generalize pW g = PW at *
  generalize g.cs.map tW = CL at *
  subst ec
  generalize g.ps.length = n1 at *
  generalize g.cs.length = n2 at *
  unfold fun_Signature___init__ body_Signature___init__
  simp -implicitDefEqProofs [ev_var, ev_own, gIsi, tyN, isB, a1, a2, m1, m2, m3, m4, pn1, pn2, pn3, pn4, pl1, pl2, pl3, pl4, f1, f2, fo_ps, fo_cs, e1, e2, e3, hl1, hl2, hL]
end K08

namespace K08
open PySem PySem.Spec PyProof.Rows L2 ML
theorem ev_slS0 {l : List Nat} {b : Nat} (hl : l.length ≤ 16777216) : gSl (.str (S l)) none (some (b : Int)) = some (.val, .str (S (l.take b))) := by
  have e : gSl (.str (S l)) none (some (b : Int)) = if (S l).length ≤ sizeLine then some (.val, .str (cutS (S l) none (some (b : Int)))) else none := rfl
  rw [e, S_len, line_is, if_pos hl]
  unfold cutS
  rw [HT.sIx_none, HT.sIx_nat, S_len, S_cps, Nat.sub_zero, List.drop_zero]
  have e2 : l.take (min b l.length) = l.take b := by
    by_cases h : b ≤ l.length
    · rw [Nat.min_eq_left h]
    · rw [Nat.min_eq_right (by omega), List.take_of_length_le (Nat.le_refl _), List.take_of_length_le (by omega)]
  rw [e2]
  rfl
/-! ### a drawn name -/
structure Pre (x : A) : Prop where
  pos : 1 ≤ x.length
  len : x.length ≤ 8
  hd : ∃ c r, x = c :: r ∧ lowC c = true
  all : ∀ c ∈ x, lowC c = true ∨ digC c = true
theorem Pre.name {x : A} (h : Pre x) (hr : x ∉ resv) : IsName x := ⟨h.pos, h.len, hr, h.hd, h.all⟩
theorem IsName.pre {x : A} (h : IsName x) : Pre x := ⟨h.pos, h.len, h.hd, h.all⟩
theorem Pre.cut {x : A} {n c : Nat} (h : Pre x) (h1 : 1 ≤ n) (h2 : n ≤ 7) (hc : lowC c = true ∨ digC c = true) : Pre (x.take n ++ [c]) := by
  obtain ⟨d, r, e, hd⟩ := h.hd
  refine ⟨by simp, by simp; omega, ?_, fun y hy => ?_⟩
  · subst e
    cases n with
    | zero => omega
    | succ n => exact ⟨d, r.take n ++ [c], rfl, hd⟩
  · rcases List.mem_append.mp hy with hy | hy
    · exact h.all y (List.mem_of_mem_take hy)
    · rw [List.mem_singleton.mp hy]; exact hc
theorem Pre.ext {x : A} {c : Nat} (h : Pre x) (hl : x.length < 8) (hc : lowC c = true ∨ digC c = true) : Pre (x ++ [c]) := by
  obtain ⟨d, r, e, hd⟩ := h.hd
  refine ⟨by simp, by simp; omega, ⟨d, r ++ [c], by rw [e]; rfl, hd⟩, fun y hy => ?_⟩
  rcases List.mem_append.mp hy with hy | hy
  · exact h.all y hy
  · rw [List.mem_singleton.mp hy]; exact hc
def dgs : A := [48, 49, 50, 51, 52, 53, 54, 55, 56, 57, 97, 98, 99, 100, 101, 102, 103, 104, 105, 106]
def stp (x : A) (k : Nat) : A := x.take (if x.length < 8 then 6 else 7) ++ [dgs.getD k 0]
def nsq (x : A) : Nat → A
  | 0 => x
  | k + 1 => stp (nsq x k) k
theorem dgs_ok : ∀ k, k < 20 → lowC (dgs.getD k 0) = true ∨ digC (dgs.getD k 0) = true := by decide
theorem stp_pre {x : A} {k : Nat} (h : Pre x) (hk : k < 20) : Pre (stp x k) := by
  unfold stp
  split
  · exact h.cut (by omega) (by omega) (dgs_ok k hk)
  · exact h.cut (by omega) (by omega) (dgs_ok k hk)
theorem pigeon {α : Type} [BEq α] [LawfulBEq α] : ∀ {l m : List α}, l.Nodup → (∀ x ∈ l, x ∈ m) → l.length ≤ m.length
  | [], _, _, _ => by simp
  | x :: l, m, hn, hs => by
    have hx := hs x (List.mem_cons_self ..)
    obtain ⟨h1, h2⟩ := List.nodup_cons.mp hn
    have := pigeon (m := m.erase x) h2 fun y hy => (List.mem_erase_of_ne (fun e => h1 (by rw [← e]; exact hy))).mpr (hs y (List.mem_cons_of_mem _ hy))
    have hl := List.length_erase_of_mem hx
    have hp : 0 < m.length := List.length_pos_of_mem hx
    rw [List.length_cons]
    omega
theorem resv_last : ∀ w ∈ resv, w.getLastD 0 ∉ [48, 49, 50, 51, 52, 53, 54, 55, 56, 57] := by decide
theorem not_all_bad {x : A} {us : List A} (hu : us.length ≤ 9) (h : ∀ k, k < 20 → nsq x k ∈ us ∨ nsq x k ∈ resv) : False := by
  have key : ∀ c ∈ [48, 49, 50, 51, 52, 53, 54, 55, 56, 57], c ∈ us.map (·.getLastD 0) := by
    have hk : ∀ k, k < 10 → dgs.getD k 0 ∈ us.map (·.getLastD 0) := fun k hk => by
      have e : (nsq x (k + 1)).getLastD 0 = dgs.getD k 0 := by
        show (stp (nsq x k) k).getLastD 0 = _
        unfold stp
        rw [List.getLastD_concat]
      have hd : dgs.getD k 0 ∈ [48, 49, 50, 51, 52, 53, 54, 55, 56, 57] := (show ∀ k, k < 10 → dgs.getD k 0 ∈ [48, 49, 50, 51, 52, 53, 54, 55, 56, 57] by decide) k hk
      rcases h (k + 1) (by omega) with h | h
      · exact List.mem_map.mpr ⟨_, h, e⟩
      · exact absurd (by rw [e]; exact hd) (resv_last _ h)
    intro c hc
    have : ∃ k, k < 10 ∧ dgs.getD k 0 = c := (show ∀ c ∈ [48, 49, 50, 51, 52, 53, 54, 55, 56, 57], ∃ k, k < 10 ∧ dgs.getD k 0 = c by decide) c hc
    obtain ⟨k, h1, h2⟩ := this
    rw [← h2]
    exact hk k h1
  have := pigeon (l := [48, 49, 50, 51, 52, 53, 54, 55, 56, 57]) (by decide) key
  rw [List.length_map] at this
  simp at this
  omega
def wds : List A := [[114, 117, 110], [99, 97, 108, 108], [97, 115, 107], [98, 97, 99, 107], [116, 111, 108, 100], [103, 101, 116], [115, 101, 116], [105, 115], [107, 101, 112, 116], [112], [112, 48], [99, 48]]
theorem wds_pre : ∀ w ∈ wds, Pre w := by
  have h : ∀ w ∈ wds, (1 ≤ w.length ∧ w.length ≤ 8 ∧ lowC (w.headD 0) = true ∧ w ≠ []) ∧ ∀ c ∈ w, lowC c = true ∨ digC c = true := by decide
  intro w hw
  obtain ⟨⟨h1, h2, h3, h4⟩, h5⟩ := h w hw
  refine ⟨h1, h2, ?_, h5⟩
  cases w with
  | nil => exact absurd rfl h4
  | cons c r => exact ⟨c, r, rfl, h3⟩
def lets : A := [97, 98, 99, 100, 101, 102, 103, 104, 105, 106, 107, 108, 109, 110, 111, 112, 113, 114, 115, 116, 117, 118, 119, 120, 121, 122]
def alph : A := [97, 98, 99, 100, 101, 102, 103, 104, 105, 106, 107, 108, 109, 110, 111, 112, 113, 114, 115, 116, 117, 118, 119, 120, 121, 122, 48, 49, 50, 51, 52, 53, 54, 55, 56, 57]
theorem at_get {l : A} {P : Nat → Prop} {n : Nat} {v : Nat} (hn : l.length = n) (hv : v < n) (h : ∀ c ∈ l, P c) : ∃ c, atI l (v : Int) = some c ∧ P c := by
  have hl : v < l.length := by omega
  exact ⟨l[v], by rw [ML.atI_nat, List.getElem?_eq_getElem hl], h _ (List.getElem_mem hl)⟩
theorem at_txt {l : List A} {v : Nat} (hv : v < l.length) : ∃ x ∈ l, atI (l.map tW) (v : Int) = some (tW x) := ⟨l[v], List.getElem_mem hv, by rw [ML.atI_nat, List.getElem?_map, List.getElem?_eq_getElem hv]; rfl⟩
theorem bar_split : Txt.split (S [115, 107, 105, 112, 32, 113, 117, 105, 116, 32, 105, 102, 32, 116, 104, 101, 110, 32, 101, 108, 115, 101, 32, 102, 105, 32, 119, 104, 105, 108, 101, 32, 100, 111, 32, 111, 100, 32, 110, 101, 119, 32, 105, 110, 32, 101, 110, 100, 32, 108, 101, 116, 32, 98, 101, 32, 99, 111, 109, 109, 97, 110, 100, 32, 110, 117, 109, 98, 101, 114]) (S [32]) = resv.map S := split_of (ws := resv) (by decide) (by decide)
end K08

namespace K08
open PySem PySem.Spec PyProof.Rows L2 ML
def frN (r us w3 w4 : W) (nm : A) (s6 : Sl) : Rho := [Sl.own r, Sl.own us, Sl.val (tW lets), Sl.own w3, Sl.own w4, Sl.val (tW nm), s6]
def nmB1 (nx : List W → FR) : Rho → ML.R Fl := mSet [0, 1] 5 (mOp gAdd (mVar 5) (mOp gIx (mOp gAdd (mVar 2) (mC (.str "0123456789"))) (mCall [0, 1] [0] nx [mVar 0, mC (.int 36)])))
def nmB2 : Rho → ML.R Fl := mSeq (mIf (mAnd (mTest (mOp (gIn true) (mVar 5) (mVar 1))) (mTest (mOp (gIn true) (mVar 5) (mVar 3)))) (mBreak) (mNext)) (mSet [0, 1] 5 (mOp gAdd (mSl (mVar 5) none (some (mOp gSub (mC (.int 7)) (mCB gInt [mOp (gCmp (fun i j => decide (i < j))) (mCB gLen [mVar 5]) (mC (.int 8))])))) (mOp gIx (mC (.str "0123456789abcdefghij")) (mVar 6))))
def nmC1 (nx : List W → FR) : Rho → ML.R Fl := mIf (mTest (mOp gEq (mCall [0, 1] [0] nx [mVar 0, mC (.int 4)]) (mC (.int 0)))) (mSet [0, 1] 5 (mOp gIx (mVar 4) (mCall [0, 1] [0] nx [mVar 0, mC (.int 12)]))) (mNext)
def nmC2 (nx : List W → FR) : Rho → ML.R Fl := mIf (mAnd (mTest (mOp (gCmp (fun i j => decide (j < i))) (mCB gLen [mVar 1]) (mC (.int 0)))) (mTest (mOp gEq (mCall [0, 1] [0] nx [mVar 0, mC (.int 4)]) (mC (.int 0))))) (mSet [0, 1] 5 (mOp gAdd (mSl (mOp gIx (mVar 1) (mOp gSub (mCB gLen [mVar 1]) (mC (.int 1)))) none (some (mC (.int 7)))) (mOp gIx (mC (.str "01ab")) (mCall [0, 1] [0] nx [mVar 0, mC (.int 4)])))) (mNext)
@[simp] theorem ev_break (ρ : Rho) : mBreak ρ = .ok .bk ρ := rfl
section
variable {nx : List W → FR} {us : List A} {w3 w4 : W}
theorem nm_loop1 (hx : NextOk nx) {r : W} (hr : IsR r) {c0 v : Nat} (hc : lowC c0 = true) (hv : v < 8) : ∃ r' nm s6, forL (gSet [0, 1] 6) (nmB1 nx) (intsW 0 v) (frN r (.lst (us.map tW)) w3 w4 [c0] Sl.no) = .ok .nx (frN r' (.lst (us.map tW)) w3 w4 nm s6) ∧ IsR r' ∧ Pre nm := by
  refine for_run (Q := fun (w : W) (z : Nat) => w = .int z ∧ z < v) (P := fun zs ρ => ∃ r nm s6, ρ = frN r (.lst (us.map tW)) w3 w4 nm s6 ∧ IsR r ∧ Pre nm ∧ nm.length + zs.length = v + 1) (Post := fun o => ∃ r' nm s6, o = .ok .nx (frN r' (.lst (us.map tW)) w3 w4 nm s6) ∧ IsR r' ∧ Pre nm) (fun ρ ⟨r, nm, s6, e, h1, h2, _⟩ => ⟨r, nm, s6, by rw [e], h1, h2⟩) (fun w z zs ρ ⟨q, hz⟩ ⟨r, nm, s6, e, h1, h2, h3⟩ => ?_) (all2_rng v) ⟨r, [c0], _, rfl, hr, ⟨by simp, by simp, ⟨c0, [], rfl, hc⟩, by simp [hc]⟩, by simp; omega⟩
  subst q e
  obtain ⟨u, r2, g1, g2, g3⟩ := hx h1 (m := 36) (by omega)
  obtain ⟨c, g4, g5⟩ := at_get (l := alph) (n := 36) (P := fun c => lowC c = true ∨ digC c = true) rfl (v := u) (by omega) (by decide)
  have g9 := ev_ixSS (a := alph) (i := (u : Int)) (by decide)
  rw [g4] at g9
  have hlen : nm.length < 8 := by simp at h3; omega
  refine ⟨frN r (.lst (us.map tW)) w3 w4 nm (Sl.val (.int (z : Int))), by simp [frN], .inl ⟨frN r2 (.lst (us.map tW)) w3 w4 (nm ++ [c]) (Sl.val (.int (z : Int))), .inl ?_, r2, nm ++ [c], _, rfl, g3, h2.ext hlen g5, by simp at h3 ⊢; omega⟩⟩
  unfold frN nmB1 lets
  unfold alph at g9
  simp -implicitDefEqProofs (disch := first | omega | (simp; done) | (simp <;> omega) | fail) [ev_var, ev_own, g1, g9, ev_addSS]
theorem nm_c1 (hx : NextOk nx) {r : W} (hr : IsR r) {nm : A} (hp : Pre nm) {us : W} {s6 : Sl} : ∃ r' nm', nmC1 nx (frN r us w3 (.lst (wds.map tW)) nm s6) = .ok .nx (frN r' us w3 (.lst (wds.map tW)) nm' s6) ∧ IsR r' ∧ Pre nm' := by
  obtain ⟨u, r2, g1, g2, g3⟩ := hx hr (m := 4) (by omega)
  by_cases c : u = 0
  · subst c
    obtain ⟨v, r3, f1, f2, f3⟩ := hx g3 (m := 12) (by omega)
    obtain ⟨x, hx1, hx2⟩ := at_txt (l := wds) (v := v) (by have : wds.length = 12 := rfl; omega)
    refine ⟨r3, x, ?_, f3, wds_pre x hx1⟩
    unfold frN nmC1
    generalize wds.map tW = WD at *
    simp at g1
    simp -implicitDefEqProofs [ev_var, ev_own, g1, f1, hx2]
  · refine ⟨r2, nm, ?_, g3, hp⟩
    have c' : ¬ (u : Int) = 0 := by omega
    unfold frN nmC1
    generalize wds.map tW = WD at *
    simp -implicitDefEqProofs [ev_var, ev_own, g1, c]
theorem nm_c2 (hx : NextOk nx) {r : W} (hr : IsR r) {nm : A} (hp : Pre nm) (hu : ∀ x ∈ us, IsName x) {s6 : Sl} : ∃ r' nm', nmC2 nx (frN r (.lst (us.map tW)) w3 w4 nm s6) = .ok .nx (frN r' (.lst (us.map tW)) w3 w4 nm' s6) ∧ IsR r' ∧ Pre nm' := by
  have hlm : (us.map tW).length = us.length := by simp
  by_cases c0 : us.length = 0
  · refine ⟨r, nm, ?_, hr, hp⟩
    have c1 : ¬ (0 : Int) < (us.length : Int) := by omega
    have c2 : ¬ 0 < us.length := by omega
    unfold frN nmC2
    generalize us.map tW = US at *
    generalize us.length = n at *
    simp -implicitDefEqProofs [ev_var, ev_own, hlm, c2]
  · obtain ⟨u, r2, g1, g2, g3⟩ := hx hr (m := 4) (by omega)
    have c1 : 0 < us.length := by omega
    by_cases c : u = 0
    · subst c
      obtain ⟨v, r3, f1, f2, f3⟩ := hx g3 (m := 4) (by omega)
      obtain ⟨d, g4, g5⟩ := at_get (l := [48, 49, 97, 98]) (n := 4) (P := fun c => lowC c = true ∨ digC c = true) rfl (v := v) (by omega) (by decide)
      have g9 := ev_ixSS (a := [48, 49, 97, 98]) (i := (v : Int)) (by decide)
      rw [g4] at g9
      obtain ⟨x, hx1, hx2⟩ := at_txt (l := us) (v := us.length - 1) (by omega)
      have hi : ((us.length - 1 : Nat) : Int) = (us.length : Int) - 1 := by omega
      rw [hi] at hx2
      have hn := (hu x hx1).len
      have hs : gSl (.str (S x)) none (some (7 : Int)) = some (.val, .str (S (x.take 7))) := ev_slS0 (l := x) (b := 7) (by omega)
      have ha := ev_addSS (a := x.take 7) (b := [d]) (by simp; omega)
      refine ⟨r3, x.take 7 ++ [d], ?_, f3, (hu x hx1).pre.cut (by omega) (by omega) g5⟩
      unfold frN nmC2
      generalize us.map tW = US at *
      generalize us.length = n at *
      simp at g1 g9
      simp -implicitDefEqProofs [ev_var, ev_own, hlm, c1, g1, f1, hx2, hs, g9, ha]
    · refine ⟨r2, nm, ?_, g3, hp⟩
      unfold frN nmC2
      generalize us.map tW = US at *
      generalize us.length = n at *
      simp -implicitDefEqProofs [ev_var, ev_own, hlm, c1, g1, c]
theorem nm_loop2 {r : W} {x0 : A} (hp : Pre x0) (hu : us.length ≤ 9) (s6 : Sl) : ∃ nm t6, forL (gSet [0, 1] 6) nmB2 (intsW 0 20) (frN r (.lst (us.map tW)) (.lst (resv.map tW)) w4 x0 s6) = .ok .nx (frN r (.lst (us.map tW)) (.lst (resv.map tW)) w4 nm t6) ∧ Pre nm ∧ nm ∉ us ∧ nm ∉ resv := by
  refine for_run (Q := fun (w : W) (z : Nat) => w = .int z ∧ z < 20) (P := fun zs ρ => ∃ i s6, ρ = frN r (.lst (us.map tW)) (.lst (resv.map tW)) w4 (nsq x0 i) s6 ∧ zs = List.range' i (20 - i) ∧ i ≤ 20 ∧ Pre (nsq x0 i) ∧ ∀ j, j < i → nsq x0 j ∈ us ∨ nsq x0 j ∈ resv) (Post := fun o => ∃ nm t6, o = .ok .nx (frN r (.lst (us.map tW)) (.lst (resv.map tW)) w4 nm t6) ∧ Pre nm ∧ nm ∉ us ∧ nm ∉ resv) (fun ρ ⟨i, s6, e, h1, h2, h3, h4⟩ => ?_) (fun w z zs ρ ⟨q, hz⟩ ⟨i, s6, e, h1, h2, h3, h4⟩ => ?_) (all2_rng 20) ⟨0, _, rfl, rfl, by omega, hp, fun j h => by omega⟩
  · have : i = 20 := by
      have := congrArg List.length h1
      simp at this
      omega
    subst this
    exact (not_all_bad hu h4).elim
  · subst q e
    have hlt : i < 20 := by
      rcases Nat.lt_or_ge i 20 with h | h
      · exact h
      · rw [Nat.sub_eq_zero_of_le h] at h1; cases h1
    rw [show 20 - i = (20 - (i + 1)) + 1 by omega, List.range'_succ] at h1
    obtain ⟨hz1, hz2⟩ := List.cons.inj h1
    subst hz1
    obtain ⟨x, hxe⟩ : ∃ x, x = nsq x0 z := ⟨_, rfl⟩
    have i1 := in_ST true x us (.lst (us.map tW)) rfl (fun z h => by cases h)
    have i2 := in_ST true x resv (.lst (resv.map tW)) rfl (fun z h => by cases h)
    refine ⟨frN r (.lst (us.map tW)) (.lst (resv.map tW)) w4 (nsq x0 z) (Sl.val (.int (z : Int))), by simp [frN], ?_⟩
    have hstep : x ∈ us ∨ x ∈ resv → nmB2 (frN r (.lst (us.map tW)) (.lst (resv.map tW)) w4 x (Sl.val (.int (z : Int)))) = .ok .nx (frN r (.lst (us.map tW)) (.lst (resv.map tW)) w4 (stp x z) (Sl.val (.int (z : Int)))) := by
      intro hb
      have hlx : x.length ≤ 8 := by rw [hxe]; exact h3.len
      have g9 := ev_ixSS (a := dgs) (i := (z : Int)) (by decide)
      have g4 : atI dgs (z : Int) = some (dgs.getD z 0) := by
        rw [ML.atI_nat]
        have : z < dgs.length := hlt
        simp [this]
      rw [g4] at g9
      have hl := ev_lenSS (a := x) (by omega)
      have fin : gSl (.str (S x)) none (some (7 - (if (x.length : Int) < 8 then (1 : Int) else 0))) = some (.val, .str (S (x.take (if x.length < 8 then 6 else 7)))) := by
        by_cases c : x.length < 8
        · have c' : (x.length : Int) < 8 := by omega
          rw [if_pos c, if_pos c']
          exact ev_slS0 (l := x) (b := 6) (by omega)
        · have c' : ¬ (x.length : Int) < 8 := by omega
          rw [if_neg c, if_neg c']
          exact ev_slS0 (l := x) (b := 7) (by omega)
      unfold stp
      generalize dgs.getD z 0 = dd at *
      have ha := ev_addSS (a := x.take (if x.length < 8 then 6 else 7)) (b := [dd]) (by simp; omega)
      generalize x.take (if x.length < 8 then 6 else 7) = tk at *
      have hlen2 : ∀ (b : Bool), gInt [W.bl b] = some (.val, .int (if b then 1 else 0)) := fun b => rfl
      unfold frN nmB2
      unfold dgs at g9
      generalize us.map tW = US at *
      generalize resv.map tW = RV at *
      simp at g9
      by_cases m1 : x ∈ us
      · rw [decide_eq_true m1] at i1
        simp at i1
        simp -implicitDefEqProofs [ev_var, ev_own, i1, hl, hlen2, fin, g9, ha]
      · have m2 : x ∈ resv := hb.resolve_left m1
        rw [decide_eq_false m1] at i1
        rw [decide_eq_true m2] at i2
        simp at i1 i2
        simp -implicitDefEqProofs [ev_var, ev_own, i1, i2, hl, hlen2, fin, g9, ha]
    rw [← hxe]
    by_cases hb : x ∈ us ∨ x ∈ resv
    · refine .inl ⟨frN r (.lst (us.map tW)) (.lst (resv.map tW)) w4 (stp x z) (Sl.val (.int (z : Int))), .inl (hstep hb), z + 1, _, by rw [hxe]; rfl, hz2, by omega, stp_pre h3 hlt, fun j hj => ?_⟩
      by_cases e : j = z
      · rw [e, ← hxe]; exact hb
      · exact h4 j (by omega)
    · have m1 : x ∉ us := fun h => hb (.inl h)
      have m2 : x ∉ resv := fun h => hb (.inr h)
      refine .inr (.inl ⟨frN r (.lst (us.map tW)) (.lst (resv.map tW)) w4 x (Sl.val (.int (z : Int))), ?_, x, _, rfl, by rw [hxe]; exact h3, m1, m2⟩)
      rw [decide_eq_false m1] at i1
      rw [decide_eq_false m2] at i2
      unfold frN nmB2
      generalize us.map tW = US at *
      generalize resv.map tW = RV at *
      simp at i1 i2
      simp -implicitDefEqProofs [ev_var, ev_own, i1, i2]
end
end K08

namespace K08
open PySem PySem.Spec PyProof.Rows L2 ML
def NameOk (m : List W → FR) : Prop := ∀ {r : W} {us : List A}, IsR r → us.length ≤ 9 → (∀ x ∈ us, IsName x) → ∃ x r', m [r, .lst (us.map tW)] = .ok false (tW x) [r', .lst (us.map tW)] ∧ IsName x ∧ x ∉ us ∧ IsR r'
theorem name_ok {nx : List W → FR} (hx : NextOk nx) : NameOk (fun__law_name nx) := by
  intro r us hr hu hn
  obtain ⟨v0, r1, g1, g2, g3⟩ := hx hr (m := 26) (by omega)
  obtain ⟨c0, g4, g5⟩ := at_get (l := lets) (n := 26) (P := fun c => lowC c = true) rfl (v := v0) (by omega) (by decide)
  have g9 := ev_ixSS (a := lets) (i := (v0 : Int)) (by decide)
  rw [g4] at g9
  obtain ⟨v, r2, f1, f2, f3⟩ := hx g3 (m := 8) (by omega)
  obtain ⟨r3, n3, s6, a1, a2, a3⟩ := nm_loop1 (us := us) (w3 := .lst (resv.map tW)) (w4 := .lst (wds.map tW)) hx f3 (c0 := c0) (v := v) g5 (by omega)
  obtain ⟨r4, n4, b1, b2, b3⟩ := nm_c1 (w3 := .lst (resv.map tW)) (us := .lst (us.map tW)) (s6 := s6) hx a2 a3
  obtain ⟨r5, n5, c1, c2, c3⟩ := nm_c2 (w3 := .lst (resv.map tW)) (w4 := .lst (wds.map tW)) (s6 := s6) hx b2 b3 hn
  obtain ⟨x, t6, d1, d2, d3, d4⟩ := nm_loop2 (us := us) (w4 := .lst (wds.map tW)) (r := r5) c3 hu s6
  refine ⟨x, r5, ?_, d2.name d4, d3, c2⟩
  have hb : body__law_name nx = mSeq (mSet [0, 1] 2 (mC (.str "abcdefghijklmnopqrstuvwxyz"))) (mSeq (mSet [0, 1] 3 (mSplit (mC (.str "skip quit if then else fi while do od new in end let be command number")) (mC (.str " ")))) (mSeq (mSet [0, 1] 4 (mLst [0, 1] [mC (.str "run"), mC (.str "call"), mC (.str "ask"), mC (.str "back"), mC (.str "told"), mC (.str "get"), mC (.str "set"), mC (.str "is"), mC (.str "kept"), mC (.str "p"), mC (.str "p0"), mC (.str "c0")])) (mSeq (mSet [0, 1] 5 (mOp gIx (mVar 2) (mCall [0, 1] [0] nx [mVar 0, mC (.int 26)]))) (mSeq (mFor (mRange1 [mCall [0, 1] [0] nx [mVar 0, mC (.int 8)]]) (gSet [0, 1] 6) (nmB1 nx)) (mSeq (nmC1 nx) (mSeq (nmC2 nx) (mSeq (mFor (mRange1 [mC (.int 20)]) (gSet [0, 1] 6) nmB2) (mRet [0, 1] (mVar 5))))))))) := rfl
  have p1 : ∀ REST : Rho → ML.R Fl, mSeq (mSet [0, 1] 2 (mC (.str "abcdefghijklmnopqrstuvwxyz"))) (mSeq (mSet [0, 1] 3 (mSplit (mC (.str "skip quit if then else fi while do od new in end let be command number")) (mC (.str " ")))) (mSeq (mSet [0, 1] 4 (mLst [0, 1] [mC (.str "run"), mC (.str "call"), mC (.str "ask"), mC (.str "back"), mC (.str "told"), mC (.str "get"), mC (.str "set"), mC (.str "is"), mC (.str "kept"), mC (.str "p"), mC (.str "p0"), mC (.str "c0")])) (mSeq (mSet [0, 1] 5 (mOp gIx (mVar 2) (mCall [0, 1] [0] nx [mVar 0, mC (.int 26)]))) REST))) [Sl.own r, Sl.own (.lst (us.map tW)), Sl.no, Sl.no, Sl.no, Sl.no, Sl.no] = REST (frN r1 (.lst (us.map tW)) (.lst (resv.map tW)) (.lst (wds.map tW)) [c0] Sl.no) := by
    intro REST
    have l12 : (12 ≤ sizeLine) = True := by simp [line_is]
    have lb : (72 ≤ sizeLine) = True := by simp [line_is]
    have bs := bar_split
    unfold frN wds lets at *
    generalize us.map tW = US at *
    generalize hR : resv.map S = RS at *
    have hR2 : resv.map tW = RS.map W.str := by rw [← hR, List.map_map]; rfl
    rw [hR2]
    simp -implicitDefEqProofs [ev_var, ev_own, l12, lb, bs, g1, g9]
  have p2 : mFor (mRange1 [mCall [0, 1] [0] nx [mVar 0, mC (.int 8)]]) (gSet [0, 1] 6) (nmB1 nx) (frN r1 (.lst (us.map tW)) (.lst (resv.map tW)) (.lst (wds.map tW)) [c0] Sl.no) = .ok .nx (frN r3 (.lst (us.map tW)) (.lst (resv.map tW)) (.lst (wds.map tW)) n3 s6) := by
    have ho : okR (v : Int) = true := okR_nat (by omega)
    unfold frN at *
    generalize nmB1 nx = B1 at *
    generalize us.map tW = US at *
    generalize resv.map tW = RV at *
    generalize wds.map tW = WD at *
    simp -implicitDefEqProofs [ev_var, ev_own, f1, ho, a1]
  have p5 : mFor (mRange1 [mC (.int 20)]) (gSet [0, 1] 6) nmB2 (frN r5 (.lst (us.map tW)) (.lst (resv.map tW)) (.lst (wds.map tW)) n5 s6) = .ok .nx (frN r5 (.lst (us.map tW)) (.lst (resv.map tW)) (.lst (wds.map tW)) x t6) := by
    have ho : okR 20 = true := okR_nat (n := 20) (by omega)
    generalize nmB2 = B2 at *
    generalize frN r5 (.lst (us.map tW)) (.lst (resv.map tW)) (.lst (wds.map tW)) n5 s6 = F5 at *
    simp -implicitDefEqProofs [ev_r1, ho, d1]
  have hf : fun__law_name nx [r, .lst (us.map tW)] = finF [0, 1] (body__law_name nx [Sl.own r, Sl.own (.lst (us.map tW)), Sl.no, Sl.no, Sl.no, Sl.no, Sl.no]) := rfl
  rw [hf, hb, p1, ev_seq, p2, ev_tn, ev_seq, b1, ev_tn, ev_seq, c1, ev_tn, ev_seq, p5, ev_tn]
  unfold frN
  simp -implicitDefEqProofs [ev_var, ev_own]
end K08

namespace K08
open PySem PySem.Spec PyProof.Rows L2 ML
/-- a comprehension over one name that changes the frame -/
theorem comp_st {σ α : Type} {i : Nat} {fe : Rho → ML.R W} {fr : σ → Rho} {Q : W → α → Prop} {P : List α → List W → σ → Prop}
    (h : ∀ w z zs acc s, Q w z → P (z :: zs) acc s → ∃ y s', fe ((fr s).set i (.val w)) = .ok y ((fr s').set i (.val w)) ∧ P zs (acc ++ [y]) s') (hno : ∀ s, (fr s).set i .no = fr s) :
    ∀ {ws : List W} {zs : List α} {acc : List W} {ρ : Rho} {s : σ}, All2 Q ws zs → P zs acc s → acc.length + ws.length ≤ sizeLine → ρ.set i .no = fr s → ∃ acc' s', compL [i] (CT.put (.nm i)) mYes fe acc ws ρ = .ok (.fre, .lst acc') (fr s') ∧ P [] acc' s'
  | [], _, acc, ρ, s, .nil, hp, hl, hr => by
    refine ⟨acc, s, ?_, hp⟩
    unfold compL
    rw [if_pos (show acc.length ≤ sizeLine from hl)]
    show ML.R.ok _ (wipeR ρ [i]) = _
    rw [show wipeR ρ [i] = ρ.set i .no from rfl, hr]
  | w :: ws, z :: zs, acc, ρ, s, .cons q qs, hp, hl, hr => by
    have hl' : acc.length + (ws.length + 1) ≤ sizeLine := hl
    obtain ⟨y, s', e, hp'⟩ := h w z zs acc s q hp
    obtain ⟨acc', s2, e2, hp2⟩ := comp_st h hno qs hp' (by rw [List.length_append, List.length_singleton]; omega) (ρ := (fr s').set i (.val w)) (s := s') (by rw [List.set_set, hno])
    refine ⟨acc', s2, ?_, hp2⟩
    unfold compL
    rw [show wipeR ρ [i] = ρ.set i .no from rfl, hr]
    show (ML.R.bind (mYes ((fr s).set i (.val w))) _) = _
    rw [ev_yes, ev_bo, if_pos rfl, e, ev_bo, if_pos (by omega), e2]
theorem cut_n (xs : List W) (n : Nat) : cutW xs (some (n : Int)) none = xs.drop n := by
  unfold cutW
  rw [HT.sIx_nat, HT.sIx_none]
  by_cases h : n ≤ xs.length
  · rw [Nat.min_eq_left h, List.take_of_length_le (by rw [List.length_drop]; omega)]
  · rw [Nat.min_eq_right (by omega), List.drop_eq_nil_of_le (Nat.le_refl _), List.drop_eq_nil_of_le (by omega), List.take_nil]
theorem at_int {l : List Nat} {v : Nat} (hv : v < l.length) : ∃ n ∈ l, atI (l.map fun (n : Nat) => W.int (n : Int)) (v : Int) = some (.int (n : Int)) := ⟨l[v], List.getElem_mem hv, by rw [ML.atI_nat, List.getElem?_map, List.getElem?_eq_getElem hv]; rfl⟩
theorem at_kd {v : Nat} (hv : v < 2) : ∃ b, atI [tW [99, 111, 109, 109, 97, 110, 100], tW [110, 117, 109, 98, 101, 114]] (v : Int) = some (kW b) := by
  have : v = 0 ∨ v = 1 := by omega
  rcases this with rfl | rfl
  · exact ⟨false, rfl⟩
  · exact ⟨true, rfl⟩
def frM (cell : Int) (r : W) (z many free : Nat) (us : List A) (ps : List Tr) (s8 s9 s10 : Sl) : Rho := [Sl.val (.int cell), Sl.own r, Sl.val (.int (z : Int)), Sl.val (.int (many : Int)), Sl.val (.int (free : Int)), Sl.own (.lst [tW [99, 111, 109, 109, 97, 110, 100], tW [110, 117, 109, 98, 101, 114]]), Sl.own (.lst (us.map tW)), Sl.own (.lst (ps.map trW)), s8, s9, s10, Sl.no]
def nsB (nm nx : List W → FR) : Rho → ML.R Fl := mSeq (mDrop (mAppend 6 [] (mCall [] [0, 1] nm [mVar 1, mVar 6]))) (mSeq (mSet [] 9 (mOp gIx (mLst [] [mC (.int 1), mC (.int 2), mC (.int 0), mC (.int 1), mC (.int 3)]) (mCall [] [0] nx [mVar 1, mC (.int 5)]))) (mSeq (mSet [] 10 (mCB gTupC [mLc [] (mRange1 [mVar 9]) (.nm 11) (mYes) (mOp gIx (mVar 5) (mCall [] [0] nx [mVar 1, mC (.int 2)]))])) (mDrop (mAppend 7 [] (mTup [] [mOp gIx (mVar 6) (mVar 8), mVar 10, mOp gIx (mVar 5) (mCall [] [0] nx [mVar 1, mC (.int 2)])])))))
def nsC (nm : List W → FR) : Rho → ML.R Fl := mDrop (mAppend 6 [] (mCall [] [0, 1] nm [mVar 1, mVar 6]))
section
variable {nx nm : List W → FR} {cell : Int} {z many free : Nat}
theorem kinds_draw (hx : NextOk nx) {r : W} (hr : IsR r) {us : List A} {ps : List Tr} {s8 s10 : Sl} {cnt : Nat} (hc : cnt ≤ 3) : ∃ (bs : List Bool) (r' : W), mLc [] (mRange1 [mVar 9]) (.nm 11) (mYes) (mOp gIx (mVar 5) (mCall [] [0] nx [mVar 1, mC (.int 2)])) (frM cell r z many free us ps s8 (Sl.val (.int (cnt : Int))) s10) = .ok (.fre, .lst (bs.map kW)) (frM cell r' z many free us ps s8 (Sl.val (.int (cnt : Int))) s10) ∧ bs.length = cnt ∧ IsR r' := by
  obtain ⟨acc, r', e, hr', bs, eb, hl⟩ := comp_st (i := 11) (fe := mEl [] (mOp gIx (mVar 5) (mCall [] [0] nx [mVar 1, mC (.int 2)]))) (fr := fun r => frM cell r z many free us ps s8 (Sl.val (.int (cnt : Int))) s10) (Q := fun (w : W) (z : Nat) => w = .int z ∧ z < cnt) (P := fun zs acc r => IsR r ∧ ∃ bs : List Bool, acc = bs.map kW ∧ bs.length + zs.length = cnt) (fun w z zs acc r q ⟨h1, bs, h2, h3⟩ => by
      obtain ⟨v, r2, g1, g2, g3⟩ := hx h1 (m := 2) (by omega)
      obtain ⟨b, g4⟩ := at_kd (v := v) (by omega)
      refine ⟨kW b, r2, ?_, g3, bs ++ [b], by rw [h2]; simp, by simp at h3 ⊢; omega⟩
      generalize kW b = KB at *
      unfold frM
      generalize us.map tW = US at *
      generalize ps.map trW = PS at *
      try simp at g4
      simp -implicitDefEqProofs [ev_var, ev_own, g1, g4]) (fun r => rfl) (all2_rng cnt) (acc := []) (ρ := frM cell r z many free us ps s8 (Sl.val (.int (cnt : Int))) s10) (s := r) ⟨hr, [], rfl, by simp⟩ (by rw [all2_len, line_is]; simp; omega) rfl
  refine ⟨bs, r', ?_, by simpa using hl, hr'⟩
  have hit : mRange1 [mVar 9] (frM cell r z many free us ps s8 (Sl.val (.int (cnt : Int))) s10) = .ok (intsW 0 cnt) (frM cell r z many free us ps s8 (Sl.val (.int (cnt : Int))) s10) := by
    have ho : okR (cnt : Int) = true := okR_nat (by omega)
    unfold frM
    generalize us.map tW = US at *
    generalize ps.map trW = PS at *
    simp -implicitDefEqProofs [ev_var, ho]
  rw [ev_lc, hit, ev_bo, if_pos (by simp)]
  have e2 : CT.ix (.nm 11) = [11] := rfl
  rw [e2, e, eb]
  rfl
theorem ns_step (hx : NextOk nx) (hn : NameOk nm) {r : W} (hr : IsR r) {ps : List Tr} (hp : ∀ t ∈ ps, IsName t.1 ∧ t.2.1.length ≤ 3) (hl : ps.length ≤ 9) {s9 s10 : Sl} : ∃ r' t t9 t10, nsB nm nx (frM cell r z many free (ps.map (·.1)) ps (Sl.val (.int (ps.length : Int))) s9 s10) = .ok .nx (frM cell r' z many free ((ps ++ [t]).map (·.1)) (ps ++ [t]) (Sl.val (.int (ps.length : Int))) t9 t10) ∧ IsR r' ∧ IsName t.1 ∧ t.2.1.length ≤ 3 ∧ t.1 ∉ ps.map (·.1) := by
  obtain ⟨x, r1, f1, f2, f3, f4⟩ := hn (us := ps.map (·.1)) hr (by simpa using hl) (fun x h => by
    obtain ⟨t, ht, rfl⟩ := List.mem_map.mp h
    exact (hp t ht).1)
  obtain ⟨v, r2, g1, g2, g3⟩ := hx f4 (m := 5) (by omega)
  obtain ⟨cnt, c1, c2⟩ := at_int (l := [1, 2, 0, 1, 3]) (v := v) (by simp; omega)
  have hc : cnt ≤ 3 := by
    simp at c1
    omega
  obtain ⟨bs, r3, b1, b2, b3⟩ := kinds_draw (cell := cell) (z := z) (many := many) (free := free) (us := ps.map (·.1) ++ [x]) (ps := ps) (s8 := Sl.val (.int (ps.length : Int))) (s10 := s10) hx g3 hc
  obtain ⟨w, r4, k1, k2, k3⟩ := hx b3 (m := 2) (by omega)
  obtain ⟨bb, k4⟩ := at_kd (v := w) (by omega)
  refine ⟨r4, (x, bs, bb), Sl.val (.int (cnt : Int)), Sl.val (.tup (bs.map kW)), ?_, k3, f2, by rw [b2]; exact hc, f3⟩
  have hat : atI ((ps.map (·.1) ++ [x]).map tW) (ps.length : Int) = some (tW x) := by
    rw [ML.atI_nat, List.getElem?_map, List.getElem?_append_right (by simp)]
    simp
  have l5 : (5 ≤ sizeLine) = True := by simp [line_is]
  have hs1 : (ps.map (·.1)).length < sizeLine := by rw [List.length_map, line_is]; omega
  have hs2 : ps.length < sizeLine := by rw [line_is]; omega
  have hm1 : ((ps ++ [(x, bs, bb)]).map (·.1)).map tW = ((ps.map (·.1)) ++ [x]).map tW := by simp
  have hm2 : (ps ++ [(x, bs, bb)]).map trW = ps.map trW ++ [.tup [tW x, .tup (bs.map kW), kW bb]] := by simp [trW]
  unfold frM at *
  rw [hm1, hm2]
  rw [List.map_append] at *
  unfold nsB
  have hlm : ((ps.map (·.1)).map tW).length = (ps.map (·.1)).length := by simp
  have hlp : (ps.map trW).length = ps.length := by simp
  generalize (ps.map (·.1)).length = nu at *
  generalize (ps.map (·.1)).map tW = US at *
  generalize ps.map trW = PS at *
  generalize bs.map kW = BS at *
  generalize kW bb = KB at *
  generalize ps.length = np at *
  simp at k4 c2 b1 hat
  simp -implicitDefEqProofs [ev_var, ev_own, f1, hlm, hs1, g1, c2, l5, b1, hat, k1, k4, hlp, hs2]
theorem ns_free (hn : NameOk nm) {r : W} (hr : IsR r) {us : List A} {ps : List Tr} (hu : ∀ x ∈ us, IsName x) (hl : us.length ≤ 9) {s8 s9 s10 : Sl} : ∃ r' x, nsC nm (frM cell r z many free us ps s8 s9 s10) = .ok .nx (frM cell r' z many free (us ++ [x]) ps s8 s9 s10) ∧ IsR r' ∧ IsName x ∧ x ∉ us := by
  obtain ⟨x, r1, f1, f2, f3, f4⟩ := hn (us := us) hr hl hu
  refine ⟨r1, x, ?_, f4, f2, f3⟩
  have hs1 : us.length < sizeLine := by rw [line_is]; omega
  have hlm : (us.map tW).length = us.length := by simp
  unfold frM nsC
  rw [List.map_append]
  generalize us.map tW = US at *
  generalize us.length = nu at *
  generalize ps.map trW = PS at *
  simp -implicitDefEqProofs [ev_var, ev_own, f1, hlm, hs1]
end
end K08

namespace K08
open PySem PySem.Spec PyProof.Rows L2 ML
def NamesOk (m : List W → FR) : Prop := ∀ cell : Int, ∃ g, m [.int cell] = .ok true (lsW g) [] ∧ SgOk g ∧ SgNd g
theorem names_ok {rr nx nm : List W → FR} (hR : ∀ c : Int, ∃ r, rr [.int c] = .ok true r [] ∧ IsR r) (hx : NextOk nx) (hn : NameOk nm) : NamesOk (fun__law_names rr nx nm) := by
  intro cell
  obtain ⟨r0, a1, a2⟩ := hR cell
  obtain ⟨v1, r1, b1, b2, b3⟩ := hx a2 (m := 3) (by omega)
  obtain ⟨v2, r2, c1, c2, c3⟩ := hx b3 (m := 8) (by omega)
  obtain ⟨many, m1, m2⟩ := at_int (l := [1, 2, 0, 3, 2, 1, 6, 4]) (v := v2) (by simp; omega)
  have hm : many ≤ 6 := by simp at m1; omega
  obtain ⟨v3, r3, d1, d2, d3⟩ := hx c3 (m := 8) (by omega)
  obtain ⟨free, f1, f2⟩ := at_int (l := [0, 1, 2, 0, 1, 3, 2, 4]) (v := v3) (by simp; omega)
  have hf : free ≤ 4 := by simp at f1; omega
  have hok1 : okR (many : Int) = true := okR_nat (by omega)
  have hok2 : okR (free : Int) = true := okR_nat (by omega)
  have e1 : ∃ r ps s8 s9 s10, forL (gSet [] 8) (nsB nm nx) (intsW 0 many) (frM cell r3 (2 + v1) many free [] [] Sl.no Sl.no Sl.no) = .ok .nx (frM cell r (2 + v1) many free (ps.map (·.1)) ps s8 s9 s10) ∧ IsR r ∧ (∀ t ∈ ps, IsName t.1 ∧ t.2.1.length ≤ 3) ∧ (ps.map (·.1)).Nodup ∧ ps.length = many := by
    refine for_run (Q := fun (w : W) (z : Nat) => w = .int z ∧ z < many) (P := fun zs ρ => ∃ r ps s8 s9 s10, ρ = frM cell r (2 + v1) many free (ps.map (·.1)) ps s8 s9 s10 ∧ IsR r ∧ (∀ t ∈ ps, IsName t.1 ∧ t.2.1.length ≤ 3) ∧ (ps.map (·.1)).Nodup ∧ zs = List.range' ps.length (many - ps.length) ∧ ps.length ≤ many) (Post := fun o => ∃ r ps s8 s9 s10, o = .ok .nx (frM cell r (2 + v1) many free (ps.map (·.1)) ps s8 s9 s10) ∧ IsR r ∧ (∀ t ∈ ps, IsName t.1 ∧ t.2.1.length ≤ 3) ∧ (ps.map (·.1)).Nodup ∧ ps.length = many) (fun ρ ⟨r, ps, s8, s9, s10, e, h1, h2, h3, h4, h5⟩ => ⟨r, ps, s8, s9, s10, by rw [e], h1, h2, h3, by
      have := congrArg List.length h4
      simp at this
      omega⟩) (fun w z zs ρ ⟨q, hz⟩ ⟨r, ps, s8, s9, s10, e, h1, h2, h3, h4, h5⟩ => ?_) (all2_rng many) ⟨r3, [], _, _, _, rfl, d3, (fun t h => (List.not_mem_nil h).elim), List.nodup_nil, rfl, by simp⟩
    subst q e
    have hlt : ps.length < many := by
      rcases Nat.lt_or_ge ps.length many with h | h
      · exact h
      · rw [Nat.sub_eq_zero_of_le h] at h4; cases h4
    rw [show many - ps.length = (many - (ps.length + 1)) + 1 by omega, List.range'_succ] at h4
    obtain ⟨hz1, hz2⟩ := List.cons.inj h4
    subst hz1
    obtain ⟨r', t, t9, t10, s1, s2, s3, s4, s5⟩ := ns_step (cell := cell) (z := 2 + v1) (many := many) (free := free) (s9 := s9) (s10 := s10) hx hn h1 h2 (by omega)
    refine ⟨frM cell r (2 + v1) many free (ps.map (·.1)) ps (Sl.val (.int (ps.length : Int))) s9 s10, by simp [frM], .inl ⟨_, .inl s1, r', ps ++ [t], _, t9, t10, rfl, s2, fun u hu => ?_, ?_, by rw [List.length_append]; exact hz2, by simp; omega⟩⟩
    · rcases List.mem_append.mp hu with hu | hu
      · exact h2 u hu
      · rw [List.mem_singleton.mp hu]; exact ⟨s3, s4⟩
    · rw [List.map_append]
      refine List.nodup_append.mpr ⟨h3, by simp, fun a ha b hb => ?_⟩
      have : b = t.1 := by simpa using hb
      rw [this]
      exact fun e => s5 (by rw [← e]; exact ha)
  obtain ⟨r4, ps, s8, s9, s10, e1, g1, g2, g3, g4⟩ := e1
  have e2 : ∃ r us t8, forL (gSet [] 8) (nsC nm) (intsW 0 free) (frM cell r4 (2 + v1) many free (ps.map (·.1)) ps s8 s9 s10) = .ok .nx (frM cell r (2 + v1) many free (ps.map (·.1) ++ us) ps t8 s9 s10) ∧ us.length = free ∧ (∀ x ∈ us, IsName x) ∧ (ps.map (·.1) ++ us).Nodup := by
    refine for_run (Q := fun (w : W) (z : Nat) => w = .int z ∧ z < free) (P := fun zs ρ => ∃ r us t8, ρ = frM cell r (2 + v1) many free (ps.map (·.1) ++ us) ps t8 s9 s10 ∧ IsR r ∧ us.length + zs.length = free ∧ (∀ x ∈ us, IsName x) ∧ (ps.map (·.1) ++ us).Nodup) (Post := fun o => ∃ r us t8, o = .ok .nx (frM cell r (2 + v1) many free (ps.map (·.1) ++ us) ps t8 s9 s10) ∧ us.length = free ∧ (∀ x ∈ us, IsName x) ∧ (ps.map (·.1) ++ us).Nodup) (fun ρ ⟨r, us, t8, e, h1, h2, h3, h4⟩ => ⟨r, us, t8, by rw [e], by simpa using h2, h3, h4⟩) (fun w z zs ρ ⟨q, hz⟩ ⟨r, us, t8, e, h1, h2, h3, h4⟩ => ?_) (all2_rng free) ⟨r4, [], s8, by rw [List.append_nil], g1, by simp, (fun x h => (List.not_mem_nil h).elim), by rw [List.append_nil]; exact g3⟩
    subst q e
    have hu : ∀ x ∈ ps.map (·.1) ++ us, IsName x := fun x hx => by
      rcases List.mem_append.mp hx with hx | hx
      · obtain ⟨t, ht, rfl⟩ := List.mem_map.mp hx
        exact (g2 t ht).1
      · exact h3 x hx
    obtain ⟨r', x, s1, s2, s3, s4⟩ := ns_free (cell := cell) (z := 2 + v1) (many := many) (free := free) (ps := ps) (s8 := Sl.val (.int (z : Int))) (s9 := s9) (s10 := s10) hn h1 hu (by simp at h2 ⊢; omega)
    refine ⟨frM cell r (2 + v1) many free (ps.map (·.1) ++ us) ps (Sl.val (.int (z : Int))) s9 s10, by simp [frM], .inl ⟨_, .inl s1, r', us ++ [x], _, by rw [List.append_assoc], s2, by simp at h2 ⊢; omega, fun y hy => ?_, ?_⟩⟩
    · rcases List.mem_append.mp hy with hy | hy
      · exact h3 y hy
      · rw [List.mem_singleton.mp hy]; exact s3
    · rw [← List.append_assoc]
      refine List.nodup_append.mpr ⟨h4, by simp, fun a ha b hb => ?_⟩
      have : b = x := by simpa using hb
      rw [this]
      exact fun e => s4 (by rw [← e]; exact ha)
  obtain ⟨r5, us, t8, e2, k1, k2, k3⟩ := e2
  refine ⟨⟨2 + v1, ps, us⟩, ?_, ⟨by simp, by simp; omega, by simpa using (by omega : ps.length ≤ 6), by simpa using (by omega : us.length ≤ 4), g2, k2⟩, k3⟩
  have l8 : (8 ≤ sizeLine) = True := by simp [line_is]
  have hct : cutW ((ps.map (·.1) ++ us).map tW) (some (many : Int)) none = us.map tW := by
    rw [cut_n, ← g4, List.map_append, List.drop_left' (by simp)]
  have hz : ((2 + v1 : Nat) : Int) = 2 + (v1 : Int) := by omega
  unfold frM at e1 e2
  unfold lsW pW cW
  dsimp only
  rw [hz] at *
  unfold nsB at e1
  unfold nsC at e2
  unfold fun__law_names body__law_names
  generalize (ps.map (·.1) ++ us).map tW = USW at *
  generalize (ps.map (·.1)).map tW = PNW at *
  generalize ps.map trW = PSW at *
  generalize us.map tW = CSW at *
  simp at m2 f2 e1 e2
  simp -implicitDefEqProofs [ev_var, ev_own, a1, b1, c1, m2, d1, f2, l8, hok1, hok2, e1, e2, hct]
end K08

namespace K08
open PySem PySem.Spec PyProof.Rows L2 ML
/-! ### a drawn row -/
def frR (g : Sg) (b : Bool) (cell : Int) (r : W) (len ends : Nat) (ms o : List Mv) (k : Nat) (CH : List W) (pick : Nat) (late : Bool) (s : Sl) : Rho := [Sl.val (lsW g), Sl.val (kW b), Sl.val (.int cell), Sl.own r, Sl.val (.int (len : Int)), Sl.val (.int (ends : Int)), Sl.own (.lst (ms.map txW)), Sl.val (.tup (o.map txW)), Sl.val (.int (k : Int)), Sl.own (.lst CH), Sl.val (.int (pick : Int)), Sl.val (.bl late), s]
def rxA : Rho → ML.R (Md × W) := mOp gIx (mVar 9) (mOp gSub (mOp gSub (mCB gLen [mVar 9]) (mC (.int 1))) (mOp gMod (mOp gFdiv (mVar 10) (mC (.int 2))) (mCB gMin [mC (.int 2), mCB gLen [mVar 9]])))
def rxB : Rho → ML.R (Md × W) := mOp gIx (mVar 9) (mOp gMod (mVar 10) (mOp gSub (mCB gLen [mVar 9]) (mVar 5)))
def rxC : Rho → ML.R (Md × W) := mOp gIx (mVar 9) (mOp gMod (mVar 10) (mCB gLen [mVar 9]))
def rcA (nx : List W → FR) : Rho → ML.R Bool := mOr (mTest (mVar 11)) (mAnd (mTest (mOp (gCmp (fun i j => decide (j < i))) (mCB gLen [mVar 7]) (mC (.int 1)))) (mTest (mOp gEq (mCall [] [0] nx [mVar 3, mC (.int 3)]) (mC (.int 0)))))
def rcB : Rho → ML.R Bool := mAnd (mTest (mOp gEq (mCB gLen [mVar 7]) (mC (.int 1)))) (mTest (mOp (gCmp (fun i j => decide (j < i))) (mCB gLen [mVar 9]) (mVar 5)))
def rchB (nx : List W → FR) : Rho → ML.R Fl := mIf (rcA nx) (mSet [] 12 rxA) (mIf rcB (mSet [] 12 rxB) (mSet [] 12 rxC))
theorem at_mem {CH : List W} {i : Int} (h0 : 0 ≤ i) (h1 : i < (CH.length : Int)) : ∃ w ∈ CH, atI CH i = some w := by
  obtain ⟨n, rfl⟩ := Int.eq_ofNat_of_zero_le h0
  have hn : n < CH.length := by omega
  exact ⟨CH[n], List.getElem_mem hn, by rw [ML.atI_nat, List.getElem?_eq_getElem hn]⟩
section
variable {nx : List W → FR} {g : Sg} {b : Bool} {cell : Int} {r : W} {len ends : Nat} {ms o : List Mv} {k : Nat} {CH : List W} {pick : Nat} {late : Bool} {s : Sl}
theorem rx_a (hn : 1 ≤ CH.length) : ∃ w ∈ CH, rxA (frR g b cell r len ends ms o k CH pick late s) = .ok (.val, w) (frR g b cell r len ends ms o k CH pick late s) := by
  have hp : (0 : Int) < (if (CH.length : Int) < 2 then (CH.length : Int) else 2) := by split <;> omega
  have hq0 := Int.emod_nonneg ((pick : Int) / 2) (show (if (CH.length : Int) < 2 then (CH.length : Int) else 2) ≠ 0 by omega)
  have hq1 := Int.emod_lt_of_pos ((pick : Int) / 2) hp
  have hle : (if (CH.length : Int) < 2 then (CH.length : Int) else 2) ≤ (CH.length : Int) := by split <;> omega
  obtain ⟨w, hw, e⟩ := at_mem (CH := CH) (i := (CH.length : Int) - 1 - ((pick : Int) / 2 % (if (CH.length : Int) < 2 then (CH.length : Int) else 2))) (by omega) (by omega)
  refine ⟨w, hw, ?_⟩
  have e1 : rxA (frR g b cell r len ends ms o k CH pick late s) = lift (gIx (.lst CH) (.int ((CH.length : Int) - 1 - ((pick : Int) / 2 % (if (CH.length : Int) < 2 then (CH.length : Int) else 2))))) (frR g b cell r len ends ms o k CH pick late s) := by
    have m1 : ∀ x : Int, gMod (.int x) (.int (if (CH.length : Int) < 2 then (CH.length : Int) else 2)) = some (.val, .int (x % (if (CH.length : Int) < 2 then (CH.length : Int) else 2))) := fun x => ev_mod hp
    unfold frR rxA
    generalize lsW g = G0 at *
    generalize kW b = B0 at *
    generalize ms.map txW = M0 at *
    generalize o.map txW = O0 at *
    generalize hL : (CH.length : Int) = L at *
    generalize hmn : (if L < 2 then L else 2) = mn at *
    simp -implicitDefEqProofs [ev_var, ev_own, ev_div, hL, hmn, m1]
  rw [e1, ev_ixL, e]
  rfl
theorem rx_b (he : ends < CH.length) : ∃ w ∈ CH, rxB (frR g b cell r len ends ms o k CH pick late s) = .ok (.val, w) (frR g b cell r len ends ms o k CH pick late s) := by
  have hp : (0 : Int) < (CH.length : Int) - (ends : Int) := by omega
  have hq0 := Int.emod_nonneg (pick : Int) (show (CH.length : Int) - (ends : Int) ≠ 0 by omega)
  have hq1 := Int.emod_lt_of_pos (pick : Int) hp
  obtain ⟨w, hw, e⟩ := at_mem (CH := CH) (i := (pick : Int) % ((CH.length : Int) - (ends : Int))) (by omega) (by omega)
  refine ⟨w, hw, ?_⟩
  have m1 : gMod (.int (pick : Int)) (.int ((CH.length : Int) - (ends : Int))) = some (.val, .int ((pick : Int) % ((CH.length : Int) - (ends : Int)))) := ev_mod hp
  unfold frR rxB
  generalize lsW g = G0 at *
  generalize kW b = B0 at *
  generalize ms.map txW = M0 at *
  generalize o.map txW = O0 at *
  simp -implicitDefEqProofs [ev_var, ev_own, m1, e]
theorem rx_c (hn : 1 ≤ CH.length) : ∃ w ∈ CH, rxC (frR g b cell r len ends ms o k CH pick late s) = .ok (.val, w) (frR g b cell r len ends ms o k CH pick late s) := by
  have hp : (0 : Int) < (CH.length : Int) := by omega
  have hq0 := Int.emod_nonneg (pick : Int) (show (CH.length : Int) ≠ 0 by omega)
  have hq1 := Int.emod_lt_of_pos (pick : Int) hp
  obtain ⟨w, hw, e⟩ := at_mem (CH := CH) (i := (pick : Int) % (CH.length : Int)) (by omega) (by omega)
  refine ⟨w, hw, ?_⟩
  have m1 : gMod (.int (pick : Int)) (.int (CH.length : Int)) = some (.val, .int ((pick : Int) % (CH.length : Int))) := ev_mod hp
  unfold frR rxC
  generalize lsW g = G0 at *
  generalize kW b = B0 at *
  generalize ms.map txW = M0 at *
  generalize o.map txW = O0 at *
  simp -implicitDefEqProofs [ev_var, ev_own, m1, e]
theorem set12 {f : Rho → ML.R (Md × W)} {w : W} (h : f (frR g b cell r len ends ms o k CH pick late s) = .ok (.val, w) (frR g b cell r len ends ms o k CH pick late s)) : mSet [] 12 f (frR g b cell r len ends ms o k CH pick late s) = .ok .nx (frR g b cell r len ends ms o k CH pick late (Sl.val w)) := by
  rw [ev_set, h, ev_bo, ev_sv, if_neg (by simp)]
  rfl
theorem rc_a (hx : NextOk nx) (hr : IsR r) : ∃ c r', rcA nx (frR g b cell r len ends ms o k CH pick late s) = .ok c (frR g b cell r' len ends ms o k CH pick late s) ∧ IsR r' := by
  obtain ⟨v, r1, g1, g2, g3⟩ := hx hr (m := 3) (by omega)
  unfold frR rcA
  have hlo : (o.map txW).length = o.length := by simp
  generalize lsW g = G0 at *
  generalize kW b = B0 at *
  generalize ms.map txW = M0 at *
  generalize o.map txW = O0 at *
  cases late with
  | true => exact ⟨true, r, by simp -implicitDefEqProofs [ev_var, ev_own], hr⟩
  | false =>
    by_cases c : (1 : Int) < (o.length : Int)
    · refine ⟨decide ((v : Int) = 0), r1, ?_, g3⟩
      simp -implicitDefEqProofs [ev_var, ev_own, hlo, c, g1]
    · refine ⟨false, r, ?_, hr⟩
      simp -implicitDefEqProofs [ev_var, ev_own, hlo, c]
theorem rc_b : ∃ c, rcB (frR g b cell r len ends ms o k CH pick late s) = .ok c (frR g b cell r len ends ms o k CH pick late s) ∧ (c = true → ends < CH.length) := by
  unfold frR rcB
  have hlo : (o.map txW).length = o.length := by simp
  generalize lsW g = G0 at *
  generalize kW b = B0 at *
  generalize ms.map txW = M0 at *
  generalize o.map txW = O0 at *
  by_cases c : (o.length : Int) = 1
  · refine ⟨decide (ends < CH.length), ?_, fun h => of_decide_eq_true h⟩
    simp -implicitDefEqProofs [ev_var, ev_own, hlo, c]
  · refine ⟨false, ?_, fun h => by cases h⟩
    simp -implicitDefEqProofs [ev_var, ev_own, hlo, c]
theorem rch_ok (hx : NextOk nx) (hr : IsR r) (hn : 1 ≤ CH.length) : ∃ w ∈ CH, ∃ r', rchB nx (frR g b cell r len ends ms o k CH pick late s) = .ok .nx (frR g b cell r' len ends ms o k CH pick late (Sl.val w)) ∧ IsR r' := by
  obtain ⟨c, r', e1, h1⟩ := rc_a (nx := nx) (g := g) (b := b) (cell := cell) (len := len) (ends := ends) (ms := ms) (o := o) (k := k) (CH := CH) (pick := pick) (late := late) (s := s) hx hr
  unfold rchB
  rw [ev_if, e1, ev_bo]
  cases c with
  | true =>
    obtain ⟨w, hw, e2⟩ := rx_a (g := g) (b := b) (cell := cell) (r := r') (len := len) (ends := ends) (ms := ms) (o := o) (k := k) (CH := CH) (pick := pick) (late := late) (s := s) hn
    exact ⟨w, hw, r', by rw [if_pos rfl, set12 e2], h1⟩
  | false =>
    obtain ⟨c2, e2, h2⟩ := rc_b (g := g) (b := b) (cell := cell) (r := r') (len := len) (ends := ends) (ms := ms) (o := o) (k := k) (CH := CH) (pick := pick) (late := late) (s := s)
    cases c2 with
    | true =>
      obtain ⟨w, hw, e3⟩ := rx_b (g := g) (b := b) (cell := cell) (r := r') (len := len) (ends := ends) (ms := ms) (o := o) (k := k) (CH := CH) (pick := pick) (late := late) (s := s) (h2 rfl)
      exact ⟨w, hw, r', by rw [if_neg (by simp), ev_if, e2, ev_bo, if_pos rfl, set12 e3], h1⟩
    | false =>
      obtain ⟨w, hw, e3⟩ := rx_c (g := g) (b := b) (cell := cell) (r := r') (len := len) (ends := ends) (ms := ms) (o := o) (k := k) (CH := CH) (pick := pick) (late := late) (s := s) hn
      exact ⟨w, hw, r', by rw [if_neg (by simp), ev_if, e2, ev_bo, if_neg (by simp), set12 e3], h1⟩
end
theorem mayB_M {g : Sg} (G : SgOk g) {b bg : Bool} {o : List Mv} (h : OkO g o) : ∀ m ∈ mayB g b bg o, m.M g := by
  cases o with
  | nil =>
    cases bg with
    | true => exact fun m h => (List.not_mem_nil h).elim
    | false => exact run_ch g
  | cons x o => exact may_M G h
section
variable {nx my af : List W → FR}
def rwB (nx my af : List W → FR) : Rho → ML.R Fl := mSeq (mSet [] 9 (mCall [] [] my [mVar 0, mVar 1, mOp (gCmp (fun i j => decide (j < i))) (mVar 8) (mC (.int 0)), mVar 7])) (mSeq (mIf (mTest (mOp gEq (mCB gLen [mVar 9]) (mC (.int 0)))) (mBreak) (mNext)) (mSeq (mSet [] 10 (mCall [] [0] nx [mVar 3, mC (.int 5040)])) (mSeq (mSet [] 11 (mOp (gCmp (fun i j => decide (j ≤ i))) (mVar 8) (mOp gFdiv (mOp gMul (mVar 4) (mC (.int 3))) (mC (.int 4))))) (mSeq (rchB nx) (mSeq (mDrop (mAppend 6 [] (mVar 12))) (mSet [] 7 (mCall [] [] af [mVar 7, mVar 12])))))))
def frQ (g : Sg) (b : Bool) (cell : Int) (r : W) (len ends : Nat) (ms o : List Mv) (s8 s9 s10 s11 s12 : Sl) : Rho := [Sl.val (lsW g), Sl.val (kW b), Sl.val (.int cell), Sl.own r, Sl.val (.int (len : Int)), Sl.val (.int (ends : Int)), Sl.own (.lst (ms.map txW)), Sl.val (.tup (o.map txW)), s8, s9, s10, s11, s12]
theorem rw_step (hx : NextOk nx) (hm : LMayOk my) (ha : AftOk af) {g : Sg} {b : Bool} {cell : Int} {r : W} {len ends : Nat} {ms o : List Mv} {k : Nat} {s9 s10 s11 s12 : Sl} (G : SgOk g) (hr : IsR r) (hO : OkO g o) (ho : o.length ≤ 1000) (hms : ms.length ≤ 1000) :
    (∃ ρ1, rwB nx my af (frQ g b cell r len ends ms o (Sl.val (.int (k : Int))) s9 s10 s11 s12) = .ok .bk (frQ g b cell r len ends ms o (Sl.val (.int (k : Int))) ρ1 s10 s11 s12)) ∨
    ∃ m r' t9 t10 t11 t12, m.M g ∧ IsR r' ∧ rwB nx my af (frQ g b cell r len ends ms o (Sl.val (.int (k : Int))) s9 s10 s11 s12) = .ok .nx (frQ g b cell r' len ends (ms ++ [m]) (aft o m) (Sl.val (.int (k : Int))) t9 t10 t11 t12) := by
  have e1 := hm (b := b) (bg := decide (0 < k)) G hO
  have hM := mayB_M G (b := b) (bg := decide (0 < k)) hO
  generalize mayB g b (decide (0 < k)) o = ch at *
  obtain ⟨v, r1, g1, g2, g3⟩ := hx hr (m := 5040) (by omega)
  have s1 : ∀ REST : Rho → ML.R Fl, mSeq (mSet [] 9 (mCall [] [] my [mVar 0, mVar 1, mOp (gCmp (fun i j => decide (j < i))) (mVar 8) (mC (.int 0)), mVar 7])) REST (frQ g b cell r len ends ms o (Sl.val (.int (k : Int))) s9 s10 s11 s12) = REST (frQ g b cell r len ends ms o (Sl.val (.int (k : Int))) (Sl.own (.lst ((ch.map Mv.tx).map tW))) s10 s11 s12) := by
    intro REST
    have hd : decide ((0 : Int) < (k : Int)) = decide (0 < k) := by simp
    unfold frQ
    generalize lsW g = G0 at *
    generalize kW b = B0 at *
    generalize ms.map txW = M0 at *
    generalize o.map txW = O0 at *
    generalize (ch.map Mv.tx).map tW = CH at *
    generalize decide (0 < k) = dk at *
    rw [ev_seq, ev_set, ev_call]
    simp only [ev_hc, ev_hn, ev_var, List.getElem?_cons_zero, List.getElem?_cons_succ, ev_bo, ev_op, ev_c, ev_pv, ev_cmp, ev_ls, hd]
    simp [e1]
  unfold rwB
  rw [s1]
  cases ch with
  | nil =>
    refine .inl ⟨Sl.own (.lst []), ?_⟩
    unfold frQ
    generalize lsW g = G0 at *
    generalize kW b = B0 at *
    generalize ms.map txW = M0 at *
    generalize o.map txW = O0 at *
    simp -implicitDefEqProofs [ev_var, ev_own]
  | cons m0 ch' =>
    right
    have hcl : 1 ≤ (((m0 :: ch').map Mv.tx).map tW).length := by simp
    have hel : ∀ w ∈ ((m0 :: ch').map Mv.tx).map tW, ∃ m, m.M g ∧ w = txW m := fun w hw => by
      obtain ⟨x, hx, rfl⟩ := List.mem_map.mp hw
      obtain ⟨m, hm, rfl⟩ := List.mem_map.mp hx
      exact ⟨m, hM m hm, rfl⟩
    generalize ((m0 :: ch').map Mv.tx).map tW = CH at *
    obtain ⟨w, hw, r2, q1, q2⟩ := rch_ok (g := g) (b := b) (cell := cell) (len := len) (ends := ends) (ms := ms) (o := o) (k := k) (CH := CH) (pick := v) (late := decide ((len : Int) * 3 / 4 ≤ (k : Int))) (s := s12) hx g3 hcl
    obtain ⟨m, hmM, rfl⟩ := hel w hw
    refine ⟨m, r2, Sl.own (.lst CH), Sl.val (.int (v : Int)), Sl.val (.bl (decide ((len : Int) * 3 / 4 ≤ (k : Int)))), Sl.val (txW m), hmM, q2, ?_⟩
    have s2 : ∀ REST : Rho → ML.R Fl, mSeq (mIf (mTest (mOp gEq (mCB gLen [mVar 9]) (mC (.int 0)))) (mBreak) (mNext)) (mSeq (mSet [] 10 (mCall [] [0] nx [mVar 3, mC (.int 5040)])) (mSeq (mSet [] 11 (mOp (gCmp (fun i j => decide (j ≤ i))) (mVar 8) (mOp gFdiv (mOp gMul (mVar 4) (mC (.int 3))) (mC (.int 4))))) REST)) (frQ g b cell r len ends ms o (Sl.val (.int (k : Int))) (Sl.own (.lst CH)) s10 s11 s12) = REST (frR g b cell r1 len ends ms o k CH v (decide ((len : Int) * 3 / 4 ≤ (k : Int))) s12) := by
      intro REST
      have hne : ¬ ((CH.length : Int) = 0) := by omega
      have hne2 : ¬ CH = [] := fun h => by rw [h] at hcl; simp at hcl
      have m1 : okMul (len : Int) 3 = true := by simp [okMul]
      unfold frQ frR
      generalize lsW g = G0 at *
      generalize kW b = B0 at *
      generalize ms.map txW = M0 at *
      generalize o.map txW = O0 at *
      simp -implicitDefEqProofs [ev_var, ev_own, ev_div, hne2, g1, m1]
    rw [s2, ev_seq, q1, ev_tn]
    have ea := ha (o := o) hmM.1 (by omega)
    have hL : ms.length < sizeLine := by rw [line_is]; omega
    have hlm : (ms.map txW).length = ms.length := by simp
    unfold frR frQ
    rw [List.map_append, List.map_singleton]
    generalize lsW g = G0 at *
    generalize kW b = B0 at *
    generalize ms.map txW = M0 at *
    generalize o.map txW = O0 at *
    generalize txW m = MW at *
    simp -implicitDefEqProofs [ev_var, ev_own, hlm, hL, ea]
def RowOk (m : List W → FR) : Prop := ∀ {g : Sg} {b : Bool} {cell : Int}, SgOk g → ∃ ms : List Mv, m [lsW g, kW b, .int cell] = .ok true (.lst (ms.map txW)) [] ∧ (∀ x ∈ ms, x.M g) ∧ ms.length ≤ 200
theorem row_ok {rr : List W → FR} (hR : ∀ c : Int, ∃ r, rr [.int c] = .ok true r [] ∧ IsR r) (hx : NextOk nx) (hm : LMayOk my) (ha : AftOk af) : RowOk (fun__law_row rr nx my af) := by
  intro g b cell G
  obtain ⟨r0, a1, a2⟩ := hR cell
  obtain ⟨v1, r1, b1, b2, b3⟩ := hx a2 (m := 16) (by omega)
  obtain ⟨v2, r2, c1, c2, c3⟩ := hx b3 (m := 5) (by omega)
  obtain ⟨ends, he⟩ : ∃ ends : Nat, ends = if b then g.z else 1 := ⟨_, rfl⟩
  have key : ∀ (len : Nat) (r3 : W), len ≤ 200 → IsR r3 → ∃ ms : List Mv, (∃ s8 s9 s10 s11 s12 r4 o, mFor (mRange1 [mVar 4]) (gSet [] 8) (rwB nx my af) (frQ g b cell r3 len ends [] [] Sl.no Sl.no Sl.no Sl.no Sl.no) = .ok .nx (frQ g b cell r4 len ends ms o s8 s9 s10 s11 s12)) ∧ (∀ x ∈ ms, x.M g) ∧ ms.length ≤ 200 := by
    intro len r3 hl hr3
    have hok : okR (len : Int) = true := okR_nat (by omega)
    have hit : mRange1 [mVar 4] (frQ g b cell r3 len ends [] [] Sl.no Sl.no Sl.no Sl.no Sl.no) = .ok (intsW 0 len) (frQ g b cell r3 len ends [] [] Sl.no Sl.no Sl.no Sl.no Sl.no) := by
      unfold frQ
      generalize lsW g = G0 at *
      generalize kW b = B0 at *
      simp -implicitDefEqProofs [ev_var, hok]
    have run : ∃ ms : List Mv, (∃ s8 s9 s10 s11 s12 r4 o, forL (gSet [] 8) (rwB nx my af) (intsW 0 len) (frQ g b cell r3 len ends [] [] Sl.no Sl.no Sl.no Sl.no Sl.no) = .ok .nx (frQ g b cell r4 len ends ms o s8 s9 s10 s11 s12)) ∧ (∀ x ∈ ms, x.M g) ∧ ms.length ≤ 200 := by
      refine for_run (Q := fun (w : W) (z : Nat) => w = .int z ∧ z < len) (P := fun zs ρ => ∃ ms o r4 s8 s9 s10 s11 s12, ρ = frQ g b cell r4 len ends ms o s8 s9 s10 s11 s12 ∧ IsR r4 ∧ OkO g o ∧ (∀ x ∈ ms, x.M g) ∧ ms.length + zs.length = len ∧ o.length ≤ ms.length) (Post := fun q => ∃ ms : List Mv, (∃ s8 s9 s10 s11 s12 r4 o, q = .ok .nx (frQ g b cell r4 len ends ms o s8 s9 s10 s11 s12)) ∧ (∀ x ∈ ms, x.M g) ∧ ms.length ≤ 200) (fun ρ ⟨ms, o, r4, s8, s9, s10, s11, s12, e, h1, h2, h3, h4, h5⟩ => ⟨ms, ⟨s8, s9, s10, s11, s12, r4, o, by rw [e]⟩, h3, by simp at h4; omega⟩) (fun w z zs ρ ⟨q, hz⟩ ⟨ms, o, r4, s8, s9, s10, s11, s12, e, h1, h2, h3, h4, h5⟩ => ?_) (all2_rng len) ⟨[], [], r3, _, _, _, _, _, rfl, hr3, (fun m h => (List.not_mem_nil h).elim), (fun m h => (List.not_mem_nil h).elim), by simp, by simp⟩
      subst q e
      have hml : ms.length ≤ 200 := by omega
      refine ⟨frQ g b cell r4 len ends ms o (Sl.val (.int (z : Int))) s9 s10 s11 s12, by simp [frQ], ?_⟩
      rcases rw_step (b := b) (cell := cell) (len := len) (ends := ends) (ms := ms) (k := z) (s9 := s9) (s10 := s10) (s11 := s11) (s12 := s12) hx hm ha G h1 h2 (by omega) (by omega) with ⟨t, e⟩ | ⟨m, r', t9, t10, t11, t12, q1, q2, e⟩
      · exact .inr (.inl ⟨_, e, ms, ⟨_, _, _, _, _, _, _, rfl⟩, h3, hml⟩)
      · refine .inl ⟨_, .inl e, ms ++ [m], aft o m, r', _, _, _, _, _, rfl, q2, aft_ok h2 q1, fun x hx => ?_, by simp at h4 ⊢; omega, by have := aft_len o m; simp; omega⟩
        rcases List.mem_append.mp hx with hx | hx
        · exact h3 x hx
        · rw [List.mem_singleton.mp hx]; exact q1
    obtain ⟨ms, ⟨s8, s9, s10, s11, s12, r4, o, e⟩, h1, h2⟩ := run
    exact ⟨ms, ⟨s8, s9, s10, s11, s12, r4, o, by rw [ev_for, hit, ev_bo, e]⟩, h1, h2⟩
  have hb : body__law_row rr nx my af = mSeq (mSet [] 3 (mCall [] [] rr [mVar 2])) (mSeq (mSet [] 4 (mCall [] [0] nx [mVar 3, mC (.int 16)])) (mSeq (mIf (mTest (mOp gEq (mCall [] [0] nx [mVar 3, mC (.int 5)]) (mC (.int 0)))) (mSet [] 4 (mOp gAdd (mVar 4) (mCall [] [0] nx [mVar 3, mOp gIx (mLst [] [mC (.int 30), mC (.int 30), mC (.int 30), mC (.int 150)]) (mCall [] [0] nx [mVar 3, mC (.int 4)])]))) (mNext)) (mSeq (mSet [] 5 (mIfE (mTest (mOp gEq (mVar 1) (mC (.str "command")))) (mC (.int 1)) (mOp gIx (mVar 0) (mC (.int 0))))) (mSeq (mSet [] 6 (mLst [] [])) (mSeq (mSet [] 7 (mTup [] [])) (mSeq (mFor (mRange1 [mVar 4]) (gSet [] 8) (rwB nx my af)) (mRet [] (mVar 6)))))))) := rfl
  have first : ∃ (len : Nat) (r3 : W), len ≤ 200 ∧ IsR r3 ∧ ∀ REST : Rho → ML.R Fl, mSeq (mSet [] 3 (mCall [] [] rr [mVar 2])) (mSeq (mSet [] 4 (mCall [] [0] nx [mVar 3, mC (.int 16)])) (mSeq (mIf (mTest (mOp gEq (mCall [] [0] nx [mVar 3, mC (.int 5)]) (mC (.int 0)))) (mSet [] 4 (mOp gAdd (mVar 4) (mCall [] [0] nx [mVar 3, mOp gIx (mLst [] [mC (.int 30), mC (.int 30), mC (.int 30), mC (.int 150)]) (mCall [] [0] nx [mVar 3, mC (.int 4)])]))) (mNext)) (mSeq (mSet [] 5 (mIfE (mTest (mOp gEq (mVar 1) (mC (.str "command")))) (mC (.int 1)) (mOp gIx (mVar 0) (mC (.int 0))))) (mSeq (mSet [] 6 (mLst [] [])) (mSeq (mSet [] 7 (mTup [] [])) REST))))) [Sl.val (lsW g), Sl.val (kW b), Sl.val (.int cell), Sl.no, Sl.no, Sl.no, Sl.no, Sl.no, Sl.no, Sl.no, Sl.no, Sl.no, Sl.no] = REST (frQ g b cell r3 len ends [] [] Sl.no Sl.no Sl.no Sl.no Sl.no) := by
    by_cases cv : v2 = 0
    · subst cv
      obtain ⟨v3, r3, d1, d2, d3⟩ := hx c3 (m := 4) (by omega)
      obtain ⟨q, q1, q2⟩ := at_int (l := [30, 30, 30, 150]) (v := v3) (by simp; omega)
      have hq : 0 < q ∧ q ≤ 150 := by simp at q1; omega
      obtain ⟨v4, r4, f1, f2, f3⟩ := hx d3 (m := (q : Int)) (by omega)
      refine ⟨v1 + v4, r4, by omega, f3, fun REST => ?_⟩
      have hz : ((v1 + v4 : Nat) : Int) = (v1 : Int) + (v4 : Int) := by omega
      unfold frQ
      rw [hz]
      simp at q2 c1
      unfold lsW at *
      generalize pW g = PW at *
      generalize cW g = CW at *
      cases b with
      | true =>
        simp at he
        subst he
        simp -implicitDefEqProofs [ev_var, ev_own, a1, b1, c1, d1, q2, f1]
      | false =>
        simp at he
        subst he
        simp -implicitDefEqProofs [ev_var, ev_own, a1, b1, c1, d1, q2, f1]
    · refine ⟨v1, r2, by omega, c3, fun REST => ?_⟩
      unfold frQ
      unfold lsW at *
      generalize pW g = PW at *
      generalize cW g = CW at *
      cases b with
      | true =>
        simp at he
        subst he
        simp -implicitDefEqProofs [ev_var, ev_own, a1, b1, c1, cv]
      | false =>
        simp at he
        subst he
        simp -implicitDefEqProofs [ev_var, ev_own, a1, b1, c1, cv]
  obtain ⟨len, r3, h1, h2, h3⟩ := first
  obtain ⟨ms, ⟨s8, s9, s10, s11, s12, r4, o, k1⟩, k2, k3⟩ := key len r3 h1 h2
  refine ⟨ms, ?_, k2, k3⟩
  have hf : fun__law_row rr nx my af [lsW g, kW b, .int cell] = finF [] (body__law_row rr nx my af [Sl.val (lsW g), Sl.val (kW b), Sl.val (.int cell), Sl.no, Sl.no, Sl.no, Sl.no, Sl.no, Sl.no, Sl.no, Sl.no, Sl.no, Sl.no]) := rfl
  rw [hf, hb, h3, ev_seq, k1, ev_tn]
  unfold frQ
  simp -implicitDefEqProofs [ev_var, ev_own]
end
end K08

namespace K08
open PySem PySem.Spec PyProof.Rows L2 ML
/-! ### changed texts -/
def T (n : Nat) (x : A) : Prop := x.length ≤ n ∧ ∀ c ∈ x, c < 128
theorem T.cat {n m : Nat} {x y : A} (h : T n x) (h2 : T m y) : T (n + m) (x ++ y) := ⟨by have := h.1; have := h2.1; simp; omega, fun c hc => by
  rcases List.mem_append.mp hc with hc | hc
  · exact h.2 c hc
  · exact h2.2 c hc⟩
theorem T.mono {n m : Nat} {x : A} (h : T n x) (l : n ≤ m) : T m x := ⟨by have := h.1; omega, h.2⟩
theorem T.ok {n : Nat} {x : A} (h : T n x) (l : n ≤ 100) : TxOk x := ⟨by have := h.1; omega, h.2⟩
theorem T.name {x : A} (h : IsName x) : T 8 x := ⟨h.len, fun c hc => by
  rcases h.all c hc with h | h
  · simp [lowC] at h; omega
  · simp [digC] at h; omega⟩
theorem T.num {k : Nat} (h : k < 10) : T 1 (TL.numL k) := by
  rw [num_is h]
  exact ⟨by simp, by simp; omega⟩
theorem T.sub {n : Nat} {x y : A} (h : T n x) (l : y.length ≤ x.length) (s : ∀ c ∈ y, c ∈ x) : T n y := ⟨by have := h.1; omega, fun c hc => h.2 c (s c hc)⟩
theorem T.take {n : Nat} {x : A} (h : T n x) (k : Nat) : T n (x.take k) := h.sub (by simp; omega) fun c hc => List.mem_of_mem_take hc
theorem T.drop {n : Nat} {x : A} (h : T n x) (k : Nat) : T n (x.drop k) := h.sub (by simp) fun c hc => List.mem_of_mem_drop hc
theorem T.opt {k : Option Nat} (h : kOk k) : ∀ w ∈ nk k, T 8 w := by
  cases k with
  | none => simp [nk]
  | some k =>
    intro w hw
    simp [nk] at hw
    rw [hw]
    exact (T.num h).mono (by omega)
theorem T8 {x : A} (h : (decide (x.length ≤ 8) && x.all fun c => decide (c < 128)) = true) : T 8 x := by
  rw [Bool.and_eq_true] at h
  exact ⟨of_decide_eq_true h.1, fun c hc => of_decide_eq_true (List.all_eq_true.mp h.2 c hc)⟩
theorem ws_T : ∀ {m : Mv}, m.Ok → (∀ w ∈ m.ws, T 8 w) ∧ m.ws.length ≤ 4
  | .run, _ => ⟨fun w hw => by simp [Mv.ws] at hw; rw [hw]; exact T8 rfl, by simp [Mv.ws]⟩
  | .call n, h => ⟨fun w hw => by
    simp [Mv.ws] at hw
    rcases hw with rfl | rfl
    · exact T8 rfl
    · exact T.name h, by simp [Mv.ws]⟩
  | .ask n i, h => ⟨fun w hw => by
    simp [Mv.ws] at hw
    rcases hw with rfl | rfl | rfl
    · exact T8 rfl
    · exact T.name h.1
    · exact (T.num h.2).mono (by omega), by simp [Mv.ws]⟩
  | .get c, h => ⟨fun w hw => by
    simp [Mv.ws] at hw
    rcases hw with rfl | rfl
    · exact T8 rfl
    · exact T.name h, by simp [Mv.ws]⟩
  | .set c k, h => ⟨fun w hw => by
    simp [Mv.ws] at hw
    rcases hw with rfl | rfl | rfl
    · exact T8 rfl
    · exact T.name h.1
    · exact (T.num h.2).mono (by omega), by simp [Mv.ws]⟩
  | .ends k, h => ⟨fun w hw => by
    simp only [Mv.ws, List.mem_cons] at hw
    rcases hw with rfl | hw
    · exact T8 rfl
    · exact T.opt h w hw, by cases k <;> simp [Mv.ws, nk]⟩
  | .told n i k, h => ⟨fun w hw => by
    simp only [Mv.ws, List.mem_cons] at hw
    rcases hw with rfl | rfl | rfl | hw
    · exact T8 rfl
    · exact T.name h.1
    · exact (T.num h.2.1).mono (by omega)
    · exact T.opt h.2.2 w hw, by cases k <;> simp [Mv.ws, nk]⟩
  | .back n k, h => ⟨fun w hw => by
    simp only [Mv.ws, List.mem_cons] at hw
    rcases hw with rfl | rfl | hw
    · exact T8 rfl
    · exact T.name h.1
    · exact T.opt h.2 w hw, by cases k <;> simp [Mv.ws, nk]⟩
  | .is c k, h => ⟨fun w hw => by
    simp [Mv.ws] at hw
    rcases hw with rfl | rfl | rfl
    · exact T8 rfl
    · exact T.name h.1
    · exact (T.num h.2).mono (by omega), by simp [Mv.ws]⟩
  | .kept c, h => ⟨fun w hw => by
    simp [Mv.ws] at hw
    rcases hw with rfl | rfl
    · exact T8 rfl
    · exact T.name h, by simp [Mv.ws]⟩
theorem T.join {s : A} (hs : T 2 s) : ∀ {l : List A}, (∀ w ∈ l, T 8 w) → T (10 * l.length) (TL.joinL s l)
  | [], _ => ⟨by simp [TL.joinL], by simp [TL.joinL]⟩
  | [p], h => (h p (by simp)).mono (by simp)
  | p :: q :: r, h => by
    have ih := T.join hs (l := q :: r) fun w hw => h w (List.mem_cons_of_mem _ hw)
    have := (h p (by simp)).cat (hs.cat ih)
    exact this.mono (by simp; omega)
theorem T.move {m : Mv} (h : m.Ok) : T 40 m.tx := by
  obtain ⟨h1, h2⟩ := ws_T h
  exact (T.join (s := [32]) ⟨by simp, by simp⟩ h1).mono (by omega)
theorem sum_le : ∀ {l : List A}, (∀ w ∈ l, T 8 w) → (l.map List.length).sum ≤ 8 * l.length
  | [], _ => by simp
  | p :: l, h => by
    have := (h p (by simp)).1
    have := sum_le (l := l) fun w hw => h w (List.mem_cons_of_mem _ hw)
    simp
    omega
theorem head_up (m : Mv) : ∃ c r d, m.tx = c :: r ∧ d < 128 ∧ Txt.upper (S [c]) = S [d] := by
  cases m with
  | ends k => cases k <;> exact ⟨_, _, 69, rfl, by omega, rfl⟩
  | told n i k => cases k <;> exact ⟨_, _, 84, rfl, by omega, rfl⟩
  | back n k => cases k <;> exact ⟨_, _, 66, rfl, by omega, rfl⟩
  | run => exact ⟨_, _, 82, rfl, by omega, rfl⟩
  | call n => exact ⟨_, _, 67, rfl, by omega, rfl⟩
  | ask n i => exact ⟨_, _, 65, rfl, by omega, rfl⟩
  | get c => exact ⟨_, _, 71, rfl, by omega, rfl⟩
  | set c k => exact ⟨_, _, 83, rfl, by omega, rfl⟩
  | is c k => exact ⟨_, _, 73, rfl, by omega, rfl⟩
  | kept c => exact ⟨_, _, 75, rfl, by omega, rfl⟩
theorem ev_slSd {l : List Nat} {a : Nat} (ha : a ≤ l.length) (hl : l.length ≤ 16777216) : gSl (.str (S l)) (some (a : Int)) none = some (.val, .str (S (l.drop a))) := by
  have e : gSl (.str (S l)) (some (a : Int)) none = if (S l).length ≤ sizeLine then some (.val, .str (cutS (S l) (some (a : Int)) none)) else none := rfl
  rw [e, S_len, line_is, if_pos hl]
  unfold cutS
  rw [HT.sIx_none, HT.sIx_nat, S_len, S_cps, Nat.min_eq_left ha, List.take_of_length_le (by rw [List.length_drop]; omega)]
  rfl
def FlOk (m : List W → FR) : Prop := ∀ {x : Mv} {p : Nat}, x.Ok → p < 10 → ∃ y, m [txW x, .int (p : Int)] = .ok false (tW y) [] ∧ TxOk y
theorem flawed_ok : FlOk fun__law_flawed := by
  intro x p hx hp
  have hT := T.move hx
  obtain ⟨hw, hwl⟩ := ws_T hx
  have hl := hT.1
  have hpos := tx_pos x
  have hs := split_tx hx
  have hl2 : x.tx.length + 2 ≤ sizeLine := by rw [line_is]; omega
  have e1 := ev_lenSS (a := x.tx) (by omega)
  have hi : ((x.tx.length - 1 : Nat) : Int) = (x.tx.length : Int) - 1 := by omega
  have e2 := ev_slSd (l := x.tx) (a := x.tx.length - 1) (by omega) (by omega)
  have e3 := ev_slS0 (l := x.tx) (b := x.tx.length - 1) (by omega)
  rw [hi] at e2 e3
  have hd : T 1 (x.tx.drop (x.tx.length - 1)) := ⟨by simp; omega, fun c hc => hT.2 c (List.mem_of_mem_drop hc)⟩
  have ht := hT.take (x.tx.length - 1)
  have hwS : (x.ws.map S).map W.str = x.ws.map tW := by rw [List.map_map]; rfl
  have hup := head_up x
  generalize x.tx.drop (x.tx.length - 1) = LA at *
  generalize x.tx.take (x.tx.length - 1) = TK at *
  have hTK := ht.1
  have hLA := hd.1
  by_cases p4 : p < 4
  · obtain ⟨y, hy, ey⟩ := at_txt (l := [x.tx ++ [32], 32 :: x.tx, x.tx ++ [10], x.tx ++ [32, 48]]) (v := p) (by simpa using p4)
    refine ⟨y, ?_, ?_⟩
    · have p4' : (p : Int) < 4 := by omega
      show fun__law_flawed [.str (S x.tx), .int (p : Int)] = _
      generalize x.tx = X at *
      simp at ey
      unfold fun__law_flawed body__law_flawed
      simp -implicitDefEqProofs (disch := first | omega | (simp; done) | (simp <;> omega) | fail) [ev_var, ev_own, e1, e2, hs, hl2, p4', ev_addSS, ey]
    · have : ∀ y ∈ ([x.tx ++ [32], 32 :: x.tx, x.tx ++ [10], x.tx ++ [32, 48]] : List A), TxOk y := by
        intro y hy
        simp only [List.mem_cons, List.not_mem_nil, or_false] at hy
        rcases hy with rfl | rfl | rfl | rfl
        · exact (hT.cat (m := 8) (T8 rfl)).ok (by omega)
        · exact (T.cat (n := 8) (x := [32]) (T8 rfl) hT).ok (by omega)
        · exact (hT.cat (m := 8) (T8 rfl)).ok (by omega)
        · exact (hT.cat (m := 8) (T8 rfl)).ok (by omega)
      exact this y hy
  · by_cases p7 : p < 7
    · obtain ⟨y, hy, ey⟩ := at_txt (l := [[48], [43], [45]]) (v := p - 4) (by simp; omega)
      have hi4 : ((p - 4 : Nat) : Int) = (p : Int) - 4 := by omega
      rw [hi4] at ey
      have hyT : T 8 y := by
        simp only [List.mem_cons, List.not_mem_nil, or_false] at hy
        rcases hy with rfl | rfl | rfl <;> exact T8 rfl
      have hyl := hyT.1
      refine ⟨TK ++ (y ++ LA), ?_, (ht.cat (hyT.cat hd)).ok (by omega)⟩
      show fun__law_flawed [.str (S x.tx), .int (p : Int)] = _
      generalize x.tx = X at *
      simp at ey
      have p4' : ¬ (p : Int) < 4 := by omega
      have p7' : (p : Int) < 7 := by omega
      unfold fun__law_flawed body__law_flawed
      simp -implicitDefEqProofs (disch := first | omega | (simp; done) | (simp <;> omega) | fail) [ev_var, ev_own, e1, e2, e3, hs, hl2, p4', p7', ev_addSS, ey]
    · have hsum := sum_le hw
      by_cases p8 : p = 7
      · subst p8
        have ej := ev_joinS (a := [32, 32]) (l := x.ws) (w := .lst (x.ws.map tW)) rfl (by simp; omega)
        refine ⟨TL.joinL [32, 32] x.ws, ?_, (T.join (s := [32, 32]) ⟨by simp, by simp⟩ hw).ok (by omega)⟩
        show fun__law_flawed [.str (S x.tx), .int ((7 : Nat) : Int)] = _
        generalize TL.joinL [32, 32] x.ws = JX at *
        unfold fun__law_flawed body__law_flawed
        rw [← hwS] at ej
        generalize x.tx = X at *
        generalize x.ws.map S = XS at *
        try simp at ej
        simp -implicitDefEqProofs [ev_var, ev_own, e1, e2, hs, hl2, ej]
      · by_cases p9 : p = 8
        · subst p9
          obtain ⟨c, r, d, h1, h2, h3⟩ := hup
          have s1 : gSl (.str (S x.tx)) none (some (1 : Int)) = some (.val, .str (S [c])) := by
            have := ev_slS0 (l := x.tx) (b := 1) (by omega)
            rw [h1] at this ⊢
            exact this
          have s2 : gSl (.str (S x.tx)) (some (1 : Int)) none = some (.val, .str (S r)) := by
            have := ev_slSd (l := x.tx) (a := 1) (by omega) (by omega)
            rw [h1] at this ⊢
            exact this
          have hr : T 40 r := hT.sub (by rw [h1]; simp) fun y hy => by rw [h1]; exact List.mem_cons_of_mem _ hy
          have hrl := hr.1
          refine ⟨d :: r, ?_, (T.cat (n := 8) (x := [d]) ⟨by simp, by simpa using h2⟩ hr).ok (by omega)⟩
          show fun__law_flawed [.str (S x.tx), .int ((8 : Nat) : Int)] = _
          generalize x.tx = X at *
          unfold fun__law_flawed body__law_flawed
          simp -implicitDefEqProofs (disch := first | omega | (simp; done) | (simp <;> omega) | fail) [ev_var, ev_own, e1, e2, hs, hl2, s1, s2, h3, ev_addSS]
        · have p10 : p = 9 := by omega
          subst p10
          have hwt : ∀ w ∈ x.ws.take (x.ws.length - 1), T 8 w := fun w h => hw w (List.mem_of_mem_take h)
          have hsum2 := sum_le hwt
          have hwl2 : (x.ws.take (x.ws.length - 1)).length ≤ 4 := by simp; omega
          have ej := ev_joinS (a := [32]) (l := x.ws.take (x.ws.length - 1)) (w := .lst ((x.ws.take (x.ws.length - 1)).map tW)) rfl (by simp at hsum2 ⊢; omega)
          have hc : cutW (x.ws.map tW) none (some ((x.ws.length : Int) - 1)) = (x.ws.take (x.ws.length - 1)).map tW := by
            have h0 : 0 < x.ws.length := List.length_pos_iff.mpr (ws_ne x)
            have hi : ((x.ws.length - 1 : Nat) : Int) = (x.ws.length : Int) - 1 := by omega
            rw [← hi, ev_cut0, List.map_take]
          refine ⟨TL.joinL [32] (x.ws.take (x.ws.length - 1)), ?_, (T.join (s := [32]) ⟨by simp, by simp⟩ hwt).ok (by omega)⟩
          show fun__law_flawed [.str (S x.tx), .int ((9 : Nat) : Int)] = _
          generalize TL.joinL [32] (x.ws.take (x.ws.length - 1)) = JX at *
          have hlx : (x.ws.map S).length = x.ws.length := by simp
          unfold fun__law_flawed body__law_flawed
          rw [← hwS] at hc
          generalize (x.ws.take (x.ws.length - 1)).map tW = WT at *
          generalize x.tx = X at *
          generalize x.ws.map S = XS at *
          simp -implicitDefEqProofs [ev_var, ev_own, e1, e2, hs, hl2, hlx, hc, ej]
end K08

namespace K08
open PySem PySem.Spec PyProof.Rows L2 ML
/-! ### odd moves -/
theorem T8s {l : List A} (h : (l.all fun x => decide (x.length ≤ 8) && x.all fun c => decide (c < 128)) = true) : ∀ x ∈ l, TxOk x := fun x hx => (T8 (List.all_eq_true.mp h x hx)).ok (by omega)
def OddOk (m : List W → FR) : Prop := ∀ {g : Sg} {r : W}, SgOk g → IsR r → ∃ y r', m [r, lsW g] = .ok false (tW y) [r'] ∧ TxOk y ∧ IsR r'
def strg : List A := [[], [114, 117, 110, 32], [32, 114, 117, 110], [82, 117, 110], [99, 97, 108, 108], [114, 117, 110, 32, 48], [101, 110, 100, 32, 45, 49], [101, 110, 100, 32, 48, 48], [99, 97, 108, 108, 32, 122, 122, 57], [103, 101, 116, 32, 122, 122, 57], [114, 117, 110, 10], [97, 115, 107], [101, 110, 100, 32, 32, 49]]
theorem at_ps {ps : List Tr} {v : Nat} (hv : v < ps.length) : ∃ t ∈ ps, atI (ps.map trW) (v : Int) = some (trW t) := ⟨ps[v], List.getElem_mem hv, by rw [ML.atI_nat, List.getElem?_map, List.getElem?_eq_getElem hv]; rfl⟩
theorem odd_ok {nx : List W → FR} (hx : NextOk nx) : OddOk (fun__law_odd nx) := by
  intro g r G hr
  have z1 := G.z1
  have z2 := G.z2
  obtain ⟨v1, r1, b1, b2, b3⟩ := hx hr (m := (g.z : Int) + 1) (by omega)
  obtain ⟨pick, r2, c1, c2, c3⟩ := hx b3 (m := 6) (by omega)
  have hn1 := ev_strI (n := v1) (by omega)
  have hT1 := T.num (k := v1) (by omega)
  have hl1 := hT1.1
  have hn2 : gStr [.int ((g.z : Int) - 1)] = some (.val, .str (S (TL.numL (g.z - 1)))) := by
    have := ev_strI (n := g.z - 1) (by omega)
    rwa [show ((g.z - 1 : Nat) : Int) = (g.z : Int) - 1 by omega] at this
  have hT2 := T.num (k := g.z - 1) (by omega)
  have hl2 := hT2.1
  have l13 : (13 ≤ sizeLine) = True := by simp [line_is]
  have l8 : (8 ≤ sizeLine) = True := by simp [line_is]
  have l5 : (5 ≤ sizeLine) = True := by simp [line_is]
  have l10 : (10 ≤ sizeLine) = True := by simp [line_is]
  have hps : (g.ps.map trW).length = g.ps.length := by simp
  have hcs : (g.cs.map tW).length = g.cs.length := by simp
  generalize TL.numL v1 = N1 at *
  generalize TL.numL (g.z - 1) = N2 at *
  by_cases p0 : pick = 0
  · subst p0
    obtain ⟨v3, r3, d1, d2, d3⟩ := hx c3 (m := 13) (by omega)
    obtain ⟨y, hy, ey⟩ := at_txt (l := strg) (v := v3) (by have : strg.length = 13 := rfl; omega)
    refine ⟨y, r3, ?_, T8s (l := strg) (by decide) y hy, d3⟩
    unfold strg at ey
    unfold lsW
    generalize pW g = PW at *
    generalize cW g = CW at *
    simp at ey c1
    unfold fun__law_odd body__law_odd
    simp -implicitDefEqProofs [ev_var, ev_own, b1, hn1, l13, c1, d1, ey]
  · have p0' : ¬ (pick : Int) = 0 := by omega
    by_cases p1 : pick = 1 ∨ g.ps.length + g.cs.length = 0
    · obtain ⟨v3, r3, d1, d2, d3⟩ := hx c3 (m := 4) (by omega)
      obtain ⟨y, hy, ey⟩ := at_txt (l := [[114, 117, 110], [101, 110, 100], [101, 110, 100, 32] ++ N1, [101, 110, 100, 32] ++ N2]) (v := v3) (by simp; omega)
      refine ⟨y, r3, ?_, ?_, d3⟩
      · have a1 := ev_addSS (a := [101, 110, 100, 32]) (b := N1) (by simp; omega)
        have a2 := ev_addSS (a := [101, 110, 100, 32]) (b := N2) (by simp; omega)
        unfold lsW pW cW
        generalize g.ps.map trW = PS at *
        generalize g.cs.map tW = CS at *
        simp at ey a1 a2
        unfold fun__law_odd body__law_odd
        by_cases p1' : pick = 1
        · subst p1'
          simp at c1
          simp -implicitDefEqProofs [ev_var, ev_own, b1, hn1, l13, c1, a1, a2, hn2, d1, ey]
        · have p1'' : ¬ (pick : Int) = 1 := by omega
          have hz : (PS.length : Int) + (CS.length : Int) = 0 := by
            have := p1.resolve_left p1'
            omega
          simp -implicitDefEqProofs [ev_var, ev_own, b1, hn1, l13, c1, p0, p0', p1', p1'', hz, a1, a2, hn2, d1, ey]
      · have : ∀ y ∈ ([[114, 117, 110], [101, 110, 100], [101, 110, 100, 32] ++ N1, [101, 110, 100, 32] ++ N2] : List A), TxOk y := by
          intro y hy
          simp only [List.mem_cons, List.not_mem_nil, or_false] at hy
          rcases hy with rfl | rfl | rfl | rfl
          · exact (T8 rfl).ok (by omega)
          · exact (T8 rfl).ok (by omega)
          · exact (T.cat (n := 8) (T8 rfl) hT1).ok (by omega)
          · exact (T.cat (n := 8) (T8 rfl) hT2).ok (by omega)
        exact this y hy
    · have p1' : ¬ (pick : Int) = 1 := fun h => p1 (.inl (by omega))
      have p1n : ¬ pick = 1 := fun h => p1 (.inl h)
      have hs0 : ¬ (((g.ps.map trW).length : Int) + ((g.cs.map tW).length : Int) = 0) := fun h => p1 (.inr (by rw [hps, hcs] at h; omega))
      by_cases p2 : g.ps.length = 0 ∨ (0 < g.cs.length ∧ pick = 2)
      · have hcl : 0 < g.cs.length := by
          rcases p2 with h | h
          · rcases Nat.eq_zero_or_pos g.cs.length with h2 | h2
            · exact absurd (.inr (by omega)) p1
            · exact h2
          · exact h.1
        obtain ⟨v3, r3, d1, d2, d3⟩ := hx c3 (m := ((g.cs.map tW).length : Int)) (by rw [hcs]; omega)
        obtain ⟨c, hc, ec⟩ := at_txt (l := g.cs) (v := v3) (by rw [hcs] at d2; omega)
        have hcT := T.name (G.cn c hc)
        have hclen := hcT.1
        obtain ⟨v4, r4, f1, f2, f3⟩ := hx d3 (m := 8) (by omega)
        obtain ⟨y, hy, ey⟩ := at_txt (l := [[103, 101, 116, 32], [115, 101, 116, 32], [105, 115, 32], [107, 101, 112, 116, 32], [115, 101, 116, 32], [105, 115, 32], [99, 97, 108, 108, 32], [107, 101, 112, 116, 32]]) (v := v4) (by simp; omega)
        obtain ⟨u, hu, eu⟩ := at_txt (l := [[], 32 :: N1, 32 :: N1, [], [], [], [], [32, 48]]) (v := v4) (by simp; omega)
        have hyT : T 8 y := by
          simp only [List.mem_cons, List.not_mem_nil, or_false] at hy
          rcases hy with rfl | rfl | rfl | rfl | rfl | rfl | rfl | rfl <;> exact T8 rfl
        have huT : T 9 u := by
          simp only [List.mem_cons, List.not_mem_nil, or_false] at hu
          rcases hu with rfl | rfl | rfl | rfl | rfl | rfl | rfl | rfl
          · exact (T8 rfl).mono (by omega)
          · exact T.cat (n := 8) (x := [32]) (T8 rfl) hT1
          · exact T.cat (n := 8) (x := [32]) (T8 rfl) hT1
          · exact (T8 rfl).mono (by omega)
          · exact (T8 rfl).mono (by omega)
          · exact (T8 rfl).mono (by omega)
          · exact (T8 rfl).mono (by omega)
          · exact (T8 rfl).mono (by omega)
        have hyl := hyT.1
        have hul := huT.1
        refine ⟨y ++ (c ++ u), r4, ?_, (hyT.cat (hcT.cat huT)).ok (by omega), f3⟩
        have a1 := ev_addSS (a := [32]) (b := N1) (by simp; omega)
        have a2 := ev_addSS (a := y) (b := c) (by omega)
        have a3 := ev_addSS (a := y ++ c) (b := u) (by simp; omega)
        rw [List.append_assoc] at a3
        have q0 : ((g.ps.map trW).length : Int) = (g.ps.length : Int) := by rw [hps]
        have q1 : (0 : Int) < ((g.cs.map tW).length : Int) := by rw [hcs]; omega
        unfold lsW pW cW
        generalize g.ps.map trW = PS at *
        generalize g.cs.map tW = CS at *
        generalize y ++ (c ++ u) = YCU at *
        generalize y ++ c = YC at *
        generalize g.ps.length = np at *
        simp at ey eu a1
        have q1' : 0 < CS.length := by omega
        have hs0' : ¬ ((np : Int) + (CS.length : Int) = 0) := by rw [hps] at hs0; exact hs0
        unfold fun__law_odd body__law_odd
        by_cases h0 : (np : Int) = 0
        · have h0n : np = 0 := by omega
          rw [h0] at hs0'
          simp at hs0'
          simp -implicitDefEqProofs [ev_var, ev_own, b1, hn1, l13, c1, p0, p0', p1n, p1', hps, h0, h0n, hs0', d1, ec, l8, f1, ey, a1, a2, a3, eu]
        · have h0n : ¬ np = 0 := by omega
          have pk2n : pick = 2 := (p2.resolve_left h0n).2
          subst pk2n
          simp at c1
          simp -implicitDefEqProofs [ev_var, ev_own, b1, hn1, l13, c1, hps, hs0', h0, h0n, q1, q1', d1, ec, l8, f1, ey, a1, a2, a3, eu]
      · have hpl : 0 < g.ps.length := Nat.pos_of_ne_zero fun h => p2 (.inl h)
        obtain ⟨v3, r3, d1, d2, d3⟩ := hx c3 (m := ((g.ps.map trW).length : Int)) (by rw [hps]; omega)
        obtain ⟨t, ht, et⟩ := at_ps (ps := g.ps) (v := v3) (by rw [hps] at d2; omega)
        obtain ⟨t1, t2⟩ := G.pn t ht
        have hnT := T.name t1
        have hnl := hnT.1
        have hpl2 : (t.2.1.map kW).length = t.2.1.length := by simp
        obtain ⟨v4, r4, f1, f2, f3⟩ := hx d3 (m := ((t.2.1.map kW).length : Int) + 1) (by omega)
        have hn3 := ev_strI (n := v4) (by rw [hpl2] at f2; omega)
        have hT3 := T.num (k := v4) (by rw [hpl2] at f2; omega)
        have hl3 := hT3.1
        obtain ⟨v5, r5, k1, k2, k3⟩ := hx f3 (m := 10) (by omega)
        generalize TL.numL v4 = N3 at *
        generalize hnm : t.1 = nm at *
        obtain ⟨y, hy, ey⟩ := at_txt (l := [[99, 97, 108, 108, 32] ++ nm, [97, 115, 107, 32] ++ (nm ++ 32 :: N3), [98, 97, 99, 107, 32] ++ nm, [98, 97, 99, 107, 32] ++ (nm ++ (32 :: N1)), [116, 111, 108, 100, 32] ++ (nm ++ 32 :: N3), [116, 111, 108, 100, 32] ++ (nm ++ 32 :: (N3 ++ (32 :: N1))), [97, 115, 107, 32] ++ nm, [116, 111, 108, 100, 32] ++ nm, [99, 97, 108, 108, 32] ++ (nm ++ [32]), [103, 101, 116, 32] ++ nm]) (v := v5) (by simp; omega)
        have h32 : T 8 [32] := T8 rfl
        have hyT : TxOk y := by
          have hI : T 9 (32 :: N3) := T.cat (n := 8) (x := [32]) h32 hT3
          have hJ : T 9 (32 :: N1) := T.cat (n := 8) (x := [32]) h32 hT1
          have hIJ : T 18 (32 :: (N3 ++ (32 :: N1))) := T.cat (n := 9) (x := 32 :: N3) hI hJ
          have : ∀ y ∈ ([[99, 97, 108, 108, 32] ++ nm, [97, 115, 107, 32] ++ (nm ++ 32 :: N3), [98, 97, 99, 107, 32] ++ nm, [98, 97, 99, 107, 32] ++ (nm ++ (32 :: N1)), [116, 111, 108, 100, 32] ++ (nm ++ 32 :: N3), [116, 111, 108, 100, 32] ++ (nm ++ 32 :: (N3 ++ (32 :: N1))), [97, 115, 107, 32] ++ nm, [116, 111, 108, 100, 32] ++ nm, [99, 97, 108, 108, 32] ++ (nm ++ [32]), [103, 101, 116, 32] ++ nm] : List A), TxOk y := by
            intro y hy
            simp only [List.mem_cons, List.not_mem_nil, or_false] at hy
            rcases hy with rfl | rfl | rfl | rfl | rfl | rfl | rfl | rfl | rfl | rfl
            · exact (T.cat (n := 8) (T8 rfl) hnT).ok (by omega)
            · exact (T.cat (n := 8) (T8 rfl) (hnT.cat hI)).ok (by omega)
            · exact (T.cat (n := 8) (T8 rfl) hnT).ok (by omega)
            · exact (T.cat (n := 8) (T8 rfl) (hnT.cat hJ)).ok (by omega)
            · exact (T.cat (n := 8) (T8 rfl) (hnT.cat hI)).ok (by omega)
            · exact (T.cat (n := 8) (T8 rfl) (hnT.cat hIJ)).ok (by omega)
            · exact (T.cat (n := 8) (T8 rfl) hnT).ok (by omega)
            · exact (T.cat (n := 8) (T8 rfl) hnT).ok (by omega)
            · exact (T.cat (n := 8) (T8 rfl) (hnT.cat h32)).ok (by omega)
            · exact (T.cat (n := 8) (T8 rfl) hnT).ok (by omega)
          exact this y hy
        refine ⟨y, r5, ?_, hyT, k3⟩
        have q0 : ¬ ((g.ps.length : Int) = 0) := by omega
        have q0n : ¬ g.ps.length = 0 := by omega
        have q3 : ¬ ((0 : Int) < (g.cs.length : Int) ∧ (pick : Int) = 2) := fun h => p2 (.inr ⟨by omega, by omega⟩)
        have hs0' : ¬ ((g.ps.length : Int) + (g.cs.length : Int) = 0) := by rw [hps, hcs] at hs0; exact hs0
        have etw : trW t = .tup [tW nm, .tup (t.2.1.map kW), kW t.2.2] := by rw [← hnm]; rfl
        rw [etw] at et
        rw [hpl2] at f1
        rw [hps] at d1
        unfold lsW pW cW
        generalize g.ps.map trW = PS at *
        generalize g.cs.map tW = CS at *
        generalize t.2.1.map kW = KS at *
        generalize kW t.2.2 = KR at *
        generalize g.ps.length = np at *
        generalize g.cs.length = nc at *
        generalize t.2.1.length = nk at *
        simp at ey
        unfold fun__law_odd body__law_odd
        by_cases hc0 : (0 : Int) < (nc : Int)
        · have pk2 : ¬ (pick : Int) = 2 := fun h => q3 ⟨hc0, h⟩
          have pk2n : ¬ pick = 2 := fun h => pk2 (by omega)
          have hc0n : 0 < nc := by omega
          simp -implicitDefEqProofs (disch := first | omega | (simp; done) | (simp <;> omega) | fail) [ev_var, ev_own, b1, hn1, l13, c1, p0, p0', p1n, p1', hps, hcs, hs0', q0, q0n, hc0, hc0n, pk2, pk2n, d1, et, hpl2, f1, hn3, l5, l10, ev_addSS, k1, ey]
        · have hc0n : ¬ 0 < nc := by omega
          simp -implicitDefEqProofs (disch := first | omega | (simp; done) | (simp <;> omega) | fail) [ev_var, ev_own, b1, hn1, l13, c1, p0, p0', p1n, p1', hps, hcs, hs0', q0, q0n, hc0, hc0n, d1, et, hpl2, f1, hn3, l5, l10, ev_addSS, k1, ey]
end K08

namespace K08
open PySem PySem.Spec PyProof.Rows L2 ML
/-! ### a changed row -/
def RowW (n : Nat) (L : List W) : Prop := ∃ xs : List A, L = xs.map tW ∧ (∀ x ∈ xs, TxOk x) ∧ xs.length ≤ n
theorem RowW.len {n : Nat} {L : List W} (h : RowW n L) : L.length ≤ n := by
  obtain ⟨xs, rfl, _, h2⟩ := h
  simpa using h2
theorem RowW.app {n m : Nat} {L M : List W} (h : RowW n L) (h2 : RowW m M) : RowW (n + m) (L ++ M) := by
  obtain ⟨xs, rfl, a1, a2⟩ := h
  obtain ⟨ys, rfl, b1, b2⟩ := h2
  refine ⟨xs ++ ys, by simp, fun x hx => ?_, by simp; omega⟩
  rcases List.mem_append.mp hx with hx | hx
  · exact a1 x hx
  · exact b1 x hx
theorem RowW.one {x : A} (h : TxOk x) : RowW 1 [tW x] := ⟨[x], rfl, fun y hy => by rw [List.mem_singleton.mp hy]; exact h, by simp⟩
theorem RowW.cut {n : Nat} {L : List W} (h : RowW n L) (lo hi : Option Int) : RowW n (cutW L lo hi) := by
  obtain ⟨xs, rfl, a1, a2⟩ := h
  unfold cutW
  rw [← List.map_drop, ← List.map_take]
  exact ⟨_, rfl, fun x hx => a1 x (List.mem_of_mem_drop (List.mem_of_mem_take hx)), by simp; omega⟩
theorem RowW.mono {n m : Nat} {L : List W} (h : RowW n L) (l : n ≤ m) : RowW m L := by
  obtain ⟨xs, e, a1, a2⟩ := h
  exact ⟨xs, e, a1, by omega⟩
def ChOk (m : List W → FR) : Prop := ∀ {g : Sg} {r : W} {ms : List Mv}, SgOk g → IsR r → (∀ x ∈ ms, x.M g) → ms.length ≤ 200 → ∃ L r', m [r, lsW g, .lst (ms.map txW)] = .ok true (.lst L) [r'] ∧ RowW 900 L
def chT : Rho → ML.R Fl := mSeq (mIf (mTest (mOp (gCmp (fun i j => decide (i < j))) (mVar 3) (mC (.int 3)))) (mRet [0] (mOp gAdd (mOp gAdd (mSl (mVar 2) none (some (mVar 4))) (mLst [0] [mVar 5])) (mSl (mVar 2) (some (mOp gAdd (mVar 4) (mC (.int 1)))) none))) (mNext)) (mSeq (mIf (mTest (mOp gEq (mVar 3) (mC (.int 3)))) (mRet [0] (mOp gAdd (mOp gAdd (mSl (mVar 2) none (some (mVar 4))) (mLst [0] [mVar 5])) (mSl (mVar 2) (some (mVar 4)) none))) (mNext)) (mSeq (mIf (mTest (mOp gEq (mVar 3) (mC (.int 4)))) (mRet [0] (mOp gAdd (mSl (mVar 2) none (some (mVar 4))) (mSl (mVar 2) (some (mOp gAdd (mVar 4) (mC (.int 1)))) none))) (mNext)) (mSeq (mIf (mTest (mOp gEq (mVar 3) (mC (.int 5)))) (mRet [0] (mOp gAdd (mOp gAdd (mSl (mVar 2) none (some (mVar 4))) (mSl (mVar 2) (some (mVar 4)) (some (mOp gAdd (mVar 4) (mC (.int 1)))))) (mSl (mVar 2) (some (mVar 4)) none))) (mNext)) (mSeq (mIf (mTest (mOp gEq (mVar 3) (mC (.int 6)))) (mRet [0] (mOp gAdd (mOp gAdd (mOp gAdd (mSl (mVar 2) none (some (mVar 4))) (mSl (mVar 2) (some (mOp gAdd (mVar 4) (mC (.int 1)))) (some (mOp gAdd (mVar 4) (mC (.int 2)))))) (mSl (mVar 2) (some (mVar 4)) (some (mOp gAdd (mVar 4) (mC (.int 1)))))) (mSl (mVar 2) (some (mOp gAdd (mVar 4) (mC (.int 2)))) none))) (mNext)) (mRet [0] (mOp gAdd (mVar 2) (mLst [0] [mVar 5])))))))
theorem ch_tail {r sg : W} {L : List W} {d a : Int} {x : A} (hL : RowW 200 L) (hx : TxOk x) (hd : 0 ≤ d) : ∃ M, chT [Sl.own r, Sl.val sg, Sl.val (.lst L), Sl.val (.int d), Sl.val (.int a), Sl.val (tW x)] = .ok (.rt .fre (.lst M)) [Sl.own r, Sl.val sg, Sl.val (.lst L), Sl.val (.int d), Sl.val (.int a), Sl.val (tW x)] ∧ RowW 900 M := by
  have h0 := hL.cut none (some a)
  have h1 := hL.cut (some (a + 1)) none
  have h2 := hL.cut (some a) none
  have h3 := hL.cut (some a) (some (a + 1))
  have h4 := hL.cut (some (a + 1)) (some (a + 2))
  have h5 := hL.cut (some (a + 2)) none
  obtain ⟨A0, e0⟩ : ∃ A0, cutW L none (some a) = A0 := ⟨_, rfl⟩
  obtain ⟨A1, e1⟩ : ∃ A1, cutW L (some (a + 1)) none = A1 := ⟨_, rfl⟩
  obtain ⟨A2, e2⟩ : ∃ A2, cutW L (some a) none = A2 := ⟨_, rfl⟩
  obtain ⟨A3, e3⟩ : ∃ A3, cutW L (some a) (some (a + 1)) = A3 := ⟨_, rfl⟩
  obtain ⟨A4, e4⟩ : ∃ A4, cutW L (some (a + 1)) (some (a + 2)) = A4 := ⟨_, rfl⟩
  obtain ⟨A5, e5⟩ : ∃ A5, cutW L (some (a + 2)) none = A5 := ⟨_, rfl⟩
  rw [e0] at h0
  rw [e1] at h1
  rw [e2] at h2
  rw [e3] at h3
  rw [e4] at h4
  rw [e5] at h5
  have l0 := h0.len
  have l1' := h1.len
  have l2' := h2.len
  have l3' := h3.len
  have l4' := h4.len
  have l5' := h5.len
  have lL := hL.len
  have o := RowW.one hx
  have q1 : A0.length + 1 ≤ sizeLine := by rw [line_is]; omega
  have q2 : A0.length + 1 + A1.length ≤ sizeLine := by rw [line_is]; omega
  have q3 : A0.length + 1 + A2.length ≤ sizeLine := by rw [line_is]; omega
  have q4 : A0.length + A1.length ≤ sizeLine := by rw [line_is]; omega
  have q5 : A0.length + A3.length ≤ sizeLine := by rw [line_is]; omega
  have q6 : A0.length + A3.length + A2.length ≤ sizeLine := by rw [line_is]; omega
  have q7 : A0.length + A4.length ≤ sizeLine := by rw [line_is]; omega
  have q8 : A0.length + A4.length + A3.length ≤ sizeLine := by rw [line_is]; omega
  have q9 : A0.length + A4.length + A3.length + A5.length ≤ sizeLine := by rw [line_is]; omega
  have q10 : L.length + 1 ≤ sizeLine := by rw [line_is]; omega
  have q9' : A0.length + (A4.length + A3.length) + A5.length ≤ sizeLine := by rw [line_is]; omega
  have q5' : A0.length + (A3.length + A2.length) ≤ sizeLine := by rw [line_is]; omega
  generalize tW x = MX at *
  unfold chT
  by_cases d3 : d < 3
  · refine ⟨A0 ++ [MX] ++ A1, ?_, ((h0.app o).app h1).mono (by omega)⟩
    simp -implicitDefEqProofs [ev_var, ev_own, d3, e0, e1, q1, q2]
  · by_cases d3' : d = 3
    · subst d3'
      refine ⟨A0 ++ [MX] ++ A2, ?_, ((h0.app o).app h2).mono (by omega)⟩
      simp -implicitDefEqProofs [ev_var, ev_own, e0, e2, q1, q3]
    · by_cases d4 : d = 4
      · subst d4
        refine ⟨A0 ++ A1, ?_, (h0.app h1).mono (by omega)⟩
        simp -implicitDefEqProofs [ev_var, ev_own, e0, e1, q4]
      · by_cases d5 : d = 5
        · subst d5
          refine ⟨A0 ++ A3 ++ A2, ?_, ((h0.app h3).app h2).mono (by omega)⟩
          simp -implicitDefEqProofs [ev_var, ev_own, e0, e2, e3, q5, q6]
        · by_cases d6 : d = 6
          · subst d6
            refine ⟨A0 ++ A4 ++ A3 ++ A5, ?_, (((h0.app h4).app h3).app h5).mono (by omega)⟩
            simp -implicitDefEqProofs [ev_var, ev_own, e0, e3, e4, e5, q7, q8, q9, q9']
          · refine ⟨L ++ [MX], ?_, (hL.app o).mono (by omega)⟩
            simp -implicitDefEqProofs [ev_var, ev_own, d3, d3', d4, d5, d6, q10]
theorem row_of {g : Sg} {ms : List Mv} (h : ∀ x ∈ ms, x.M g) (hl : ms.length ≤ 200) : RowW 200 (ms.map txW) := ⟨ms.map Mv.tx, by rw [List.map_map]; rfl, fun x hx => by
  obtain ⟨m, hm, rfl⟩ := List.mem_map.mp hx
  exact (T.move (h m hm).1).ok (by omega), by simpa using hl⟩
theorem at_mv {ms : List Mv} {v : Nat} (hv : v < ms.length) : ∃ m ∈ ms, atI (ms.map txW) (v : Int) = some (txW m) := ⟨ms[v], List.getElem_mem hv, by rw [ML.atI_nat, List.getElem?_map, List.getElem?_eq_getElem hv]; rfl⟩
theorem changed_ok {nx od fl : List W → FR} (hx : NextOk nx) (ho : OddOk od) (hf : FlOk fl) : ChOk (fun__law_changed nx od fl) := by
  intro g r ms G hr hM hl
  obtain ⟨d, r1, a1, a2, a3⟩ := hx hr (m := 11) (by omega)
  have hlm : (ms.map txW).length = ms.length := by simp
  obtain ⟨at_, r2, b1, b2, b3⟩ := hx a3 (m := (ms.length : Int) + 1) (by omega)
  obtain ⟨y, r3, c1, c2, c3⟩ := ho G b3
  have hL := row_of hM hl
  by_cases hc : 7 < d ∧ at_ < ms.length
  · obtain ⟨p, r4, d1, d2, d3⟩ := hx c3 (m := 10) (by omega)
    obtain ⟨m, hm, em⟩ := at_mv (ms := ms) (v := at_) hc.2
    obtain ⟨z, f1, f2⟩ := hf (x := m) (p := p) (hM m hm).1 (by omega)
    obtain ⟨M, e, hMM⟩ := ch_tail (r := r4) (sg := lsW g) (L := ms.map txW) (d := 0) (a := (at_ : Int)) (x := z) hL f2 (by omega)
    refine ⟨M, r4, ?_, hMM⟩
    have hb : body__law_changed nx od fl = mSeq (mSet [0] 3 (mCall [0] [0] nx [mVar 0, mC (.int 11)])) (mSeq (mSet [0] 4 (mCall [0] [0] nx [mVar 0, mOp gAdd (mCB gLen [mVar 2]) (mC (.int 1))])) (mSeq (mSet [0] 5 (mCall [0] [0] od [mVar 0, mVar 1])) (mSeq (mIf (mAnd (mTest (mOp (gCmp (fun i j => decide (j < i))) (mVar 3) (mC (.int 7)))) (mTest (mOp (gCmp (fun i j => decide (i < j))) (mVar 4) (mCB gLen [mVar 2])))) (mSeq (mSet [0] 5 (mCall [0] [] fl [mOp gIx (mVar 2) (mVar 4), mCall [0] [0] nx [mVar 0, mC (.int 10)]])) (mSet [0] 3 (mC (.int 0)))) (mNext)) chT))) := rfl
    have hfun : fun__law_changed nx od fl [r, lsW g, .lst (ms.map txW)] = finF [0] (body__law_changed nx od fl [Sl.own r, Sl.val (lsW g), Sl.val (.lst (ms.map txW)), Sl.no, Sl.no, Sl.no]) := rfl
    rw [hfun, hb]
    have h7 : (7 : Int) < (d : Int) := by omega
    have h8 : (at_ : Int) < (ms.length : Int) := by omega
    have h7n := hc.1
    have h8n := hc.2
    generalize lsW g = SG at *
    generalize ms.map txW = ML0 at *
    generalize txW m = MW at *
    generalize chT = CT0 at *
    generalize ms.length = n at *
    simp -implicitDefEqProofs [ev_var, ev_own, a1, hlm, b1, c1, h7, h8, h7n, h8n, em, d1, f1, e]
  · obtain ⟨M, e, hMM⟩ := ch_tail (r := r3) (sg := lsW g) (L := ms.map txW) (d := (d : Int)) (a := (at_ : Int)) (x := y) hL c2 (by omega)
    refine ⟨M, r3, ?_, hMM⟩
    have hb : body__law_changed nx od fl = mSeq (mSet [0] 3 (mCall [0] [0] nx [mVar 0, mC (.int 11)])) (mSeq (mSet [0] 4 (mCall [0] [0] nx [mVar 0, mOp gAdd (mCB gLen [mVar 2]) (mC (.int 1))])) (mSeq (mSet [0] 5 (mCall [0] [0] od [mVar 0, mVar 1])) (mSeq (mIf (mAnd (mTest (mOp (gCmp (fun i j => decide (j < i))) (mVar 3) (mC (.int 7)))) (mTest (mOp (gCmp (fun i j => decide (i < j))) (mVar 4) (mCB gLen [mVar 2])))) (mSeq (mSet [0] 5 (mCall [0] [] fl [mOp gIx (mVar 2) (mVar 4), mCall [0] [0] nx [mVar 0, mC (.int 10)]])) (mSet [0] 3 (mC (.int 0)))) (mNext)) chT))) := rfl
    have hfun : fun__law_changed nx od fl [r, lsW g, .lst (ms.map txW)] = finF [0] (body__law_changed nx od fl [Sl.own r, Sl.val (lsW g), Sl.val (.lst (ms.map txW)), Sl.no, Sl.no, Sl.no]) := rfl
    rw [hfun, hb]
    generalize lsW g = SG at *
    generalize ms.map txW = ML0 at *
    generalize chT = CT0 at *
    generalize ms.length = n at *
    by_cases h7 : (7 : Int) < (d : Int)
    · have h7n : 7 < d := by omega
      have h8n : ¬ at_ < n := fun h => hc ⟨h7n, h⟩
      have h8 : ¬ (at_ : Int) < (n : Int) := by omega
      simp -implicitDefEqProofs [ev_var, ev_own, a1, hlm, b1, c1, h7, h7n, h8, h8n, e]
    · have h7n : ¬ 7 < d := by omega
      simp -implicitDefEqProofs [ev_var, ev_own, a1, hlm, b1, c1, h7, h7n, e]
end K08

namespace K08
open PySem PySem.Spec PyProof.Rows L2 ML
/-! ### the law -/
def AJ (ju ag : List W → FR) (g : Sg) : Prop := ∀ {L : List W}, RowW 1000 L → ∀ b : Bool, ∃ due, ju [lsW g, kW b, .lst L] = .ok true due [] ∧ ∀ ls : Bool, ag [objW g, kW b, .lst L, due, .bl ls] = .ok false (.bl true) []
theorem aj_ok {ju ag : List W → FR} (hj : JudgeOk ju) (ha : AgOk ag) {g : Sg} (G : SgOk g) : AJ ju ag g := by
  intro L ⟨xs, e, h1, h2⟩ b
  subst e
  exact ⟨_, hj G h2, fun ls => ha G h1 h2⟩
def own4 (s4 : Sl) (g : Sg) : Prop := s4 = Sl.own (objW g) ∨ s4 = Sl.val (objW g)
def lwB1 (ju ag : List W → FR) : Rho → ML.R Fl := mSeq (mSet [] 7 (mSl (mVar 5) none (some (mVar 6)))) (mIf (mNot (mTest (mCall [] [] ag [mVar 4, mVar 2, mVar 7, mCall [] [] ju [mVar 1, mVar 2, mVar 7], mVar 3]))) (mRet [] (mC (.bl false))) (mNext))
def lwB2 (ce ju ag re ch : List W → FR) : Rho → ML.R Fl := mSeq (mSet [] 10 (mCall [] [] re [mCall [] [] ce [mVar 0, mOp gAdd (mC (.int 3)) (mVar 9)]])) (mSeq (mSet [] 11 (mCall [] [0] ch [mVar 10, mVar 1, mVar 5])) (mIf (mNot (mTest (mCall [] [] ag [mVar 4, mVar 2, mVar 11, mCall [] [] ju [mVar 1, mVar 2, mVar 11], mNotV (mVar 3)]))) (mRet [] (mC (.bl false))) (mNext)))
def frL (sc : W) (g : Sg) (b ls : Bool) (s4 s5 s6 s7 s8 s9 s10 s11 : Sl) : Rho := [Sl.val sc, Sl.val (lsW g), Sl.val (kW b), Sl.val (.bl ls), s4, s5, s6, s7, s8, s9, s10, s11]
section
variable {ce ju ag re ch : List W → FR} {sc : W} {g : Sg} {b ls : Bool} {s6 s7 s8 s9 s10 s11 : Sl}
theorem lw_b1 (hA : AJ ju ag g) {L : List W} (hL : RowW 200 L) {n : Nat} {s4 : Sl} (h4 : own4 s4 g) : ∃ t4 t7, own4 t4 g ∧ lwB1 ju ag (frL sc g b ls s4 (Sl.own (.lst L)) (Sl.val (.int (n : Int))) s7 s8 s9 s10 s11) = .ok .nx (frL sc g b ls t4 (Sl.own (.lst L)) (Sl.val (.int (n : Int))) t7 s8 s9 s10 s11) := by
  obtain ⟨C, eC⟩ : ∃ C, cutW L none (some (n : Int)) = C := ⟨_, rfl⟩
  have hC := (hL.cut none (some (n : Int))).mono (show 200 ≤ 1000 by omega)
  rw [eC] at hC
  obtain ⟨due, e1, e2⟩ := hA hC b
  have e2 := e2 ls
  refine ⟨Sl.val (objW g), Sl.val (.lst C), .inr rfl, ?_⟩
  unfold frL lwB1
  unfold own4 at h4
  generalize objW g = OG at *
  generalize lsW g = LG at *
  generalize kW b = KB at *
  rcases h4 with rfl | rfl
  · simp -implicitDefEqProofs [ev_var, ev_own, eC, e1, e2]
  · simp -implicitDefEqProofs [ev_var, ev_own, eC, e1, e2]
theorem lw_one (hA : AJ ju ag g) {L : List W} (hL : RowW 200 L) {s4 s5 : Sl} (h4 : own4 s4 g) (h5 : s5 = Sl.own (.lst L) ∨ s5 = Sl.val (.lst L)) {b' : Bool} :
    mIf (mNot (mTest (mCall [] [] ag [mVar 4, mVar 8, mVar 5, mCall [] [] ju [mVar 1, mVar 8, mVar 5], mVar 3]))) (mRet [] (mC (.bl false))) (mNext) (frL sc g b ls s4 s5 s6 s7 (Sl.val (kW b')) s9 s10 s11) = .ok .nx (frL sc g b ls (Sl.val (objW g)) (Sl.val (.lst L)) s6 s7 (Sl.val (kW b')) s9 s10 s11) := by
  obtain ⟨due, e1, e2⟩ := hA (hL.mono (show 200 ≤ 1000 by omega)) b'
  have e2 := e2 ls
  unfold frL
  unfold own4 at h4
  generalize objW g = OG at *
  generalize lsW g = LG at *
  generalize kW b = KB at *
  generalize kW b' = KB' at *
  rcases h4 with rfl | rfl
  · rcases h5 with rfl | rfl
    · simp -implicitDefEqProofs [ev_var, ev_own, e1, e2]
    · simp -implicitDefEqProofs [ev_var, ev_own, e1, e2]
  · rcases h5 with rfl | rfl
    · simp -implicitDefEqProofs [ev_var, ev_own, e1, e2]
    · simp -implicitDefEqProofs [ev_var, ev_own, e1, e2]
theorem lw_last (hA : AJ ju ag g) {L : List W} (hL : RowW 200 L) : mRet [] (mCall [] [] ag [mVar 4, mVar 2, mVar 5, mCall [] [] ju [mVar 1, mVar 2, mVar 5], mNotV (mVar 3)]) (frL sc g b ls (Sl.val (objW g)) (Sl.val (.lst L)) s6 s7 s8 s9 s10 s11) = .ok (.rt .val (.bl true)) (frL sc g b ls (Sl.val (objW g)) (Sl.val (.lst L)) s6 s7 s8 s9 s10 s11) := by
  obtain ⟨due, e1, e2⟩ := hA (hL.mono (show 200 ≤ 1000 by omega)) b
  have e2 := e2 (!ls)
  unfold frL
  generalize objW g = OG at *
  generalize lsW g = LG at *
  generalize kW b = KB at *
  simp -implicitDefEqProofs [ev_var, ev_own, e1, e2]
theorem lw_b2 (hA : AJ ju ag g) (hre : ∀ c : Int, ∃ r, re [.int c] = .ok true r [] ∧ IsR r) (hce : ∀ k : Nat, ∃ v, ce [sc, .int (k : Int)] = .ok false (.int v) []) (hch : ChOk ch) (G : SgOk g) {ms : List Mv} (hM : ∀ x ∈ ms, x.M g) (hl : ms.length ≤ 200) {k : Nat} : ∃ t10 t11, lwB2 ce ju ag re ch (frL sc g b ls (Sl.val (objW g)) (Sl.val (.lst (ms.map txW))) s6 s7 s8 (Sl.val (.int (k : Int))) s10 s11) = .ok .nx (frL sc g b ls (Sl.val (objW g)) (Sl.val (.lst (ms.map txW))) s6 s7 s8 (Sl.val (.int (k : Int))) t10 t11) := by
  obtain ⟨v, c1⟩ := hce (3 + k)
  obtain ⟨r, r1, r2⟩ := hre v
  obtain ⟨L, r', h1, h2⟩ := hch G r2 hM hl
  obtain ⟨due, e1, e2⟩ := hA (h2.mono (show 900 ≤ 1000 by omega)) b
  have e2 := e2 (!ls)
  have hk : ((3 + k : Nat) : Int) = 3 + (k : Int) := by omega
  rw [hk] at c1
  refine ⟨Sl.own r', Sl.val (.lst L), ?_⟩
  unfold frL lwB2
  generalize objW g = OG at *
  generalize lsW g = LG at *
  generalize kW b = KB at *
  generalize ms.map txW = MS at *
  simp -implicitDefEqProofs [ev_var, ev_own, c1, r1, h1, e1, e2]
end
def lwP (ce ns ig rw : List W → FR) (REST : Rho → ML.R Fl) : Rho → ML.R Fl := mSeq (mSet [] 1 (mCall [] [] ns [mCall [] [] ce [mVar 0, mC (.int 0)]])) (mSeq (mSet [] 2 (mOp gIx (mLst [] [mC (.str "command"), mC (.str "number")]) (mOp gMod (mCB gInt [mCall [] [] ce [mVar 0, mC (.int 1)]]) (mC (.int 2))))) (mSeq (mSet [] 3 (mOp gEq (mOp gMod (mOp gFdiv (mCB gInt [mCall [] [] ce [mVar 0, mC (.int 1)]]) (mC (.int 2))) (mC (.int 2))) (mC (.int 0)))) (mSeq (mSet [] 4 (mMake [] "Signature" ig [mOp gIx (mVar 1) (mC (.int 0)), mOp gIx (mVar 1) (mC (.int 1)), mOp gIx (mVar 1) (mC (.int 2))])) (mSeq (mSet [] 5 (mCall [] [] rw [mVar 1, mVar 2, mCall [] [] ce [mVar 0, mC (.int 2)]])) REST))))
theorem lw_p {ce ns ig rw : List W → FR} {sc : W} (hce : ∀ k : Nat, ∃ v, ce [sc, .int (k : Int)] = .ok false (.int v) []) (hns : NamesOk ns) (hig : InitOk ig) (hrw : RowOk rw) : ∃ g b ls, ∃ ms : List Mv, SgOk g ∧ (∀ x ∈ ms, x.M g) ∧ ms.length ≤ 200 ∧ ∀ REST, lwP ce ns ig rw REST [Sl.val sc, Sl.no, Sl.no, Sl.no, Sl.no, Sl.no, Sl.no, Sl.no, Sl.no, Sl.no, Sl.no, Sl.no] = REST (frL sc g b ls (Sl.own (objW g)) (Sl.own (.lst (ms.map txW))) Sl.no Sl.no Sl.no Sl.no Sl.no Sl.no) := by
  obtain ⟨v0, c0⟩ := hce 0
  obtain ⟨v1, c1⟩ := hce 1
  obtain ⟨v2, c2⟩ := hce 2
  obtain ⟨g, n1, G, D⟩ := hns v0
  have i1 := hig G D
  obtain ⟨b, hb⟩ : ∃ b, atI [tW [99, 111, 109, 109, 97, 110, 100], tW [110, 117, 109, 98, 101, 114]] (v1 % 2) = some (kW b) := by
    obtain ⟨n, hn⟩ := Int.eq_ofNat_of_zero_le (Int.emod_nonneg v1 (show (2 : Int) ≠ 0 by omega))
    have : v1 % 2 < 2 := Int.emod_lt_of_pos _ (by omega)
    rw [hn]
    exact at_kd (by omega)
  obtain ⟨ms, w1, w2, w3⟩ := hrw (b := b) (cell := v2) G
  refine ⟨g, b, decide (v1 / 2 % 2 = 0), ms, G, w2, w3, fun REST => ?_⟩
  unfold frL lwP
  unfold lsW at *
  have ho : objW g = .obj "Signature" ["size", "procedures", "cells", "names"] [.int (g.z : Int), pW g, cW g, nmW g] := rfl
  rw [ho] at i1 ⊢
  generalize pW g = PW at *
  generalize cW g = CW at *
  generalize nmW g = NW at *
  generalize kW b = KB at *
  generalize ms.map txW = MS at *
  simp at c0 c1 c2 hb
  simp -implicitDefEqProofs [ev_var, ev_own, ev_mod, ev_div, c0, c1, c2, n1, l2, hb, i1, w1]
end K08

namespace K08
open PySem PySem.Spec PyProof.Rows L2 ML
theorem all2_from (lo cnt : Nat) : All2 (fun (w : W) (z : Nat) => w = .int (z : Int)) (intsW (lo : Int) cnt) ((List.range cnt).map fun i => lo + i) := by
  have : ∀ l : List Nat, All2 (fun (w : W) (z : Nat) => w = .int (z : Int)) (l.map fun i => W.int ((lo : Int) + (i : Nat))) (l.map fun i => lo + i) := by
    intro l
    induction l with
    | nil => exact .nil
    | cons x l ih => exact .cons (by simp) ih
  exact this _
theorem law_ok {ce ns ig rw ju ag re ch : List W → FR} {sc : W} (hce : ∀ k : Nat, ∃ v, ce [sc, .int (k : Int)] = .ok false (.int v) []) (hns : NamesOk ns) (hig : InitOk ig) (hrw : RowOk rw) (hj : JudgeOk ju) (ha : AgOk ag) (hre : ∀ c : Int, ∃ r, re [.int c] = .ok true r [] ∧ IsR r) (hch : ChOk ch) : fun_law ce ns ig rw ju ag re ch [sc] = .ok false (.bl true) [] := by
  obtain ⟨g, b, ls, ms, G, hM, hl, hP⟩ := lw_p hce hns hig hrw
  have hA : AJ ju ag g := aj_ok hj ha G
  have hL := row_of hM hl
  have hb : body_law ce ns ig rw ju ag re ch = lwP ce ns ig rw (mSeq (mFor (mRange2 [mCB gMax [mC (.int 0), mOp gSub (mCB gLen [mVar 5]) (mC (.int 8))], mOp gAdd (mCB gLen [mVar 5]) (mC (.int 1))]) (gSet [] 6) (lwB1 ju ag)) (mSeq (mSet [] 8 (mOp gIx (mLst [] [mC (.str "number"), mC (.str "command")]) (mCB gInt [mOp gEq (mVar 2) (mC (.str "number"))]))) (mSeq (mIf (mNot (mTest (mCall [] [] ag [mVar 4, mVar 8, mVar 5, mCall [] [] ju [mVar 1, mVar 8, mVar 5], mVar 3]))) (mRet [] (mC (.bl false))) (mNext)) (mSeq (mFor (mRange1 [mC (.int 5)]) (gSet [] 9) (lwB2 ce ju ag re ch)) (mRet [] (mCall [] [] ag [mVar 4, mVar 2, mVar 5, mCall [] [] ju [mVar 1, mVar 2, mVar 5], mNotV (mVar 3)])))))) := rfl
  have hf : fun_law ce ns ig rw ju ag re ch [sc] = finF [] (body_law ce ns ig rw ju ag re ch [Sl.val sc, Sl.no, Sl.no, Sl.no, Sl.no, Sl.no, Sl.no, Sl.no, Sl.no, Sl.no, Sl.no, Sl.no]) := rfl
  rw [hf, hb, hP]
  -- the last beginnings
  have s1 : ∃ t4 t6 t7, own4 t4 g ∧ mFor (mRange2 [mCB gMax [mC (.int 0), mOp gSub (mCB gLen [mVar 5]) (mC (.int 8))], mOp gAdd (mCB gLen [mVar 5]) (mC (.int 1))]) (gSet [] 6) (lwB1 ju ag) (frL sc g b ls (Sl.own (objW g)) (Sl.own (.lst (ms.map txW))) Sl.no Sl.no Sl.no Sl.no Sl.no Sl.no) = .ok .nx (frL sc g b ls t4 (Sl.own (.lst (ms.map txW))) t6 t7 Sl.no Sl.no Sl.no Sl.no) := by
    have hit : mRange2 [mCB gMax [mC (.int 0), mOp gSub (mCB gLen [mVar 5]) (mC (.int 8))], mOp gAdd (mCB gLen [mVar 5]) (mC (.int 1))] (frL sc g b ls (Sl.own (objW g)) (Sl.own (.lst (ms.map txW))) Sl.no Sl.no Sl.no Sl.no Sl.no Sl.no) = .ok (intsW ((ms.length - 8 : Nat) : Int) (ms.length + 1 - (ms.length - 8))) (frL sc g b ls (Sl.own (objW g)) (Sl.own (.lst (ms.map txW))) Sl.no Sl.no Sl.no Sl.no Sl.no Sl.no) := by
      have hlm : (ms.map txW).length = ms.length := by simp
      have hmx : (if (ms.length : Int) - 8 > 0 then (ms.length : Int) - 8 else 0) = ((ms.length - 8 : Nat) : Int) := by split <;> omega
      have hmx2 : (if 8 < (ms.length : Int) then (ms.length : Int) - 8 else 0) = ((ms.length - 8 : Nat) : Int) := by split <;> omega
      have hmx3 : (if 8 < ms.length then (ms.length : Int) - 8 else 0) = ((ms.length - 8 : Nat) : Int) := by split <;> omega
      have o1 : okR ((ms.length - 8 : Nat) : Int) = true := okR_nat (by omega)
      have o2 : okR ((ms.length : Int) + 1) = true := okR_nat (n := ms.length + 1) (by omega)
      have hcnt : ((ms.length : Int) + 1 - ((ms.length - 8 : Nat) : Int)).toNat = ms.length + 1 - (ms.length - 8) := by omega
      have gm : gMax [.int 0, .int ((ms.length : Int) - 8)] = some (.val, .int ((ms.length - 8 : Nat) : Int)) := by rw [ev_max, hmx]
      unfold frL
      generalize objW g = OG at *
      generalize lsW g = LG at *
      generalize kW b = KB at *
      generalize ms.map txW = MS at *
      generalize ms.length - 8 = m8 at *
      generalize ms.length = n at *
      simp -implicitDefEqProofs [ev_var, -ev_max, ev_own, hlm, gm, o1, o2, hcnt]
    rw [ev_for, hit, ev_bo]
    refine for_run (Q := fun (w : W) (z : Nat) => w = .int (z : Int)) (P := fun _ ρ => ∃ s4 s6 s7, own4 s4 g ∧ ρ = frL sc g b ls s4 (Sl.own (.lst (ms.map txW))) s6 s7 Sl.no Sl.no Sl.no Sl.no) (Post := fun r => ∃ t4 t6 t7, own4 t4 g ∧ r = .ok .nx (frL sc g b ls t4 (Sl.own (.lst (ms.map txW))) t6 t7 Sl.no Sl.no Sl.no Sl.no)) (fun ρ ⟨s4, s6, s7, h, e⟩ => ⟨s4, s6, s7, h, by rw [e]⟩) (fun w z zs ρ q ⟨s4, s6, s7, h, e⟩ => ?_) (all2_from _ _) ⟨_, _, _, .inl rfl, rfl⟩
    subst q e
    obtain ⟨t4, t7, h2, e2⟩ := lw_b1 (sc := sc) (b := b) (ls := ls) (s7 := s7) (s8 := Sl.no) (s9 := Sl.no) (s10 := Sl.no) (s11 := Sl.no) (n := z) hA hL h
    exact ⟨frL sc g b ls s4 (Sl.own (.lst (ms.map txW))) (Sl.val (.int (z : Int))) s7 Sl.no Sl.no Sl.no Sl.no, by simp [frL], .inl ⟨_, .inl e2, _, _, _, h2, rfl⟩⟩
  obtain ⟨t4, t6, t7, h4, s1⟩ := s1
  have s2 : mSet [] 8 (mOp gIx (mLst [] [mC (.str "number"), mC (.str "command")]) (mCB gInt [mOp gEq (mVar 2) (mC (.str "number"))])) (frL sc g b ls t4 (Sl.own (.lst (ms.map txW))) t6 t7 Sl.no Sl.no Sl.no Sl.no) = .ok .nx (frL sc g b ls t4 (Sl.own (.lst (ms.map txW))) t6 t7 (Sl.val (kW (!b))) Sl.no Sl.no Sl.no) := by
    unfold frL
    generalize lsW g = LG at *
    generalize ms.map txW = MS at *
    cases b with
    | true => simp -implicitDefEqProofs [ev_var, ev_own]
    | false => simp -implicitDefEqProofs [ev_var, ev_own]
  have s3 := lw_one (sc := sc) (b := b) (ls := ls) (s6 := t6) (s7 := t7) (s9 := Sl.no) (s10 := Sl.no) (s11 := Sl.no) (b' := !b) (s5 := Sl.own (.lst (ms.map txW))) hA hL h4 (.inl rfl)
  have s4 : ∃ t9 t10 t11, mFor (mRange1 [mC (.int 5)]) (gSet [] 9) (lwB2 ce ju ag re ch) (frL sc g b ls (Sl.val (objW g)) (Sl.val (.lst (ms.map txW))) t6 t7 (Sl.val (kW (!b))) Sl.no Sl.no Sl.no) = .ok .nx (frL sc g b ls (Sl.val (objW g)) (Sl.val (.lst (ms.map txW))) t6 t7 (Sl.val (kW (!b))) t9 t10 t11) := by
    have hok : okR 5 = true := okR_nat (n := 5) (by omega)
    have hit : ∀ ρ, mRange1 [mC (.int 5)] ρ = .ok (intsW 0 5) ρ := fun ρ => by simp -implicitDefEqProofs [ev_r1, hok]
    rw [ev_for, hit, ev_bo]
    refine for_run (Q := fun (w : W) (z : Nat) => w = .int z ∧ z < 5) (P := fun _ ρ => ∃ t9 t10 t11, ρ = frL sc g b ls (Sl.val (objW g)) (Sl.val (.lst (ms.map txW))) t6 t7 (Sl.val (kW (!b))) t9 t10 t11) (Post := fun r => ∃ t9 t10 t11, r = .ok .nx (frL sc g b ls (Sl.val (objW g)) (Sl.val (.lst (ms.map txW))) t6 t7 (Sl.val (kW (!b))) t9 t10 t11)) (fun ρ ⟨a, c, d, e⟩ => ⟨a, c, d, by rw [e]⟩) (fun w z zs ρ ⟨q, _⟩ ⟨a, c, d, e⟩ => ?_) (all2_rng 5) ⟨_, _, _, rfl⟩
    subst q e
    obtain ⟨t10, t11, e2⟩ := lw_b2 (sc := sc) (b := b) (ls := ls) (s6 := t6) (s7 := t7) (s8 := Sl.val (kW (!b))) (s10 := c) (s11 := d) (k := z) hA hre hce hch G hM hl
    exact ⟨frL sc g b ls (Sl.val (objW g)) (Sl.val (.lst (ms.map txW))) t6 t7 (Sl.val (kW (!b))) (Sl.val (.int (z : Int))) c d, by simp [frL], .inl ⟨_, .inl e2, _, _, _, rfl⟩⟩
  obtain ⟨t9, t10, t11, s4⟩ := s4
  have s5 := lw_last (sc := sc) (b := b) (ls := ls) (s6 := t6) (s7 := t7) (s8 := Sl.val (kW (!b))) (s9 := t9) (s10 := t10) (s11 := t11) hA hL
  rw [ev_seq, s1, ev_tn, ev_seq, s2, ev_tn, ev_seq, s3, ev_tn, ev_seq, s4, ev_tn, s5]
  rfl
def nsF : List W → FR := fun__law_names rrF fun__law_next (fun__law_name fun__law_next)
noncomputable def igF : List W → FR := fun_Signature___init__ (frF 4) (fun_check_procedures fun_is_name) (fun_check_cells fun_is_name)
def rwF : List W → FR := fun__law_row rrF fun__law_next maF fun__law_after
def juF : List W → FR := fun__law_judge fun__law_after maF
def waF : List W → FR := fun_walked fun_opened_after caF
noncomputable def tlF : List W → FR := fun__law_told (fun_open_moves (frF 2) waF) (fun_next_moves (frF 2) waF) (fun_is_finished (frF 2) waF)
noncomputable def agF : List W → FR := fun__law_agrees tlF fun__law_whole fun__law_is_row
def chF : List W → FR := fun__law_changed fun__law_next (fun__law_odd fun__law_next) fun__law_flawed
noncomputable def lawF : List W → FR := fun_law fun__law_cell nsF igF rwF juF agF rrF chF
theorem law_is (ns : List Int) (_ : ns.length ≤ 63) : lawF [.frl (ns.map W.int)] = .ok false (.bl true) [] := by
  have hw : WalkOk waF := walked_ok opened_after_ok choices_ok
  exact law_ok (cell_ok ns) (names_ok reader_ok next_ok (name_ok next_ok)) (init_sig fr_sig (check_ps is_name_ok) (check_cs is_name_ok)) (row_ok reader_ok next_ok may_ok after_ok) (judge_ok after_ok may_ok)
    (agrees_ok (told_ok (open_ok fr_row hw) (nexts_ok fr_row hw) (finished_ok fr_row hw)) whole_ok is_row_ok) reader_ok (changed_ok next_ok (odd_ok next_ok) flawed_ok)
end K08

namespace K08
open PySem PySem.Spec PyProof.Rows L2 ML
/-! ### the defs tied -/
section
variable {P : Program} {w : World} {K : PySem.W.Frag} {mg : Str → Option Value} {base : Heap}
theorem stk_frozen (T : Txt w K mg) : Def P w K mg base (He.ga K) 1 "frozen" ["value"] [] (fun _ => .stk) :=
  (def_mk (N := ["value", "parts", "part"]) (g := mStk) T.s_frozen sc_frozen (by decide) (fun _ _ _ _ _ _ us hl => match us, hl with | [_], _ => rfl) fun f cdv A outer s H E Y hr hct tk => psms_never).congr fun _ _ => .inl rfl
theorem lv_frozen (T : Txt w K mg) : ∀ d, Def P w K mg base (He.ga K) (d + 1) "frozen" ["value"] [] (frF d)
  | 0 => stk_frozen T
  | d + 1 => def_frozen T (lv_frozen T d)
theorem lv_ca (T : Txt w K mg) : Def P w K mg base (He.ga K) 4 "choices_after" ["signature", "kind", "opened"] [] caF :=
  def_choices_after (k := 3) T (def_said_choices (k := 2) T (def_answer_moves T) (def_Signature_procedure T)) (def_heard_choices (k := 2) T (def_Signature_procedure T) (def_call_choices (k := 1) T (def_answer_moves T)) (def_answer_moves T))
theorem lv_wa (T : Txt w K mg) : Def P w K mg base (He.ga K) 5 "walked" ["signature", "kind", "moves"] [] waF :=
  def_walked (k := 2) T (def_opened_after T) (lv_ca T)
theorem lv_tl (T : Txt w K mg) : Def P w K mg base (He.ga K) 7 "_law_told" ["_law_which", "_law_signature", "_law_kind", "_law_row_here"] [] tlF := by
  have hf : Def P w K mg base (He.ga K) 5 "frozen" ["value"] [] (frF 2) := (lv_frozen T 2).mono (by omega)
  exact def__law_told (k := 6) T (def_open_moves (k := 5) T hf (lv_wa T)) (def_next_moves (k := 5) T hf (lv_wa T)) (def_is_finished (k := 5) T hf (lv_wa T))
theorem lv_ag (T : Txt w K mg) : Def P w K mg base (He.ga K) 8 "_law_agrees" ["_law_signature", "_law_kind", "_law_row_here", "_law_due", "_law_listed"] [] agF :=
  def__law_agrees (k := 7) T (lv_tl T) (def__law_whole T) (def__law_is_row T)
theorem lv_ma (T : Txt w K mg) : ∀ k, Def P w K mg base (He.ga K) (k + 3) "_law_may" ["_law_signature", "_law_kind", "_law_begun", "_law_opened"] [] maF := fun k =>
  def__law_may (k := k + 2) T (def__law_said (k := k + 1) T (def__law_numbered T) (def__law_triple T)) (def__law_heard (k := k + 1) T (def__law_triple T) (def__law_numbered T))
theorem lv_ig (T : Txt w K mg) : KDef P w K mg base (He.ga K) 9 "Signature" ["self", "size", "procedures", "cells"] igF :=
  def_Signature___init__ (k := 8) T ((lv_frozen T 4).mono (by omega)) (def_check_procedures (k := 7) T (def_is_name T)) (def_check_cells (k := 7) T (def_is_name T))
theorem law_def (T : Txt w K mg) : Def P w K mg base (He.ga K) 11 "law" ["_law_script"] [] lawF :=
  def_law (k := 9) T (def__law_cell T) (def__law_names (k := 9) T (def__law_reader (k := 8) T (def__law_digits T)) (def__law_next T) (def__law_name (k := 8) T (def__law_next T))) (lv_ig T)
    (def__law_row (k := 9) T (def__law_reader (k := 8) T (def__law_digits T)) (def__law_next T) (lv_ma T 6) (def__law_after T))
    (def__law_judge (k := 9) T (def__law_after T) (lv_ma T 6)) ((lv_ag T).mono (by omega)) (def__law_reader (k := 9) T (def__law_digits T))
    (def__law_changed (k := 9) T (def__law_next T) (def__law_odd (k := 8) T (def__law_next T)) (def__law_flawed T))
end
noncomputable def law_fun : List W → FR := lawF
def law_k : Nat := 11
end K08

set_option maxHeartbeats 4000000
namespace K08
open PySem PySem.Spec PyProof.Rows L2 ML
theorem facts {P : Program} {w : World} {K : PySem.W.Frag} {h : Heap} {mg : Str → Option Value} {f : Addr} (X : K.In h) (G : h.Ns mainGlobals mg) (hq : mg ("law" : Str) = some (.ref f)) (c : SaysM hfa hfn hts hmore w K) :
    ∃ fd : FuncData, (∀ (s : Shared) (v : Value), BindsTo s fd ⟨[v], []⟩ [("_law_script", v)]) ∧ ∀ base : Heap, K.In base → base.Ns mainGlobals mg → FnOk P w K mg base CX0 law_k f fd ["_law_script"] (spEnd K law_fun) := by
  have T := txt_ok X G c
  exact end_fn T.s_law hq (fun fd F => by
    have b := FunD.bindsA (ps := ["_law_script"]) F fun _ _ _ _ _ _ us hl => match us, hl with | [_], _ => rfl
    exact fun s v => b s [v] rfl) fun base _ _ => law_def T
end K08
open PySem PySem.W PySem.Calls PyProof.Rows
set_option maxRecDepth 100000 in
set_option maxHeartbeats 0 in
theorem PySem.Challenge.cw_heardsaid_k08_moves_that_may_come_holds : PySem.Challenge.rw_heardsaid_k08_moves_that_may_come.Holds := by
  w_on; o_law
  refine HandSHeadRun.head_any (r := (PySem.W.OpenLaw.row PySem.Challenge.rw_heardsaid_k08_moves_that_may_come)) (q := view (PySem.W.OpenLaw.row PySem.Challenge.rw_heardsaid_k08_moves_that_may_come).prog [57]) (H := K08.hhk) (ob := K08.hob) (M := 20000) (loose := K08.hnames) (d := HandSHeadRun.topDef (PySem.W.OpenLaw.row PySem.Challenge.rw_heardsaid_k08_moves_that_may_come).prog 57) (kwd := []) K08.hob_eq
    (by kernel_rfl) (fun s => by kernel_rfl) K08.hrun (by kernel_rfl) (by kernel_rfl) (by kernel_rfl) (by rfl) (by first | assumption | decide +kernel) (by decide +kernel) ⟨rfl, rfl, rfl, rfl, rfl, by decide +kernel⟩ ?hw ?hc
  case hw => w_witness2
  case hc =>
    refine L2.walk_ofE (l := PySem.Challenge.rw_heardsaid_k08_moves_that_may_come) (n := 63) (k := K08.law_k) (x := "_law_script") (CX := L2.CX0) rfl (by decide) (by kernel_rfl) ⟨rfl, by decide, by decide⟩ ?F (fun _ _ _ _ z => z)
    intro w mg fa h Y G hmg0
    obtain ⟨K, KX, c⟩ := Y
    have hmg : mg ("law" : PySem.Str) = some (.ref fa) := by
      have e : (HandSHeadRun.topDef (PySem.W.OpenLaw.row PySem.Challenge.rw_heardsaid_k08_moves_that_may_come).prog 57).name = ("law" : PySem.Str) := by kernel_rfl
      rw [← e]
      exact hmg0
    obtain ⟨fd, hb, hF⟩ := K08.facts (P := (PySem.Challenge.rw_heardsaid_k08_moves_that_may_come).prog) (w := w) KX G hmg c
    exact ⟨K, fd, ML.spEnd K K08.law_fun, KX, hb, fun H a ns hl hO hS => ML.end_sp K08.law_is H a ns hl hO hS, hF⟩

