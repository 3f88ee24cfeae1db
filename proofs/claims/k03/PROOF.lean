import PyProof.Rows.All
import Wide.All
import OpenK.AllK
import Wide.FinOn
import KE.KStateDown
import Lean
import HandS.ForMost
import HandS.More
import HandS.WordsExc
import HandS.Defaults
import HandS.Head0
import HandS.Head1
import HandS.Head2
import HandS.HeadEnd
import HandS.HeadHook1
import HandS.HeadHook2
import KE.KExcIs
import PyProof.StrBlock2
import PyProof.DictDisplay
import PyProof.AutoSeq1
import KE.GoesMore
import HandS.TupAny
import HandS.Deep
import HandS.IsInst
import HandS.CallSlots
import HandS.TryOnly
import HandS.Rev
import HandS.RevRange
import HandS.Zip
import HandS.RaiseMore
import HandS.ExcInit
import HandS.Small
import HandS.HeadHook3
import HandS.Codes
import HandS.ExcField
import HandS.ExcIs
import HandS.Dict
import HandS.MakeKwOnly
import HandS.Text
import HandS.Iter
import PySem.Challenge.RW_heardsaid_k03_renamed_apart
set_option Elab.async false
set_option linter.all false
set_option maxRecDepth 100000
set_option maxHeartbeats 4000000
/-! ML: a layer of our own over HandS. W: values without addresses; Rho: a frame's slots as W; a mirror is a function Rho -> R.
F is a ghost: the addresses of lists (dicts) that nobody changes any more; a slot that is own holds a list that nobody else holds. -/
namespace ML
open PySem PySem.Spec PyProof.Rows L2

inductive W where
  | non | bl (b : Bool) | int (i : Int) | str (s : Str)
  | tup (l : List W) | lst (l : List W) | frl (l : List W) | dK (ks : List Key) (l : List W) | fn (x : Str) | ty (n : String) | obj (c : Str) (ns : List Str) (l : List W)

abbrev Fz := Addr → Prop
def LstK (K : PySem.W.Frag) (a : Addr) (vs : List V) : Prop :=
  ∃ (o : Obj) (its : Array Value) (n : Nat), K.lookup a = some o ∧ o.cls = .type "list" ∧ o.dict = none ∧ o.data = .seq its n ∧ its.size ≤ sizeLine ∧ Vals vs its.toList
/-- the script, a list of the text: never changed -/
def FrlL (K : PySem.W.Frag) (H : Hp) (a : Addr) (vs : List V) : Prop := (∃ o, H a = some (.frz o (.lst vs))) ∨ LstK K a vs
theorem FrlL.seq {K : PySem.W.Frag} {H : Hp} {a : Addr} {vs : List V} (h : FrlL K H a vs) : SqL K H a vs := by
  rcases h with h | h
  · exact .inl (.inr h)
  · exact .inr h
def TupK (K : PySem.W.Frag) (a : Addr) (vs : List V) : Prop :=
  ∃ (o : Obj) (its : Array Value) (n : Nat), K.lookup a = some o ∧ o.cls = .type "tuple" ∧ o.data = .seq its n ∧ its.size ≤ sizeLine ∧ Vals vs its.toList
/-- a tuple of the call's own, or of the text -/
def SqU (K : PySem.W.Frag) (H : Hp) (a : Addr) (vs : List V) : Prop := H a = some (.tup vs) ∨ TupK K a vs
theorem SqU.seq {K : PySem.W.Frag} {H : Hp} {a : Addr} {vs : List V} (h : SqU K H a vs) : SqT K H a vs := by
  rcases h with h | h
  · exact .inl (.inl h)
  · exact .inr h
mutual
def Rep (K : PySem.W.Frag) (F : Fz) (H : Hp) : W → V → Prop
  | .non, v => v = .non
  | .bl b, v => v = .bl b
  | .int i, v => v = .int i
  | .str s, v => v = .str s
  | .fn x, v => v = .ref (He.ga K x)
  | .ty n, v => v = .ty n
  | .tup l, v => ∃ a vs, v = .ref a ∧ SqU K H a vs ∧ RepL K F H l vs
  | .lst l, v => ∃ a vs, v = .ref a ∧ F a ∧ H a = some (.lst vs) ∧ RepL K F H l vs
  | .frl l, v => ∃ a vs, v = .ref a ∧ FrlL K H a vs ∧ RepL K F H l vs
  | .dK ks l, v => ∃ a vs, v = .ref a ∧ F a ∧ H a = some (.dK (ks.zip vs)) ∧ ks.length = vs.length ∧ RepL K F H l vs
  | .obj c ns l, v => ∃ a dx vs, v = .ref a ∧ F a ∧ H a = some (.ins (He.ga K c) dx (ns.zip vs)) ∧ ns.length = vs.length ∧ RepL K F H l vs
def RepL (K : PySem.W.Frag) (F : Fz) (H : Hp) : List W → List V → Prop
  | [], vs => vs = []
  | w :: l, vs => ∃ v r, vs = v :: r ∧ Rep K F H w v ∧ RepL K F H l r
end
/-- what is not to change stays: the frozen, and what never changes -/
structure Keeps (F : Fz) (H : Hp) (F' : Fz) (H' : Hp) : Prop where
  f : ∀ a, F a → F' a
  h : ∀ a o, H a = some o → (F a ∨ ¬ Mut (some o)) → H' a = some o
section
variable {K : PySem.W.Frag} {F F' F1 F2 : Fz} {H H' H1 H2 : Hp}
theorem Keeps.refl : Keeps F H F H := ⟨fun _ h => h, fun _ _ h _ => h⟩
theorem Keeps.trans (a : Keeps F H F1 H1) (b : Keeps F1 H1 F2 H2) : Keeps F H F2 H2 :=
  ⟨fun x h => b.f x (a.f x h), fun x o h m => b.h x o (a.h x o h m) (m.imp (a.f x) id)⟩
theorem Keeps.sqU (k : Keeps F H F' H') {a : Addr} {vs : List V} (h : SqU K H a vs) : SqU K H' a vs := by
  rcases h with h | h
  · exact .inl (k.h a _ h (.inr (fun q => q)))
  · exact .inr h
theorem Keeps.frl (k : Keeps F H F' H') {a : Addr} {vs : List V} (h : FrlL K H a vs) : FrlL K H' a vs := by
  rcases h with ⟨o, h⟩ | h
  · exact .inl ⟨o, k.h a _ h (.inr (fun q => q))⟩
  · exact .inr h
mutual
theorem Rep.mono (k : Keeps F H F' H') : ∀ (w : W) {v : V}, Rep K F H w v → Rep K F' H' w v
  | .non, _, h => h
  | .bl _, _, h => h
  | .int _, _, h => h
  | .str _, _, h => h
  | .fn _, _, h => h
  | .ty _, _, h => h
  | .tup l, _, h => by
    obtain ⟨a, vs, e, s, r⟩ := h
    exact ⟨a, vs, e, k.sqU s, RepL.mono k l r⟩
  | .lst l, _, h => by
    obtain ⟨a, vs, e, f, s, r⟩ := h
    exact ⟨a, vs, e, k.f a f, k.h a _ s (.inl f), RepL.mono k l r⟩
  | .frl l, _, h => by
    obtain ⟨a, vs, e, s, r⟩ := h
    exact ⟨a, vs, e, k.frl s, RepL.mono k l r⟩
  | .dK ks l, _, h => by
    obtain ⟨a, vs, e, f, s, n, r⟩ := h
    exact ⟨a, vs, e, k.f a f, k.h a _ s (.inl f), n, RepL.mono k l r⟩
  | .obj c ns l, _, h => by
    obtain ⟨a, dx, vs, e, f, s, n, r⟩ := h
    exact ⟨a, dx, vs, e, k.f a f, k.h a _ s (.inl f), n, RepL.mono k l r⟩
theorem RepL.mono (k : Keeps F H F' H') : ∀ (l : List W) {vs : List V}, RepL K F H l vs → RepL K F' H' l vs
  | [], _, h => h
  | w :: l, _, h => by
    obtain ⟨v, r, e, h1, h2⟩ := h
    exact ⟨v, r, e, Rep.mono k w h1, RepL.mono k l h2⟩
end
theorem RepL.len : ∀ {l : List W} {vs : List V}, RepL K F H l vs → l.length = vs.length
  | [], _, h => by cases h; rfl
  | w :: l, _, h => by
    obtain ⟨v, r, rfl, _, h2⟩ := h
    rw [List.length_cons, List.length_cons, RepL.len h2]
theorem RepL.get : ∀ {l : List W} {vs : List V} {i : Nat} {w : W}, RepL K F H l vs → l[i]? = some w → ∃ v, vs[i]? = some v ∧ Rep K F H w v
  | [], _, _, _, _, e => by simp at e
  | w :: l, _, 0, u, h, e => by
    obtain ⟨v, r, rfl, h1, h2⟩ := h
    have e1 : w = u := Option.some.inj e
    subst e1
    exact ⟨v, rfl, h1⟩
  | w :: l, _, i + 1, u, h, e => by
    obtain ⟨v, r, rfl, h1, h2⟩ := h
    have q := RepL.get (l := l) (vs := r) (i := i) (w := u) h2 e
    exact q
theorem RepL.append : ∀ {l m : List W} {vs us : List V}, RepL K F H l vs → RepL K F H m us → RepL K F H (l ++ m) (vs ++ us)
  | [], _, _, _, h, h' => by cases h; exact h'
  | w :: l, _, _, _, h, h' => by
    obtain ⟨v, r, rfl, h1, h2⟩ := h
    exact ⟨v, r ++ _, rfl, h1, RepL.append h2 h'⟩
theorem RepL.nil : RepL K F H [] [] := rfl
theorem RepL.cons {w : W} {l : List W} {v : V} {vs : List V} (h : Rep K F H w v) (r : RepL K F H l vs) : RepL K F H (w :: l) (v :: vs) := ⟨v, vs, rfl, h, r⟩
theorem RepL.take : ∀ {l : List W} {vs : List V} (n : Nat), RepL K F H l vs → RepL K F H (l.take n) (vs.take n)
  | _, _, 0, _ => rfl
  | [], _, n + 1, h => by cases h; rfl
  | w :: l, _, n + 1, h => by
    obtain ⟨v, r, rfl, h1, h2⟩ := h
    exact ⟨v, _, rfl, h1, RepL.take n h2⟩
theorem RepL.drop : ∀ {l : List W} {vs : List V} (n : Nat), RepL K F H l vs → RepL K F H (l.drop n) (vs.drop n)
  | _, _, 0, h => h
  | [], _, n + 1, h => by cases h; rfl
  | w :: l, _, n + 1, h => by
    obtain ⟨v, r, rfl, h1, h2⟩ := h
    exact RepL.drop (l := l) n h2
theorem RepL.reverse : ∀ {l : List W} {vs : List V}, RepL K F H l vs → RepL K F H l.reverse vs.reverse
  | [], _, h => by cases h; rfl
  | w :: l, _, h => by
    obtain ⟨v, r, rfl, h1, h2⟩ := h
    rw [List.reverse_cons, List.reverse_cons]
    exact RepL.append (RepL.reverse h2) (RepL.cons h1 RepL.nil)
theorem RepL.set : ∀ {l : List W} {vs : List V} (n : Nat) {w : W} {v : V}, RepL K F H l vs → Rep K F H w v → RepL K F H (l.set n w) (vs.set n v)
  | [], _, _, _, _, h, _ => by cases h; rfl
  | x :: l, _, 0, _, _, h, hv => by
    obtain ⟨u, r, rfl, _, h2⟩ := h
    exact ⟨_, r, rfl, hv, h2⟩
  | x :: l, _, n + 1, _, _, h, hv => by
    obtain ⟨u, r, rfl, h1, h2⟩ := h
    exact ⟨u, _, rfl, h1, RepL.set n h2 hv⟩
theorem RepL.get' {l : List W} {vs : List V} {i : Nat} {v : V} (h : RepL K F H l vs) (e : vs[i]? = some v) : ∃ w, l[i]? = some w ∧ Rep K F H w v := by
  have hi := (List.getElem?_eq_some_iff.mp e).1
  rw [← h.len] at hi
  obtain ⟨u, eu, r⟩ := h.get (List.getElem?_eq_getElem hi)
  rw [e] at eu
  cases eu
  exact ⟨_, List.getElem?_eq_getElem hi, r⟩
end
/-! ### the frame -/
inductive Sl where
  | no | exn | val (w : W) | own (w : W)
abbrev Rho := List Sl
/-- the frame's entry: the heap, the frozen, the slots whose lists the caller lent -/
structure Bd where
  H0 : Hp
  F0 : Fz
  I : List (Nat × Addr)
  ea : Addr := 0
def Bd.kept (B : Bd) (a : Addr) : Prop := B.H0 a ≠ none ∧ ∀ p ∈ B.I, p.2 ≠ a
/-- the object at a is w's, to be changed -/
def OwnR (K : PySem.W.Frag) (F : Fz) (H : Hp) (w : W) (a : Addr) : Prop := match w with
  | .lst l => ∃ vs, H a = some (.lst vs) ∧ RepL K F H l vs
  | .dK ks l => ∃ vs, H a = some (.dK (ks.zip vs)) ∧ ks.length = vs.length ∧ RepL K F H l vs
  | .obj c ns l => ∃ dx vs, H a = some (.ins (He.ga K c) dx (ns.zip vs)) ∧ ns.length = vs.length ∧ RepL K F H l vs
  | _ => False
def SlR (K : PySem.W.Frag) (B : Bd) (F : Fz) (H : Hp) : Sl → Option (Option V) → Prop
  | .no, _ => True
  | .exn, o => o = some (some (.ref B.ea))
  | .val w, o => ∃ v, o = some (some v) ∧ Rep K F H w v
  | .own w, o => ∃ a, o = some (some (.ref a)) ∧ OwnR K F H w a ∧ ¬ F a ∧ ¬ B.kept a
structure SR (K : PySem.W.Frag) (B : Bd) (F : Fz) (H : Hp) (σ : L2.St) (ρ : Rho) : Prop where
  len : σ.length = ρ.length
  slot : ∀ (i : Nat) (s : Sl), ρ[i]? = some s → SlR K B F H s σ[i]?
  sep : ∀ (i j : Nat) (w w' : W) (a : Addr), ρ[i]? = some (.own w) → ρ[j]? = some (.own w') → σ[i]? = some (some (.ref a)) → σ[j]? = some (some (.ref a)) → i = j
  lent : ∀ p ∈ B.I, σ[p.1]? = some (some (.ref p.2)) ∧ ∃ w, ρ[p.1]? = some (.own w)
  ext : ∀ a o, B.kept a → B.H0 a = some o → H a = some o
  alive : ∀ a, B.H0 a ≠ none → H a ≠ none
  f0 : ∀ a, B.F0 a → F a
  f1 : ∀ a, F a → B.F0 a ∨ B.H0 a = none
  f2 : ∀ a, F a → H a ≠ none
/-- all that was tracked stands (but at I); new frozen are new -/
structure Ext (I : List Addr) (F : Fz) (H : Hp) (F' : Fz) (H' : Hp) : Prop where
  h : ∀ a o, a ∉ I → H a = some o → H' a = some o
  f : ∀ a, F a → F' a
  g : ∀ a, F' a → F a ∨ H a = none
  t : ∀ a, F' a → H' a ≠ none
section
variable {K : PySem.W.Frag} {B : Bd} {F F' F1 F2 : Fz} {H H' H1 H2 : Hp} {σ : L2.St} {ρ : Rho}
theorem Ext.keeps (e : Ext [] F H F' H') : Keeps F H F' H' := ⟨e.f, fun a o h _ => e.h a o (by simp) h⟩
theorem Ext.refl (t : ∀ a, F a → H a ≠ none) : Ext [] F H F H := ⟨fun _ _ _ h => h, fun _ h => h, fun _ h => .inl h, t⟩
theorem Ext.trans (a : Ext [] F H F1 H1) (b : Ext [] F1 H1 F2 H2) : Ext [] F H F2 H2 :=
  ⟨fun x o n h => b.h x o n (a.h x o n h), fun x h => b.f x (a.f x h), fun x h => (by
    rcases b.g x h with q | q
    · exact a.g x q
    · right
      cases e : H x with
      | none => rfl
      | some o => rw [a.h x o (by simp) e] at q; cases q), b.t⟩
/-- a new object -/
theorem Ext.new {a : Addr} {o : HO} (n : H a = none) (t : ∀ a, F a → H a ≠ none) : Ext [] F H F (upd H a o) :=
  ⟨fun x u _ h => by rw [upd_ne (ne_of_none h n)]; exact h, fun _ h => h, fun _ h => .inl h, fun x h => by
    by_cases e : x = a
    · rw [e, upd_same]; exact fun q => nomatch q
    · rw [upd_ne e]; exact t x h⟩
theorem OwnR.mono {w : W} {a : Addr} (e : Ext [] F H F' H') (h : OwnR K F H w a) : OwnR K F' H' w a := by
  cases w with
  | lst l => obtain ⟨vs, h1, h2⟩ := h; exact ⟨vs, e.h a _ (by simp) h1, h2.mono e.keeps⟩
  | dK ks l => obtain ⟨vs, h1, n, h2⟩ := h; exact ⟨vs, e.h a _ (by simp) h1, n, h2.mono e.keeps⟩
  | obj c ns l => obtain ⟨dx, vs, h1, n, h2⟩ := h; exact ⟨dx, vs, e.h a _ (by simp) h1, n, h2.mono e.keeps⟩
  | _ => exact h
theorem OwnR.some {w : W} {a : Addr} (h : OwnR K F H w a) : ∃ o, H a = some o ∧ Mut (some o) := by
  cases w with
  | lst l => obtain ⟨vs, h1, h2⟩ := h; exact ⟨_, h1, trivial⟩
  | dK ks l => obtain ⟨vs, h1, n, h2⟩ := h; exact ⟨_, h1, trivial⟩
  | obj c ns l => obtain ⟨dx, vs, h1, n, h2⟩ := h; exact ⟨_, h1, trivial⟩
  | _ => exact h.elim
theorem OwnR.rep {w : W} {a : Addr} (h : OwnR K F H w a) (f : F a) : Rep K F H w (.ref a) := by
  cases w with
  | lst l => obtain ⟨vs, h1, h2⟩ := h; exact ⟨a, vs, rfl, f, h1, h2⟩
  | dK ks l => obtain ⟨vs, h1, n, h2⟩ := h; exact ⟨a, vs, rfl, f, h1, n, h2⟩
  | obj c ns l => obtain ⟨dx, vs, h1, n, h2⟩ := h; exact ⟨a, dx, vs, rfl, f, h1, n, h2⟩
  | _ => exact h.elim
theorem SR.grow (S : SR K B F H σ ρ) (e : Ext [] F H F' H') : SR K B F' H' σ ρ where
  len := S.len
  slot := fun i s h => by
    have q := S.slot i s h
    cases s with
    | no => trivial
    | exn => exact q
    | val w => obtain ⟨v, e1, r⟩ := q; exact ⟨v, e1, r.mono e.keeps⟩
    | own w =>
      obtain ⟨a, e1, o, nf, nk⟩ := q
      refine ⟨a, e1, o.mono e, fun f => ?_, nk⟩
      rcases e.g a f with f | f
      · exact nf f
      · obtain ⟨u, hu, _⟩ := o.some
        rw [hu] at f; cases f
  sep := S.sep
  lent := S.lent
  ext := fun a o k h => e.h a o (by simp) (S.ext a o k h)
  f0 := fun a h => e.f a (S.f0 a h)
  alive := fun a h q => S.alive a h (by
    cases e1 : H a with
    | none => rfl
    | some o => rw [e.h a o (by simp) e1] at q; cases q)
  f1 := fun a h => by
    rcases e.g a h with q | q
    · exact S.f1 a q
    · right
      cases e1 : B.H0 a with
      | none => rfl
      | some o => exact absurd q (S.alive a (by rw [e1]; exact fun z => nomatch z))
  f2 := e.t
/-! ### values of expressions -/
inductive Md where
  | val | fre | bor (i : Nat)
def Fre (K : PySem.W.Frag) (B : Bd) (F : Fz) (H : Hp) (σ : L2.St) (ρ : Rho) (w : W) (v : V) : Prop :=
  ∃ a, v = .ref a ∧ OwnR K F H w a ∧ ¬ F a ∧ B.H0 a = none ∧ ∀ (i : Nat) (w' : W), ρ[i]? = some (.own w') → σ[i]? ≠ some (some (.ref a))
def VR (K : PySem.W.Frag) (B : Bd) (F : Fz) (H : Hp) (σ : L2.St) (ρ : Rho) (m : Md) (w : W) (v : V) : Prop := match m with
  | .val => Rep K F H w v
  | .fre => Fre K B F H σ ρ w v
  | .bor i => ρ[i]? = some (.own w) ∧ σ[i]? = some (some v)
/-- freeze the list at a, that nobody has in a slot -/
theorem SR.freeze (S : SR K B F H σ ρ) {a : Addr} (n : ¬ F a) (h : H a ≠ none) (h0 : B.H0 a = none) (hs : ∀ (i : Nat) (w' : W), ρ[i]? = some (.own w') → σ[i]? ≠ some (some (.ref a))) :
    SR K B (fun b => F b ∨ b = a) H σ ρ ∧ Keeps F H (fun b => F b ∨ b = a) H := by
  have k : Keeps F H (fun b => F b ∨ b = a) H := ⟨fun _ h => .inl h, fun _ _ h _ => h⟩
  refine ⟨⟨S.len, fun i s h => ?_, S.sep, S.lent, S.ext, S.alive, fun b h => .inl (S.f0 b h), fun b h => ?_, fun b h => ?_⟩, k⟩
  · have q := S.slot i s h
    cases s with
    | no => trivial
    | exn => exact q
    | val w => obtain ⟨v, e1, r⟩ := q; exact ⟨v, e1, r.mono k⟩
    | own w =>
      obtain ⟨b, e1, o, nf, nk⟩ := q
      refine ⟨b, e1, ?_, fun f => ?_, nk⟩
      · cases w with
        | lst l => obtain ⟨vs, h1, h2⟩ := o; exact ⟨vs, h1, h2.mono k⟩
        | dK ks l => obtain ⟨vs, h1, n, h2⟩ := o; exact ⟨vs, h1, n, h2.mono k⟩
        | obj c ns l => obtain ⟨dx, vs, h1, n, h2⟩ := o; exact ⟨dx, vs, h1, n, h2.mono k⟩
        | _ => exact o
      · rcases f with f | f
        · exact nf f
        · rw [f] at e1
          exact hs i w h e1
  · rcases h with h | h
    · exact S.f1 b h
    · rw [h]; exact .inr h0
  · rcases h with h | h
    · exact S.f2 b h
    · rw [h]; assumption
/-- a slot is forgotten -/
def unlent (B : Bd) (i : Nat) : Prop := i ∉ B.I.map (·.1)
theorem SR.lent_set (S : SR K B F H σ ρ) {i : Nat} (u : unlent B i) (s : Sl) : ∀ p ∈ B.I, σ[p.1]? = some (some (.ref p.2)) ∧ ∃ w, (ρ.set i s)[p.1]? = some (.own w) := fun p hp => by
  obtain ⟨h1, w, h2⟩ := S.lent p hp
  have n : i ≠ p.1 := fun e => u (List.mem_map.mpr ⟨p, hp, e.symm⟩)
  exact ⟨h1, w, by rw [List.getElem?_set_ne n]; exact h2⟩
theorem SR.drop (S : SR K B F H σ ρ) {i : Nat} (u : unlent B i) : SR K B F H σ (ρ.set i .no) := by
  have hh : ∀ j s, (ρ.set i .no)[j]? = some s → s = .no ∨ (j ≠ i ∧ ρ[j]? = some s) := fun j s h => by
    by_cases e : j = i
    · subst e
      rw [List.getElem?_set] at h
      split at h
      · split at h
        · left; exact (Option.some.inj h).symm
        · cases h
      · rename_i n; exact absurd rfl n
    · right
      rw [List.getElem?_set_ne (Ne.symm e)] at h
      exact ⟨e, h⟩
  refine ⟨by rw [List.length_set]; exact S.len, fun j s h => ?_, fun j k w w' a h1 h2 e1 e2 => ?_, S.lent_set u _, S.ext, S.alive, S.f0, S.f1, S.f2⟩
  · rcases hh j s h with e | ⟨_, e⟩
    · subst e; trivial
    · exact S.slot j s e
  · rcases hh j _ h1 with e | ⟨_, g1⟩
    · cases e
    · rcases hh k _ h2 with e | ⟨_, g2⟩
      · cases e
      · exact S.sep j k w w' a g1 g2 e1 e2
/-- a slot bears another word about the same value -/
theorem SR.again (S : SR K B F H σ ρ) {i : Nat} {w : W} (u : unlent B i) (h : SlR K B F H (.val w) σ[i]?) : SR K B F H σ (ρ.set i (.val w)) := by
  have hh : ∀ j s, (ρ.set i (.val w))[j]? = some s → (j = i ∧ s = .val w) ∨ (j ≠ i ∧ ρ[j]? = some s) := fun j s h => by
    by_cases e : j = i
    · subst e
      rw [List.getElem?_set] at h
      split at h
      · split at h
        · left; exact ⟨rfl, (Option.some.inj h).symm⟩
        · cases h
      · rename_i n; exact absurd rfl n
    · right
      rw [List.getElem?_set_ne (Ne.symm e)] at h
      exact ⟨e, h⟩
  refine ⟨by rw [List.length_set]; exact S.len, fun j s h' => ?_, fun j k z z' a h1 h2 e1 e2 => ?_, S.lent_set u _, S.ext, S.alive, S.f0, S.f1, S.f2⟩
  · rcases hh j s h' with ⟨e, e'⟩ | ⟨_, e⟩
    · subst e; subst e'; exact h
    · exact S.slot j s e
  · rcases hh j _ h1 with ⟨_, e⟩ | ⟨_, g1⟩
    · cases e
    · rcases hh k _ h2 with ⟨_, e⟩ | ⟨_, g2⟩
      · cases e
      · exact S.sep j k z z' a g1 g2 e1 e2
/-- an own slot that is not lent holds a list made behind the entry -/
theorem SR.new_of (S : SR K B F H σ ρ) {i : Nat} {w : W} {a : Addr} (h : ρ[i]? = some (.own w)) (e : σ[i]? = some (some (.ref a))) (ui : unlent B i) : B.H0 a = none := by
  obtain ⟨b, eb, _, _, nk⟩ := S.slot i _ h
  rw [e] at eb
  cases eb
  cases q : B.H0 a with
  | none => rfl
  | some o =>
    exfalso
    refine nk ⟨by rw [q]; exact (fun z => nomatch z), fun p hp z => ?_⟩
    obtain ⟨h1, w', h2⟩ := S.lent p hp
    exact ui (List.mem_map.mpr ⟨p, hp, S.sep p.1 i w' w a h2 h (by rw [h1, z]) e⟩)
end
/-! ### results -/
inductive R (α : Type) where
  | ok (a : α) (ρ : Rho)
  | exc (c : Str) (ns : List Str) (ws : List W) (ρ : Rho)
  | stk
def R.bind {α β : Type} (r : R α) (k : α → Rho → R β) : R β := match r with
  | .ok a ρ => k a ρ
  | .exc c ns ws ρ => .exc c ns ws ρ
  | .stk => .stk
def lift {α : Type} (o : Option α) (ρ : Rho) : R α := match o with
  | some a => .ok a ρ
  | none => .stk
/-- an exception's fields in its own dict -/
def ExF (K : PySem.W.Frag) (F : Fz) (H : Hp) (ns : List Str) (ws : List W) (d : Option Addr) : Prop := match ns with
  | [] => d = none ∧ ws = []
  | _ => ∃ dd vs, d = some dd ∧ H dd = some (.xd (ns.zip vs)) ∧ ns.length = vs.length ∧ RepL K F H ws vs
/-- where one stands: classes of errors by names, the entry, what is wanted of an error, the lent slots -/
structure Yx (I : List Nat) where
  ct : Str → Addr
  B : Bd
  wx : WX
  hI : B.I.map (·.1) = I
variable {I : List Nat}
theorem Yx.un (Y : Yx I) {i : Nat} (h : i ∉ I) : unlent Y.B i := by
  unfold unlent
  rw [Y.hI]
  exact h
def RunG {β : Type} (K : PySem.W.Frag) (Y : Yx I) (F : Fz) (H : Hp) (σ : L2.St) (r : R β) (P : β → Rho → Fz → Hp → Prop) : Prop := match r with
  | .ok b ρ' => ∀ F' H', SR K Y.B F' H' σ ρ' → Keeps F H F' H' → P b ρ' F' H'
  | .exc c ns ws ρ' => ∀ F' H' d, SR K Y.B F' H' σ ρ' → ExF K F' H' ns ws d → Y.wx (.ref (Y.ct c)) d σ H'
  | .stk => False
section
variable {K : PySem.W.Frag} {Y : Yx I} {F F' F1 F2 : Fz} {H H' H1 H2 : Hp} {σ : L2.St} {ρ : Rho} {β γ : Type}
theorem RunG.rebase {r : R β} {P : β → Rho → Fz → Hp → Prop} (h : RunG K Y F H σ r P) (k : Keeps F H F1 H1) : RunG K Y F1 H1 σ r P := by
  cases r with
  | ok b ρ' => exact fun F' H' S k' => h F' H' S (k.trans k')
  | exc c ns ws ρ' => exact h
  | stk => exact h
theorem RunG.bind {r : R β} {k : β → Rho → R γ} {P : γ → Rho → Fz → Hp → Prop} (h : RunG K Y F H σ (r.bind k) P) : RunG K Y F H σ r fun b ρ1 F1 H1 => RunG K Y F1 H1 σ (k b ρ1) P := by
  cases r with
  | ok b ρ' => exact fun F' H' S k' => RunG.rebase (show RunG K Y F H σ (k b ρ') P from h) k'
  | exc c ns ws ρ' => exact h
  | stk => exact h
theorem RunG.imp {r : R β} {P P' : β → Rho → Fz → Hp → Prop} (h : RunG K Y F H σ r P) (q : ∀ b ρ' F' H', SR K Y.B F' H' σ ρ' → Keeps F H F' H' → P b ρ' F' H' → P' b ρ' F' H') : RunG K Y F H σ r P' := by
  cases r with
  | ok b ρ' => exact fun F' H' S k' => q _ _ _ _ S k' (h F' H' S k')
  | exc c ns ws ρ' => exact h
  | stk => exact h
/-- an expression's reading by its mirror -/
def tM (K : PySem.W.Frag) (Y : Yx I) (f : Rho → R (Md × W)) : TE := fun σ H Q => ∃ F ρ, SR K Y.B F H σ ρ ∧ RunG K Y F H σ (f ρ) fun b ρ' F' H' => ∀ v, VR K Y.B F' H' σ ρ' b.1 b.2 v → Q v H'
def PEM (X : Cx) (Y : Yx I) (e : Expr) (f : Rho → R (Md × W)) : Prop := PE X e (tM X.K Y f)
theorem pe_weak {X : Cx} {e : Expr} {t t' : TE} (h : PE X e t) (q : ∀ σ H Q, t' σ H Q → t σ H Q) : PE X e t' := ⟨fun pins s σ H Q I hq => h.run pins s σ H Q I (q _ _ _ hq)⟩
/-! ### held, peeked, kept values -/
def Held (σ : L2.St) (K : PySem.W.Frag) (F : Fz) (H : Hp) (m : Md) (w : W) (v : V) : Prop := match m with
  | .val => Rep K F H w v
  | .fre => Rep K F H w v
  | .bor i => σ[i]? = some (some v)
theorem SR.hold (S : SR K Y.B F H σ ρ) {m : Md} {w : W} {v : V} (h : VR K Y.B F H σ ρ m w v) : ∃ F', SR K Y.B F' H σ ρ ∧ Keeps F H F' H ∧ Held σ K F' H m w v := by
  cases m with
  | val => exact ⟨F, S, .refl, h⟩
  | fre =>
    obtain ⟨a, rfl, o, nf, h0, hs⟩ := h
    obtain ⟨u, hu, _⟩ := o.some
    obtain ⟨S', k⟩ := S.freeze nf (by rw [hu]; exact (fun z => nomatch z)) h0 hs
    refine ⟨_, S', k, ?_⟩
    have o' : OwnR K (fun b => F b ∨ b = a) H w a := by
      cases w with
      | lst l => obtain ⟨vs, h1, h2⟩ := o; exact ⟨vs, h1, h2.mono k⟩
      | dK ks l => obtain ⟨vs, h1, n, h2⟩ := o; exact ⟨vs, h1, n, h2.mono k⟩
      | obj c ns l => obtain ⟨dx, vs, h1, n, h2⟩ := o; exact ⟨dx, vs, h1, n, h2.mono k⟩
      | _ => exact o
    exact o'.rep (.inr rfl)
  | bor i => exact ⟨F, S, .refl, h.2⟩
def PkR (K : PySem.W.Frag) (F : Fz) (H : Hp) (w : W) (v : V) : Prop := Rep K F H w v ∨ ∃ a, v = .ref a ∧ OwnR K F H w a
def peek (m : Md) (w : W) (ρ : Rho) : Option W := match m with
  | .val => some w
  | .fre => some w
  | .bor i => match ρ[i]? with
    | some (.own u) => some u
    | some (.val u) => some u
    | _ => none
theorem SR.peek (S : SR K Y.B F H σ ρ) {m : Md} {w u : W} {v : V} (h : Held σ K F1 H1 m w v) (k : Keeps F1 H1 F H) (e : peek m w ρ = some u) : PkR K F H u v := by
  cases m with
  | val => cases e; exact .inl (Rep.mono k w h)
  | fre => cases e; exact .inl (Rep.mono k w h)
  | bor i =>
    have h' : σ[i]? = some (some v) := h
    unfold ML.peek at e
    dsimp only at e
    cases q : ρ[i]? with
    | none => rw [q] at e; cases e
    | some s =>
      rw [q] at e
      have z := S.slot i s q
      cases s with
      | no => cases e
      | exn => cases e
      | val x =>
        cases e
        obtain ⟨v', e1, r⟩ := z
        rw [h'] at e1
        cases e1
        exact .inl r
      | own x =>
        cases e
        obtain ⟨a, e1, o, _, _⟩ := z
        rw [h'] at e1
        cases e1
        exact .inr ⟨a, rfl, o⟩
/-- made a value: nobody changes it any more -/
def toVal (I : List Nat) (b : Md × W) (ρ : Rho) : R W := match b.1 with
  | .val => .ok b.2 ρ
  | .fre => .ok b.2 ρ
  | .bor i => match ρ[i]? with
    | some (.own u) => if i ∈ I then .stk else .ok u (ρ.set i (.val u))
    | some (.val u) => .ok u ρ
    | _ => .stk
theorem SR.toValH (S : SR K Y.B F H σ ρ) {b : Md × W} {v : V} (h : Held σ K F1 H1 b.1 b.2 v) (k1 : Keeps F1 H1 F H) {P : W → Rho → Fz → Hp → Prop} (q : RunG K Y F H σ (toVal I b ρ) P) : ∃ F' w ρ', SR K Y.B F' H σ ρ' ∧ Keeps F H F' H ∧ Rep K F' H w v ∧ P w ρ' F' H := by
  obtain ⟨m, w⟩ := b
  cases m with
  | val => exact ⟨F, w, ρ, S, .refl, Rep.mono k1 w h, q F H S .refl⟩
  | fre => exact ⟨F, w, ρ, S, .refl, Rep.mono k1 w h, q F H S .refl⟩
  | bor i =>
    have h2' : σ[i]? = some (some v) := h
    unfold ML.toVal at q
    dsimp only at q
    cases g : ρ[i]? with
    | none => rw [g] at q; exact q.elim
    | some sl =>
      rw [g] at q
      cases sl with
      | no => exact q.elim
      | exn => exact q.elim
      | val u =>
        obtain ⟨v', e1, r⟩ := S.slot i _ g
        rw [h2'] at e1
        cases e1
        exact ⟨F, u, ρ, S, .refl, r, q F H S .refl⟩
      | own u =>
        dsimp only at q
        split at q
        · exact q.elim
        · rename_i n
          have ui := Y.un n
          obtain ⟨a, e1, o, nf, nk⟩ := S.slot i _ g
          rw [h2'] at e1
          cases e1
          have h0 := S.new_of g h2' ui
          have Sd := S.drop ui
          obtain ⟨z, hu, _⟩ := o.some
          have hs : ∀ (j : Nat) (w' : W), (ρ.set i .no)[j]? = some (.own w') → σ[j]? ≠ some (some (.ref a)) := fun j w' hj ej => by
            by_cases e : i = j
            · subst e
              rw [List.getElem?_set] at hj
              split at hj
              · split at hj <;> cases hj
              · rename_i n; exact n rfl
            · rw [List.getElem?_set_ne e] at hj
              exact e (S.sep i j _ _ a g hj h2' ej)
          obtain ⟨S', k⟩ := Sd.freeze nf (by rw [hu]; exact (fun z => nomatch z)) h0 hs
          have o' : OwnR K (fun b => F b ∨ b = a) H u a := by
            cases u with
            | lst l => obtain ⟨vs, h1, h2⟩ := o; exact ⟨vs, h1, h2.mono k⟩
            | dK ks l => obtain ⟨vs, h1, n, h2⟩ := o; exact ⟨vs, h1, n, h2.mono k⟩
            | obj c ns l => obtain ⟨dx, vs, h1, n, h2⟩ := o; exact ⟨dx, vs, h1, n, h2.mono k⟩
            | _ => exact o
          have r := o'.rep (.inr rfl)
          have S2 := S'.again (w := u) ui ⟨.ref a, h2', r⟩
          rw [List.set_set] at S2
          exact ⟨_, u, _, S2, k, r, q _ H S2 k⟩
theorem SR.toVal (S : SR K Y.B F H σ ρ) {b : Md × W} {v : V} (h : VR K Y.B F H σ ρ b.1 b.2 v) {P : W → Rho → Fz → Hp → Prop} (q : RunG K Y F H σ (toVal I b ρ) P) : ∃ F' w ρ', SR K Y.B F' H σ ρ' ∧ Keeps F H F' H ∧ Rep K F' H w v ∧ P w ρ' F' H := by
  obtain ⟨F1, S1, k1, h1⟩ := S.hold h
  obtain ⟨F2, w, ρ2, S2, k2, r, p⟩ := S1.toValH h1 .refl (q.rebase k1)
  exact ⟨F2, w, ρ2, S2, k1.trans k2, r, p⟩
/-- what an operation makes anew -/
def NewR (K : PySem.W.Frag) (H : Hp) (F' : Fz) (H' : Hp) (m : Md) (z : W) (v : V) : Prop := match m with
  | .val => Rep K F' H' z v
  | .fre => ∃ a, v = .ref a ∧ OwnR K F' H' z a ∧ ¬ F' a ∧ H a = none
  | .bor _ => False
theorem SR.newR (S : SR K Y.B F H σ ρ) (e : Ext [] F H F' H') {m : Md} {z : W} {v : V} (h : NewR K H F' H' m z v) : VR K Y.B F' H' σ ρ m z v := by
  cases m with
  | val => exact h
  | fre =>
    obtain ⟨a, rfl, o, nf, n⟩ := h
    refine ⟨a, rfl, o, nf, ?_, fun i w' hi ei => ?_⟩
    · cases q : Y.B.H0 a with
      | none => rfl
      | some u => exact absurd n (S.alive a (by rw [q]; exact (fun z => nomatch z)))
    · obtain ⟨b, eb, ob, _, _⟩ := S.slot i _ hi
      rw [ei] at eb
      cases eb
      obtain ⟨u, hu, _⟩ := ob.some
      rw [n] at hu; cases hu
  | bor i => exact h.elim
theorem lift_ok {o : Option β} {P : β → Rho → Fz → Hp → Prop} (h : RunG K Y F H σ (lift o ρ) P) : ∃ b, o = some b ∧ ∀ F' H', SR K Y.B F' H' σ ρ → Keeps F H F' H' → P b ρ F' H' := by
  cases o with
  | none => exact h.elim
  | some b => exact ⟨b, rfl, h⟩
end
end ML

set_option maxHeartbeats 4000000
namespace ML
open PySem PySem.Spec PyProof.Rows L2
variable {I : List Nat}
section
variable {X : Cx} {Y : Yx I} {e a b : Expr} {pos : Pos} {fa fb : Rho → R (Md × W)}
/-! ### names, constants -/
def mVar (i : Nat) : Rho → R (Md × W) := fun ρ => match ρ[i]? with
  | some (.val w) => .ok (.val, w) ρ
  | some (.own w) => .ok (.bor i, w) ρ
  | _ => .stk
theorem pem_var (i : Nat) (h : PE X e (tVar i)) : PEM X Y e (mVar i) := pe_weak h fun σ H Q hq => by
  obtain ⟨F, ρ, S, q⟩ := hq
  unfold mVar at q
  cases g : ρ[i]? with
  | none => rw [g] at q; exact q.elim
  | some sl =>
    rw [g] at q
    cases sl with
    | no => exact q.elim
    | exn => exact q.elim
    | val w =>
      obtain ⟨v, ev, r⟩ := S.slot i _ g
      exact ⟨v, ev, q F H S .refl v r⟩
    | own w =>
      obtain ⟨c, ev, _⟩ := S.slot i _ g
      exact ⟨_, ev, q F H S .refl _ ⟨g, ev⟩⟩
def mC (w : W) : Rho → R (Md × W) := fun ρ => .ok (.val, w) ρ
theorem pem_c {w : W} {v : V} (h : PE X e (tC v)) (r : ∀ F H, Rep X.K F H w v) : PEM X Y e (mC w) := pe_weak h fun σ H Q hq => by
  obtain ⟨F, ρ, S, q⟩ := hq
  exact q F H S .refl v (r F H)
theorem pem_int {i j pos} : PEM X Y (.Constant (.int i) j pos) (mC (.int i)) := pem_c pe_int fun _ _ => rfl
theorem pem_bl {b j pos} : PEM X Y (.Constant (.bool b) j pos) (mC (.bl b)) := pem_c pe_bl fun _ _ => rfl
theorem pem_non {j pos} : PEM X Y (.Constant .none j pos) (mC .non) := pem_c pe_non fun _ _ => rfl
theorem pem_str {x j pos} : PEM X Y (.Constant (.str x) j pos) (mC (.str x)) := pem_c pe_str fun _ _ => rfl
/-! ### operators -/
def Tight (F : Fz) (H : Hp) : Prop := ∀ a, F a → H a ≠ none
def OpW (K : PySem.W.Frag) (r : R2) (g : W → W → Option (Md × W)) : Prop := ∀ x y m z, g x y = some (m, z) → ∀ (F : Fz) (H : Hp) (vx vy : V) (Q : VK), Tight F H → PkR K F H x vx → PkR K F H y vy →
  (∀ F' H' v, Ext [] F H F' H' → NewR K H F' H' m z v → Q v H') → r vx vy H Q
def mOp (g : W → W → Option (Md × W)) (fa fb : Rho → R (Md × W)) : Rho → R (Md × W) := fun ρ => (fa ρ).bind fun x ρ1 => (fb ρ1).bind fun y ρ2 =>
  match peek x.1 x.2 ρ2, peek y.1 y.2 ρ2 with
  | some u, some v => lift (g u v) ρ2
  | _, _ => .stk
theorem tOp_of {K : PySem.W.Frag} {r : R2} {g : W → W → Option (Md × W)} (hg : OpW K r g) {σ : L2.St} {H : Hp} {Q : VK} (hq : tM K Y (mOp g fa fb) σ H Q) : tOp r (tM K Y fa) (tM K Y fb) σ H Q := by
  obtain ⟨F, ρ, S, q⟩ := hq
  refine ⟨F, ρ, S, (RunG.bind q).imp fun x ρ1 F1 H1 S1 k1 q1 v1 hv1 => ?_⟩
  obtain ⟨F1', S1', k1', hd1⟩ := S1.hold hv1
  refine ⟨F1', ρ1, S1', (RunG.bind (q1.rebase k1')).imp fun y ρ2 F2 H2 S2 k2 q2 v2 hv2 => ?_⟩
  obtain ⟨F2', S2', k2', hd2⟩ := S2.hold hv2
  have q3 := q2.rebase k2'
  cases e1 : peek x.1 x.2 ρ2 with
  | none => rw [e1] at q3; exact q3.elim
  | some u =>
    cases e2 : peek y.1 y.2 ρ2 with
    | none => rw [e1, e2] at q3; exact q3.elim
    | some w =>
      rw [e1, e2] at q3
      obtain ⟨⟨m, z⟩, ez, qz⟩ := lift_ok q3
      refine hg u w m z ez F2' H2 v1 v2 Q S2'.f2 (S2'.peek hd1 (k2.trans k2') e1) (S2'.peek hd2 .refl e2) fun F' H' v ee hn => ?_
      exact qz F' H' (S2'.grow ee) ee.keeps v (S2'.newR ee hn)
theorem pem_op {op : Operator} {r : R2} {g : W → W → Option (Md × W)} (ho : OpR X (binaryOp op) r) (hg : OpW X.K r g) (ha : PEM X Y a fa) (hb : PEM X Y b fb) : PEM X Y (.BinOp a op b pos) (mOp g fa fb) :=
  pe_weak (pe_op ho ha hb) fun σ H Q hq => tOp_of hg hq
theorem pem_cmp {op : CmpOp} {r : R2} {g : W → W → Option (Md × W)} (ho : OpR X (compareOp op) r) (hg : OpW X.K r g) (ha : PEM X Y a fa) (hb : PEM X Y b fb) (hm : behindInMarks op b = false) : PEM X Y (.Compare a [op] [b] pos) (mOp g fa fb) :=
  pe_weak (pe_cmpR ho ha hb hm) fun σ H Q hq => tOp_of hg hq
end
/-! ### the operators by W -/
section
variable {K : PySem.W.Frag} {F : Fz} {H : Hp}
/-- a list that is read (own or not), with its words -/
theorem PkR.lst {l : List W} {v : V} (h : PkR K F H (.lst l) v) : ∃ a vs, v = .ref a ∧ H a = some (.lst vs) ∧ RepL K F H l vs := by
  rcases h with ⟨a, vs, e, _, h1, h2⟩ | ⟨a, e, vs, h1, h2⟩
  · exact ⟨a, vs, e, h1, h2⟩
  · exact ⟨a, vs, e, h1, h2⟩
theorem PkR.dK {ks : List Key} {l : List W} {v : V} (h : PkR K F H (.dK ks l) v) : ∃ a vs, v = .ref a ∧ H a = some (.dK (ks.zip vs)) ∧ ks.length = vs.length ∧ RepL K F H l vs := by
  rcases h with ⟨a, vs, e, _, h1, n, h2⟩ | ⟨a, e, vs, h1, n, h2⟩
  · exact ⟨a, vs, e, h1, n, h2⟩
  · exact ⟨a, vs, e, h1, n, h2⟩
theorem PkR.rep {w : W} {v : V} (h : PkR K F H w v) (n : ∀ l, w ≠ .lst l) (m : ∀ ks l, w ≠ .dK ks l) (o : ∀ c ns l, w ≠ .obj c ns l) : Rep K F H w v := by
  rcases h with h | ⟨a, e, h⟩
  · exact h
  · cases w with
    | lst l => exact absurd rfl (n l)
    | dK ks l => exact absurd rfl (m ks l)
    | obj c ns l => exact absurd rfl (o c ns l)
    | _ => exact h.elim
theorem PkR.int {i : Int} {v : V} (h : PkR K F H (.int i) v) : v = .int i := h.rep (fun _ => W.noConfusion) (fun _ _ => W.noConfusion) fun _ _ _ => W.noConfusion
theorem PkR.bl {i : Bool} {v : V} (h : PkR K F H (.bl i) v) : v = .bl i := h.rep (fun _ => W.noConfusion) (fun _ _ => W.noConfusion) fun _ _ _ => W.noConfusion
theorem PkR.str {i : Str} {v : V} (h : PkR K F H (.str i) v) : v = .str i := h.rep (fun _ => W.noConfusion) (fun _ _ => W.noConfusion) fun _ _ _ => W.noConfusion
theorem PkR.non {v : V} (h : PkR K F H .non v) : v = .non := h.rep (fun _ => W.noConfusion) (fun _ _ => W.noConfusion) fun _ _ _ => W.noConfusion
theorem PkR.tup {l : List W} {v : V} (h : PkR K F H (.tup l) v) : ∃ a vs, v = .ref a ∧ SqU K H a vs ∧ RepL K F H l vs := h.rep (fun _ => W.noConfusion) (fun _ _ => W.noConfusion) fun _ _ _ => W.noConfusion
theorem PkR.frl {l : List W} {v : V} (h : PkR K F H (.frl l) v) : ∃ a vs, v = .ref a ∧ FrlL K H a vs ∧ RepL K F H l vs := h.rep (fun _ => W.noConfusion) (fun _ _ => W.noConfusion) fun _ _ _ => W.noConfusion
/-- the items of a list, a tuple -/
def itemsW : W → Option (List W)
  | .lst l => some l
  | .frl l => some l
  | .tup l => some l
  | _ => none
theorem PkR.seq {w : W} {l : List W} {v : V} (h : PkR K F H w v) (e : itemsW w = some l) : ∃ a vs, v = .ref a ∧ (SqL K H a vs ∨ SqT K H a vs) ∧ RepL K F H l vs := by
  cases w with
  | lst m => cases e; obtain ⟨a, vs, e1, h1, r⟩ := h.lst; exact ⟨a, vs, e1, .inl (.of h1), r⟩
  | frl m => cases e; obtain ⟨a, vs, e1, h1, r⟩ := h.frl; exact ⟨a, vs, e1, .inl h1.seq, r⟩
  | tup m => cases e; obtain ⟨a, vs, e1, h1, r⟩ := h.tup; exact ⟨a, vs, e1, .inr h1.seq, r⟩
  | _ => cases e
/-- a new list -/
theorem new_lst (t : Tight F H) {l : List W} {vs : List V} (r : RepL K F H l vs) {Q : VK} (q : ∀ F' H' v, Ext [] F H F' H' → NewR K H F' H' .fre (.lst l) v → Q v H') {p : Addr} (hp : H p = none) : Q (.ref p) (upd H p (.lst vs)) := by
  have e : Ext [] F H F (upd H p (.lst vs)) := Ext.new hp t
  exact q _ _ _ e ⟨p, rfl, ⟨vs, upd_same, r.mono e.keeps⟩, fun f => t p f hp, hp⟩
theorem new_tup (t : Tight F H) {l : List W} {vs : List V} (r : RepL K F H l vs) {Q : VK} (q : ∀ F' H' v, Ext [] F H F' H' → NewR K H F' H' .val (.tup l) v → Q v H') {p : Addr} (hp : H p = none) : Q (.ref p) (upd H p (.tup vs)) := by
  have e : Ext [] F H F (upd H p (.tup vs)) := Ext.new hp t
  exact q _ _ _ e ⟨p, vs, rfl, .inl upd_same, r.mono e.keeps⟩
theorem old_val (t : Tight F H) {z : W} {v : V} (r : Rep K F H z v) {Q : VK} (q : ∀ F' H' v, Ext [] F H F' H' → NewR K H F' H' .val z v → Q v H') : Q v H := q F H v (.refl t) r
theorem RepL.flatten {l : List W} {vs : List V} (r : RepL K F H l vs) : ∀ n, RepL K F H (List.replicate n l).flatten (List.replicate n vs).flatten
  | 0 => rfl
  | n + 1 => by
    rw [List.replicate_succ, List.replicate_succ, List.flatten_cons, List.flatten_cons]
    exact RepL.append r (RepL.flatten r n)
end
abbrev GW := W → W → Option (Md × W)
def gAdd : GW
  | .int i, .int j => some (.val, .int (i + j))
  | .str x, .str y => if x.length + y.length ≤ sizeLine then some (.val, .str (x ++ y)) else none
  | .lst l, .lst m => if l.length + m.length ≤ sizeLine then some (.fre, .lst (l ++ m)) else none
  | .tup l, .tup m => if l.length + m.length ≤ sizeLine then some (.val, .tup (l ++ m)) else none
  | _, _ => none
abbrev rAddS : R2 := fun x y H Q => ∃ i j, x = .str i ∧ y = .str j ∧ i.length + j.length ≤ sizeLine ∧ Q (.str (i ++ j)) H
def rAddM (K : PySem.W.Frag) : R2 := fun x y H Q => rI0 (fun i j => .int (i + j)) x y H Q ∨ rAddS x y H Q ∨ rCat x y H Q ∨ rCatA K x y H Q
theorem OpR.or {X : Cx} {f : Value → Value → Sem Value} {r r' : R2} (h : OpR X f r) (h' : OpR X f r') : OpR X f (fun x y H Q => r x y H Q ∨ r' x y H Q) := by
  intro pins s σ H x y v u Q I rx ry q
  rcases q with q | q
  · exact h pins s σ H x y v u Q I rx ry q
  · exact h' pins s σ H x y v u Q I rx ry q
theorem o_add {X : Cx} : OpR X (binaryOp .Add) (rAddM X.K) := OpR.or op_add (OpR.or op_add_str (OpR.or op_cat op_catA))
theorem g_add {K : PySem.W.Frag} : OpW K (rAddM K) gAdd := by
  intro x y m z e F H vx vy Q t px py q
  unfold gAdd at e
  split at e
  · cases e; cases px.int; cases py.int
    exact .inl ⟨_, _, rfl, rfl, old_val t (K := K) (z := .int _) rfl q⟩
  · split at e
    · rename_i hl
      cases e; cases px.str; cases py.str
      exact .inr (.inl ⟨_, _, rfl, rfl, hl, old_val t (K := K) (z := .str _) rfl q⟩)
    · cases e
  · split at e
    · rename_i hl
      cases e
      obtain ⟨a, vs, rfl, h1, r1⟩ := px.lst
      obtain ⟨b, us, rfl, h2, r2⟩ := py.lst
      refine .inr (.inr (.inl ⟨a, b, vs, us, rfl, rfl, h1, h2, by rw [← r1.len, ← r2.len]; exact hl, fun p hp => new_lst t (r1.append r2) q hp⟩))
    · cases e
  · split at e
    · rename_i hl
      cases e
      obtain ⟨a, vs, rfl, h1, r1⟩ := px.tup
      obtain ⟨b, us, rfl, h2, r2⟩ := py.tup
      refine .inr (.inr (.inr ⟨a, b, vs, us, rfl, rfl, h1.seq, h2.seq, by rw [← r1.len, ← r2.len]; exact hl, fun ex => ?_, fun _ ey => ?_, fun _ _ p hp => new_tup t (r1.append r2) q hp⟩))
      · subst ex
        have el := r1.len
        rw [List.length_nil, List.length_eq_zero_iff] at el
        subst el
        exact old_val t (show Rep K F H (.tup _) (.ref b) from ⟨b, us, rfl, h2, r2⟩) q
      · subst ey
        have el := r2.len
        rw [List.length_nil, List.length_eq_zero_iff] at el
        subst el
        exact old_val t (show Rep K F H (.tup _) (.ref a) from ⟨a, vs, rfl, h1, by rw [List.append_nil]; exact r1⟩) q
    · cases e
  · cases e
def gI (C : Int → Int → Bool) (f : Int → Int → Int) : GW
  | .int i, .int j => if C i j then some (.val, .int (f i j)) else none
  | _, _ => none
theorem g_I {K : PySem.W.Frag} {C : Int → Int → Bool} {f : Int → Int → Int} {CP : Int → Int → Prop} (hC : ∀ i j, C i j = true → CP i j) : OpW K (rI CP fun i j => .int (f i j)) (gI C f) := by
  intro x y m z e F H vx vy Q t px py q
  unfold gI at e
  split at e
  · split at e
    · rename_i hc
      cases e; cases px.int; cases py.int
      exact ⟨_, _, rfl, rfl, hC _ _ hc, old_val t (K := K) (z := .int _) rfl q⟩
    · cases e
  · cases e
def gSub : GW := gI (fun _ _ => true) fun i j => i - j
theorem o_sub {X : Cx} : OpR X (binaryOp .Sub) (rI (fun _ _ => True) fun i j => .int (i - j)) := fun pins s σ H x y v u Q I rx ry ⟨i, j, e1, e2, _, q⟩ => op_sub pins s σ H x y v u Q I rx ry ⟨i, j, e1, e2, q⟩
theorem g_sub {K : PySem.W.Frag} : OpW K (rI (fun _ _ => True) fun i j => .int (i - j)) gSub := g_I fun _ _ _ => trivial
def gMod : GW := gI (fun _ j => decide (0 < j)) fun i j => i % j
theorem g_mod {K : PySem.W.Frag} : OpW K (rI (fun _ j => 0 < j) fun i j => .int (i % j)) gMod := g_I fun _ _ h => of_decide_eq_true h
def gFdiv : GW := gI (fun _ j => decide (0 < j) && decide (j < 1073741824)) fun i j => i / j
theorem g_fdiv {K : PySem.W.Frag} : OpW K (rI CDiv fun i j => .int (i / j)) gFdiv := g_I fun i j h => by
  have h' : (decide (0 < j) && decide (j < 1073741824)) = true := h
  rw [Bool.and_eq_true_iff] at h'
  exact ⟨of_decide_eq_true h'.1, of_decide_eq_true h'.2⟩
def gPow : GW := gI (fun i j => decide (0 ≤ j) && (decide (j ≤ 1000000) && decide (i.natAbs < 2 ^ 64))) fun i j => i ^ j.toNat
theorem g_pow {K : PySem.W.Frag} : OpW K (rI CPow fun i j => .int (i ^ j.toNat)) gPow := g_I fun i j h => by
  have h' : (decide (0 ≤ j) && (decide (j ≤ 1000000) && decide (i.natAbs < 2 ^ 64))) = true := h
  rw [Bool.and_eq_true_iff, Bool.and_eq_true_iff] at h'
  exact ⟨of_decide_eq_true h'.1, of_decide_eq_true h'.2.1, of_decide_eq_true h'.2.2⟩
def okMul (i j : Int) : Bool := (decide (-(2 ^ 64) < i) && decide (i < 2 ^ 64)) || (decide (-(2 ^ 64) < j) && decide (j < 2 ^ 64))
def gMul : GW
  | .int i, .int j => if okMul i j then some (.val, .int (i * j)) else none
  | .lst l, .int k => if -(2 ^ 63) ≤ k ∧ k < 2 ^ 63 ∧ l.length * k.toNat ≤ sizeLine then some (.fre, .lst (List.replicate k.toNat l).flatten) else none
  | _, _ => none
def rMulM : R2 := fun x y H Q => rI CMul (fun i j => .int (i * j)) x y H Q ∨ rRep x y H Q
theorem o_mul {X : Cx} : OpR X (binaryOp .Mult) rMulM := OpR.or op_mul op_rep
theorem g_mul {K : PySem.W.Frag} : OpW K rMulM gMul := by
  intro x y m z e F H vx vy Q t px py q
  unfold gMul at e
  split at e
  · split at e
    · rename_i i j hc
      cases e; cases px.int; cases py.int
      refine .inl ⟨_, _, rfl, rfl, ?_, old_val t (K := K) (z := .int _) rfl q⟩
      have h' : ((decide (-(2 ^ 64) < i) && decide (i < 2 ^ 64)) || (decide (-(2 ^ 64) < j) && decide (j < 2 ^ 64))) = true := hc
      rw [Bool.or_eq_true_iff, Bool.and_eq_true_iff, Bool.and_eq_true_iff] at h'
      rcases h' with h' | h'
      · exact .inl ⟨of_decide_eq_true h'.1, of_decide_eq_true h'.2⟩
      · exact .inr ⟨of_decide_eq_true h'.1, of_decide_eq_true h'.2⟩
    · cases e
  · split at e
    · rename_i hc
      cases e; cases py.int
      obtain ⟨a, vs, rfl, h1, r1⟩ := px.lst
      exact .inr ⟨a, _, vs, rfl, rfl, h1, hc.1, hc.2.1, by rw [← r1.len]; exact hc.2.2, fun p hp => new_lst t (r1.flatten _) q hp⟩
    · cases e
  · cases e
def gLt : GW
  | .int i, .int j => some (.val, .bl (decide (i < j)))
  | _, _ => none
def gCmp (p : Int → Int → Bool) : GW
  | .int i, .int j => some (.val, .bl (p i j))
  | _, _ => none
theorem g_cmp {K : PySem.W.Frag} {p : Int → Int → Bool} : OpW K (rI0 fun i j => .bl (p i j)) (gCmp p) := by
  intro x y m z e F H vx vy Q t px py q
  unfold gCmp at e
  split at e
  · cases e; cases px.int; cases py.int
    exact ⟨_, _, rfl, rfl, old_val t (K := K) (z := .bl _) rfl q⟩
  · cases e
end ML

set_option maxHeartbeats 4000000
namespace ML
open PySem PySem.Spec PyProof.Rows L2
variable {I : List Nat}
/-! ### flat values, data -/
def toV : W → V
  | .bl b => .bl b
  | .int i => .int i
  | .str s => .str s
  | .ty n => .ty n
  | _ => .non
def flatW : W → Bool
  | .non => true
  | .bl _ => true
  | .int _ => true
  | .str _ => true
  | _ => false
mutual
def toD : W → Option PyData
  | .non => some .none
  | .bl b => some (.bool b)
  | .int i => some (.int i)
  | .str s => some (.str s)
  | .tup l => (toDL l).map .tuple
  | .lst l => (toDL l).map .list
  | .frl l => (toDL l).map .list
  | _ => none
def toDL : List W → Option (List PyData)
  | [] => some []
  | w :: l => match toD w, toDL l with
    | some d, some ds => some (d :: ds)
    | _, _ => none
end
section
variable {K : PySem.W.Frag} {F : Fz} {H : Hp}
theorem PkR.flat {w : W} {v : V} (h : PkR K F H w v) (f : flatW w = true) : v = toV w := by
  cases w with
  | non => exact h.non
  | bl b => exact h.bl
  | int b => exact h.int
  | str b => exact h.str
  | _ => cases f
theorem flat_toV {w : W} (f : flatW w = true) : flatV (toV w) = true := by
  cases w <;> first | rfl | cases f
theorem Rep.flat {w : W} {v : V} (h : Rep K F H w v) (f : flatW w = true) : v = toV w := PkR.flat (.inl h) f
theorem RepL.flat : ∀ {l : List W} {vs : List V}, RepL K F H l vs → l.all flatW = true → vs = l.map toV ∧ vs.all flatV = true
  | [], _, h, _ => by cases h; exact ⟨rfl, rfl⟩
  | w :: l, _, h, f => by
    obtain ⟨v, r, rfl, h1, h2⟩ := h
    rw [List.all_cons, Bool.and_eq_true_iff] at f
    obtain ⟨e1, e2⟩ := RepL.flat h2 f.2
    have e := h1.flat f.1
    rw [e, e1]
    refine ⟨rfl, ?_⟩
    rw [List.all_cons, flat_toV f.1, ← e1, e2]
    rfl
mutual
theorem toD_dp : ∀ (w : W) {d : PyData} {v : V}, toD w = some d → Rep K F H w v → Dp K H v d
  | .non, _, _, e, h => by cases e; cases h; exact .non
  | .bl b, _, _, e, h => by cases e; cases h; exact .bl b
  | .int b, _, _, e, h => by cases e; cases h; exact .int b
  | .str b, _, _, e, h => by cases e; cases h; exact .str b
  | .fn _, _, _, e, _ => by cases e
  | .ty _, _, _, e, _ => by cases e
  | .dK _ _, _, _, e, _ => by cases e
  | .obj _ _ _, _, _, e, _ => by cases e
  | .tup l, _, _, e, h => by
    obtain ⟨a, vs, rfl, s, r⟩ := h
    have e1 : (toDL l).map PyData.tuple = some _ := e
    obtain ⟨ds, q, rfl⟩ := Option.map_eq_some_iff.mp e1
    exact .tup s.seq (toDL_dp l q r)
  | .lst l, _, _, e, h => by
    obtain ⟨a, vs, rfl, _, s, r⟩ := h
    have e1 : (toDL l).map PyData.list = some _ := e
    obtain ⟨ds, q, rfl⟩ := Option.map_eq_some_iff.mp e1
    exact .lst (.of s) (toDL_dp l q r)
  | .frl l, _, _, e, h => by
    obtain ⟨a, vs, rfl, s, r⟩ := h
    have e1 : (toDL l).map PyData.list = some _ := e
    obtain ⟨ds, q, rfl⟩ := Option.map_eq_some_iff.mp e1
    exact .lst s.seq (toDL_dp l q r)
theorem toDL_dp : ∀ (l : List W) {ds : List PyData} {vs : List V}, toDL l = some ds → RepL K F H l vs → DpAll K H vs ds
  | [], _, _, e, h => by cases e; cases h; exact .nil
  | w :: l, ds, _, e, h => by
    obtain ⟨v, r, rfl, h1, h2⟩ := h
    have e1 : (match toD w, toDL l with
      | some d, some ds => some (d :: ds)
      | _, _ => none) = some ds := e
    cases q1 : toD w with
    | none => rw [q1] at e1; cases e1
    | some d =>
      cases q2 : toDL l with
      | none => rw [q1, q2] at e1; cases e1
      | some ds' =>
        rw [q1, q2] at e1
        cases e1
        exact .cons (toD_dp w q1 h1) (toDL_dp l q2 h2)
end
theorem PkR.dp {w : W} {d : PyData} {v : V} (h : PkR K F H w v) (e : toD w = some d) : Dp K H v d := by
  rcases h with h | ⟨a, rfl, o⟩
  · exact toD_dp w e h
  · cases w with
    | lst l =>
      obtain ⟨vs, s, r⟩ := o
      have e1 : (toDL l).map PyData.list = some _ := e
      obtain ⟨ds, q, rfl⟩ := Option.map_eq_some_iff.mp e1
      exact .lst (.of s) (toDL_dp l q r)
    | dK ks l => cases e
    | obj c ns l => cases e
    | _ => exact o.elim
end
/-! ### == != -/
def eqW (x y : W) : Option Bool := if flatW x && flatW y && scal (toV x) (toV y) then some (decide (toV x = toV y)) else match toD x, toD y with
  | some d, some e => if d.canLay0 && e.canLay0 && decide (min d.depth e.depth ≤ 150) then some (PyData.eqv d e) else none
  | _, _ => none
def gEq : GW := fun x y => (eqW x y).map fun b => (.val, .bl b)
def gNe : GW := fun x y => (eqW x y).map fun b => (.val, .bl (!b))
def rEqX (K : PySem.W.Frag) (n : Bool → Bool) : R2 := fun x y H Q => ∃ d e, Dp K H x d ∧ Dp K H y e ∧ d.canLay0 = true ∧ e.canLay0 = true ∧ min d.depth e.depth ≤ 150 ∧ Q (.bl (n (PyData.eqv d e))) H
section
variable {X : Cx}
theorem op_eqX (hu : X.A.units + 200 < cLine) : OpR X (compareOp .Eq) (rEqX X.K id) := by
  intro pins s σ H x y v u Q I rx ry h
  obtain ⟨d, e, hd, he, sd, se, sz, q⟩ := h
  obtain ⟨as, r1⟩ := Dp.reads I d x v hd rx
  obtain ⟨bs, r2⟩ := Dp.reads I e y u he ry
  exact SeqAt.compareEq_reads r1 r2 sd se (by omega) ⟨.bl _, H, I, rfl, q⟩
theorem op_neX (hu : X.A.units + 200 < cLine) : OpR X (compareOp .NotEq) (rEqX X.K not) := by
  intro pins s σ H x y v u Q I rx ry h
  obtain ⟨d, e, hd, he, sd, se, sz, q⟩ := h
  obtain ⟨as, r1⟩ := Dp.reads I d x v hd rx
  obtain ⟨bs, r2⟩ := Dp.reads I e y u he ry
  exact SeqAt.compareNe_reads r1 r2 sd se (by omega) ⟨.bl _, H, I, rfl, q⟩
theorem o_eq (hu : X.A.units + 200 < cLine) : OpR X (compareOp .Eq) (fun x y H Q => rEq x y H Q ∨ rEqX X.K id x y H Q) := OpR.or op_eq (op_eqX hu)
theorem o_ne (hu : X.A.units + 200 < cLine) : OpR X (compareOp .NotEq) (fun x y H Q => rNe x y H Q ∨ rEqX X.K not x y H Q) := OpR.or op_ne (op_neX hu)
end
theorem eq_cases {K : PySem.W.Frag} {x y : W} {b : Bool} (e : eqW x y = some b) {F : Fz} {H : Hp} {vx vy : V} (px : PkR K F H x vx) (py : PkR K F H y vy) :
    (scal vx vy = true ∧ b = decide (vx = vy)) ∨ ∃ d e, Dp K H vx d ∧ Dp K H vy e ∧ d.canLay0 = true ∧ e.canLay0 = true ∧ min d.depth e.depth ≤ 150 ∧ b = PyData.eqv d e := by
  unfold eqW at e
  split at e
  · rename_i h
    rw [Bool.and_eq_true_iff, Bool.and_eq_true_iff] at h
    cases e
    rw [px.flat h.1.1, py.flat h.1.2]
    exact .inl ⟨h.2, rfl⟩
  · cases q1 : toD x with
    | none => rw [q1] at e; cases e
    | some d =>
      cases q2 : toD y with
      | none => rw [q1, q2] at e; cases e
      | some d' =>
        rw [q1, q2] at e
        dsimp only at e
        split at e
        · rename_i h
          rw [Bool.and_eq_true_iff, Bool.and_eq_true_iff] at h
          cases e
          exact .inr ⟨d, d', px.dp q1, py.dp q2, h.1.1, h.1.2, of_decide_eq_true h.2, rfl⟩
        · cases e
theorem g_eq {K : PySem.W.Frag} : OpW K (fun x y H Q => rEq x y H Q ∨ rEqX K id x y H Q) gEq := by
  intro x y m z e F H vx vy Q t px py q
  obtain ⟨b, eb, e2⟩ := Option.map_eq_some_iff.mp (show (eqW x y).map _ = _ from e)
  cases e2
  have fin : Q (.bl b) H := old_val t (K := K) (z := .bl b) rfl q
  rcases eq_cases eb px py with ⟨h, rfl⟩ | ⟨d, d', h1, h2, h3, h4, h5, rfl⟩
  · exact .inl ⟨h, fin⟩
  · exact .inr ⟨d, d', h1, h2, h3, h4, h5, fin⟩
theorem g_ne {K : PySem.W.Frag} : OpW K (fun x y H Q => rNe x y H Q ∨ rEqX K not x y H Q) gNe := by
  intro x y m z e F H vx vy Q t px py q
  obtain ⟨b, eb, e2⟩ := Option.map_eq_some_iff.mp (show (eqW x y).map _ = _ from e)
  cases e2
  have fin : Q (.bl (!b)) H := old_val t (K := K) (z := .bl (!b)) rfl q
  rcases eq_cases eb px py with ⟨h, rfl⟩ | ⟨d, d', h1, h2, h3, h4, h5, rfl⟩
  · exact .inl ⟨h, fin⟩
  · exact .inr ⟨d, d', h1, h2, h3, h4, h5, fin⟩
/-! ### in, not in -/
def inW (neg : Bool) (x y : W) : Option Bool := match x, y with
  | .str s, .str z => if s.cps.size = 1 then some (if neg then !decide (s.cps.toList.headD 0 ∈ z.cps.toList) else decide (s.cps.toList.headD 0 ∈ z.cps.toList)) else none
  | x, y => match itemsW y with
    | some l => if flatW x && l.all flatW then some (if neg then !inV (toV x) (l.map toV) else inV (toV x) (l.map toV)) else none
    | none => none
def gIn (neg : Bool) : GW := fun x y => (inW neg x y).map fun b => (.val, .bl b)
def rInS (neg : Bool) : R2 := fun x y H Q => ∃ (c : Nat) (z : Str), x = .str ⟨#[c]⟩ ∧ y = .str z ∧ Q (.bl (if neg then !decide (c ∈ z.cps.toList) else decide (c ∈ z.cps.toList))) H
def rInM (K : PySem.W.Frag) (neg : Bool) : R2 := fun x y H Q => rInS neg x y H Q ∨ rIn K neg x y H Q
theorem o_in {X : Cx} : OpR X (compareOp .In) (rInM X.K false) := OpR.or (fun pins s σ H x y v u Q I rx ry ⟨c, z, e1, e2, q⟩ => op_in_sign pins s σ H x y v u Q I rx ry ⟨c, z, e1, e2, q⟩) op_in_seq
theorem o_notin {X : Cx} : OpR X (compareOp .NotIn) (rInM X.K true) := OpR.or (fun pins s σ H x y v u Q I rx ry ⟨c, z, e1, e2, q⟩ => op_notIn_sign pins s σ H x y v u Q I rx ry ⟨c, z, e1, e2, q⟩) op_notIn_seq
theorem str1 {s : Str} (h : s.cps.size = 1) : s = ⟨#[s.cps.toList.headD 0]⟩ := by
  obtain ⟨⟨l⟩⟩ := s
  match l, h with
  | [c], _ => rfl
theorem g_in {K : PySem.W.Frag} {neg : Bool} : OpW K (rInM K neg) (gIn neg) := by
  intro x y m z e F H vx vy Q t px py q
  obtain ⟨b, eb, e2⟩ := Option.map_eq_some_iff.mp (show (inW neg x y).map _ = _ from e)
  cases e2
  have fin : Q (.bl b) H := old_val t (K := K) (z := .bl b) rfl q
  unfold inW at eb
  split at eb
  · split at eb
    · rename_i s z h
      cases eb
      cases px.str
      cases py.str
      refine .inl ⟨s.cps.toList.headD 0, z, ?_, rfl, fin⟩
      rw [← str1 h]
    · cases eb
  · cases g : itemsW y with
    | none => rw [g] at eb; cases eb
    | some l =>
      rw [g] at eb
      dsimp only at eb
      split at eb
      · rename_i h
        rw [Bool.and_eq_true_iff] at h
        cases eb
        obtain ⟨a, vs, rfl, hs, r⟩ := py.seq g
        obtain ⟨e1, e2⟩ := r.flat h.2
        rw [px.flat h.1]
        exact .inr ⟨a, vs, rfl, hs, flat_toV h.1, e2, by rw [e1]; exact fin⟩
      · cases eb
/-! ### x is None -/
def nonW : W → Bool
  | .non => true
  | _ => false
def mIsN (n : Bool) (fa : Rho → R (Md × W)) : Rho → R (Md × W) := fun ρ => (fa ρ).bind fun x ρ1 => .ok (.val, .bl (if n then !nonW x.2 else nonW x.2)) ρ1
theorem VR.non_iff {K : PySem.W.Frag} {B : Bd} {F : Fz} {H : Hp} {σ : L2.St} {ρ : Rho} {m : Md} {w : W} {v : V} (S : SR K B F H σ ρ) (h : VR K B F H σ ρ m w v) : decide (v = .non) = nonW w := by
  have own : ∀ {a : Addr}, OwnR K F H w a → nonW w = false := fun {a} o => by cases w <;> first | rfl | exact o.elim
  cases m with
  | val =>
    have h' : Rep K F H w v := h
    cases w with
    | non => cases h'; rfl
    | bl _ => cases h'; rfl
    | int _ => cases h'; rfl
    | str _ => cases h'; rfl
    | fn _ => cases h'; rfl
    | ty _ => cases h'; rfl
    | tup _ => obtain ⟨a, vs, rfl, _⟩ := h'; rfl
    | lst _ => obtain ⟨a, vs, rfl, _⟩ := h'; rfl
    | frl _ => obtain ⟨a, vs, rfl, _⟩ := h'; rfl
    | dK _ _ => obtain ⟨a, vs, rfl, _⟩ := h'; rfl
    | obj _ _ _ => obtain ⟨a, dx, vs, rfl, _⟩ := h'; rfl
  | fre => obtain ⟨a, rfl, o, _⟩ := h; rw [own o]; rfl
  | bor i =>
    obtain ⟨h1, h2⟩ := h
    obtain ⟨a, e, o, _⟩ := S.slot i _ h1
    rw [h2] at e
    cases e
    rw [own o]
    rfl
section
variable {X : Cx} {Y : Yx I} {a : Expr} {pos : Pos} {fa : Rho → R (Md × W)}
theorem pem_isN {j pos'} (ha : PEM X Y a fa) : PEM X Y (.Compare a [.Is] [.Constant .none j pos'] pos) (mIsN false fa) := pe_weak (pe_cmp (pc_isN ha) (nomark _)) fun σ H Q hq => by
  obtain ⟨F, ρ, S, q⟩ := hq
  refine ⟨F, ρ, S, (RunG.bind q).imp fun x ρ1 F1 H1 S1 k1 q1 v1 hv1 => ?_⟩
  have z := q1 F1 H1 S1 .refl (.bl (decide (v1 = .non))) ?_
  · exact z
  · show V.bl _ = V.bl _
    rw [hv1.non_iff S1]
    rfl
theorem pem_notN {j pos'} (ha : PEM X Y a fa) : PEM X Y (.Compare a [.IsNot] [.Constant .none j pos'] pos) (mIsN true fa) := pe_weak (pe_cmp (pc_notN ha) (nomark _)) fun σ H Q hq => by
  obtain ⟨F, ρ, S, q⟩ := hq
  refine ⟨F, ρ, S, (RunG.bind q).imp fun x ρ1 F1 H1 S1 k1 q1 v1 hv1 => ?_⟩
  have z := q1 F1 H1 S1 .refl (.bl (!decide (v1 = .non))) ?_
  · exact z
  · show V.bl _ = V.bl _
    rw [hv1.non_iff S1]
    rfl
/-! ### minus -/
def mNeg (fa : Rho → R (Md × W)) : Rho → R (Md × W) := fun ρ => (fa ρ).bind fun x ρ1 => match x.1, x.2 with
  | .val, .int i => .ok (.val, .int (-i)) ρ1
  | _, _ => .stk
theorem pem_neg (ha : PEM X Y a fa) : PEM X Y (.UnaryOp .USub a pos) (mNeg fa) := pe_weak (pe_un un_neg ha) fun σ H Q hq => by
  obtain ⟨F, ρ, S, q⟩ := hq
  refine ⟨F, ρ, S, (RunG.bind q).imp fun x ρ1 F1 H1 S1 k1 q1 v1 hv1 => ?_⟩
  obtain ⟨m, w⟩ := x
  dsimp only at q1
  split at q1
  · cases (show v1 = .int _ from hv1)
    exact ⟨_, rfl, q1 F1 H1 S1 .refl _ rfl⟩
  · exact q1.elim
end
end ML

set_option maxHeartbeats 4000000
namespace ML
open PySem PySem.Spec PyProof.Rows L2
variable {I : List Nat}
/-! ### storing in slots -/
section
variable {K : PySem.W.Frag} {B : Bd} {F F' F1 F2 : Fz} {H H' H1 H2 : Hp} {σ : L2.St} {ρ : Rho}
theorem set_cases {α : Type} {l : List α} {i j : Nat} {x y : α} (h : (l.set i x)[j]? = some y) : (j = i ∧ y = x ∧ i < l.length) ∨ (j ≠ i ∧ l[j]? = some y) := by
  by_cases e : j = i
  · subst e
    rw [List.getElem?_set] at h
    split at h
    · split at h
      · rename_i q; left; exact ⟨rfl, (Option.some.inj h).symm, q⟩
      · cases h
    · rename_i n; exact absurd rfl n
  · right
    rw [List.getElem?_set_ne (Ne.symm e)] at h
    exact ⟨e, h⟩
theorem set_ne {α : Type} {l : List α} {i j : Nat} {x : α} (h : j ≠ i) : (l.set i x)[j]? = l[j]? := List.getElem?_set_ne (Ne.symm h)
theorem set_eq {α : Type} {l : List α} {i : Nat} {x : α} (h : i < l.length) : (l.set i x)[i]? = some x := by rw [List.getElem?_set, if_pos rfl, if_pos h]
theorem lent_set2 (S : SR K B F H σ ρ) {i : Nat} (u : unlent B i) (o : Option V) (s : Sl) : ∀ p ∈ B.I, (σ.set i o)[p.1]? = some (some (.ref p.2)) ∧ ∃ w, (ρ.set i s)[p.1]? = some (.own w) := fun p hp => by
  obtain ⟨h1, w, h2⟩ := S.lent p hp
  have n : p.1 ≠ i := fun e => u (List.mem_map.mpr ⟨p, hp, e⟩)
  exact ⟨by rw [set_ne n]; exact h1, w, by rw [set_ne n]; exact h2⟩
theorem SR.setVal (S : SR K B F H σ ρ) {i : Nat} {w : W} {v : V} (u : unlent B i) (h : Rep K F H w v) : SR K B F H (σ.set i (some v)) (ρ.set i (.val w)) := by
  refine ⟨by rw [List.length_set, List.length_set]; exact S.len, fun j s h' => ?_, fun j k z z' a h1 h2 e1 e2 => ?_, lent_set2 S u _ _, S.ext, S.alive, S.f0, S.f1, S.f2⟩
  · rcases set_cases h' with ⟨e, e', lt⟩ | ⟨n, e⟩
    · subst e; subst e'
      rw [set_eq (by rw [S.len]; exact lt)]
      exact ⟨v, rfl, h⟩
    · rw [set_ne n]
      exact S.slot j s e
  · rcases set_cases h1 with ⟨_, e, _⟩ | ⟨n1, g1⟩
    · cases e
    · rcases set_cases h2 with ⟨_, e, _⟩ | ⟨n2, g2⟩
      · cases e
      · rw [set_ne n1] at e1
        rw [set_ne n2] at e2
        exact S.sep j k z z' a g1 g2 e1 e2
theorem SR.setOwn (S : SR K B F H σ ρ) {i : Nat} {w : W} {v : V} (u : unlent B i) (h : Fre K B F H σ ρ w v) : SR K B F H (σ.set i (some v)) (ρ.set i (.own w)) := by
  obtain ⟨c, rfl, o, nf, h0, hs⟩ := h
  refine ⟨by rw [List.length_set, List.length_set]; exact S.len, fun j s h' => ?_, fun j k z z' a h1 h2 e1 e2 => ?_, lent_set2 S u _ _, S.ext, S.alive, S.f0, S.f1, S.f2⟩
  · rcases set_cases h' with ⟨e, e', lt⟩ | ⟨n, e⟩
    · subst e; subst e'
      rw [set_eq (by rw [S.len]; exact lt)]
      exact ⟨c, rfl, o, nf, fun k => k.1 h0⟩
    · rw [set_ne n]
      exact S.slot j s e
  · rcases set_cases h1 with ⟨j1, _, l1⟩ | ⟨n1, g1⟩
    · rcases set_cases h2 with ⟨j2, _, _⟩ | ⟨n2, g2⟩
      · rw [j1, j2]
      · exfalso
        rw [set_ne n2] at e2
        rw [j1, set_eq (by rw [S.len]; exact l1)] at e1
        cases e1
        exact hs k z' g2 e2
    · rcases set_cases h2 with ⟨j2, _, l2⟩ | ⟨n2, g2⟩
      · exfalso
        rw [set_ne n1] at e1
        rw [j2, set_eq (by rw [S.len]; exact l2)] at e2
        cases e2
        exact hs j z g1 e1
      · rw [set_ne n1] at e1
        rw [set_ne n2] at e2
        exact S.sep j k z z' a g1 g2 e1 e2
/-- the object of an own slot is changed -/
theorem SR.put (S : SR K B F H σ ρ) {i : Nat} {w w' : W} {a : Addr} {o : HO} (h : ρ[i]? = some (.own w)) (e : σ[i]? = some (some (.ref a))) (mu : Mut (some o)) (n : OwnR K F (upd H a o) w' a) :
    SR K B F (upd H a o) σ (ρ.set i (.own w')) ∧ Keeps F H F (upd H a o) := by
  obtain ⟨b, eb, ow, nf, nk⟩ := S.slot i _ h
  rw [e] at eb
  cases eb
  obtain ⟨u, hu, mu0⟩ := ow.some
  have il : i < ρ.length := (List.getElem?_eq_some_iff.mp h).1
  have k : Keeps F H F (upd H a o) := ⟨fun _ h => h, fun b x hb c => by
    have nb : b ≠ a := fun z => by
      subst z
      rcases c with c | c
      · exact nf c
      · rw [hu] at hb; cases hb; exact c mu0
    rw [upd_ne nb]
    exact hb⟩
  refine ⟨⟨by rw [List.length_set]; exact S.len, fun j s h' => ?_, fun j k z z' c h1 h2 e1 e2 => ?_, fun p hp => ?_, fun b x kb hb => ?_, fun b hb => ?_, S.f0, S.f1, fun b hb => ?_⟩, k⟩
  · rcases set_cases h' with ⟨ej, e', _⟩ | ⟨nj, ej⟩
    · subst ej; subst e'
      exact ⟨a, e, n, nf, nk⟩
    · have q := S.slot j s ej
      cases s with
      | no => trivial
      | exn => exact q
      | val z => obtain ⟨v, e1, r⟩ := q; exact ⟨v, e1, r.mono k⟩
      | own z =>
        obtain ⟨c, e1, oc, nfc, nkc⟩ := q
        have nc : c ≠ a := fun q => by
          subst q
          exact nj (S.sep j i z w c ej h e1 e)
        refine ⟨c, e1, ?_, nfc, nkc⟩
        cases z with
        | lst l => obtain ⟨vs, h1, h2⟩ := oc; exact ⟨vs, by rw [upd_ne nc]; exact h1, h2.mono k⟩
        | dK ks l => obtain ⟨vs, h1, m, h2⟩ := oc; exact ⟨vs, by rw [upd_ne nc]; exact h1, m, h2.mono k⟩
        | obj c ns l => obtain ⟨dx, vs, h1, m, h2⟩ := oc; exact ⟨dx, vs, by rw [upd_ne nc]; exact h1, m, h2.mono k⟩
        | _ => exact oc
  · have g1 : ∃ z, ρ[j]? = some (.own z) := by
      rcases set_cases h1 with ⟨ej, _, _⟩ | ⟨_, g⟩
      · exact ⟨w, by rw [ej]; exact h⟩
      · exact ⟨_, g⟩
    have g2 : ∃ z, ρ[k]? = some (.own z) := by
      rcases set_cases h2 with ⟨ej, _, _⟩ | ⟨_, g⟩
      · exact ⟨w, by rw [ej]; exact h⟩
      · exact ⟨_, g⟩
    obtain ⟨z1, g1⟩ := g1
    obtain ⟨z2, g2⟩ := g2
    exact S.sep j k z1 z2 c g1 g2 e1 e2
  · obtain ⟨h1, z, h2⟩ := S.lent p hp
    by_cases ep : p.1 = i
    · exact ⟨h1, w', by rw [ep, set_eq il]⟩
    · exact ⟨h1, z, by rw [set_ne ep]; exact h2⟩
  · have nb : b ≠ a := fun z => nk (by rw [← z]; exact kb)
    rw [upd_ne nb]
    exact S.ext b x kb hb
  · by_cases eb : b = a
    · rw [eb, upd_same]; exact (fun z => nomatch z)
    · rw [upd_ne eb]; exact S.alive b hb
  · by_cases eb : b = a
    · rw [eb, upd_same]; exact (fun z => nomatch z)
    · rw [upd_ne eb]; exact S.f2 b hb
end
/-! ### statements -/
inductive Fl where
  | nx | bk | ct | rt (m : Md) (w : W)
def RunS (K : PySem.W.Frag) (Y : Yx I) (F : Fz) (H : Hp) (r : R Fl) (D : Ends) : Prop := match r with
  | .ok fl ρ' => (match fl with
    | .nx => ∀ F' H' σ', SR K Y.B F' H' σ' ρ' → Keeps F H F' H' → D.nx σ' H'
    | .bk => ∀ F' H' σ', SR K Y.B F' H' σ' ρ' → Keeps F H F' H' → D.bk σ' H'
    | .ct => ∀ F' H' σ', SR K Y.B F' H' σ' ρ' → Keeps F H F' H' → D.ct σ' H'
    | .rt m w => ∀ F' H' σ' v, SR K Y.B F' H' σ' ρ' → VR K Y.B F' H' σ' ρ' m w v → D.rt v H')
  | .exc c ns ws ρ' => ∀ F' H' σ' d, SR K Y.B F' H' σ' ρ' → ExF K F' H' ns ws d → Y.wx (.ref (Y.ct c)) d σ' H'
  | .stk => False
section
variable {K : PySem.W.Frag} {Y : Yx I} {F F' F1 F2 : Fz} {H H' H1 H2 : Hp} {σ : L2.St} {ρ : Rho} {β : Type}
theorem RunS.rebase {r : R Fl} {D : Ends} (h : RunS K Y F H r D) (k : Keeps F H F1 H1) : RunS K Y F1 H1 r D := by
  cases r with
  | ok fl ρ' =>
    cases fl with
    | nx => exact fun F' H' σ' S k' => h F' H' σ' S (k.trans k')
    | bk => exact fun F' H' σ' S k' => h F' H' σ' S (k.trans k')
    | ct => exact fun F' H' σ' S k' => h F' H' σ' S (k.trans k')
    | rt m w => exact h
  | exc c ns ws ρ' => exact h
  | stk => exact h
/-- an expression, then what hangs on it -/
theorem RunS.bindE {r : R β} {k : β → Rho → R Fl} {D : Ends} (h : RunS K Y F H (r.bind k) D) : RunG K Y F H σ r fun b ρ1 F1 H1 => RunS K Y F1 H1 (k b ρ1) D := by
  cases r with
  | ok b ρ' => exact fun F' H' S k' => RunS.rebase (show RunS K Y F H (k b ρ') D from h) k'
  | exc c ns ws ρ' => exact fun F' H' d S x => h F' H' σ d S x
  | stk => exact h
def tMS (K : PySem.W.Frag) (Y : Yx I) (g : Rho → R Fl) : TS := fun D σ H => ∃ F ρ, SR K Y.B F H σ ρ ∧ RunS K Y F H (g ρ) D
def PSM (X : Cx) (Y : Yx I) (st : Stmt) (g : Rho → R Fl) : Prop := PS X st (tMS X.K Y g)
def PSMs (X : Cx) (Y : Yx I) (st : List Stmt) (g : Rho → R Fl) : Prop := PSs X st (tMS X.K Y g)
theorem ps_weak {X : Cx} {e : Stmt} {t t' : TS} (h : PS X e t) (q : ∀ D σ H, t' D σ H → t D σ H) : PS X e t' := ⟨fun pins s σ H D I hq => h.run pins s σ H D I (q _ _ _ hq)⟩
theorem pss_weak {X : Cx} {e : List Stmt} {t t' : TS} (h : PSs X e t) (q : ∀ D σ H, t' D σ H → t D σ H) : PSs X e t' := ⟨fun pins s σ H D I hq => h.run pins s σ H D I (q _ _ _ hq)⟩
end
section
variable {X : Cx} {Y : Yx I} {e a b : Expr} {st : Stmt} {sts : List Stmt} {pos : Pos} {f : Rho → R (Md × W)} {g g' : Rho → R Fl}
def mNext : Rho → R Fl := fun ρ => .ok .nx ρ
def thenF (r : R Fl) (k : Rho → R Fl) : R Fl := r.bind fun fl ρ => match fl with
  | .nx => k ρ
  | fl => .ok fl ρ
def mSeq (g g' : Rho → R Fl) : Rho → R Fl := fun ρ => thenF (g ρ) g'
theorem psm_nil : PSMs X Y [] mNext := pss_weak pss_nil fun D σ H hq => by
  obtain ⟨F, ρ, S, q⟩ := hq
  exact q F H σ S .refl
theorem seq_of {K : PySem.W.Frag} {D : Ends} {σ : L2.St} {H : Hp} (hq : tMS K Y (mSeq g g') D σ H) : tSeq (tMS K Y g) (tMS K Y g') D σ H := by
  obtain ⟨F, ρ, S, q⟩ := hq
  refine ⟨F, ρ, S, ?_⟩
  have q' : RunS K Y F H (thenF (g ρ) g') D := q
  unfold thenF at q'
  cases e : g ρ with
  | ok fl ρ1 =>
    rw [e] at q'
    cases fl with
    | nx => exact fun F' H' σ' S' k' => ⟨F', ρ1, S', RunS.rebase (show RunS K Y F H (g' ρ1) D from q') k'⟩
    | bk => exact q'
    | ct => exact q'
    | rt m w => exact q'
  | exc c ns ws ρ' => rw [e] at q'; exact q'
  | stk => rw [e] at q'; exact q'
theorem psm_cons (h1 : PSM X Y st g) (h2 : PSMs X Y sts g') : PSMs X Y (st :: sts) (mSeq g g') := pss_weak (pss_cons h1 h2) fun _ _ _ => seq_of
theorem psm_one (h1 : PSM X Y st g) : PSMs X Y [st] g := pss_one h1
theorem psm_pass : PSM X Y (.Pass pos) mNext := ps_weak ps_pass fun D σ H hq => by
  obtain ⟨F, ρ, S, q⟩ := hq
  exact q F H σ S .refl
def mBreak : Rho → R Fl := fun ρ => .ok .bk ρ
def mCont : Rho → R Fl := fun ρ => .ok .ct ρ
theorem psm_break : PSM X Y (.Break pos) mBreak := ps_weak ps_break fun D σ H hq => by
  obtain ⟨F, ρ, S, q⟩ := hq
  exact q F H σ S .refl
theorem psm_cont : PSM X Y (.Continue pos) mCont := ps_weak ps_continue fun D σ H hq => by
  obtain ⟨F, ρ, S, q⟩ := hq
  exact q F H σ S .refl
/-- x = e -/
def mStore (I : List Nat) (i : Nat) (b : Md × W) (ρ : Rho) : R Fl := if i ∈ I then .stk else match b.1 with
  | .fre => .ok .nx (ρ.set i (.own b.2))
  | m => (toVal I (m, b.2) ρ).bind fun w ρ1 => .ok .nx (ρ1.set i (.val w))
def mSet (I : List Nat) (i : Nat) (f : Rho → R (Md × W)) : Rho → R Fl := fun ρ => (f ρ).bind fun b ρ1 => mStore I i b ρ1
theorem store_of {K : PySem.W.Frag} {F : Fz} {H : Hp} {σ : L2.St} {ρ : Rho} {D : Ends} {i : Nat} {b : Md × W} {v : V} (S : SR K Y.B F H σ ρ) (h : VR K Y.B F H σ ρ b.1 b.2 v) (q : RunS K Y F H (mStore I i b ρ) D) : D.nx (σ.set i (some v)) H := by
  unfold mStore at q
  split at q
  · exact q.elim
  · rename_i n
    have u := Y.un n
    obtain ⟨m, w⟩ := b
    cases m with
    | fre => exact q F H _ (S.setOwn u h) .refl
    | val =>
      have qg := RunS.bindE (σ := σ) (show RunS K Y F H ((toVal I (.val, w) ρ).bind _) D from q)
      obtain ⟨F', w', ρ', S', k, r, q'⟩ := S.toVal (b := (.val, w)) h qg
      exact q' F' H _ (S'.setVal u r) .refl
    | bor j =>
      have qg := RunS.bindE (σ := σ) (show RunS K Y F H ((toVal I (.bor j, w) ρ).bind _) D from q)
      obtain ⟨F', w', ρ', S', k, r, q'⟩ := S.toVal (b := (.bor j, w)) h qg
      exact q' F' H _ (S'.setVal u r) .refl
theorem psm_set {i : Nat} {x : Str} {pos' : Pos} (hN : X.N.Nodup) (hi : X.N[i]? = some x) (hx : Loc X.env.scope x) (he : PEM X Y e f) (hs : swapsWith e (some (.Name x pos')) pos.line X.env = pure false := by rfl)
    (hf : X.fn x = true ∨ X.env.scope.names.lookup x = some .local := by first | exact .inl rfl | exact .inr rfl) : PSM X Y (.Assign [.Name x pos'] e pos) (mSet I i f) :=
  ps_weak (ps_set hN hi hx he hs) fun D σ H hq => by
    obtain ⟨F, ρ, S, q⟩ := hq
    exact ⟨F, ρ, S, (RunS.bindE q).imp fun b ρ1 F1 H1 S1 k1 q1 v hv => store_of S1 hv q1⟩
/-- a value is dropped -/
def mDrop (f : Rho → R (Md × W)) : Rho → R Fl := fun ρ => (f ρ).bind fun _ ρ1 => .ok .nx ρ1
theorem psm_expr (he : PEM X Y e f) (hs : swapsWith e none pos.line X.env = pure false := by rfl) : PSM X Y (.Expr e pos) (mDrop f) := ps_weak (ps_expr he hs) fun D σ H hq => by
  obtain ⟨F, ρ, S, q⟩ := hq
  exact ⟨F, ρ, S, (RunS.bindE q).imp fun b ρ1 F1 H1 S1 k1 q1 v hv => q1 F1 H1 σ S1 .refl⟩
/-- return e -/
def mRet (I : List Nat) (f : Rho → R (Md × W)) : Rho → R Fl := fun ρ => (f ρ).bind fun b ρ1 => match b.1 with
  | .val => .ok (.rt .val b.2) ρ1
  | .fre => .ok (.rt .fre b.2) ρ1
  | .bor i => if i ∈ I then .stk else .ok (.rt .fre b.2) (ρ1.set i .no)
theorem ret_of {K : PySem.W.Frag} {F : Fz} {H : Hp} {σ : L2.St} {ρ : Rho} {i : Nat} {w : W} {v : V} (S : SR K Y.B F H σ ρ) (u : unlent Y.B i) (h : VR K Y.B F H σ ρ (.bor i) w v) : SR K Y.B F H σ (ρ.set i .no) ∧ Fre K Y.B F H σ (ρ.set i .no) w v := by
  obtain ⟨h1, h2⟩ := h
  obtain ⟨a, e1, o, nf, nk⟩ := S.slot i _ h1
  rw [h2] at e1
  cases e1
  refine ⟨S.drop u, a, rfl, o, nf, S.new_of h1 h2 u, fun j w' hj ej => ?_⟩
  rcases set_cases hj with ⟨_, e, _⟩ | ⟨n, g⟩
  · cases e
  · exact n (S.sep j i w' w a g h1 ej h2)
theorem psm_ret (he : PEM X Y e f) : PSM X Y (.Return (some e) pos) (mRet I f) := ps_weak (ps_ret he) fun D σ H hq => by
  obtain ⟨F, ρ, S, q⟩ := hq
  refine ⟨F, ρ, S, (RunS.bindE q).imp fun b ρ1 F1 H1 S1 k1 q1 v hv => ?_⟩
  obtain ⟨m, w⟩ := b
  cases m with
  | val => exact q1 F1 H1 σ v S1 hv
  | fre => exact q1 F1 H1 σ v S1 hv
  | bor i =>
    dsimp only at q1
    split at q1
    · exact q1.elim
    · rename_i n
      obtain ⟨S2, fr⟩ := ret_of S1 (Y.un n) hv
      exact q1 F1 H1 σ v S2 fr
def mRetN : Rho → R Fl := fun ρ => .ok (.rt .val .non) ρ
theorem psm_retN : PSM X Y (.Return none pos) mRetN := ps_weak ps_retN fun D σ H hq => by
  obtain ⟨F, ρ, S, q⟩ := hq
  exact q F H σ .non S rfl
/-! ### tests -/
def tMT (K : PySem.W.Frag) (Y : Yx I) (f : Rho → R Bool) : TT := fun σ H Q => ∃ F ρ, SR K Y.B F H σ ρ ∧ RunG K Y F H σ (f ρ) fun b _ _ H' => Q b H'
def PTM (X : Cx) (Y : Yx I) (e : Expr) (f : Rho → R Bool) : Prop := PT X e (tMT X.K Y f)
def PWM (X : Cx) (Y : Yx I) (e : Expr) (f : Rho → R Bool) : Prop := PW X e (tMT X.K Y f)
theorem pt_weak {e : Expr} {t t' : TT} (h : PT X e t) (q : ∀ σ H Q, t' σ H Q → t σ H Q) : PT X e t' := ⟨fun pins s σ H Q I hq => h.run pins s σ H Q I (q _ _ _ hq)⟩
theorem pw_weak {e : Expr} {t t' : TT} (h : PW X e t) (q : ∀ σ H Q, t' σ H Q → t σ H Q) : PW X e t' := ⟨fun wh pins s σ H Q I hq => h.run wh pins s σ H Q I (q _ _ _ hq)⟩
/-- a bool -/
def boolOf (b : Md × W) (ρ : Rho) : R Bool := match b.2 with
  | .bl c => .ok c ρ
  | _ => .stk
def mTest (f : Rho → R (Md × W)) : Rho → R Bool := fun ρ => (f ρ).bind boolOf
theorem VR.bl {K : PySem.W.Frag} {B : Bd} {F : Fz} {H : Hp} {σ : L2.St} {ρ : Rho} {m : Md} {c : Bool} {v : V} (S : SR K B F H σ ρ) (h : VR K B F H σ ρ m (.bl c) v) : v = .bl c := by
  cases m with
  | val => exact h
  | fre => obtain ⟨a, rfl, o, _⟩ := h; exact o.elim
  | bor i =>
    obtain ⟨h1, h2⟩ := h
    obtain ⟨a, e, o, _⟩ := S.slot i _ h1
    exact o.elim
theorem test_of {K : PySem.W.Frag} {σ : L2.St} {H : Hp} {Q : Bool → Hp → Prop} (hq : tMT K Y (mTest f) σ H Q) : tTest (tM K Y f) σ H Q := by
  obtain ⟨F, ρ, S, q⟩ := hq
  refine ⟨F, ρ, S, (RunG.bind q).imp fun b ρ1 F1 H1 S1 k1 q1 v hv => ?_⟩
  obtain ⟨m, w⟩ := b
  unfold boolOf at q1
  dsimp only at q1
  split at q1
  · exact ⟨_, hv.bl S1, q1 F1 H1 S1 .refl⟩
  · exact q1.elim
end
end ML

set_option maxHeartbeats 4000000
namespace ML
open PySem PySem.Spec PyProof.Rows L2
variable {I : List Nat}
section
variable {X : Cx} {Y : Yx I} {e a b : Expr} {st : Stmt} {sts : List Stmt} {pos : Pos} {f fa fb : Rho → R (Md × W)} {g g' : Rho → R Fl} {c c' : Rho → R Bool}
/-! ### tests -/
theorem ptm_val (he : PEM X Y e f) (hw : ∀ whole, isTrue e X.env whole = (do let v ← whole; standAt e.pos; holding [v] (truthy v)) := by intro _; rfl) : PTM X Y e (mTest f) := pt_weak (pt_val he hw) fun _ _ _ => test_of
theorem ptm_cmp {op : CmpOp} {r : R2} {gw : W → W → Option (Md × W)} (ho : OpR X (compareOp op) r) (hg : OpW X.K r gw) (ha : PEM X Y a fa) (hb : PEM X Y b fb) (hm : behindInMarks op b = false) : PTM X Y (.Compare a [op] [b] pos) (mTest (mOp gw fa fb)) :=
  pt_weak (pt_cmpR ho ha hb hm) fun σ H Q hq => by
    obtain ⟨F, ρ, S, q⟩ := test_of hq
    exact tOp_of hg ⟨F, ρ, S, q⟩
theorem ptm_isN {j pos'} (ha : PEM X Y a fa) : PTM X Y (.Compare a [.Is] [.Constant .none j pos'] pos) (mTest (mIsN false fa)) := pt_weak (pt_cmp (pc_isN ha) (nomark _)) fun σ H Q hq => by
  obtain ⟨F, ρ, S, q⟩ := test_of hq
  refine ⟨F, ρ, S, (RunG.bind q).imp fun x ρ1 F1 H1 S1 k1 q1 v1 hv1 => ?_⟩
  have z := q1 F1 H1 S1 .refl (.bl (decide (v1 = .non))) ?_
  · exact z
  · show V.bl _ = V.bl _
    rw [hv1.non_iff S1]
    rfl
theorem ptm_notN {j pos'} (ha : PEM X Y a fa) : PTM X Y (.Compare a [.IsNot] [.Constant .none j pos'] pos) (mTest (mIsN true fa)) := pt_weak (pt_cmp (pc_notN ha) (nomark _)) fun σ H Q hq => by
  obtain ⟨F, ρ, S, q⟩ := test_of hq
  refine ⟨F, ρ, S, (RunG.bind q).imp fun x ρ1 F1 H1 S1 k1 q1 v1 hv1 => ?_⟩
  have z := q1 F1 H1 S1 .refl (.bl (!decide (v1 = .non))) ?_
  · exact z
  · show V.bl _ = V.bl _
    rw [hv1.non_iff S1]
    rfl
def mNot (c : Rho → R Bool) : Rho → R Bool := fun ρ => (c ρ).bind fun b ρ1 => .ok (!b) ρ1
theorem ptm_not (h : PTM X Y a c) : PTM X Y (.UnaryOp .Not a pos) (mNot c) := pt_weak (pt_not h) fun σ H Q hq => by
  obtain ⟨F, ρ, S, q⟩ := hq
  exact ⟨F, ρ, S, (RunG.bind q).imp fun b ρ1 F1 H1 S1 k1 q1 => q1 F1 H1 S1 .refl⟩
def mAnd (c c' : Rho → R Bool) : Rho → R Bool := fun ρ => (c ρ).bind fun b ρ1 => if b then c' ρ1 else .ok false ρ1
def mOr (c c' : Rho → R Bool) : Rho → R Bool := fun ρ => (c ρ).bind fun b ρ1 => if b then .ok true ρ1 else c' ρ1
theorem pwm_and1 (h : PTM X Y a c) : PWM X Y (.BoolOp .And [a] pos) c := pw_and1 h
theorem pwm_or1 (h : PTM X Y a c) : PWM X Y (.BoolOp .Or [a] pos) c := pw_or1 h
theorem pwm_and {rest : List Expr} (h : PTM X Y a c) (h' : PWM X Y (.BoolOp .And (b :: rest) pos) c') : PWM X Y (.BoolOp .And (a :: b :: rest) pos) (mAnd c c') := pw_weak (pw_and h h') fun σ H Q hq => by
  obtain ⟨F, ρ, S, q⟩ := hq
  refine ⟨F, ρ, S, (RunG.bind q).imp fun b ρ1 F1 H1 S1 k1 q1 => ?_⟩
  cases b with
  | true => exact ⟨F1, ρ1, S1, q1⟩
  | false => exact q1 F1 H1 S1 .refl
theorem pwm_or {rest : List Expr} (h : PTM X Y a c) (h' : PWM X Y (.BoolOp .Or (b :: rest) pos) c') : PWM X Y (.BoolOp .Or (a :: b :: rest) pos) (mOr c c') := pw_weak (pw_or h h') fun σ H Q hq => by
  obtain ⟨F, ρ, S, q⟩ := hq
  refine ⟨F, ρ, S, (RunG.bind q).imp fun b ρ1 F1 H1 S1 k1 q1 => ?_⟩
  cases b with
  | true => exact q1 F1 H1 S1 .refl
  | false => exact ⟨F1, ρ1, S1, q1⟩
/-- not, and, or of bools, as values -/
def mNotV (fa : Rho → R (Md × W)) : Rho → R (Md × W) := fun ρ => ((fa ρ).bind boolOf).bind fun b ρ1 => .ok (.val, .bl (!b)) ρ1
theorem pem_not (h : PEM X Y a fa) : PEM X Y (.UnaryOp .Not a pos) (mNotV fa) := pe_weak (pe_not h) fun σ H Q hq => by
  obtain ⟨F, ρ, S, q⟩ := hq
  refine ⟨F, ρ, S, (RunG.bind (RunG.bind q)).imp fun x ρ1 F1 H1 S1 k1 q1 v1 hv1 => ?_⟩
  obtain ⟨m, w⟩ := x
  unfold boolOf at q1
  dsimp only at q1
  split at q1
  · exact ⟨_, hv1.bl S1, q1 F1 H1 S1 .refl F1 H1 S1 .refl _ rfl⟩
  · exact q1.elim
def mAndV (fa fb : Rho → R (Md × W)) : Rho → R (Md × W) := fun ρ => ((fa ρ).bind boolOf).bind fun b ρ1 => if b then fb ρ1 else .ok (.val, .bl false) ρ1
def mOrV (fa fb : Rho → R (Md × W)) : Rho → R (Md × W) := fun ρ => ((fa ρ).bind boolOf).bind fun b ρ1 => if b then .ok (.val, .bl true) ρ1 else fb ρ1
theorem pem_one {op} (h : PEM X Y a fa) : PEM X Y (.BoolOp op [a] pos) fa := pe_one h
theorem pem_and {rest : List Expr} (h : PEM X Y a fa) (h' : PEM X Y (.BoolOp .And (b :: rest) pos) fb) : PEM X Y (.BoolOp .And (a :: b :: rest) pos) (mAndV fa fb) := pe_weak (pe_and h h') fun σ H Q hq => by
  obtain ⟨F, ρ, S, q⟩ := hq
  refine ⟨F, ρ, S, (RunG.bind (RunG.bind q)).imp fun x ρ1 F1 H1 S1 k1 q1 v1 hv1 => ?_⟩
  obtain ⟨m, w⟩ := x
  unfold boolOf at q1
  dsimp only at q1
  split at q1
  · rename_i c
    refine ⟨c, hv1.bl S1, ?_⟩
    have q2 := q1 F1 H1 S1 .refl
    cases c with
    | true => exact ⟨F1, ρ1, S1, q2⟩
    | false => exact q2 F1 H1 S1 .refl _ rfl
  · exact q1.elim
theorem pem_or {rest : List Expr} (h : PEM X Y a fa) (h' : PEM X Y (.BoolOp .Or (b :: rest) pos) fb) : PEM X Y (.BoolOp .Or (a :: b :: rest) pos) (mOrV fa fb) := pe_weak (pe_or h h') fun σ H Q hq => by
  obtain ⟨F, ρ, S, q⟩ := hq
  refine ⟨F, ρ, S, (RunG.bind (RunG.bind q)).imp fun x ρ1 F1 H1 S1 k1 q1 v1 hv1 => ?_⟩
  obtain ⟨m, w⟩ := x
  unfold boolOf at q1
  dsimp only at q1
  split at q1
  · rename_i c
    refine ⟨c, hv1.bl S1, ?_⟩
    have q2 := q1 F1 H1 S1 .refl
    cases c with
    | true => exact q2 F1 H1 S1 .refl _ rfl
    | false => exact ⟨F1, ρ1, S1, q2⟩
  · exact q1.elim
def mIfE (c : Rho → R Bool) (fa fb : Rho → R (Md × W)) : Rho → R (Md × W) := fun ρ => (c ρ).bind fun b ρ1 => if b then fa ρ1 else fb ρ1
theorem pem_ifE {t : Expr} (hc : PTM X Y t c) (ha : PEM X Y a fa) (hb : PEM X Y b fb) : PEM X Y (.IfExp t a b pos) (mIfE c fa fb) := pe_weak (pe_ifExp hc ha hb) fun σ H Q hq => by
  obtain ⟨F, ρ, S, q⟩ := hq
  refine ⟨F, ρ, S, (RunG.bind q).imp fun b ρ1 F1 H1 S1 k1 q1 => ?_⟩
  cases b with
  | true => exact ⟨F1, ρ1, S1, q1⟩
  | false => exact ⟨F1, ρ1, S1, q1⟩
/-! ### if -/
def mIf (c : Rho → R Bool) (g g' : Rho → R Fl) : Rho → R Fl := fun ρ => (c ρ).bind fun b ρ1 => if b then g ρ1 else g' ρ1
theorem psm_if {t : Expr} {xs ys : List Stmt} (hc : PTM X Y t c) (ha : PSMs X Y xs g) (hb : PSMs X Y ys g') : PSM X Y (.If t xs ys pos) (mIf c g g') := ps_weak (ps_if hc ha hb) fun D σ H hq => by
  obtain ⟨F, ρ, S, q⟩ := hq
  refine ⟨F, ρ, S, (RunS.bindE q).imp fun b ρ1 F1 H1 S1 k1 q1 => ?_⟩
  cases b with
  | true => exact ⟨F1, ρ1, S1, q1⟩
  | false => exact ⟨F1, ρ1, S1, q1⟩
/-! ### while -/
def loopF (r : R Fl) (k : Rho → R Fl) : R Fl := r.bind fun fl ρ => match fl with
  | .nx => k ρ
  | .ct => k ρ
  | .bk => .ok .nx ρ
  | .rt m w => .ok (.rt m w) ρ
def whileN (c : Rho → R Bool) (g : Rho → R Fl) : Nat → Rho → R Fl
  | 0, _ => .stk
  | n + 1, ρ => (c ρ).bind fun b ρ1 => if b then loopF (g ρ1) (whileN c g n) else .ok .nx ρ1
theorem bind_stk {α β : Type} {r : R α} {k k' : α → Rho → R β} (h : r.bind k ≠ .stk) (q : ∀ a ρ, k a ρ ≠ .stk → k' a ρ = k a ρ) : r.bind k' = r.bind k := by
  cases r with
  | ok a ρ => exact q a ρ h
  | exc c ns ws ρ => rfl
  | stk => exact absurd rfl h
theorem whileN_mono {c : Rho → R Bool} {g : Rho → R Fl} : ∀ (n m : Nat) (ρ : Rho), n ≤ m → whileN c g n ρ ≠ .stk → whileN c g m ρ = whileN c g n ρ
  | 0, _, _, _, h => absurd rfl h
  | n + 1, 0, _, l, _ => absurd l (by omega)
  | n + 1, m + 1, ρ, l, h => bind_stk h fun b ρ1 h1 => by
    cases b with
    | false => rfl
    | true =>
      refine bind_stk (show loopF (g ρ1) (whileN c g n) ≠ .stk from h1) fun fl ρ2 h2 => ?_
      cases fl with
      | nx => exact whileN_mono n m ρ2 (by omega) h2
      | ct => exact whileN_mono n m ρ2 (by omega) h2
      | bk => rfl
      | rt m w => rfl
open Classical in
/-- while c: g (as many turns as it takes; stk if it never ends) -/
noncomputable def mWhile (c : Rho → R Bool) (g : Rho → R Fl) : Rho → R Fl := fun ρ => if h : ∃ n, whileN c g n ρ ≠ .stk then whileN c g (Classical.choose h) ρ else .stk
theorem mWhile_of {c : Rho → R Bool} {g : Rho → R Fl} {n : Nat} {ρ : Rho} (h : whileN c g n ρ ≠ .stk) : mWhile c g ρ = whileN c g n ρ := by
  have e : ∃ n, whileN c g n ρ ≠ .stk := ⟨n, h⟩
  unfold mWhile
  rw [dif_pos e]
  have h2 := Classical.choose_spec e
  rcases Nat.le_total n (Classical.choose e) with l | l
  · exact whileN_mono _ _ _ l h
  · exact (whileN_mono _ _ _ l h2).symm
theorem mWhile_is {c : Rho → R Bool} {g : Rho → R Fl} {ρ : Rho} (h : mWhile c g ρ ≠ .stk) : ∃ n, mWhile c g ρ = whileN c g n ρ := by
  unfold mWhile at h ⊢
  split at h
  · rename_i e
    rw [dif_pos e]
    exact ⟨_, rfl⟩
  · exact absurd rfl h
/-- one turn -/
theorem mWhile_step {c : Rho → R Bool} {g : Rho → R Fl} {ρ : Rho} {r : R Fl} (hr : r ≠ .stk) (h : ((c ρ).bind fun b ρ1 => if b then loopF (g ρ1) (mWhile c g) else .ok .nx ρ1) = r) : mWhile c g ρ = r := by
  have key : ∃ n, whileN c g n ρ = r := by
    cases ec : c ρ with
    | stk => rw [ec] at h; exact absurd h.symm hr
    | exc cc ns ws ρ' => exact ⟨1, by show (c ρ).bind _ = r; rw [ec]; rw [ec] at h; exact h⟩
    | ok b ρ1 =>
      rw [ec] at h
      cases b with
      | false => exact ⟨1, by show (c ρ).bind _ = r; rw [ec]; exact h⟩
      | true =>
        have h1 : loopF (g ρ1) (mWhile c g) = r := h
        cases eg : g ρ1 with
        | stk => rw [eg] at h1; exact absurd h1.symm hr
        | exc cc ns ws ρ' => exact ⟨1, by show (c ρ).bind _ = r; rw [ec]; show loopF (g ρ1) _ = r; rw [eg]; rw [eg] at h1; exact h1⟩
        | ok fl ρ2 =>
          rw [eg] at h1
          have go : ∀ x : R Fl, mWhile c g ρ2 = x → x = r → ∃ n, whileN c g n ρ2 = r := fun x e1 e2 => by
            obtain ⟨n, en⟩ := mWhile_is (ρ := ρ2) (c := c) (g := g) (by rw [e1, e2]; exact hr)
            exact ⟨n, by rw [← en, e1, e2]⟩
          cases fl with
          | nx =>
            obtain ⟨n, en⟩ := go _ rfl h1
            exact ⟨n + 1, by show (c ρ).bind _ = r; rw [ec]; show loopF (g ρ1) _ = r; rw [eg]; exact en⟩
          | ct =>
            obtain ⟨n, en⟩ := go _ rfl h1
            exact ⟨n + 1, by show (c ρ).bind _ = r; rw [ec]; show loopF (g ρ1) _ = r; rw [eg]; exact en⟩
          | bk => exact ⟨1, by show (c ρ).bind _ = r; rw [ec]; show loopF (g ρ1) _ = r; rw [eg]; exact h1⟩
          | rt m w => exact ⟨1, by show (c ρ).bind _ = r; rw [ec]; show loopF (g ρ1) _ = r; rw [eg]; exact h1⟩
  obtain ⟨n, en⟩ := key
  rw [mWhile_of (n := n) (by rw [en]; exact hr), en]
theorem while_of {K : PySem.W.Frag} {D : Ends} : ∀ (n : Nat) {F : Fz} {H : Hp} {σ : L2.St} {ρ : Rho}, SR K Y.B F H σ ρ → RunS K Y F H (whileN c g n ρ) D → tWhile (tMT K Y c) (tMS K Y g) D σ H := by
  intro n F H σ ρ S q
  refine ⟨fun m σ H => ∃ F ρ, SR K Y.B F H σ ρ ∧ RunS K Y F H (whileN c g m ρ) D, ⟨n, F, ρ, S, q⟩, ?_⟩
  rintro m σ H ⟨F, ρ, S, q⟩
  cases m with
  | zero => exact q.elim
  | succ m =>
    refine ⟨F, ρ, S, (RunS.bindE q).imp fun b ρ1 F1 H1 S1 k1 q1 => ?_⟩
    cases b with
    | false => exact q1 F1 H1 σ S1 .refl
    | true =>
      refine ⟨fun σ H => ∃ F ρ, SR K Y.B F H σ ρ ∧ RunS K Y F H (whileN c g m ρ) D, fun σ' H' h => ⟨m, Nat.lt_succ_self m, h⟩, F1, ρ1, S1, ?_⟩
      have q2 : RunS K Y F1 H1 (loopF (g ρ1) (whileN c g m)) D := q1
      unfold loopF at q2
      cases e : g ρ1 with
      | stk => rw [e] at q2; exact q2.elim
      | exc cc ns ws ρ' => rw [e] at q2; exact q2
      | ok fl ρ2 =>
        rw [e] at q2
        cases fl with
        | nx => exact fun F' H' σ' S' k' => ⟨F', ρ2, S', RunS.rebase (show RunS K Y F1 H1 (whileN c g m ρ2) D from q2) k'⟩
        | ct => exact fun F' H' σ' S' k' => ⟨F', ρ2, S', RunS.rebase (show RunS K Y F1 H1 (whileN c g m ρ2) D from q2) k'⟩
        | bk => exact q2
        | rt m w => exact q2
theorem psm_while {t : Expr} {body : List Stmt} (hp : PassesOwn (model X.prog X.w) X.A X.env X.xe) (hc : PTM X Y t c) (hb : PSMs X Y body g) : PSM X Y (.While t body [] pos) (mWhile c g) := ps_weak (ps_while hp hc hb) fun D σ H hq => by
  obtain ⟨F, ρ, S, q⟩ := hq
  obtain ⟨n, en⟩ := mWhile_is (c := c) (g := g) (ρ := ρ) (fun z => by rw [z] at q; exact q)
  rw [en] at q
  exact while_of n S q
end
end ML

set_option maxHeartbeats 4000000
namespace ML
open PySem PySem.Spec PyProof.Rows L2
variable {I : List Nat}
/-! ### what a for walks -/
def Tg (F : Fz) (H : Hp) : Prop := ∀ a, F a → H a ≠ none
/-- the iterator J hands out the words ws, whatever else is made meanwhile -/
def ItR (K : PySem.W.Frag) (J : It) (F : Fz) (H : Hp) (ws : List W) : Prop := ∀ F' H', Keeps F H F' H' → Tight F' H' → ∀ i,
  (∀ w, ws[i]? = some w → J.go i H' ∧ ∀ x H'', J.yld i H' x H'' → ∃ F'', Ext [] F' H' F'' H'' ∧ Rep K F'' H'' w x) ∧ (ws.length ≤ i → J.stop i H')
def tMI (K : PySem.W.Frag) (Y : Yx I) (it : Rho → R (List W)) : TI := fun σ H R => ∃ F ρ, SR K Y.B F H σ ρ ∧ RunG K Y F H σ (it ρ) fun ws ρ' F' H' => ∀ J, ItR K J F' H' ws → R J H'
def PIM (X : Cx) (Y : Yx I) (tg iter : Expr) (it : Rho → R (List W)) : Prop := PI X tg iter (tMI X.K Y it)
theorem pi_weak {X : Cx} {tg e : Expr} {t t' : TI} (h : PI X tg e t) (q : ∀ σ H R, t' σ H R → t σ H R) : PI X tg e t' := ⟨fun pins s σ H R I hq => h.run pins s σ H R I (q _ _ _ hq)⟩
/-- the target of a for, of an assignment -/
def tMG (K : PySem.W.Frag) (Y : Yx I) (t : W → Rho → Option Rho) : TG := fun v σ H Q => ∃ F ρ w ρ', SR K Y.B F H σ ρ ∧ Rep K F H w v ∧ t w ρ = some ρ' ∧ ∀ F' H' σ', SR K Y.B F' H' σ' ρ' → Keeps F H F' H' → Q σ' H'
def PGM (X : Cx) (Y : Yx I) (tg : Expr) (t : W → Rho → Option Rho) : Prop := PG X tg (tMG X.K Y t)
theorem pg_weak {X : Cx} {e : Expr} {t t' : TG} (h : PG X e t) (q : ∀ v σ H Q, t' v σ H Q → t v σ H Q) : PG X e t' := ⟨fun pins s σ H v u Q I r hq => h.run pins s σ H v u Q I r (q _ _ _ _ hq)⟩
def gSet (I : List Nat) (i : Nat) (w : W) (ρ : Rho) : Option Rho := if i ∈ I then none else some (ρ.set i (.val w))
theorem pgm_name {X : Cx} {Y : Yx I} {e : Expr} {i : Nat} (h : PG X e (gName i)) : PGM X Y e (gSet I i) := pg_weak h fun v σ H Q hq => by
  obtain ⟨F, ρ, w, ρ', S, r, e, q⟩ := hq
  unfold gSet at e
  split at e
  · cases e
  · rename_i n
    cases e
    exact q F H _ (S.setVal (Y.un n) r) .refl
/-- a, b, ..: a tuple's items to targets -/
def gTups : List (W → Rho → Option Rho) → List W → Rho → Option Rho
  | [], [], ρ => some ρ
  | t :: ts, w :: ws, ρ => (t w ρ).bind fun ρ1 => gTups ts ws ρ1
  | _, _, _ => none
def tMGs (K : PySem.W.Frag) (Y : Yx I) (ts : List (W → Rho → Option Rho)) : TGs := fun vs σ H Q => ∃ F ρ ws ρ', SR K Y.B F H σ ρ ∧ RepL K F H ws vs ∧ gTups ts ws ρ = some ρ' ∧ ∀ F' H' σ', SR K Y.B F' H' σ' ρ' → Keeps F H F' H' → Q σ' H'
def PGMs (X : Cx) (Y : Yx I) (es : List Expr) (ts : List (W → Rho → Option Rho)) : Prop := PGs X es (tMGs X.K Y ts)
theorem pgs_weak {X : Cx} {e : List Expr} {t t' : TGs} (h : PGs X e t) (q : ∀ v σ H Q, t' v σ H Q → t v σ H Q) : PGs X e t' := ⟨fun pins s σ H v u Q I r hq => h.run pins s σ H v u Q I r (q _ _ _ _ hq)⟩
theorem pgms_nil {X : Cx} {Y : Yx I} : PGMs X Y [] [] := pgs_weak pgs_nil fun v σ H Q hq => by
  obtain ⟨F, ρ, ws, ρ', S, r, e, q⟩ := hq
  cases ws with
  | nil => cases e; cases r; exact ⟨rfl, q F H σ S .refl⟩
  | cons w l => cases e
theorem pgms_cons {X : Cx} {Y : Yx I} {e : Expr} {es : List Expr} {t : W → Rho → Option Rho} {ts : List (W → Rho → Option Rho)} (h1 : PGM X Y e t) (h2 : PGMs X Y es ts) (hs : (assignEach (e :: es) X.env).map (·.2) = assign e X.env :: (assignEach es X.env).map (·.2) := by rfl) : PGMs X Y (e :: es) (t :: ts) := pgs_weak (pgs_cons h1 h2 hs) fun v σ H Q hq => by
  obtain ⟨F, ρ, ws, ρ', S, r, e, q⟩ := hq
  cases ws with
  | nil => cases e
  | cons w l =>
    obtain ⟨v, vs, rfl, r1, r2⟩ := r
    obtain ⟨ρ1, e1, e2⟩ := Option.bind_eq_some_iff.mp (show (t w ρ).bind _ = _ from e)
    exact ⟨v, vs, rfl, F, ρ, w, ρ1, S, r1, e1, fun F' H' σ' S' k' => ⟨F', ρ1, l, ρ', S', r2.mono k', e2, fun F2 H2 σ2 S2 k2 => q F2 H2 σ2 S2 (k'.trans k2)⟩⟩
def gTup (ts : List (W → Rho → Option Rho)) (w : W) (ρ : Rho) : Option Rho := match w with
  | .tup l => gTups ts l ρ
  | _ => none
theorem gTups_len : ∀ {ts : List (W → Rho → Option Rho)} {ws : List W} {ρ ρ' : Rho}, gTups ts ws ρ = some ρ' → ws.length = ts.length
  | [], [], _, _, _ => rfl
  | t :: ts, w :: ws, ρ, ρ', h => by
    obtain ⟨ρ1, e1, e2⟩ := Option.bind_eq_some_iff.mp (show (t w ρ).bind _ = _ from h)
    rw [List.length_cons, List.length_cons, gTups_len e2]
  | [], _ :: _, _, _, h => by cases h
  | _ :: _, [], _, _, h => by cases h
theorem pgm_tup {X : Cx} {Y : Yx I} {e : Expr} {n : Nat} {ts : List (W → Rho → Option Rho)} (h : PG X e (L2.gTup X.K n (tMGs X.K Y ts))) (hn : ts.length = n) : PGM X Y e (gTup ts) := pg_weak h fun v σ H Q hq => by
  obtain ⟨F, ρ, w, ρ', S, r, e, q⟩ := hq
  cases w with
  | tup l =>
    obtain ⟨a, vs, rfl, hs, r2⟩ := r
    have e' : gTups ts l ρ = some ρ' := e
    exact ⟨a, vs, rfl, hs.seq, by rw [← r2.len, gTups_len e', hn], F, ρ, l, ρ', S, r2, e', q⟩
  | _ => cases e
/-- x, y = e -/
def mAsgT (I : List Nat) (t : W → Rho → Option Rho) (f : Rho → R (Md × W)) : Rho → R Fl := fun ρ => (f ρ).bind fun b ρ1 => (toVal I b ρ1).bind fun w ρ2 => match t w ρ2 with
  | some ρ3 => .ok .nx ρ3
  | none => .stk
theorem psm_asgT {X : Cx} {Y : Yx I} {st : Stmt} {t : W → Rho → Option Rho} {f : Rho → R (Md × W)} (h : PS X st (tAsg (tM X.K Y f) (tMG X.K Y t))) : PSM X Y st (mAsgT I t f) := ps_weak h fun D σ H hq => by
  obtain ⟨F, ρ, S, q⟩ := hq
  refine ⟨F, ρ, S, (RunS.bindE q).imp fun b ρ1 F1 H1 S1 k1 q1 v hv => ?_⟩
  obtain ⟨F2, w, ρ2, S2, k2, r, q2⟩ := S1.toVal hv (RunS.bindE (σ := σ) q1)
  cases e : t w ρ2 with
  | none => rw [e] at q2; exact q2.elim
  | some ρ3 =>
    rw [e] at q2
    exact ⟨F2, ρ2, w, ρ3, S2, r, e, q2⟩
/-! ### for -/
def forL (tg : W → Rho → Option Rho) (g : Rho → R Fl) : List W → Rho → R Fl
  | [], ρ => .ok .nx ρ
  | w :: ws, ρ => match tg w ρ with
    | some ρ1 => loopF (g ρ1) (forL tg g ws)
    | none => .stk
def mFor (it : Rho → R (List W)) (tg : W → Rho → Option Rho) (g : Rho → R Fl) : Rho → R Fl := fun ρ => (it ρ).bind fun ws ρ1 => forL tg g ws ρ1
theorem drop_get {α : Type} {l : List α} {i : Nat} {x : α} {r : List α} (h : l.drop i = x :: r) : l[i]? = some x ∧ l.drop (i + 1) = r := by
  have h1 : (l.drop i)[0]? = some x := by rw [h]; rfl
  rw [List.getElem?_drop, Nat.add_zero] at h1
  refine ⟨h1, ?_⟩
  rw [← List.drop_drop (i := 1) (j := i), h]
  rfl
theorem for_of {K : PySem.W.Frag} {Y : Yx I} {it : Rho → R (List W)} {tg : W → Rho → Option Rho} {g : Rho → R Fl} {D : Ends} {σ : L2.St} {H : Hp} (hq : tMS K Y (mFor it tg g) D σ H) : tFor (tMI K Y it) (tMG K Y tg) (tMS K Y g) D σ H := by
  obtain ⟨F, ρ, S, q⟩ := hq
  refine ⟨F, ρ, S, (RunS.bindE q).imp fun ws ρ1 F1 H1 S1 k1 q1 J hJ => ?_⟩
  refine ⟨fun i m σ H => ∃ F ρ, SR K Y.B F H σ ρ ∧ m = ws.length - i ∧ Keeps F1 H1 F H ∧ RunS K Y F H (forL tg g (ws.drop i) ρ) D, ⟨_, F1, ρ1, S1, rfl, .refl, q1⟩, ?_⟩
  rintro i m σ H ⟨F, ρ, S, rfl, k, q⟩
  have hi := hJ F H k S.f2 i
  cases e : ws.drop i with
  | nil =>
    rw [e] at q
    exact .inl ⟨hi.2 (List.drop_eq_nil_iff.mp e), q F H σ S .refl⟩
  | cons w r =>
    obtain ⟨ew, er⟩ := drop_get e
    obtain ⟨go, yl⟩ := hi.1 w ew
    have lt := (List.getElem?_eq_some_iff.mp ew).1
    refine .inr ⟨go, fun σ' H' => ∃ F ρ, SR K Y.B F H' σ' ρ ∧ Keeps F1 H1 F H' ∧ RunS K Y F H' (forL tg g (ws.drop (i + 1)) ρ) D, fun σ' H' ⟨F', ρ', S', k', q'⟩ => ⟨ws.length - (i + 1), by omega, F', ρ', S', rfl, k', q'⟩, fun x H'' y => ?_⟩
    obtain ⟨F2, ex, rx⟩ := yl x H'' y
    rw [e] at q
    have q2 : RunS K Y F H (match tg w ρ with
      | some ρ1 => loopF (g ρ1) (forL tg g r)
      | none => .stk) D := q
    cases et : tg w ρ with
    | none => rw [et] at q2; exact q2.elim
    | some ρ3 =>
      rw [et] at q2
      refine ⟨F2, ρ, w, ρ3, S.grow ex, rx, et, fun F3 H3 σ3 S3 k3 => ⟨F3, ρ3, S3, ?_⟩⟩
      have kk : Keeps F H F3 H3 := ex.keeps.trans k3
      have q3 : RunS K Y F3 H3 (loopF (g ρ3) (forL tg g r)) D := RunS.rebase q2 kk
      unfold loopF at q3
      cases eg : g ρ3 with
      | stk => rw [eg] at q3; exact q3.elim
      | exc cc ns us ρ' => rw [eg] at q3; exact q3
      | ok fl ρ4 =>
        rw [eg] at q3
        cases fl with
        | nx => exact fun F' H' σ' S' k' => ⟨F', ρ4, S', (k.trans kk).trans k', by rw [er]; exact RunS.rebase (show RunS K Y F3 H3 (forL tg g r ρ4) D from q3) k'⟩
        | ct => exact fun F' H' σ' S' k' => ⟨F', ρ4, S', (k.trans kk).trans k', by rw [er]; exact RunS.rebase (show RunS K Y F3 H3 (forL tg g r ρ4) D from q3) k'⟩
        | bk => exact q3
        | rt m w => exact q3
theorem psm_for {X : Cx} {Y : Yx I} {tgE iter : Expr} {body : List Stmt} {it : Rho → R (List W)} {tg : W → Rho → Option Rho} {g : Rho → R Fl} {pos : Pos} (hp : PassesOwn (model X.prog X.w) X.A X.env X.xe) (hc : X.calm = true) (hi : PIM X Y tgE iter it) (hg : PGM X Y tgE tg) (hb : PSMs X Y body g)
    (hs : ∀ x, foldedSetIterable iter X.env x = pure x := by intro _; rfl) : PSM X Y (.For tgE iter body [] pos) (mFor it tg g) := ps_weak (ps_for hp hc hi hg hb hs) fun _ _ _ => for_of
/-! ### over a list, a tuple -/
theorem it_list {K : PySem.W.Frag} {F : Fz} {H : Hp} {a : Addr} {ws : List W} {vs : List V} (hs : ∀ F' H', Keeps F H F' H' → SqL K H' a vs) (r : RepL K F H ws vs) : ItR K (Itl K a) F H ws := by
  intro F' H' k t i
  refine ⟨fun w ew => ?_, fun h => ⟨vs, hs F' H' k, by rw [← r.len]; exact h⟩⟩
  obtain ⟨v, ev, rv⟩ := r.get ew
  refine ⟨⟨vs, v, hs F' H' k, ev⟩, ?_⟩
  rintro x H'' ⟨rfl, y⟩
  have e := y vs (hs F' _ k)
  rw [ev] at e
  cases e
  exact ⟨F', .refl t, rv.mono k⟩
theorem it_tup {K : PySem.W.Frag} {F : Fz} {H : Hp} {a : Addr} {ws : List W} {vs : List V} (hs : SqU K H a vs) (r : RepL K F H ws vs) : ItR K (Itt K a) F H ws := by
  intro F' H' k t i
  refine ⟨fun w ew => ?_, fun h => ⟨vs, (k.sqU hs).seq, by rw [← r.len]; exact h⟩⟩
  obtain ⟨v, ev, rv⟩ := r.get ew
  refine ⟨⟨vs, v, (k.sqU hs).seq, ev⟩, ?_⟩
  rintro x H'' ⟨rfl, y⟩
  have e := y vs (k.sqU hs).seq
  rw [ev] at e
  cases e
  exact ⟨F', .refl t, rv.mono k⟩
/-- a list, a tuple, or a text -/
def iSeqM (K : PySem.W.Frag) (tl : TE) : TI := fun σ H R => tl σ H fun x H1 => (∃ y, x = .str y ∧ R (Its y) H1) ∨ ∃ a, x = .ref a ∧ ((∃ vs, SqL K H1 a vs ∧ R (Itl K a) H1) ∨ ∃ vs, SqT K H1 a vs ∧ R (Itt K a) H1)
theorem pi_seqM {X : Cx} {tg l : Expr} {tl : TE} (hl : PE X l tl) : PI X tg l (iSeqM X.K tl) := ⟨fun pins s0 σ H R J0 hq =>
  thn (hl.run pins s0 σ H _ J0 hq) fun u s1 ⟨x, H1, J1, rx, cs⟩ => by
    rcases cs with ⟨y, ey, q⟩ | ⟨a, ea, cs⟩
    · subst ey
      obtain ⟨t, rfl⟩ := rx
      cases ha : y.cps.all (· < 128)
      · exact wpAny_pyIter_wide ha (pi_one (tk := s1.toks) J1 _ (turn_str _ y t "str_iterator" (.inr rfl)) ⟨_, Heap.get?_push_size _ rfl, rfl, rfl⟩ q)
      · exact wpAny_pyIter_ascii ha (pi_one (tk := s1.toks) J1 _ (turn_str _ y t "str_ascii_iterator" (.inl rfl)) ⟨_, Heap.get?_push_size _ rfl, rfl, rfl⟩ q)
    subst ea
    cases rx
    rcases cs with ⟨vs, hv, r⟩ | ⟨vs, hv, r⟩
    · obtain ⟨ys, _, pl, _⟩ := J1.list hv
      exact wpAny_pyIter_list pl.isList (pi_one (tk := s1.toks) J1 _ (turn_list a _) ⟨_, Heap.get?_push_size _ rfl, rfl, rfl⟩ r)
    · obtain ⟨ys, _, pl, _⟩ := J1.tuple hv
      exact wpAny_pyIter_tuple pl (pi_one (tk := s1.toks) J1 _ (turn_tuple a _) ⟨_, Heap.get?_push_size _ rfl, rfl, rfl⟩ r)⟩
def itemsX : W → Option (List W)
  | .str z => some (z.cps.toList.map fun c => .str ⟨#[c]⟩)
  | w => itemsW w
theorem it_str {K : PySem.W.Frag} {F : Fz} {H : Hp} {z : Str} : ItR K (Its z) F H (z.cps.toList.map fun c => .str ⟨#[c]⟩) := by
  intro F' H' k t i
  refine ⟨fun w ew => ?_, fun h => ?_⟩
  · rw [List.getElem?_map, Option.map_eq_some_iff] at ew
    obtain ⟨c, ec, rfl⟩ := ew
    have ec' : z.cps[i]? = some c := by rw [← Array.getElem?_toList]; exact ec
    refine ⟨(Array.getElem?_eq_some_iff.mp ec').1, ?_⟩
    rintro x H'' ⟨rfl, c', e1, rfl⟩
    rw [ec'] at e1
    cases e1
    exact ⟨F', .refl t, rfl⟩
  · rw [List.length_map, Array.length_toList] at h
    exact h
def mItems (I : List Nat) (f : Rho → R (Md × W)) : Rho → R (List W) := fun ρ => (f ρ).bind fun b ρ1 => (toVal I b ρ1).bind fun w ρ2 => lift (itemsX w) ρ2
section
variable {X : Cx} {Y : Yx I} {tg e : Expr} {f : Rho → R (Md × W)}
theorem pim_seq (he : PEM X Y e f) : PIM X Y tg e (mItems I f) := pi_weak (pi_seqM he) fun σ H Q hq => by
  obtain ⟨F, ρ, S, q⟩ := hq
  refine ⟨F, ρ, S, (RunG.bind q).imp fun b ρ1 F1 H1 S1 k1 q1 v hv => ?_⟩
  obtain ⟨F2, w, ρ2, S2, k2, r, q2⟩ := S1.toVal hv (RunG.bind q1)
  obtain ⟨ws, ew, q3⟩ := lift_ok q2
  have q4 := q3 F2 H1 S2 .refl
  cases w with
  | str z =>
    cases ew
    cases r
    exact .inl ⟨z, rfl, q4 _ it_str⟩
  | tup l =>
    cases ew
    obtain ⟨a, vs, rfl, hs, rl⟩ := r
    exact .inr ⟨a, rfl, .inr ⟨vs, hs.seq, q4 _ (it_tup hs rl)⟩⟩
  | lst l =>
    cases ew
    obtain ⟨a, vs, rfl, fa, hs, rl⟩ := r
    exact .inr ⟨a, rfl, .inl ⟨vs, .of hs, q4 _ (it_list (fun F' H' k => .of (k.h a _ hs (.inl fa))) rl)⟩⟩
  | frl l =>
    cases ew
    obtain ⟨a, vs, rfl, hs, rl⟩ := r
    exact .inr ⟨a, rfl, .inl ⟨vs, hs.seq, q4 _ (it_list (fun F' H' k => (k.frl hs).seq) rl)⟩⟩
  | _ => cases ew
end
/-! ### arguments -/
def HeldL (σ : L2.St) (K : PySem.W.Frag) (F : Fz) (H : Hp) : List (Md × W) → List V → Prop
  | [], vs => vs = []
  | b :: bs, vs => ∃ v r, vs = v :: r ∧ Held σ K F H b.1 b.2 v ∧ HeldL σ K F H bs r
theorem Held.mono {σ : L2.St} {K : PySem.W.Frag} {F F' : Fz} {H H' : Hp} (k : Keeps F H F' H') {m : Md} {w : W} {v : V} (h : Held σ K F H m w v) : Held σ K F' H' m w v := by
  cases m with
  | val => exact Rep.mono k w h
  | fre => exact Rep.mono k w h
  | bor i => exact h
theorem HeldL.mono {σ : L2.St} {K : PySem.W.Frag} {F F' : Fz} {H H' : Hp} (k : Keeps F H F' H') : ∀ {bs : List (Md × W)} {vs : List V}, HeldL σ K F H bs vs → HeldL σ K F' H' bs vs
  | [], _, h => h
  | b :: bs, _, ⟨v, r, e, h1, h2⟩ => ⟨v, r, e, h1.mono k, HeldL.mono k h2⟩
def mHold : List (Rho → R (Md × W)) → Rho → R (List (Md × W))
  | [], ρ => .ok [] ρ
  | f :: fs, ρ => (f ρ).bind fun b ρ1 => (mHold fs ρ1).bind fun bs ρ2 => .ok (b :: bs) ρ2
def tMA (K : PySem.W.Frag) (Y : Yx I) (fs : List (Rho → R (Md × W))) : TA := fun σ H Q => ∃ F ρ, SR K Y.B F H σ ρ ∧ RunG K Y F H σ (mHold fs ρ) fun bs ρ' F' H' => ∀ F2 vs, SR K Y.B F2 H' σ ρ' → Keeps F' H' F2 H' → HeldL σ K F2 H' bs vs → Q vs H'
def PAM (X : Cx) (Y : Yx I) (es : List Expr) (fs : List (Rho → R (Md × W))) : Prop := PA X es (tMA X.K Y fs)
theorem pa_weak {X : Cx} {e : List Expr} {t t' : TA} (h : PA X e t) (q : ∀ σ H Q, t' σ H Q → t σ H Q) : PA X e t' := ⟨fun pos pins s σ H Q I hq => h.run pos pins s σ H Q I (q _ _ _ hq)⟩
section
variable {X : Cx} {Y : Yx I} {e : Expr} {es : List Expr} {f : Rho → R (Md × W)} {fs : List (Rho → R (Md × W))}
theorem pam_nil : PAM X Y [] [] := pa_weak pa_nil fun σ H Q hq => by
  obtain ⟨F, ρ, S, q⟩ := hq
  exact q F H S .refl F [] S .refl rfl
theorem pam_cons (h1 : PEM X Y e f) (h2 : PAM X Y es fs) (hs : starEach (e :: es) X.env = (false, eval e X.env) :: starEach es X.env := by rfl) : PAM X Y (e :: es) (f :: fs) := pa_weak (pa_cons h1 h2 hs) fun σ H Q hq => by
  obtain ⟨F, ρ, S, q⟩ := hq
  refine ⟨F, ρ, S, (RunG.bind q).imp fun b ρ1 F1 H1 S1 k1 q1 v hv => ?_⟩
  obtain ⟨F1', S1', k1', hd1⟩ := S1.hold hv
  refine ⟨F1', ρ1, S1', (RunG.bind (q1.rebase k1')).imp fun bs ρ2 F2 H2 S2 k2 q2 F3 vs S3 k3 hvs => ?_⟩
  exact q2 F2 H2 S2 .refl F3 (v :: vs) S3 k3 ⟨v, vs, rfl, hd1.mono (k2.trans k3), hvs⟩
end
/-- all peeked -/
def peekL : List (Md × W) → Rho → Option (List W)
  | [], _ => some []
  | b :: bs, ρ => match peek b.1 b.2 ρ, peekL bs ρ with
    | some w, some ws => some (w :: ws)
    | _, _ => none
def PkL (K : PySem.W.Frag) (F : Fz) (H : Hp) : List W → List V → Prop
  | [], vs => vs = []
  | w :: ws, vs => ∃ v r, vs = v :: r ∧ PkR K F H w v ∧ PkL K F H ws r
theorem SR.peekL {K : PySem.W.Frag} {Y : Yx I} {F : Fz} {H : Hp} {σ : L2.St} {ρ : Rho} (S : SR K Y.B F H σ ρ) : ∀ {bs : List (Md × W)} {ws : List W} {vs : List V}, HeldL σ K F H bs vs → peekL bs ρ = some ws → PkL K F H ws vs
  | [], _, _, h, e => by cases e; exact h
  | b :: bs, ws, _, ⟨v, r, e0, h1, h2⟩, e => by
    unfold ML.peekL at e
    split at e
    · rename_i w us e1 e2
      cases e
      exact ⟨v, r, e0, S.peek h1 .refl e1, SR.peekL S h2 e2⟩
    · cases e
/-- all made values -/
def valsL (I : List Nat) : List (Md × W) → Rho → R (List W)
  | [], ρ => .ok [] ρ
  | b :: bs, ρ => (toVal I b ρ).bind fun w ρ1 => (valsL I bs ρ1).bind fun ws ρ2 => .ok (w :: ws) ρ2
theorem SR.valsL {K : PySem.W.Frag} {Y : Yx I} {H : Hp} {σ : L2.St} : ∀ {bs : List (Md × W)} {vs : List V} {F : Fz} {ρ : Rho} {P : List W → Rho → Fz → Hp → Prop}, SR K Y.B F H σ ρ → HeldL σ K F H bs vs → RunG K Y F H σ (valsL I bs ρ) P →
    ∃ F' ws ρ', SR K Y.B F' H σ ρ' ∧ Keeps F H F' H ∧ RepL K F' H ws vs ∧ P ws ρ' F' H
  | [], _, F, ρ, _, S, h, q => ⟨F, [], ρ, S, .refl, h, q F H S .refl⟩
  | b :: bs, _, F, ρ, P, S, ⟨v, r, e0, h1, h2⟩, q => by
    obtain ⟨F1, w, ρ1, S1, k1, r1, q1⟩ := S.toValH h1 .refl (RunG.bind q)
    obtain ⟨F2, ws, ρ2, S2, k2, r2, q2⟩ := SR.valsL S1 (h2.mono k1) (RunG.bind q1)
    exact ⟨F2, w :: ws, ρ2, S2, k1.trans k2, ⟨v, r, e0, r1.mono k2, r2⟩, q2 F2 H S2 .refl⟩
/-! ### displays -/
def mTup (I : List Nat) (fs : List (Rho → R (Md × W))) : Rho → R (Md × W) := fun ρ => (mHold fs ρ).bind fun bs ρ1 => (valsL I bs ρ1).bind fun ws ρ2 => if ws.length ≤ sizeLine then .ok (.val, .tup ws) ρ2 else .stk
def mLst (I : List Nat) (fs : List (Rho → R (Md × W))) : Rho → R (Md × W) := fun ρ => (mHold fs ρ).bind fun bs ρ1 => (valsL I bs ρ1).bind fun ws ρ2 => if ws.length ≤ sizeLine then .ok (.fre, .lst ws) ρ2 else .stk
section
variable {X : Cx} {Y : Yx I} {es : List Expr} {fs : List (Rho → R (Md × W))} {pos : Pos}
theorem pem_tup {x1} (h : PAM X Y es fs) : PEM X Y (.Tuple es x1 pos) (mTup I fs) := pe_weak (pe_tup h) fun σ H Q hq => by
  obtain ⟨F, ρ, S, q⟩ := hq
  refine ⟨F, ρ, S, (RunG.bind q).imp fun bs ρ1 F1 H1 S1 k1 q1 F2 vs S2 k2 hvs => ?_⟩
  obtain ⟨F3, ws, ρ3, S3, k3, r, q3⟩ := S2.valsL hvs ((RunG.bind q1).rebase k2)
  split at q3
  · rename_i l
    refine ⟨by rw [← r.len]; exact l, fun p hp => ?_⟩
    exact new_tup (Q := Q) S3.f2 r (fun F' H' v e n => q3 F' H' (S3.grow e) e.keeps v (S3.newR e n)) hp
  · exact q3.elim
theorem pem_lst (h : PAM X Y es fs) : PEM X Y (.List es pos) (mLst I fs) := pe_weak (pe_lst h) fun σ H Q hq => by
  obtain ⟨F, ρ, S, q⟩ := hq
  refine ⟨F, ρ, S, (RunG.bind q).imp fun bs ρ1 F1 H1 S1 k1 q1 F2 vs S2 k2 hvs => ?_⟩
  obtain ⟨F3, ws, ρ3, S3, k3, r, q3⟩ := S2.valsL hvs ((RunG.bind q1).rebase k2)
  split at q3
  · rename_i l
    refine ⟨by rw [← r.len]; exact l, fun p hp => ?_⟩
    exact new_lst (Q := Q) S3.f2 r (fun F' H' v e n => q3 F' H' (S3.grow e) e.keeps v (S3.newR e n)) hp
  · exact q3.elim
end
/-! ### built-ins by values -/
abbrev GC := List W → Option (Md × W)
def CallW (K : PySem.W.Frag) (r : List V → Hp → VK → Prop) (g : GC) : Prop := ∀ xs m z, g xs = some (m, z) → ∀ (F : Fz) (H : Hp) (vs : List V) (Q : VK), Tight F H → PkL K F H xs vs → (∀ F' H' v, Ext [] F H F' H' → NewR K H F' H' m z v → Q v H') → r vs H Q
def mCB (g : GC) (fs : List (Rho → R (Md × W))) : Rho → R (Md × W) := fun ρ => (mHold fs ρ).bind fun bs ρ1 => match peekL bs ρ1 with
  | some ws => lift (g ws) ρ1
  | none => .stk
theorem tCB_of {K : PySem.W.Frag} {Y : Yx I} {r : List V → Hp → VK → Prop} {g : GC} {fs : List (Rho → R (Md × W))} {σ : L2.St} {H : Hp} {Q : VK} (hg : CallW K r g) (hq : tM K Y (mCB g fs) σ H Q) : tCB r (tMA K Y fs) σ H Q := by
  obtain ⟨F, ρ, S, q⟩ := hq
  refine ⟨F, ρ, S, (RunG.bind q).imp fun bs ρ1 F1 H1 S1 k1 q1 F2 vs S2 k2 hvs => ?_⟩
  have q2 := q1.rebase k2
  cases e : peekL bs ρ1 with
  | none => rw [e] at q2; exact q2.elim
  | some ws =>
    rw [e] at q2
    obtain ⟨⟨m, z⟩, ez, qz⟩ := lift_ok q2
    exact hg ws m z ez F2 H1 vs Q S2.f2 (S2.peekL hvs e) fun F' H' v ee hn => qz F' H' (S2.grow ee) ee.keeps v (S2.newR ee hn)
end ML

set_option maxHeartbeats 4000000
namespace ML
open PySem PySem.Spec PyProof.Rows L2
variable {I : List Nat}
/-! ### what a def promises: its mirror; J: the parameters whose lists the caller lends -/
inductive FR where
  | ok (fr : Bool) (w : W) (outs : List W)
  | exc (c : Str) (ns : List Str) (ws : List W) (outs : List W)
  | stk
def ArgsOk (K : PySem.W.Frag) (F : Fz) (H : Hp) (J : List Nat) : Nat → List W → List V → Prop
  | _, [], vs => vs = []
  | k, w :: ws, vs => ∃ v r, vs = v :: r ∧ (if k ∈ J then ∃ a, v = .ref a ∧ OwnR K F H w a ∧ ¬ F a else Rep K F H w v) ∧ ArgsOk K F H J (k + 1) ws r
def lentA (J : List Nat) (vs : List V) : List (Nat × Addr) := J.filterMap fun (i : Nat) => match vs[i]? with
  | some (V.ref a) => some (i, a)
  | _ => none
def LentOk (J : List Nat) (vs : List V) : Prop := (lentA J vs).map (·.1) = J ∧ ∀ (p : Nat × Addr), p ∈ lentA J vs → ∀ (q : Nat × Addr), q ∈ lentA J vs → p.2 = q.2 → p.1 = q.1
def OutsOk (K : PySem.W.Frag) (F : Fz) (H : Hp) (l : List (Nat × Addr)) (outs : List W) : Prop := outs.length = l.length ∧ ∀ (n : Nat) (p : Nat × Addr) (w : W), l[n]? = some p → outs[n]? = some w → OwnR K F H w p.2 ∧ ¬ F p.2
def spM (K : PySem.W.Frag) (ct : Str → Addr) (J : List Nat) (np : Nat) (fm : List W → FR) : Sp := fun vs H Q E => ∃ F args, vs.length = np ∧ Tight F H ∧ ArgsOk K F H J 0 args vs ∧
  LentOk J vs ∧ match fm args with
  | .ok fr w outs => ∀ F' H' v, Ext ((lentA J vs).map (·.2)) F H F' H' → OutsOk K F' H' (lentA J vs) outs → NewR K H F' H' (if fr then .fre else .val) w v → Q v H'
  | .exc c ns ws outs => ∀ F' H' d, Ext ((lentA J vs).map (·.2)) F H F' H' → OutsOk K F' H' (lentA J vs) outs → ExF K F' H' ns ws d → E (.ref (ct c)) d H'
  | .stk => False
theorem ArgsOk.len {K : PySem.W.Frag} {F : Fz} {H : Hp} {J : List Nat} : ∀ {k : Nat} {ws : List W} {vs : List V}, ArgsOk K F H J k ws vs → ws.length = vs.length
  | _, [], _, h => by cases h; rfl
  | k, w :: ws, _, ⟨v, r, e, _, h⟩ => by rw [e, List.length_cons, List.length_cons, ArgsOk.len h]
theorem ArgsOk.get {K : PySem.W.Frag} {F : Fz} {H : Hp} {J : List Nat} : ∀ {k : Nat} {ws : List W} {vs : List V} {i : Nat} {w : W}, ArgsOk K F H J k ws vs → ws[i]? = some w → ∃ v, vs[i]? = some v ∧ (if k + i ∈ J then ∃ a, v = .ref a ∧ OwnR K F H w a ∧ ¬ F a else Rep K F H w v)
  | _, [], _, _, _, _, e => by simp at e
  | k, w :: ws, _, 0, u, ⟨v, r, e0, h1, _⟩, e => by
    have e1 : w = u := Option.some.inj e
    subst e1
    exact ⟨v, by rw [e0]; rfl, h1⟩
  | k, w :: ws, _, i + 1, u, ⟨v, r, e0, _, h2⟩, e => by
    obtain ⟨x, ex, hx⟩ := ArgsOk.get (k := k + 1) (ws := ws) (vs := r) (i := i) (w := u) h2 e
    refine ⟨x, by rw [e0]; exact ex, ?_⟩
    rw [show k + (i + 1) = k + 1 + i by omega]
    exact hx
/-! ### the frame at the entry -/
def rhoA (J : List Nat) : Nat → List W → Rho
  | _, [] => []
  | k, w :: ws => (if k ∈ J then .own w else .val w) :: rhoA J (k + 1) ws
def rho0 (J : List Nat) (args : List W) (n : Nat) : Rho := rhoA J 0 args ++ List.replicate (n - args.length) .no
theorem rhoA_len {J : List Nat} : ∀ {k : Nat} {ws : List W}, (rhoA J k ws).length = ws.length
  | _, [] => rfl
  | k, w :: ws => by
    show (rhoA J (k + 1) ws).length + 1 = ws.length + 1
    rw [rhoA_len]
theorem rhoA_get {J : List Nat} : ∀ {k : Nat} {ws : List W} {i : Nat} {s : Sl}, (rhoA J k ws)[i]? = some s → ∃ w, ws[i]? = some w ∧ s = if k + i ∈ J then .own w else .val w
  | _, [], _, _, e => by simp [rhoA] at e
  | k, w :: ws, 0, s, e => ⟨w, rfl, (Option.some.inj e).symm⟩
  | k, w :: ws, i + 1, s, e => by
    obtain ⟨u, eu, es⟩ := rhoA_get (J := J) (k := k + 1) (ws := ws) (i := i) (s := s) e
    refine ⟨u, eu, ?_⟩
    rw [show k + (i + 1) = k + 1 + i by omega]
    exact es
theorem rho0_get {J : List Nat} {args : List W} {n i : Nat} {s : Sl} (h : (rho0 J args n)[i]? = some s) : s = .no ∨ ∃ w, args[i]? = some w ∧ s = if i ∈ J then .own w else .val w := by
  unfold rho0 at h
  by_cases hi : i < args.length
  · rw [List.getElem?_append_left (by rw [rhoA_len]; exact hi)] at h
    obtain ⟨w, ew, es⟩ := rhoA_get h
    right
    rw [Nat.zero_add] at es
    exact ⟨w, ew, es⟩
  · rw [List.getElem?_append_right (by rw [rhoA_len]; omega), List.getElem?_replicate] at h
    split at h
    · left; exact (Option.some.inj h).symm
    · cases h
theorem start_get {N : List Str} {vs : List V} {i : Nat} {v : V} (h : vs[i]? = some v) : (L2.start N vs)[i]? = some (some v) := by
  unfold L2.start
  have hi := (List.getElem?_eq_some_iff.mp h).1
  rw [List.getElem?_append_left (by rw [List.length_map]; exact hi), List.getElem?_map, h]
  rfl
theorem lentA_mem {J : List Nat} {vs : List V} {p : Nat × Addr} (h : p ∈ lentA J vs) : p.1 ∈ J ∧ vs[p.1]? = some (.ref p.2) := by
  unfold lentA at h
  obtain ⟨i, hi, e⟩ := List.mem_filterMap.mp h
  split at e
  · rename_i a q
    cases e
    exact ⟨hi, q⟩
  · cases e
theorem lentA_of {J : List Nat} {vs : List V} {i : Nat} {a : Addr} (hi : i ∈ J) (h : vs[i]? = some (.ref a)) : (i, a) ∈ lentA J vs := by
  unfold lentA
  exact List.mem_filterMap.mpr ⟨i, hi, by rw [h]⟩
theorem sr_start {K : PySem.W.Frag} {F : Fz} {H : Hp} {J : List Nat} {N : List Str} {args : List W} {vs : List V} (t : Tight F H) (h : ArgsOk K F H J 0 args vs)
    (hJ : (lentA J vs).map (·.1) = J) (hs : ∀ p ∈ lentA J vs, ∀ q ∈ lentA J vs, p.2 = q.2 → p.1 = q.1) (hn : vs.length ≤ N.length) : SR K { H0 := H, F0 := F, I := lentA J vs } F H (L2.start N vs) (rho0 J args N.length) := by
  have hl := h.len
  have arg : ∀ {i : Nat} {w : W}, (rho0 J args N.length)[i]? = some (.own w) → i ∈ J ∧ args[i]? = some w := fun {i w} e => by
    rcases rho0_get e with z | ⟨u, eu, z⟩
    · cases z
    · split at z
      · rename_i q; cases z; exact ⟨q, eu⟩
      · cases z
  have own : ∀ {i : Nat} {w : W}, i ∈ J → args[i]? = some w → ∃ a, vs[i]? = some (.ref a) ∧ OwnR K F H w a ∧ ¬ F a := fun {i w} hi e => by
    obtain ⟨v, ev, q⟩ := h.get e
    rw [if_pos (by rw [Nat.zero_add]; exact hi)] at q
    obtain ⟨a, ea, q⟩ := q
    exact ⟨a, by rw [ev, ea], q⟩
  refine ⟨?_, fun i s e => ?_, fun i j w w' a h1 h2 e1 e2 => ?_, fun p hp => ?_, fun _ _ _ e => e, fun _ e => e, fun _ e => e, fun _ e => .inl e, t⟩
  · unfold L2.start rho0
    rw [List.length_append, List.length_append, List.length_map, List.length_replicate, List.length_replicate, rhoA_len, hl]
  · rcases rho0_get e with z | ⟨u, eu, z⟩
    · rw [z]; trivial
    · obtain ⟨v, ev, q⟩ := h.get eu
      rw [Nat.zero_add] at q
      split at z
      · rename_i hi
        obtain ⟨a, ea, o, nf⟩ := own hi eu
        rw [z]
        exact ⟨a, start_get ea, o, nf, fun k => k.2 _ (lentA_of hi ea) rfl⟩
      · rename_i hi
        rw [if_neg hi] at q
        rw [z]
        exact ⟨v, start_get ev, q⟩
  · obtain ⟨hi, ei⟩ := arg h1
    obtain ⟨hj, ej⟩ := arg h2
    obtain ⟨b, eb, _⟩ := own hi ei
    obtain ⟨c, ec, _⟩ := own hj ej
    rw [start_get eb] at e1
    rw [start_get ec] at e2
    cases e1
    cases e2
    exact hs _ (lentA_of hi eb) _ (lentA_of hj ec) rfl
  · obtain ⟨hp1, hp2⟩ := lentA_mem hp
    refine ⟨start_get hp2, ?_⟩
    have hi : p.1 < args.length := by rw [hl]; exact (List.getElem?_eq_some_iff.mp hp2).1
    refine ⟨args[p.1], ?_⟩
    have g : ∀ (k : Nat) (ws : List W) (i : Nat) (w : W), ws[i]? = some w → (rhoA J k ws)[i]? = some (if k + i ∈ J then .own w else .val w) := by
      intro k ws
      induction ws generalizing k with
      | nil => intro i w e; simp at e
      | cons x ws ih =>
        intro i w e
        cases i with
        | zero =>
          have e1 : x = w := Option.some.inj e
          subst e1
          rfl
        | succ i =>
          have := ih (k + 1) i w e
          rw [show k + (i + 1) = k + 1 + i by omega]
          exact this
    unfold rho0
    rw [List.getElem?_append_left (by rw [rhoA_len]; exact hi), g 0 args p.1 _ (List.getElem?_eq_getElem hi), if_pos (by rw [Nat.zero_add]; exact hp1)]
/-! ### the def's mirror by its body's -/
def ownAt (ρ : Rho) (i : Nat) : Option W := match ρ[i]? with
  | some (.own w) => some w
  | _ => none
def outsOf : List Nat → Rho → Option (List W)
  | [], _ => some []
  | i :: is, ρ => match ownAt ρ i, outsOf is ρ with
    | some w, some ws => some (w :: ws)
    | _, _ => none
def finF (J : List Nat) (r : R Fl) : FR := match r with
  | .ok .nx ρ => (match outsOf J ρ with
    | some outs => .ok false .non outs
    | none => .stk)
  | .ok (.rt m w) ρ => (match m, outsOf J ρ with
    | .val, some outs => .ok false w outs
    | .fre, some outs => .ok true w outs
    | _, _ => .stk)
  | .exc c ns ws ρ => (match outsOf J ρ with
    | some outs => .exc c ns ws outs
    | none => .stk)
  | _ => .stk
def mFun (J : List Nat) (n : Nat) (g : Rho → R Fl) : List W → FR := fun args => finF J (g (rho0 J args n))
theorem ownAt_get {ρ : Rho} {i : Nat} {w : W} (h : ownAt ρ i = some w) : ρ[i]? = some (.own w) := by
  unfold ownAt at h
  split at h
  · cases h; assumption
  · cases h
theorem outs_ok {K : PySem.W.Frag} {B : Bd} {F : Fz} {H : Hp} {σ : L2.St} {ρ : Rho} (S : SR K B F H σ ρ) : ∀ {l : List (Nat × Addr)} {outs : List W}, (∀ p ∈ l, p ∈ B.I) → outsOf (l.map (·.1)) ρ = some outs → OutsOk K F H l outs
  | [], outs, _, e => by
    cases e
    exact ⟨rfl, fun n p w e => by simp at e⟩
  | p :: l, outs, hm, e => by
    have e1 : (match ownAt ρ p.1, outsOf (l.map (·.1)) ρ with
      | some w, some ws => some (w :: ws)
      | _, _ => none) = some outs := e
    split at e1
    · rename_i w ws ew ews
      cases e1
      obtain ⟨h1, h2⟩ := outs_ok S (fun q hq => hm q (List.mem_cons_of_mem _ hq)) ews
      refine ⟨by rw [List.length_cons, List.length_cons, h1], fun n q u eq eu => ?_⟩
      cases n with
      | zero =>
        cases eq
        cases eu
        have g := ownAt_get ew
        obtain ⟨a, ea, o, nf, _⟩ := S.slot _ _ g
        obtain ⟨la, _⟩ := S.lent p (hm p List.mem_cons_self)
        rw [la] at ea
        cases ea
        exact ⟨o, nf⟩
      | succ n => exact h2 n q u eq eu
    · cases e1
theorem fin_of {K : PySem.W.Frag} {ct : Str → Addr} {J : List Nat} {F : Fz} {H : Hp} {vs : List V} {Q : VK} {E : XK} {r : R Fl} {Y : Yx J} (hY : Y.B = { H0 := H, F0 := F, I := lentA J vs }) (hct : Y.ct = ct) (hwx : Y.wx = fun cls d _ H => E cls d H) (hJ : (lentA J vs).map (·.1) = J)
    (h : match finF J r with
      | .ok fr w outs => ∀ F' H' v, Ext ((lentA J vs).map (·.2)) F H F' H' → OutsOk K F' H' (lentA J vs) outs → NewR K H F' H' (if fr then .fre else .val) w v → Q v H'
      | .exc c ns ws outs => ∀ F' H' d, Ext ((lentA J vs).map (·.2)) F H F' H' → OutsOk K F' H' (lentA J vs) outs → ExF K F' H' ns ws d → E (.ref (ct c)) d H'
      | .stk => False) : RunS K Y F H r { nx := fun _ H' => Q .non H', rt := Q } := by
  have ext : ∀ {F' H' σ' ρ'}, SR K Y.B F' H' σ' ρ' → Ext ((lentA J vs).map (·.2)) F H F' H' := fun {F' H' σ' ρ'} S => by
    rw [hY] at S
    exact ⟨fun a o n e => S.ext a o ⟨by show H a ≠ none; rw [e]; exact (fun z => nomatch z), fun p hp z => n (List.mem_map.mpr ⟨p, hp, z⟩)⟩ e, S.f0, S.f1, S.f2⟩
  have out : ∀ {F' H' σ' ρ' outs}, SR K Y.B F' H' σ' ρ' → outsOf J ρ' = some outs → OutsOk K F' H' (lentA J vs) outs := fun {F' H' σ' ρ' outs} S e => by
    rw [← hJ] at e
    exact outs_ok S (fun p hp => by rw [hY]; exact hp) e
  cases r with
  | stk => exact h
  | exc c ns ws ρ =>
    unfold finF at h
    intro F' H' σ' d S x
    rw [hwx, hct]
    dsimp only at h
    cases e : outsOf J ρ with
    | none => rw [e] at h; exact h.elim
    | some outs => rw [e] at h; exact h F' H' d (ext S) (out S e) x
  | ok fl ρ =>
    unfold finF at h
    cases fl with
    | nx =>
      intro F' H' σ' S k
      dsimp only at h
      cases e : outsOf J ρ with
      | none => rw [e] at h; exact h.elim
      | some outs => rw [e] at h; exact h F' H' .non (ext S) (out S e) rfl
    | bk => exact h.elim
    | ct => exact h.elim
    | rt m w =>
      intro F' H' σ' v S hv
      dsimp only at h
      cases e : outsOf J ρ with
      | none => rw [e] at h; cases m <;> exact h.elim
      | some outs =>
        rw [e] at h
        cases m with
        | bor i => exact h.elim
        | val => exact h F' H' v (ext S) (out S e) hv
        | fre =>
          refine h F' H' v (ext S) (out S e) ?_
          obtain ⟨a, ea, o, nf, h0, _⟩ := hv
          rw [hY] at h0
          exact ⟨a, ea, o, nf, h0⟩
/-- THE RULE: a def's mirror by its body's -/
theorem fn_ok {P : Program} {w : World} {K : PySem.W.Frag} {mg : Str → Option Value} {base : Heap} {x qual : Str} {params : Arguments} {body : List Stmt} {scope : Scope} {dvs : List V} {kws : List (Str × V)} {f : Addr} {fd : FuncData} {N ps : List Str} {k : Nat} {ct : Str → Addr} {J : List Nat} {g : Rho → R Fl} {fm : List W → FR}
    (F : FunD K x qual params body scope dvs kws f fd) (S : FnScope N ps scope) (hn : ps.length ≤ N.length) (hg : ∀ args, args.length = ps.length → finF J (g (rho0 J args N.length)) = fm args)
    (hb : ∀ (cdv : Value) (A : Around) (outer : List Env) (s : Shared) (H : Hp) (E : XK) (Y : Yx J), Room k (A.deeper (envOfC qual scope s.heap.objs.size f cdv)) → Y.ct = ct → Takes (cxOf (L2.CX P w) P w K mg base N qual scope f cdv A outer s H E) Y.wx →
      PSMs (cxOf (L2.CX P w) P w K mg base N qual scope f cdv A outer s H E) Y body g) : FnOk P w K mg base (L2.CX P w) (k + 1) f fd ps (spM K ct J ps.length fm) := by
  refine F.ok S (fun vs H Q E ⟨_, _, h, _⟩ => h) fun cdv A outer s H vs Q E hr ⟨F0, args, hl, t, ha, ⟨hJ, hs⟩, hq⟩ => ?_
  refine ⟨_, hb cdv A outer s H E ⟨ct, { H0 := H, F0 := F0, I := lentA J vs }, fun cls d _ H => E cls d H, hJ⟩ hr rfl (takes_of rfl rfl rfl rfl), F0, rho0 J args N.length, sr_start t ha hJ hs (by rw [hl]; exact hn), ?_⟩
  refine fin_of (vs := vs) rfl rfl rfl hJ ?_
  rw [hg args (by rw [ha.len, hl])]
  exact hq
end ML

set_option maxHeartbeats 4000000
namespace ML
open PySem PySem.Spec PyProof.Rows L2
variable {I : List Nat}
/-! ### a call of a def by its mirror -/
/-- the arguments: values, but the slots of the lent lists -/
def callA (I J : List Nat) : Nat → List (Md × W) → Rho → R (List (W ⊕ Nat))
  | _, [], ρ => .ok [] ρ
  | k, b :: bs, ρ => if k ∈ J then (match b.1 with
      | .bor i => (callA I J (k + 1) bs ρ).bind fun xs ρ1 => .ok (.inr i :: xs) ρ1
      | _ => .stk)
    else (toVal I b ρ).bind fun w ρ1 => (callA I J (k + 1) bs ρ1).bind fun xs ρ2 => .ok (.inl w :: xs) ρ2
def slotsX : List (W ⊕ Nat) → List Nat
  | [] => []
  | .inl _ :: xs => slotsX xs
  | .inr i :: xs => i :: slotsX xs
def posX : Nat → List (W ⊕ Nat) → List Nat
  | _, [] => []
  | k, .inl _ :: xs => posX (k + 1) xs
  | k, .inr _ :: xs => k :: posX (k + 1) xs
def resX (ρ : Rho) : List (W ⊕ Nat) → Option (List W)
  | [] => some []
  | .inl w :: xs => (resX ρ xs).map (w :: ·)
  | .inr i :: xs => match ownAt ρ i, resX ρ xs with
    | some w, some ws => some (w :: ws)
    | _, _ => none
def putOuts : List Nat → List W → Rho → Rho
  | i :: is, w :: ws, ρ => putOuts is ws (ρ.set i (.own w))
  | _, _, ρ => ρ
def mCall (I J : List Nat) (fm : List W → FR) (fs : List (Rho → R (Md × W))) : Rho → R (Md × W) := fun ρ => (mHold fs ρ).bind fun bs ρ1 => (callA I J 0 bs ρ1).bind fun xs ρ2 =>
  if (slotsX xs).Nodup ∧ posX 0 xs = J then (match resX ρ2 xs with
    | some args => (match fm args with
      | .ok fr w outs => .ok (if fr then .fre else .val, w) (putOuts (slotsX xs) outs ρ2)
      | .exc c ns ws outs => .exc c ns ws (putOuts (slotsX xs) outs ρ2)
      | .stk => .stk)
    | none => .stk)
  else .stk
def XRel (K : PySem.W.Frag) (F : Fz) (H : Hp) (σ : L2.St) : List (W ⊕ Nat) → List V → Prop
  | [], vs => vs = []
  | .inl w :: xs, vs => ∃ v r, vs = v :: r ∧ Rep K F H w v ∧ XRel K F H σ xs r
  | .inr i :: xs, vs => ∃ v r, vs = v :: r ∧ σ[i]? = some (some v) ∧ XRel K F H σ xs r
theorem XRel.mono {K : PySem.W.Frag} {F F' : Fz} {H H' : Hp} {σ : L2.St} (k : Keeps F H F' H') : ∀ {xs : List (W ⊕ Nat)} {vs : List V}, XRel K F H σ xs vs → XRel K F' H' σ xs vs
  | [], _, h => h
  | .inl w :: xs, _, ⟨v, r, e, h1, h2⟩ => ⟨v, r, e, h1.mono k, XRel.mono k h2⟩
  | .inr i :: xs, _, ⟨v, r, e, h1, h2⟩ => ⟨v, r, e, h1, XRel.mono k h2⟩
theorem callA_ok {K : PySem.W.Frag} {Y : Yx I} {J : List Nat} {H : Hp} {σ : L2.St} : ∀ {bs : List (Md × W)} {k : Nat} {vs : List V} {F : Fz} {ρ : Rho} {P : List (W ⊕ Nat) → Rho → Fz → Hp → Prop}, SR K Y.B F H σ ρ → HeldL σ K F H bs vs → RunG K Y F H σ (callA I J k bs ρ) P →
    ∃ F' xs ρ', SR K Y.B F' H σ ρ' ∧ Keeps F H F' H ∧ XRel K F' H σ xs vs ∧ P xs ρ' F' H
  | [], k, _, F, ρ, _, S, h, q => ⟨F, [], ρ, S, .refl, h, q F H S .refl⟩
  | b :: bs, k, _, F, ρ, P, S, ⟨v, r, e0, h1, h2⟩, q => by
    unfold callA at q
    split at q
    · obtain ⟨m, w⟩ := b
      cases m with
      | val => exact q.elim
      | fre => exact q.elim
      | bor i =>
        obtain ⟨F2, xs, ρ2, S2, k2, r2, q2⟩ := callA_ok S h2 (RunG.bind q)
        exact ⟨F2, .inr i :: xs, ρ2, S2, k2, ⟨v, r, e0, h1, r2⟩, q2 F2 H S2 .refl⟩
    · obtain ⟨F1, w, ρ1, S1, k1, r1, q1⟩ := S.toValH h1 .refl (RunG.bind q)
      obtain ⟨F2, xs, ρ2, S2, k2, r2, q2⟩ := callA_ok S1 (h2.mono k1) (RunG.bind q1)
      exact ⟨F2, .inl w :: xs, ρ2, S2, k1.trans k2, ⟨v, r, e0, r1.mono k2, r2⟩, q2 F2 H S2 .refl⟩
/-- what is lent: position, slot, address -/
def lentX : Nat → List (W ⊕ Nat) → List V → List (Nat × Nat × Addr)
  | k, .inl _ :: xs, _ :: vs => lentX (k + 1) xs vs
  | k, .inr i :: xs, .ref a :: vs => (k, i, a) :: lentX (k + 1) xs vs
  | k, .inr _ :: xs, _ :: vs => lentX (k + 1) xs vs
  | _, _, _ => []
section
variable {K : PySem.W.Frag} {Y : Yx I} {B : Bd} {F F' : Fz} {H H' : Hp} {σ : L2.St} {ρ : Rho} {J : List Nat}
theorem x_args (S : SR K B F H σ ρ) : ∀ {xs : List (W ⊕ Nat)} {k : Nat} {vs : List V} {args : List W}, XRel K F H σ xs vs → resX ρ xs = some args → (∀ j, j ∈ J → k ≤ j → j ∈ posX k xs) → (∀ j, j ∈ posX k xs → j ∈ J) → ArgsOk K F H J k args vs
  | [], k, _, _, h, e, _, _ => by cases e; exact h
  | .inl w :: xs, k, _, args, ⟨v, r, e0, h1, h2⟩, e, hj, hj2 => by
    obtain ⟨ws, ews, rfl⟩ := Option.map_eq_some_iff.mp (show (resX ρ xs).map _ = some args from e)
    have lt : ∀ {xs : List (W ⊕ Nat)} {k j : Nat}, j ∈ posX k xs → k ≤ j := fun {xs} => by
      induction xs with
      | nil => intro k j h; cases h
      | cons x xs ih =>
        intro k j h
        cases x with
        | inl w => exact Nat.le_of_succ_le (ih (k := k + 1) h)
        | inr i =>
          cases h with
          | head => exact Nat.le_refl _
          | tail _ h => exact Nat.le_of_succ_le (ih (k := k + 1) h)
    have nk : k ∉ J := fun hk => absurd (lt (k := k + 1) (show k ∈ posX (k + 1) xs from hj k hk (Nat.le_refl _))) (by omega)
    exact ⟨v, r, e0, by rw [if_neg nk]; exact h1, x_args S h2 ews (fun j hjj l => hj j hjj (by omega)) hj2⟩
  | .inr i :: xs, k, _, args, ⟨v, r, e0, h1, h2⟩, e, hj, hj2 => by
    have e1 : (match ownAt ρ i, resX ρ xs with
      | some w, some ws => some (w :: ws)
      | _, _ => none) = some args := e
    split at e1
    · rename_i w ws ew ews
      cases e1
      obtain ⟨a, ea, o, nf, _⟩ := S.slot _ _ (ownAt_get ew)
      rw [h1] at ea
      cases ea
      refine ⟨_, r, e0, ?_, x_args S h2 ews (fun j hjj l => ?_) fun j h => hj2 j (List.mem_cons_of_mem _ h)⟩
      · rw [if_pos (hj2 k List.mem_cons_self)]
        exact ⟨a, rfl, o, nf⟩
      · have := hj j hjj (by omega)
        cases this with
        | head => omega
        | tail _ h => exact h
    · cases e1
/-- all that the lent ones are -/
theorem x_lent (S : SR K B F H σ ρ) : ∀ {xs : List (W ⊕ Nat)} {k : Nat} {vs : List V} {args : List W}, XRel K F H σ xs vs → resX ρ xs = some args →
    (lentX k xs vs).map (·.1) = posX k xs ∧ (lentX k xs vs).map (·.2.1) = slotsX xs ∧ ∀ (t : Nat × Nat × Addr), t ∈ lentX k xs vs → k ≤ t.1 ∧ vs[t.1 - k]? = some (.ref t.2.2) ∧ σ[t.2.1]? = some (some (.ref t.2.2)) ∧ ∃ w, ρ[t.2.1]? = some (.own w)
  | [], k, vs, _, h, _ => by
    have e : vs = [] := h
    subst e
    exact ⟨rfl, rfl, fun t ht => by cases ht⟩
  | .inl w :: xs, k, _, args, ⟨v, r, e0, h1, h2⟩, e => by
    subst e0
    obtain ⟨ws, ews, rfl⟩ := Option.map_eq_some_iff.mp (show (resX ρ xs).map _ = some args from e)
    obtain ⟨g1, g2, g3⟩ := x_lent S (k := k + 1) h2 ews
    refine ⟨g1, g2, fun t ht => ?_⟩
    obtain ⟨l, e1, e2⟩ := g3 t ht
    refine ⟨by omega, ?_, e2⟩
    rw [show t.1 - k = (t.1 - (k + 1)) + 1 by omega, List.getElem?_cons_succ]
    exact e1
  | .inr i :: xs, k, _, args, ⟨v, r, e0, h1, h2⟩, e => by
    subst e0
    have e1 : (match ownAt ρ i, resX ρ xs with
      | some w, some ws => some (w :: ws)
      | _, _ => none) = some args := e
    split at e1
    · rename_i w ws ew ews
      cases e1
      obtain ⟨a, ea, o, nf, _⟩ := S.slot _ _ (ownAt_get ew)
      rw [h1] at ea
      cases ea
      obtain ⟨g1, g2, g3⟩ := x_lent S (k := k + 1) h2 ews
      refine ⟨by show k :: _ = k :: _; rw [g1], by show i :: _ = i :: _; rw [g2], fun t ht => ?_⟩
      cases ht with
      | head => exact ⟨Nat.le_refl _, by rw [Nat.sub_self]; rfl, h1, w, ownAt_get ew⟩
      | tail _ ht =>
        obtain ⟨l, e1, e2⟩ := g3 t ht
        refine ⟨by omega, ?_, e2⟩
        rw [show t.1 - k = (t.1 - (k + 1)) + 1 by omega, List.getElem?_cons_succ]
        exact e1
    · cases e1
theorem lentA_eq : ∀ {l : List (Nat × Nat × Addr)} {vs : List V}, (∀ (t : Nat × Nat × Addr), t ∈ l → vs[t.1]? = some (V.ref t.2.2)) → lentA (l.map (·.1)) vs = l.map fun t => (t.1, t.2.2)
  | [], _, _ => rfl
  | t :: l, vs, h => by
    have e := h t List.mem_cons_self
    have ih := lentA_eq (l := l) (vs := vs) fun u hu => h u (List.mem_cons_of_mem _ hu)
    unfold lentA at ih ⊢
    rw [List.map_cons, List.filterMap_cons, e, List.map_cons, ih]
/-- the slots behind the call -/
theorem putOuts_get : ∀ {is : List Nat} {ws : List W} {ρ : Rho}, is.Nodup → ws.length = is.length → (∀ i ∈ is, i < ρ.length) → (putOuts is ws ρ).length = ρ.length ∧ ∀ (j : Nat), (∃ (n : Nat) (w : W), is[n]? = some j ∧ ws[n]? = some w ∧ (putOuts is ws ρ)[j]? = some (.own w)) ∨ (j ∉ is ∧ (putOuts is ws ρ)[j]? = ρ[j]?)
  | [], [], ρ, _, _, _ => ⟨rfl, fun j => .inr ⟨by simp, rfl⟩⟩
  | i :: is, w :: ws, ρ, nd, hl, hlt => by
    rw [List.nodup_cons] at nd
    obtain ⟨h1, h2⟩ := putOuts_get (is := is) (ws := ws) (ρ := ρ.set i (.own w)) nd.2 (by simpa using hl) fun j hj => by rw [List.length_set]; exact hlt j (List.mem_cons_of_mem _ hj)
    refine ⟨by show (putOuts is ws (ρ.set i (.own w))).length = _; rw [h1, List.length_set], fun j => ?_⟩
    show (∃ (n : Nat) (u : W), (i :: is)[n]? = some j ∧ (w :: ws)[n]? = some u ∧ (putOuts is ws (ρ.set i (.own w)))[j]? = some (.own u)) ∨ (j ∉ i :: is ∧ (putOuts is ws (ρ.set i (.own w)))[j]? = ρ[j]?)
    rcases h2 j with ⟨n, u, e1, e2, e3⟩ | ⟨nj, e⟩
    · exact .inl ⟨n + 1, u, e1, e2, e3⟩
    · by_cases ej : j = i
      · subst ej
        refine .inl ⟨0, w, rfl, rfl, ?_⟩
        rw [e, set_eq (hlt j List.mem_cons_self)]
      · refine .inr ⟨fun z => ?_, by rw [e, set_ne ej]⟩
        cases z with
        | head => exact ej rfl
        | tail _ z => exact nj z
theorem nodup_get {α : Type} : ∀ {l : List α} {i j : Nat} {x : α}, l.Nodup → l[i]? = some x → l[j]? = some x → i = j
  | [], _, _, _, _, e, _ => by simp at e
  | a :: l, 0, 0, _, _, _, _ => rfl
  | a :: l, 0, j + 1, x, nd, e1, e2 => by
    have e : a = x := Option.some.inj e1
    subst e
    exact absurd (List.mem_of_getElem? (l := l) e2) (List.nodup_cons.mp nd).1
  | a :: l, i + 1, 0, x, nd, e1, e2 => by
    have e : a = x := Option.some.inj e2
    subst e
    exact absurd (List.mem_of_getElem? (l := l) e1) (List.nodup_cons.mp nd).1
  | a :: l, i + 1, j + 1, x, nd, e1, e2 => by rw [nodup_get (l := l) (List.nodup_cons.mp nd).2 e1 e2]
/-- the frame behind the call -/
theorem sr_called (S : SR K B F H σ ρ) {l : List (Nat × Nat × Addr)} {outs : List W} (hl : ∀ (t : Nat × Nat × Addr), t ∈ l → σ[t.2.1]? = some (some (.ref t.2.2)) ∧ ∃ w, ρ[t.2.1]? = some (.own w)) (nd : (l.map (·.2.1)).Nodup)
    (e : Ext (l.map (·.2.2)) F H F' H') (o : OutsOk K F' H' (l.map fun t => (t.1, t.2.2)) outs) : SR K B F' H' σ (putOuts (l.map (·.2.1)) outs ρ) ∧ Keeps F H F' H' := by
  have lent : ∀ (t : Nat × Nat × Addr), t ∈ l → ¬ F t.2.2 ∧ ¬ B.kept t.2.2 ∧ ∃ u, H t.2.2 = some u ∧ Mut (some u) := fun t ht => by
    obtain ⟨h1, w, h2⟩ := hl t ht
    obtain ⟨a, ea, ow, nf, nk⟩ := S.slot _ _ h2
    rw [h1] at ea
    cases ea
    exact ⟨nf, nk, ow.some⟩
  have k : Keeps F H F' H' := ⟨e.f, fun a u hu c => e.h a u (fun z => by
    obtain ⟨t, ht, et⟩ := List.mem_map.mp z
    obtain ⟨nf, _, x, hx, mx⟩ := lent t ht
    rw [et] at nf hx
    rcases c with c | c
    · exact nf c
    · rw [hu] at hx; cases hx; exact c mx) hu⟩
  have hlen : outs.length = (l.map (·.2.1)).length := by rw [o.1, List.length_map, List.length_map]
  obtain ⟨p1, p2⟩ := putOuts_get (ρ := ρ) nd hlen fun i hi => by
    obtain ⟨t, ht, et⟩ := List.mem_map.mp hi
    obtain ⟨_, w, h2⟩ := hl t ht
    rw [← et]
    exact (List.getElem?_eq_some_iff.mp h2).1
  have own : ∀ {j : Nat} {w : W}, (putOuts (l.map (·.2.1)) outs ρ)[j]? = some (.own w) → ∃ w0, ρ[j]? = some (.own w0) := fun {j w} h => by
    rcases p2 j with ⟨n, u, e1, _, _⟩ | ⟨_, e1⟩
    · rw [List.getElem?_map] at e1
      obtain ⟨t, et, e1⟩ := Option.map_eq_some_iff.mp e1
      obtain ⟨_, w0, h2⟩ := hl t (List.mem_of_getElem? et)
      rw [e1] at h2
      exact ⟨w0, h2⟩
    · rw [e1] at h
      exact ⟨w, h⟩
  refine ⟨⟨by rw [p1]; exact S.len, fun j s h => ?_, fun i j w w' a h1 h2 e1 e2 => ?_, fun p hp => ?_, fun a u ka h => ?_, fun a h z => ?_, fun a h => e.f a (S.f0 a h), fun a h => ?_, e.t⟩, k⟩
  · rcases p2 j with ⟨n, u, e1, e2, e3⟩ | ⟨nj, e1⟩
    · rw [e3] at h
      cases h
      rw [List.getElem?_map] at e1
      obtain ⟨t, et, e1⟩ := Option.map_eq_some_iff.mp e1
      obtain ⟨h1, _⟩ := hl t (List.mem_of_getElem? et)
      obtain ⟨_, nk, _⟩ := lent t (List.mem_of_getElem? et)
      obtain ⟨ow, nf⟩ := o.2 n (t.1, t.2.2) u (by rw [List.getElem?_map, et]; rfl) e2
      rw [← e1]
      exact ⟨t.2.2, h1, ow, nf, nk⟩
    · rw [e1] at h
      have q := S.slot j s h
      cases s with
      | no => trivial
      | exn => exact q
      | val w => obtain ⟨v, ev, r⟩ := q; exact ⟨v, ev, r.mono k⟩
      | own w =>
        obtain ⟨a, ea, ow, nf, nk⟩ := q
        have na : a ∉ l.map (·.2.2) := fun z => by
          obtain ⟨t, ht, et⟩ := List.mem_map.mp z
          obtain ⟨h1, w0, h2⟩ := hl t ht
          rw [et] at h1
          exact nj (List.mem_map.mpr ⟨t, ht, S.sep _ _ _ _ a h2 h h1 ea⟩)
        obtain ⟨u, hu, _⟩ := ow.some
        refine ⟨a, ea, ?_, fun f => ?_, nk⟩
        · cases w with
          | lst m => obtain ⟨vs, h1, h2⟩ := ow; exact ⟨vs, e.h a _ na h1, h2.mono k⟩
          | dK ks m => obtain ⟨vs, h1, n, h2⟩ := ow; exact ⟨vs, e.h a _ na h1, n, h2.mono k⟩
          | obj c ns m => obtain ⟨dx, vs, h1, n, h2⟩ := ow; exact ⟨dx, vs, e.h a _ na h1, n, h2.mono k⟩
          | _ => exact ow
        · rcases e.g a f with f | f
          · exact nf f
          · rw [hu] at f; cases f
  · obtain ⟨w0, g1⟩ := own h1
    obtain ⟨w1, g2⟩ := own h2
    exact S.sep i j w0 w1 a g1 g2 e1 e2
  · obtain ⟨h1, w, h2⟩ := S.lent p hp
    refine ⟨h1, ?_⟩
    rcases p2 p.1 with ⟨n, u, _, _, e3⟩ | ⟨_, e1⟩
    · exact ⟨u, e3⟩
    · exact ⟨w, by rw [e1]; exact h2⟩
  · refine e.h a u (fun z => ?_) (S.ext a u ka h)
    obtain ⟨t, ht, et⟩ := List.mem_map.mp z
    exact (lent t ht).2.1 (by rw [et]; exact ka)
  · by_cases z2 : a ∈ l.map (·.2.2)
    · obtain ⟨t, ht, et⟩ := List.mem_map.mp z2
      obtain ⟨n, en⟩ := List.mem_iff_getElem?.mp ht
      have lt : n < outs.length := by rw [o.1, List.length_map]; exact (List.getElem?_eq_some_iff.mp en).1
      obtain ⟨ow, _⟩ := o.2 n (t.1, t.2.2) _ (by rw [List.getElem?_map, en]; rfl) (List.getElem?_eq_getElem lt)
      obtain ⟨u, hu, _⟩ := ow.some
      rw [et, z] at hu
      cases hu
    · have h2 := S.alive a h
      cases q : H a with
      | none => exact h2 q
      | some u => rw [e.h a u z2 q] at z; cases z
  · rcases e.g a h with q | q
    · exact S.f1 a q
    · right
      cases q2 : B.H0 a with
      | none => rfl
      | some u => exact absurd q (S.alive a (by rw [q2]; exact (fun z => nomatch z)))
end
theorem RunG.withP {β : Type} {K : PySem.W.Frag} {Y : Yx I} {F : Fz} {H : Hp} {σ : L2.St} {r : R β} {P : β → Rho → Fz → Hp → Prop} {p : β → Prop} (hp : ∀ b ρ', r = .ok b ρ' → p b) (h : RunG K Y F H σ r P) : RunG K Y F H σ r fun b ρ' F' H' => p b ∧ P b ρ' F' H' := by
  cases r with
  | ok b ρ' => exact fun F' H' S k => ⟨hp b ρ' rfl, h F' H' S k⟩
  | exc c ns ws ρ' => exact h
  | stk => exact h
theorem call_of {K : PySem.W.Frag} {Y : Yx I} {J : List Nat} {np : Nat} {fm : List W → FR} {fs : List (Rho → R (Md × W))} {σ : L2.St} {H : Hp} {Q : VK} (hnp : fs.length = np) (hq : tM K Y (mCall I J fm fs) σ H Q) :
    tMA K Y fs σ H fun vs H1 => spM K Y.ct J np fm vs H1 Q (WE Y.wx σ) := by
  obtain ⟨F, ρ, S, q⟩ := hq
  have bl : ∀ {fs : List (Rho → R (Md × W))} {ρ ρ' : Rho} {bs : List (Md × W)}, mHold fs ρ = .ok bs ρ' → bs.length = fs.length := fun {fs} => by
    induction fs with
    | nil => intro ρ ρ' bs e; cases e; rfl
    | cons f fs ih =>
      intro ρ ρ' bs e
      have e1 : (f ρ).bind (fun b ρ1 => (mHold fs ρ1).bind fun bs ρ2 => .ok (b :: bs) ρ2) = .ok bs ρ' := e
      cases q1 : f ρ with
      | ok b ρ1 =>
        rw [q1] at e1
        have e2 : (mHold fs ρ1).bind (fun bs ρ2 => R.ok (b :: bs) ρ2) = .ok bs ρ' := e1
        cases q2 : mHold fs ρ1 with
        | ok bs1 ρ2 =>
          rw [q2] at e2
          cases e2
          rw [List.length_cons, List.length_cons, ih q2]
        | exc c ns ws ρ2 => rw [q2] at e2; cases e2
        | stk => rw [q2] at e2; cases e2
      | exc c ns ws ρ1 => rw [q1] at e1; cases e1
      | stk => rw [q1] at e1; cases e1
  have hb := RunG.bind q
  have hb2 := RunG.withP (p := fun bs => bs.length = np) (fun bs ρ1 e => by rw [bl e, hnp]) hb
  refine ⟨F, ρ, S, hb2.imp fun bs ρ1 F1 H1 S1 k1 ⟨hlen, q1⟩ F2 vs S2 k2 hvs => ?_⟩
  obtain ⟨F3, xs, ρ3, S3, k3, xr, q3⟩ := callA_ok S2 hvs (RunG.bind (q1.rebase k2))
  have vl : vs.length = bs.length := by
    have : ∀ {bs : List (Md × W)} {vs : List V}, HeldL σ K F2 H1 bs vs → vs.length = bs.length := fun {bs} => by
      induction bs with
      | nil => intro vs h; have e : vs = [] := h; rw [e]; rfl
      | cons b bs ih =>
        rintro vs ⟨v, r, e, _, h⟩
        rw [e, List.length_cons, List.length_cons, ih h]
    exact this hvs
  split at q3
  · rename_i hc
    cases er : resX ρ3 xs with
    | none => rw [er] at q3; exact q3.elim
    | some args =>
      rw [er] at q3
      dsimp only at q3
      obtain ⟨g1, g2, g3⟩ := x_lent S3 (k := 0) xr er
      have el : lentA J vs = (lentX 0 xs vs).map fun t => (t.1, t.2.2) := by
        rw [← hc.2, ← g1]
        exact lentA_eq fun t ht => by have := (g3 t ht).2.1; rwa [Nat.sub_zero] at this
      have hl : ∀ (t : Nat × Nat × Addr), t ∈ lentX 0 xs vs → σ[t.2.1]? = some (some (.ref t.2.2)) ∧ ∃ w, ρ3[t.2.1]? = some (.own w) := fun t ht => (g3 t ht).2.2
      have nd : ((lentX 0 xs vs).map (·.2.1)).Nodup := by rw [g2]; exact hc.1
      refine ⟨F3, args, by rw [vl, hlen], S3.f2, x_args S3 xr er (fun j hj _ => by rw [hc.2]; exact hj) (fun j hj => by rw [hc.2] at hj; exact hj), ⟨?_, ?_⟩, ?_⟩
      · rw [el, List.map_map]
        show (lentX 0 xs vs).map (·.1) = J
        rw [g1, hc.2]
      · rw [el]
        intro p hp q hq epq
        obtain ⟨t, ht, et⟩ := List.mem_map.mp hp
        obtain ⟨u, hu, eu⟩ := List.mem_map.mp hq
        subst et
        subst eu
        obtain ⟨h1, w1, h2⟩ := hl t ht
        obtain ⟨h3, w2, h4⟩ := hl u hu
        have e1 : t.2.2 = u.2.2 := epq
        rw [← e1] at h3
        have es := S3.sep _ _ _ _ _ h2 h4 h1 h3
        obtain ⟨n, en⟩ := List.mem_iff_getElem?.mp ht
        obtain ⟨m, em⟩ := List.mem_iff_getElem?.mp hu
        have nm := nodup_get nd (i := n) (j := m) (x := t.2.1) (by rw [List.getElem?_map, en]; rfl) (by rw [List.getElem?_map, em, es]; rfl)
        subst nm
        rw [en] at em
        cases em
        rfl
      · have eA : (lentA J vs).map (·.2) = (lentX 0 xs vs).map (·.2.2) := by
          rw [el, List.map_map]
          rfl
        rw [eA, el]
        cases ef : fm args with
        | stk => rw [ef] at q3; exact q3.elim
        | exc c ns ws outs =>
          rw [ef] at q3
          intro F' H' d ee oo x
          obtain ⟨S4, k4⟩ := sr_called S3 hl nd ee oo
          rw [g2] at S4
          exact q3 F' H' d S4 x
        | ok fr w outs =>
          rw [ef] at q3
          intro F' H' v ee oo hv
          obtain ⟨S4, k4⟩ := sr_called S3 hl nd ee oo
          rw [g2] at S4
          refine q3 F' H' S4 k4 v ?_
          cases fr with
          | false => exact hv
          | true =>
            obtain ⟨a, ea, o, nf, h0⟩ := hv
            refine ⟨a, ea, o, nf, ?_, fun i w' hi ei => ?_⟩
            · cases q5 : Y.B.H0 a with
              | none => rfl
              | some u => exact absurd h0 (S3.alive a (by rw [q5]; exact (fun z => nomatch z)))
            · have q6 : ∃ w0, ρ3[i]? = some (.own w0) := by
                have hlen2 : outs.length = (slotsX xs).length := by rw [oo.1, ← g2, List.length_map, List.length_map]
                obtain ⟨_, p2⟩ := putOuts_get (ρ := ρ3) hc.1 hlen2 fun i hi => by
                  rw [← g2] at hi
                  obtain ⟨t, ht, et⟩ := List.mem_map.mp hi
                  obtain ⟨_, w, h2⟩ := hl t ht
                  rw [← et]
                  exact (List.getElem?_eq_some_iff.mp h2).1
                rcases p2 i with ⟨n, u, e1, _, _⟩ | ⟨_, e1⟩
                · rw [← g2, List.getElem?_map] at e1
                  obtain ⟨t, et, e1⟩ := Option.map_eq_some_iff.mp e1
                  obtain ⟨_, w0, h2⟩ := hl t (List.mem_of_getElem? et)
                  rw [e1] at h2
                  exact ⟨w0, h2⟩
                · rw [e1] at hi
                  exact ⟨w', hi⟩
              obtain ⟨w0, h6⟩ := q6
              obtain ⟨b, eb, ob, _⟩ := S3.slot i _ h6
              rw [ei] at eb
              cases eb
              obtain ⟨u, hu, _⟩ := ob.some
              rw [h0] at hu
              cases hu
  · exact q3.elim
section
variable {X : Cx} {Y : Yx I} {J : List Nat} {k : Nat} {f : Addr} {fd : FuncData} {ps : List Str} {np : Nat} {fm : List W → FR} {x : Str} {p pos : Pos} {e : Expr} {es : List Expr} {fs : List (Rho → R (Md × W))}
theorem pem_call (F : FnOk X.prog X.w X.K X.mg X.base (L2.CX X.prog X.w) k f fd ps (spM X.K Y.ct J np fm)) (hr : Room k X.A) (tk : Takes X Y.wx) (hg : Gl X x) (hm : X.mg x = some (.ref f)) (hk : PySem.W.keepIn X.K (.ref f) = true) (hb : Binds X.K fd ps [])
    (ha : PAM X Y (e :: es) fs) (hn : fs.length = np) (hdb : (x == ("__debug__" : Str)) = false := by decide) (he : starEach (e :: es) X.env = (false, eval e X.env) :: starEach es X.env := by rfl) (hpl : (backTo pos (starEach es X.env)).any (·.1) = false := by rfl) :
    PEM X Y (.Call (.Name x p) (e :: es) [] pos) (mCall I J fm fs) := pe_weak (pe_callS F hr hg hm hk hb (fun σ => passAt tk σ) ha hdb he hpl) fun _ _ _ hq => call_of hn hq
end
end ML

set_option maxHeartbeats 4000000
namespace ML
open PySem PySem.Spec PyProof.Rows L2
variable {I : List Nat}
/-! ### a list comprehension -/
def wipeR (ρ : Rho) : List Nat → Rho
  | [] => ρ
  | v :: vs => (wipeR ρ vs).set v .no
theorem wipeR_len (ρ : Rho) : ∀ vs, (wipeR ρ vs).length = ρ.length
  | [] => rfl
  | v :: vs => by unfold wipeR; rw [List.length_set, wipeR_len ρ vs]
theorem wipeR_get {ρ : Rho} {i : Nat} {s : Sl} : ∀ {vs : List Nat}, (wipeR ρ vs)[i]? = some s → s = .no ∨ (i ∉ vs ∧ ρ[i]? = some s)
  | [], h => .inr ⟨by simp, h⟩
  | v :: vs, h => by
    unfold wipeR at h
    rcases set_cases h with ⟨_, e, _⟩ | ⟨n, e⟩
    · exact .inl e
    · rcases wipeR_get e with q | ⟨q1, q2⟩
      · exact .inl q
      · exact .inr ⟨fun z => by cases z with
          | head => exact n rfl
          | tail _ z => exact q1 z, q2⟩
theorem wipeR_ne {ρ : Rho} {i : Nat} : ∀ {vs : List Nat}, i ∉ vs → (wipeR ρ vs)[i]? = ρ[i]?
  | [], _ => rfl
  | v :: vs, h => by
    unfold wipeR
    rw [set_ne (fun e => h (by rw [e]; exact List.mem_cons_self)), wipeR_ne fun z => h (List.mem_cons_of_mem _ z)]
theorem wipe_ne {σ : L2.St} {i : Nat} : ∀ {vs : List Nat}, i ∉ vs → (wipe σ vs)[i]? = σ[i]?
  | [], _ => rfl
  | v :: vs, h => by
    unfold wipe
    rw [set_ne (fun e => h (by rw [e]; exact List.mem_cons_self)), wipe_ne fun z => h (List.mem_cons_of_mem _ z)]
section
variable {K : PySem.W.Frag} {B : Bd} {F F' : Fz} {H H' : Hp} {σ : L2.St} {ρ : Rho}
theorem SR.wiped (S : SR K B F H σ ρ) {vs : List Nat} (u : ∀ i ∈ vs, unlent B i) : SR K B F H (wipe σ vs) (wipeR ρ vs) := by
  have get : ∀ {i : Nat} {s : Sl}, (wipeR ρ vs)[i]? = some s → s = .no ∨ (ρ[i]? = some s ∧ (wipe σ vs)[i]? = σ[i]?) := fun {i s} h => by
    rcases wipeR_get h with q | ⟨q1, q2⟩
    · exact .inl q
    · exact .inr ⟨q2, wipe_ne q1⟩
  refine ⟨by rw [wipe_length, wipeR_len]; exact S.len, fun i s h => ?_, fun i j w w' a h1 h2 e1 e2 => ?_, fun p hp => ?_, S.ext, S.alive, S.f0, S.f1, S.f2⟩
  · rcases get h with q | ⟨q1, q2⟩
    · rw [q]; trivial
    · rw [q2]; exact S.slot i s q1
  · rcases get h1 with q | ⟨q1, q2⟩
    · cases q
    · rcases get h2 with q | ⟨q3, q4⟩
      · cases q
      · rw [q2] at e1
        rw [q4] at e2
        exact S.sep i j w w' a q1 q3 e1 e2
  · obtain ⟨h1, w, h2⟩ := S.lent p hp
    have n : p.1 ∉ vs := fun z => u _ z (List.mem_map.mpr ⟨p, hp, rfl⟩)
    exact ⟨by rw [wipe_ne n]; exact h1, w, by rw [wipeR_ne n]; exact h2⟩
theorem SR.unwiped {vs : List Nat} (S : SR K B F H (wipe σ vs) ρ) (u : ∀ i ∈ vs, unlent B i) : SR K B F H σ (wipeR ρ vs) := by
  have get : ∀ {i : Nat} {s : Sl}, (wipeR ρ vs)[i]? = some s → s = .no ∨ (ρ[i]? = some s ∧ (wipe σ vs)[i]? = σ[i]?) := fun {i s} h => by
    rcases wipeR_get h with q | ⟨q1, q2⟩
    · exact .inl q
    · exact .inr ⟨q2, wipe_ne q1⟩
  refine ⟨by rw [wipeR_len, ← S.len, wipe_length], fun i s h => ?_, fun i j w w' a h1 h2 e1 e2 => ?_, fun p hp => ?_, S.ext, S.alive, S.f0, S.f1, S.f2⟩
  · rcases get h with q | ⟨q1, q2⟩
    · rw [q]; trivial
    · rw [← q2]; exact S.slot i s q1
  · rcases get h1 with q | ⟨q1, q2⟩
    · cases q
    · rcases get h2 with q | ⟨q3, q4⟩
      · cases q
      · rw [← q2] at e1
        rw [← q4] at e2
        exact S.sep i j w w' a q1 q3 e1 e2
  · obtain ⟨h1, w, h2⟩ := S.lent p hp
    have n : p.1 ∉ vs := fun z => u _ z (List.mem_map.mpr ⟨p, hp, rfl⟩)
    exact ⟨by rw [← wipe_ne (σ := σ) n]; exact h1, w, by rw [wipeR_ne n]; exact h2⟩
/-- the list at D, that nobody else knows, with what it holds -/
def Bd.wit (B : Bd) (D : Addr) (vs : List V) : Bd := { B with H0 := upd B.H0 D (.lst vs) }
theorem wit_kept {D : Addr} {vs : List V} {a : Addr} (h : a ≠ D) : (B.wit D vs).kept a ↔ B.kept a := by
  unfold Bd.kept Bd.wit
  dsimp only
  rw [upd_ne h]
theorem SR.enter (S : SR K B F H σ ρ) {D : Addr} (n : H D = none) : SR K (B.wit D []) F (upd H D (.lst [])) σ ρ ∧ Keeps F H F (upd H D (.lst [])) := by
  have e : Ext [] F H F (upd H D (.lst [])) := Ext.new n S.f2
  have S' := S.grow e
  have h0 : B.H0 D = none := by
    cases q : B.H0 D with
    | none => rfl
    | some u => exact absurd n (S.alive D (by rw [q]; exact (fun z => nomatch z)))
  refine ⟨⟨S'.len, fun i s h => ?_, S'.sep, S'.lent, fun a o k h => ?_, fun a h => ?_, S'.f0, fun a h => ?_, S'.f2⟩, e.keeps⟩
  · have q := S'.slot i s h
    cases s with
    | no => trivial
    | exn => exact q
    | val w => exact q
    | own w =>
      obtain ⟨a, e1, o, nf, nk⟩ := q
      refine ⟨a, e1, o, nf, fun k => ?_⟩
      have na : a ≠ D := fun z => by
        obtain ⟨b, eb, ob, _⟩ := S.slot i _ h
        rw [e1] at eb
        cases eb
        obtain ⟨u, hu, _⟩ := ob.some
        rw [z, n] at hu
        cases hu
      exact nk ((wit_kept na).mp k)
  · by_cases ea : a = D
    · subst ea
      rw [show (B.wit a []).H0 a = some (.lst []) from upd_same] at h
      cases h
      exact upd_same
    · rw [show (B.wit D []).H0 a = B.H0 a from upd_ne ea] at h
      exact S'.ext a o ((wit_kept ea).mp k) h
  · by_cases ea : a = D
    · rw [ea, upd_same]; exact (fun z => nomatch z)
    · rw [show (B.wit D []).H0 a = B.H0 a from upd_ne ea] at h
      exact S'.alive a h
  · rcases S.f1 a h with q | q
    · exact .inl q
    · by_cases ea : a = D
      · exact absurd n (by rw [← ea]; exact S.f2 a h)
      · exact .inr (by rw [show (B.wit D []).H0 a = B.H0 a from upd_ne ea]; exact q)
theorem SR.wit_at {D : Addr} {vs : List V} (S : SR K (B.wit D vs) F H σ ρ) (nd : ∀ p ∈ B.I, p.2 ≠ D) (nf : ¬ B.F0 D) : H D = some (.lst vs) ∧ ¬ F D ∧ ∀ (i : Nat) (w : W), ρ[i]? = some (.own w) → σ[i]? ≠ some (some (.ref D)) := by
  have kD : (B.wit D vs).kept D := ⟨by rw [show (B.wit D vs).H0 D = some (.lst vs) from upd_same]; exact (fun z => nomatch z), nd⟩
  refine ⟨S.ext D _ kD upd_same, fun f => ?_, fun i w h e => ?_⟩
  · rcases S.f1 D f with q | q
    · exact nf q
    · rw [show (B.wit D vs).H0 D = some (.lst vs) from upd_same] at q; cases q
  · obtain ⟨a, e1, _, _, nk⟩ := S.slot i _ h
    rw [e] at e1
    cases e1
    exact nk kD
theorem SR.witPut {D : Addr} {vs us : List V} (S : SR K (B.wit D vs) F H σ ρ) (nd : ∀ p ∈ B.I, p.2 ≠ D) (nf : ¬ B.F0 D) : SR K (B.wit D us) F (upd H D (.lst us)) σ ρ ∧ Keeps F H F (upd H D (.lst us)) := by
  obtain ⟨hD, fD, sD⟩ := S.wit_at nd nf
  have k : Keeps F H F (upd H D (.lst us)) := ⟨fun _ h => h, fun b x hb c => by
    have nb : b ≠ D := fun z => by
      subst z
      rcases c with c | c
      · exact fD c
      · rw [hD] at hb; cases hb; exact c trivial
    rw [upd_ne nb]
    exact hb⟩
  refine ⟨⟨S.len, fun i s h => ?_, S.sep, S.lent, fun a o ka h => ?_, fun a h => ?_, S.f0, fun a h => ?_, fun a h => ?_⟩, k⟩
  · have q := S.slot i s h
    cases s with
    | no => trivial
    | exn => exact q
    | val w => obtain ⟨v, e1, r⟩ := q; exact ⟨v, e1, r.mono k⟩
    | own w =>
      obtain ⟨a, e1, o, nfa, nk⟩ := q
      have na : a ≠ D := fun z => sD i w h (by rw [e1, z])
      refine ⟨a, e1, ?_, nfa, fun k => nk ((wit_kept na).mpr ((wit_kept na).mp k))⟩
      cases w with
      | lst l => obtain ⟨vs, h1, h2⟩ := o; exact ⟨vs, by rw [upd_ne na]; exact h1, h2.mono k⟩
      | dK ks l => obtain ⟨vs, h1, m, h2⟩ := o; exact ⟨vs, by rw [upd_ne na]; exact h1, m, h2.mono k⟩
      | obj c ns l => obtain ⟨dx, vs, h1, m, h2⟩ := o; exact ⟨dx, vs, by rw [upd_ne na]; exact h1, m, h2.mono k⟩
      | _ => exact o
  · by_cases ea : a = D
    · subst ea
      rw [show (B.wit a us).H0 a = some (.lst us) from upd_same] at h
      cases h
      exact upd_same
    · rw [upd_ne ea]
      refine S.ext a o ((wit_kept ea).mpr ((wit_kept ea).mp ka)) ?_
      rw [show (B.wit D vs).H0 a = B.H0 a from upd_ne ea]
      rw [show (B.wit D us).H0 a = B.H0 a from upd_ne ea] at h
      exact h
  · by_cases ea : a = D
    · rw [ea, upd_same]; exact (fun z => nomatch z)
    · rw [upd_ne ea]
      refine S.alive a ?_
      rw [show (B.wit D vs).H0 a = B.H0 a from upd_ne ea]
      rw [show (B.wit D us).H0 a = B.H0 a from upd_ne ea] at h
      exact h
  · rcases S.f1 a h with q | q
    · exact .inl q
    · by_cases ea : a = D
      · exact absurd h (by rw [ea]; exact fD)
      · exact .inr (by rw [show (B.wit D us).H0 a = B.H0 a from upd_ne ea]; rw [show (B.wit D vs).H0 a = B.H0 a from upd_ne ea] at q; exact q)
  · by_cases ea : a = D
    · rw [ea, upd_same]; exact (fun z => nomatch z)
    · rw [upd_ne ea]; exact S.f2 a h
theorem SR.leave {D : Addr} {vs : List V} (S : SR K (B.wit D vs) F H σ ρ) (nd : ∀ p ∈ B.I, p.2 ≠ D) (nf : ¬ B.F0 D) (h0 : B.H0 D = none) {ws : List W} (r : RepL K F H ws vs) : SR K B F H σ ρ ∧ Fre K B F H σ ρ (.lst ws) (.ref D) := by
  obtain ⟨hD, fD, sD⟩ := S.wit_at nd nf
  refine ⟨⟨S.len, fun i s h => ?_, S.sep, S.lent, fun a o ka h => ?_, fun a h => ?_, S.f0, fun a h => ?_, S.f2⟩, D, rfl, ⟨vs, hD, r⟩, fD, h0, sD⟩
  · have q := S.slot i s h
    cases s with
    | no => trivial
    | exn => exact q
    | val w => exact q
    | own w =>
      obtain ⟨a, e1, o, nfa, nk⟩ := q
      have na : a ≠ D := fun z => sD i w h (by rw [e1, z])
      exact ⟨a, e1, o, nfa, fun k => nk ((wit_kept na).mpr k)⟩
  · have na : a ≠ D := fun z => by rw [z, h0] at h; cases h
    refine S.ext a o ((wit_kept na).mpr ka) ?_
    rw [show (B.wit D vs).H0 a = B.H0 a from upd_ne na]
    exact h
  · have na : a ≠ D := fun z => h (by rw [z, h0])
    refine S.alive a ?_
    rw [show (B.wit D vs).H0 a = B.H0 a from upd_ne na]
    exact h
  · rcases S.f1 a h with q | q
    · exact .inl q
    · by_cases ea : a = D
      · exact .inr (by rw [ea, h0])
      · exact .inr (by rw [show (B.wit D vs).H0 a = B.H0 a from upd_ne ea] at q; exact q)
end
/-- the block's targets: names in slots -/
inductive CT where
  | nm (i : Nat) | tp (is : List Nat)
def CT.ix : CT → List Nat
  | .nm i => [i]
  | .tp is => is
def setsR : List Nat → List W → Rho → Option Rho
  | [], [], ρ => some ρ
  | i :: is, w :: ws, ρ => setsR is ws (ρ.set i (.val w))
  | _, _, _ => none
def CT.put (t : CT) (w : W) (ρ : Rho) : Option Rho := match t, w with
  | .nm i, w => some (ρ.set i (.val w))
  | .tp is, .tup l => setsR is l ρ
  | _, _ => none
def gNames : List Nat → TGs
  | [] => gNil
  | i :: is => gCons (gName i) (gNames is)
def CT.tg (K : PySem.W.Frag) : CT → TG
  | .nm i => gName i
  | .tp is => L2.gTup K is.length (gNames is)
def compL (vs : List Nat) (put : W → Rho → Option Rho) (c : Rho → R Bool) (fe : Rho → R W) : List W → List W → Rho → R (Md × W)
  | acc, [], ρ => if acc.length ≤ sizeLine then .ok (.fre, .lst acc) (wipeR ρ vs) else .stk
  | acc, w :: ws, ρ => match put w (wipeR ρ vs) with
    | some ρ1 => (c ρ1).bind fun b ρ2 => if b then (fe ρ2).bind fun y ρ3 => if acc.length < sizeLine then compL vs put c fe (acc ++ [y]) ws ρ3 else .stk else compL vs put c fe acc ws ρ2
    | none => .stk
def mEl (I : List Nat) (f : Rho → R (Md × W)) : Rho → R W := fun ρ => (f ρ).bind (toVal I)
def noExc {α : Type} (r : R α) : R α := match r with
  | .exc _ _ _ _ => .stk
  | r => r
def mLc (I : List Nat) (it : Rho → R (List W)) (t : CT) (c : Rho → R Bool) (fe : Rho → R (Md × W)) : Rho → R (Md × W) := fun ρ => (it ρ).bind fun ws ρ1 => if t.ix.all (fun i => decide (i ∉ I)) then noExc (compL t.ix t.put c (mEl I fe) [] ws ρ1) else .stk
def mYes : Rho → R Bool := fun ρ => .ok true ρ
end ML

set_option maxHeartbeats 4000000
namespace ML
open PySem PySem.Spec PyProof.Rows L2
variable {I : List Nat}
theorem bind_ok {α β : Type} {r : R α} {k : α → Rho → R β} {b : β} {ρ' : Rho} (h : r.bind k = .ok b ρ') : ∃ a ρ1, r = .ok a ρ1 ∧ k a ρ1 = .ok b ρ' := by
  cases r with
  | ok a ρ1 => exact ⟨a, ρ1, rfl, h⟩
  | exc c ns ws ρ => cases h
  | stk => cases h
theorem compL_fre {vs : List Nat} {put : W → Rho → Option Rho} {c : Rho → R Bool} {fe : Rho → R W} {b : Md × W} {ρe : Rho} : ∀ {ws acc : List W} {ρ : Rho}, compL vs put c fe acc ws ρ = .ok b ρe → ∃ L, b = (.fre, .lst L)
  | [], acc, ρ, h => by
    unfold compL at h
    split at h
    · cases h; exact ⟨_, rfl⟩
    · cases h
  | w :: ws, acc, ρ, h => by
    unfold compL at h
    split at h
    · obtain ⟨t, ρ2, _, h2⟩ := bind_ok h
      split at h2
      · obtain ⟨y, ρ3, _, h3⟩ := bind_ok h2
        split at h3
        · exact compL_fre h3
        · cases h3
      · exact compL_fre h2
    · cases h
/-- readings whatever is built meanwhile -/
def tMx (K : PySem.W.Frag) (ct : Str → Addr) (I : List Nat) (f : Rho → R (Md × W)) : TE := fun σ H Q => ∃ (Y : Yx I), Y.ct = ct ∧ (Y.wx = fun _ _ _ _ => False) ∧ tM K Y f σ H Q
def tMTx (K : PySem.W.Frag) (ct : Str → Addr) (I : List Nat) (f : Rho → R Bool) : TT := fun σ H Q => ∃ (Y : Yx I), Y.ct = ct ∧ (Y.wx = fun _ _ _ _ => False) ∧ tMT K Y f σ H Q
theorem pe_x {X : Cx} {ct : Str → Addr} {e : Expr} {f : Rho → R (Md × W)} (h : ∀ Y : Yx I, Y.ct = ct → (Y.wx = fun _ _ _ _ => False) → PEM X Y e f) : PE X e (tMx X.K ct I f) := ⟨fun pins s σ H Q J ⟨Y, e1, e2, hq⟩ => (h Y e1 e2).run pins s σ H Q J hq⟩
theorem pts_x {X : Cx} {ct : Str → Addr} {e : Expr} {f : Rho → R Bool} (h : ∀ Y : Yx I, Y.ct = ct → (Y.wx = fun _ _ _ _ => False) → PTM X Y e f) : PTs X [e] (tMTx X.K ct I f) := pts_one ⟨fun pins s σ H Q J ⟨Y, e1, e2, hq⟩ => (h Y e1 e2).run pins s σ H Q J hq⟩
/-- the clause's tests: none or one -/
def PCs (X : Cx) (ct : Str → Addr) (I : List Nat) (ifs : List Expr) (c : Rho → R Bool) : Prop := PTs X ifs (tMTx X.K ct I c)
theorem pcs_nil {X : Cx} {ct : Str → Addr} : PCs X ct I [] mYes := ⟨fun pins s σ H Q J ⟨Y, _, _, F, ρ, S, q⟩ => pts_nil.run pins s σ H Q J (q F H S .refl)⟩
theorem pcs_one {X : Cx} {ct : Str → Addr} {e : Expr} {c : Rho → R Bool} (h : ∀ Y : Yx I, Y.ct = ct → (Y.wx = fun _ _ _ _ => False) → PTM X Y e c) : PCs X ct I [e] c := pts_x h
section
variable {K : PySem.W.Frag} {B : Bd} {F F' : Fz} {H H' : Hp} {σ : L2.St} {ρ ρ' : Rho}
theorem sets_ok : ∀ {is : List Nat} {l : List W} {xs : List V} {σ : L2.St} {ρ ρ' : Rho} {Q : L2.St → Hp → Prop}, SR K B F H σ ρ → RepL K F H l xs → (∀ i ∈ is, unlent B i) → setsR is l ρ = some ρ' →
    (∀ σ', SR K B F H σ' ρ' → σ'.length = σ.length → (∀ j, j ∉ is → σ'[j]? = σ[j]?) → Q σ' H) → xs.length = is.length ∧ gNames is xs σ H Q
  | [], [], xs, σ, ρ, ρ', Q, S, r, _, e, q => by
    have ex : xs = [] := r
    subst ex
    cases e
    exact ⟨rfl, rfl, q σ S rfl fun _ _ => rfl⟩
  | i :: is, w :: l, xs, σ, ρ, ρ', Q, S, r, u, e, q => by
    obtain ⟨v, vs, rfl, r1, r2⟩ := r
    have := sets_ok (is := is) (l := l) (xs := vs) (σ := σ.set i (some v)) (ρ := ρ.set i (.val w)) (ρ' := ρ') (Q := Q) (S.setVal (u i List.mem_cons_self) r1) r2 (fun j hj => u j (List.mem_cons_of_mem _ hj)) e fun σ' S' hl hs => q σ' S' (by rw [hl, List.length_set]) fun j hj => by
      rw [hs j fun z => hj (List.mem_cons_of_mem _ z), set_ne fun z => hj (by rw [z]; exact List.mem_cons_self)]
    exact ⟨by rw [List.length_cons, List.length_cons, this.1], v, vs, rfl, this.2⟩
  | [], _ :: _, _, _, _, _, _, _, _, _, e, _ => by cases e
  | _ :: _, [], _, _, _, _, _, _, _, _, e, _ => by cases e
theorem wipe_in {σ : L2.St} {i : Nat} : ∀ {vs : List Nat}, i ∈ vs → i < σ.length → (wipe σ vs)[i]? = some none
  | v :: vs, h, l => by
    unfold wipe
    by_cases e : i = v
    · subst e
      exact set_eq (by rw [wipe_length]; exact l)
    · rw [set_ne e]
      cases h with
      | head => exact absurd rfl e
      | tail _ h => exact wipe_in h l
theorem wipe_same {σ σ' : L2.St} {vs : List Nat} (hl : σ'.length = σ.length) (h : ∀ j, j ∉ vs → σ'[j]? = σ[j]?) : wipe σ' vs = wipe σ vs := by
  apply List.ext_getElem?
  intro j
  by_cases hj : j ∈ vs
  · by_cases l : j < σ.length
    · rw [wipe_in hj l, wipe_in hj (by rw [hl]; exact l)]
    · rw [List.getElem?_eq_none (by rw [wipe_length]; omega), List.getElem?_eq_none (by rw [wipe_length]; omega)]
  · rw [wipe_ne hj, wipe_ne hj, h j hj]
theorem put_ok {t : CT} {w : W} {v : V} {Q : L2.St → Hp → Prop} (S : SR K B F H (wipe σ t.ix) ρ) (r : Rep K F H w v) (u : ∀ i ∈ t.ix, unlent B i) (e : t.put w ρ = some ρ')
    (q : ∀ σ', SR K B F H σ' ρ' → wipe σ' t.ix = wipe σ t.ix → Q σ' H) : t.tg K v (wipe σ t.ix) H Q := by
  have fin : ∀ σ', σ'.length = (wipe σ t.ix).length → (∀ j, j ∉ t.ix → σ'[j]? = (wipe σ t.ix)[j]?) → wipe σ' t.ix = wipe σ t.ix := fun σ' hl hs => wipe_same (by rw [hl, wipe_length]) fun j hj => by rw [hs j hj, wipe_ne hj]
  cases t with
  | nm i =>
    cases e
    exact q _ (S.setVal (u i List.mem_cons_self) r) (fin _ (by rw [List.length_set]) fun j hj => set_ne fun z => hj (by rw [z]; exact List.mem_cons_self))
  | tp is =>
    cases w with
    | tup l =>
      obtain ⟨a, vs, rfl, hs, rl⟩ := r
      have := sets_ok S rl u e fun σ' S' hl hx => q σ' S' (fin σ' hl hx)
      exact ⟨a, vs, rfl, hs.seq, this.1, this.2⟩
    | _ => cases e
end
theorem lc_of {K : PySem.W.Frag} {Y : Yx I} {it : Rho → R (List W)} {t : CT} {c : Rho → R Bool} {fe : Rho → R (Md × W)} {σ : L2.St} {H : Hp} {Q : VK} (hq : tM K Y (mLc I it t c fe) σ H Q) :
    tLc (tMI K Y it) (t.tg K) (tMTx K Y.ct I c) (tMx K Y.ct I fe) t.ix σ H Q := by
  obtain ⟨F, ρ, S, q⟩ := hq
  refine ⟨F, ρ, S, (RunG.bind q).imp fun ws ρ1 F1 H1 S1 k1 q1 J hJ D nD => ?_⟩
  split at q1
  · rename_i hix
    have un : ∀ i ∈ t.ix, i ∉ I := fun i hi => of_decide_eq_true (List.all_eq_true.mp hix i hi)
    have u : ∀ i ∈ t.ix, unlent Y.B i := fun i hi => Y.un (un i hi)
    cases er : compL t.ix t.put c (mEl I fe) [] ws ρ1 with
    | exc cc ns us ρ' => rw [er] at q1; exact q1.elim
    | stk => rw [er] at q1; exact q1.elim
    | ok b ρe =>
      rw [er] at q1
      obtain ⟨L, rfl⟩ := compL_fre er
      obtain ⟨S2, k2⟩ := S1.enter nD
      have nd : ∀ p ∈ Y.B.I, p.2 ≠ D := fun p hp z => by
        obtain ⟨h1, w, h2⟩ := S1.lent p hp
        obtain ⟨a, ea, o, _⟩ := S1.slot _ _ h2
        rw [h1] at ea
        cases ea
        obtain ⟨x, hx, _⟩ := o.some
        rw [z, nD] at hx
        cases hx
      have nf : ¬ Y.B.F0 D := fun z => S1.f2 D (S1.f0 D z) nD
      have h0 : Y.B.H0 D = none := by
        cases q : Y.B.H0 D with
        | none => rfl
        | some x => exact absurd nD (S1.alive D (by rw [q]; exact (fun z => nomatch z)))
      refine ⟨fun i m H => ∃ F ρ acc vacc, SR K (Y.B.wit D vacc) F H (wipe σ t.ix) (wipeR ρ t.ix) ∧ RepL K F H acc vacc ∧ Keeps F1 H1 F H ∧ compL t.ix t.put c (mEl I fe) acc (ws.drop i) ρ = .ok (.fre, .lst L) ρe ∧ m = ws.length - i,
        ⟨_, F1, ρ1, [], [], S2.wiped u, rfl, k2, er, rfl⟩, ?_⟩
      rintro i m H ⟨F, ρ, acc, vacc, S, ra, k, ec, rfl⟩
      have hi := hJ F H k S.f2 i
      cases ed : ws.drop i with
      | nil =>
        rw [ed] at ec
        unfold compL at ec
        split at ec
        · cases ec
          obtain ⟨S3, fr⟩ := S.leave nd nf h0 ra
          have S4 := S3.unwiped u
          refine .inl ⟨hi.2 (List.drop_eq_nil_iff.mp ed), ?_⟩
          have ew : wipeR (wipeR ρ t.ix) t.ix = wipeR ρ t.ix := by
            apply List.ext_getElem?
            intro j
            by_cases hj : j ∈ t.ix
            · have g : ∀ (ρ : Rho) (vs : List Nat), j ∈ vs → (wipeR ρ vs)[j]? = if j < ρ.length then some .no else none := fun ρ vs => by
                induction vs with
                | nil => intro h; cases h
                | cons v vs ih =>
                  intro h
                  unfold wipeR
                  by_cases e : j = v
                  · subst e
                    rw [List.getElem?_set, if_pos rfl, wipeR_len]
                  · rw [set_ne e]
                    cases h with
                    | head => exact absurd rfl e
                    | tail _ h => exact ih h
              rw [g _ _ hj, g _ _ hj, wipeR_len]
            · rw [wipeR_ne hj]
          rw [ew] at S4
          refine q1 F H S4 k _ ?_
          obtain ⟨a, ea, o, n1, n2, n3⟩ := fr
          refine ⟨a, ea, o, n1, n2, fun j w' hj ej => ?_⟩
          rcases wipeR_get hj with z | ⟨z1, z2⟩
          · cases z
          · exact n3 j w' hj (by rw [wipe_ne z1]; exact ej)
        · cases ec
      | cons w r =>
        obtain ⟨ew, er2⟩ := drop_get ed
        obtain ⟨go, yl⟩ := hi.1 w ew
        have lt := (List.getElem?_eq_some_iff.mp ew).1
        refine .inr ⟨go, fun H' => ∃ F ρ acc vacc, SR K (Y.B.wit D vacc) F H' (wipe σ t.ix) (wipeR ρ t.ix) ∧ RepL K F H' acc vacc ∧ Keeps F1 H1 F H' ∧ compL t.ix t.put c (mEl I fe) acc (ws.drop (i + 1)) ρ = .ok (.fre, .lst L) ρe,
          fun H' ⟨F', ρ', acc', vacc', a1, a2, a3, a4⟩ => ⟨ws.length - (i + 1), by omega, F', ρ', acc', vacc', a1, a2, a3, a4, rfl⟩, fun x H'' y => ?_⟩
        obtain ⟨F2, ex, rx⟩ := yl x H'' y
        rw [ed] at ec
        unfold compL at ec
        split at ec
        · rename_i ρ3 ep
          obtain ⟨b, ρ4, ecb, ec2⟩ := bind_ok ec
          have u' : ∀ i ∈ t.ix, unlent (Y.B.wit D vacc) i := u
          refine put_ok (S.grow ex) rx u' ep fun σ' S5 hw => ⟨hw, ?_⟩
          have kx : Keeps F1 H1 F2 H'' := k.trans ex.keeps
          have ra2 : RepL K F2 H'' acc vacc := ra.mono ex.keeps
          refine ⟨⟨Y.ct, Y.B.wit D vacc, fun _ _ _ _ => False, Y.hI⟩, rfl, rfl, F2, ρ3, S5, ?_⟩
          rw [ecb]
          intro F6 H6 S6 k6
          cases b with
          | false =>
            rw [if_neg Bool.false_ne_true] at ec2
            rw [if_neg Bool.false_ne_true]
            have S7 := SR.wiped (vs := t.ix) S6 u'
            rw [hw] at S7
            exact ⟨F6, ρ4, acc, vacc, S7, ra2.mono k6, kx.trans k6, by rw [er2]; exact ec2⟩
          | true =>
            rw [if_pos rfl] at ec2
            rw [if_pos rfl]
            obtain ⟨yw, ρ7, ey, ec3⟩ := bind_ok ec2
            obtain ⟨bm, ρ6, e6, e7⟩ := bind_ok (show (fe ρ4).bind (toVal I) = .ok yw ρ7 from ey)
            refine ⟨⟨Y.ct, Y.B.wit D vacc, fun _ _ _ _ => False, Y.hI⟩, rfl, rfl, F6, ρ4, S6, ?_⟩
            rw [e6]
            intro F8 H8 S8 k8 v8 hv8
            split at ec3
            · rename_i hsz
              have qv : RunG K (⟨Y.ct, Y.B.wit D vacc, fun _ _ _ _ => False, Y.hI⟩ : Yx I) F8 H8 σ' (toVal I bm ρ6) fun w ρ _ _ => w = yw ∧ ρ = ρ7 := by
                rw [e7]
                exact fun _ _ _ _ => ⟨rfl, rfl⟩
              obtain ⟨F9, yw', ρ9, S9, k9, r9, ⟨e9, e10⟩⟩ := S8.toVal hv8 qv
              subst e9
              subst e10
              obtain ⟨hD, fD, _⟩ := S9.wit_at nd nf
              have ra9 := (ra2.mono k6).mono (k8.trans k9)
              obtain ⟨Sa, ka⟩ := S9.witPut (us := vacc ++ [v8]) nd nf
              refine ⟨vacc, hD, by rw [← ra9.len]; exact hsz, F9, ρ9, acc ++ [yw'], vacc ++ [v8], ?_, RepL.mono ka _ (ra9.append (.cons r9 .nil)), ((kx.trans k6).trans (k8.trans k9)).trans ka, by rw [er2]; exact ec3⟩
              have Sb := SR.wiped (vs := t.ix) Sa u'
              rw [hw] at Sb
              exact Sb
            · cases ec3
        · cases ec
  · exact q1.elim
section
variable {X : Cx} {Y : Yx I} {elt tg iter : Expr} {ifs : List Expr} {scope : Scope} {own : List (Str × Nat)} {pos : Pos} {it : Rho → R (List W)} {t : CT} {c : Rho → R Bool} {fe : Rho → R (Md × W)}
theorem pem_lc (hc : X.calm = true) (hN : X.N.Nodup) (hi : PIM X Y tg iter it) (ok : BlkOk X.N X.env.scope scope own) (ho : own.map (·.2) = t.ix)
    (hg : ∀ (s : Shared) (H : Hp) (C : Addr) (cl : List (Str × Addr)) (fp : List Addr), PG (X.blk s H scope (compEnvC scope cl C X.env) fp) tg (t.tg X.K))
    (ht : ∀ (s : Shared) (H : Hp) (C : Addr) (cl : List (Str × Addr)) (fp : List Addr), PCs (X.blk s H scope (compEnvC scope cl C X.env) fp) Y.ct I ifs c)
    (he : ∀ (s : Shared) (H : Hp) (C : Addr) (cl : List (Str × Addr)) (fp : List Addr) (Y' : Yx I), Y'.ct = Y.ct → (Y'.wx = fun _ _ _ _ => False) → PEM (X.blk s H scope (compEnvC scope cl C X.env) fp) Y' elt fe)
    (hs : ∀ x, foldedSetIterable iter X.env x = pure x := by intro _; rfl) : PEM X Y (.ListComp elt [⟨tg, iter, ifs, 0⟩] scope pos) (mLc I it t c fe) :=
  pe_weak (pe_lc (tt := tMTx X.K Y.ct I c) (te := tMx X.K Y.ct I fe) hc hN hi ok hg ht (fun s H C cl fp => pe_x (he s H C cl fp)) hs) fun σ H Q hq => by
    rw [ho]
    exact lc_of hq
/-- x = [..] on one line -/
theorem psm_setLc {i : Nat} {y : Str} {py spos : Pos} (hc : X.calm = true) (hN : X.N.Nodup) (hy : X.N[i]? = some y) (hyl : X.env.scope.names.lookup y = some .local)
    (hsw : swapsWith (.ListComp elt [⟨tg, iter, ifs, 0⟩] scope pos) (some (.Name y py)) spos.line X.env = pure true) (hi : PIM X Y tg iter it) (ok : BlkOk X.N X.env.scope scope own) (ho : own.map (·.2) = t.ix)
    (hg : ∀ (s : Shared) (H : Hp) (C : Addr) (cl : List (Str × Addr)) (fp : List Addr), PG (X.blk s H scope (compEnvC scope cl C X.env) fp) tg (t.tg X.K))
    (ht : ∀ (s : Shared) (H : Hp) (C : Addr) (cl : List (Str × Addr)) (fp : List Addr), PCs (X.blk s H scope (compEnvC scope cl C X.env) fp) Y.ct I ifs c)
    (he : ∀ (s : Shared) (H : Hp) (C : Addr) (cl : List (Str × Addr)) (fp : List Addr) (Y' : Yx I), Y'.ct = Y.ct → (Y'.wx = fun _ _ _ _ => False) → PEM (X.blk s H scope (compEnvC scope cl C X.env) fp) Y' elt fe)
    (hs : ∀ x, foldedSetIterable iter X.env x = pure x := by intro _; rfl) : PSM X Y (.Assign [.Name y py] (.ListComp elt [⟨tg, iter, ifs, 0⟩] scope pos) spos) (mSet I i (mLc I it t c fe)) :=
  ps_weak (ps_setLc (tt := tMTx X.K Y.ct I c) (te := tMx X.K Y.ct I fe) hc hN hy hyl hsw hi ok hg ht (fun s H C cl fp => pe_x (he s H C cl fp)) hs) fun D σ H hq => by
    obtain ⟨F, ρ, S, q⟩ := hq
    rw [ho]
    exact lc_of ⟨F, ρ, S, (RunS.bindE q).imp fun b ρ1 F1 H1 S1 k1 q1 v hv => store_of S1 hv q1⟩
end
end ML

set_option maxHeartbeats 4000000
namespace ML
open PySem PySem.Spec PyProof.Rows L2
variable {I : List Nat}
/-! ### built-ins -/
theorem CallR.or {X : Cx} {f : Value} {r r' : List V → Hp → VK → Prop} (h : CallR X f r) (h' : CallR X f r') : CallR X f (fun xs H Q => r xs H Q ∨ r' xs H Q) := by
  intro pins s σ H xs us Q I rs q
  rcases q with q | q
  · exact h pins s σ H xs us Q I rs q
  · exact h' pins s σ H xs us Q I rs q
section
variable {K : PySem.W.Frag} {F : Fz} {H : Hp}
theorem PkL.one {w : W} {vs : List V} (h : PkL K F H [w] vs) : ∃ v, vs = [v] ∧ PkR K F H w v := by
  obtain ⟨v, r, e, h1, h2⟩ := h
  have e2 : r = [] := h2
  exact ⟨v, by rw [e, e2], h1⟩
theorem PkL.two {w u : W} {vs : List V} (h : PkL K F H [w, u] vs) : ∃ v x, vs = [v, x] ∧ PkR K F H w v ∧ PkR K F H u x := by
  obtain ⟨v, r, e, h1, h2⟩ := h
  obtain ⟨x, e2, h3⟩ := PkL.one h2
  exact ⟨v, x, by rw [e, e2], h1, h3⟩
end
def gInt : GC
  | [.int i] => some (.val, .int i)
  | [.bl k] => some (.val, .int (if k then 1 else 0))
  | [.str a] => if a.length ≤ 640 then (PySem.intText? a).map fun n => (.val, .int n) else none
  | _ => none
abbrev rInt1 : List V → Hp → VK → Prop := fun xs H Q => (∃ i, xs = [.int i] ∧ Q (.int i) H) ∨ ∃ k, xs = [.bl k] ∧ Q (.int (if k then 1 else 0)) H
abbrev rIntS : List V → Hp → VK → Prop := fun xs H Q => ∃ a n, xs = [.str a] ∧ PySem.intText? a = some n ∧ a.length ≤ 640 ∧ Q (.int n) H
theorem c_int {X : Cx} : CallR X (.type "int") (fun xs H Q => rInt1 xs H Q ∨ rIntS xs H Q) := CallR.or call_int1 call_int_str
theorem g_int {K : PySem.W.Frag} : CallW K (fun xs H Q => rInt1 xs H Q ∨ rIntS xs H Q) gInt := by
  intro xs m z e F H vs Q t p q
  unfold gInt at e
  split at e
  · cases e
    obtain ⟨v, rfl, h⟩ := p.one
    cases h.int
    exact .inl (.inl ⟨_, rfl, old_val t (K := K) (z := .int _) rfl q⟩)
  · cases e
    obtain ⟨v, rfl, h⟩ := p.one
    cases h.bl
    exact .inl (.inr ⟨_, rfl, old_val t (K := K) (z := .int _) rfl q⟩)
  · split at e
    · rename_i a hl
      obtain ⟨n, en, e2⟩ := Option.map_eq_some_iff.mp e
      cases e2
      obtain ⟨v, rfl, h⟩ := p.one
      cases h.str
      exact .inr ⟨_, n, rfl, en, hl, old_val t (K := K) (z := .int _) rfl q⟩
    · cases e
  · cases e
def gStr : GC
  | [.int i] => if i.natAbs.log2 < 1920 then some (.val, .str (toString i)) else none
  | [.str a] => some (.val, .str a)
  | _ => none
abbrev rStrI : List V → Hp → VK → Prop := fun xs H Q => ∃ i, xs = [.int i] ∧ i.natAbs.log2 < 1920 ∧ Q (.str (toString i)) H
abbrev rStrS : List V → Hp → VK → Prop := fun xs H Q => ∃ a, xs = [.str a] ∧ Q (.str a) H
theorem c_str {X : Cx} : CallR X (.type "str") (fun xs H Q => rStrI xs H Q ∨ rStrS xs H Q) := CallR.or call_str_int SkE.call_str_str
theorem g_str {K : PySem.W.Frag} : CallW K (fun xs H Q => rStrI xs H Q ∨ rStrS xs H Q) gStr := by
  intro xs m z e F H vs Q t p q
  unfold gStr at e
  split at e
  · split at e
    · rename_i hl
      cases e
      obtain ⟨v, rfl, h⟩ := p.one
      cases h.int
      exact .inl ⟨_, rfl, hl, old_val t (K := K) (z := .str _) rfl q⟩
    · cases e
  · cases e
    obtain ⟨v, rfl, h⟩ := p.one
    cases h.str
    exact .inr ⟨_, rfl, old_val t (K := K) (z := .str _) rfl q⟩
  · cases e
def gLen : GC
  | [.str a] => if a.length ≤ sizeLine then some (.val, .int a.length) else none
  | [w] => (itemsW w).map fun l => (.val, .int l.length)
  | _ => none
theorem g_len {K : PySem.W.Frag} : CallW K (fun xs H Q => ∃ x n, xs = [x] ∧ LenV K x H n ∧ Q (.int n) H) gLen := by
  intro xs m z e F H vs Q t p q
  unfold gLen at e
  split at e
  · split at e
    · rename_i hl
      cases e
      obtain ⟨v, rfl, h⟩ := p.one
      cases h.str
      exact ⟨_, _, rfl, ⟨hl, rfl⟩, old_val t (K := K) (z := .int _) rfl q⟩
    · cases e
  · obtain ⟨l, el, e2⟩ := Option.map_eq_some_iff.mp e
    cases e2
    obtain ⟨v, rfl, h⟩ := p.one
    obtain ⟨a, us, rfl, hs, r⟩ := h.seq el
    refine ⟨_, l.length, rfl, ?_, old_val t (K := K) (z := .int _) rfl q⟩
    rcases hs with hs | hs
    · exact .inl ⟨us, hs, r.len⟩
    · exact .inr ⟨us, hs, r.len⟩
  · cases e
def gMin : GC
  | [.int i, .int j] => some (.val, .int (if j < i then j else i))
  | _ => none
theorem g_min {K : PySem.W.Frag} : CallW K (fun xs H Q => ∃ i j, xs = [.int i, .int j] ∧ Q (.int (if j < i then j else i)) H) gMin := by
  intro xs m z e F H vs Q t p q
  unfold gMin at e
  split at e
  · cases e
    obtain ⟨v, x, rfl, h, h'⟩ := p.two
    cases h.int
    cases h'.int
    exact ⟨_, _, rfl, old_val t (K := K) (z := .int _) rfl q⟩
  · cases e
def gMax : GC
  | [.int i, .int j] => some (.val, .int (if j > i then j else i))
  | _ => none
theorem g_max {K : PySem.W.Frag} : CallW K (fun xs H Q => ∃ i j, xs = [.int i, .int j] ∧ Q (.int (if j > i then j else i)) H) gMax := by
  intro xs m z e F H vs Q t p q
  unfold gMax at e
  split at e
  · cases e
    obtain ⟨v, x, rfl, h, h'⟩ := p.two
    cases h.int
    cases h'.int
    exact ⟨_, _, rfl, old_val t (K := K) (z := .int _) rfl q⟩
  · cases e
def gTupC : GC
  | [.tup l] => some (.val, .tup l)
  | [.lst l] => some (.val, .tup l)
  | [.frl l] => some (.val, .tup l)
  | _ => none
theorem g_tupC {K : PySem.W.Frag} : CallW K (fun xs H Q => ∃ p ys, xs = [.ref p] ∧ ((SqL K H p ys ∧ ∀ l, H l = none → Q (.ref l) (upd H l (.tup ys))) ∨ (SqT K H p ys ∧ Q (.ref p) H))) gTupC := by
  intro xs m z e F H vs Q t p q
  unfold gTupC at e
  split at e
  · cases e
    obtain ⟨v, rfl, h⟩ := p.one
    obtain ⟨a, us, rfl, hs, r⟩ := h.tup
    exact ⟨a, us, rfl, .inr ⟨hs.seq, old_val t (show Rep K F H (.tup _) (.ref a) from ⟨a, us, rfl, hs, r⟩) q⟩⟩
  · cases e
    obtain ⟨v, rfl, h⟩ := p.one
    obtain ⟨a, us, rfl, hs, r⟩ := h.lst
    exact ⟨a, us, rfl, .inl ⟨.of hs, fun l hl => new_tup t r q hl⟩⟩
  · cases e
    obtain ⟨v, rfl, h⟩ := p.one
    obtain ⟨a, us, rfl, hs, r⟩ := h.frl
    exact ⟨a, us, rfl, .inl ⟨hs.seq, fun l hl => new_tup t r q hl⟩⟩
  · cases e
def gLstC : GC
  | [w] => (itemsW w).map fun l => (.fre, .lst l)
  | _ => none
theorem g_lstC {K : PySem.W.Frag} : CallW K (fun xs H Q => ∃ p ys, xs = [.ref p] ∧ (SqL K H p ys ∨ SqT K H p ys) ∧ ∀ l, H l = none → Q (.ref l) (upd H l (.lst ys))) gLstC := by
  intro xs m z e F H vs Q t p q
  unfold gLstC at e
  split at e
  · obtain ⟨l, el, e2⟩ := Option.map_eq_some_iff.mp e
    cases e2
    obtain ⟨v, rfl, h⟩ := p.one
    obtain ⟨a, us, rfl, hs, r⟩ := h.seq el
    exact ⟨a, us, rfl, hs, fun l hl => new_lst t r q hl⟩
  · cases e
/-! isinstance -/
def tyN : W → Option String
  | .non => some "NoneType"
  | .bl _ => some "bool"
  | .int _ => some "int"
  | .str _ => some "str"
  | .tup _ => some "tuple"
  | .lst _ => some "list"
  | .frl _ => some "list"
  | .dK _ _ => some "dict"
  | _ => none
def isB : String → String → Option Bool
  | "NoneType", "bool" => some false | "NoneType", "int" => some false | "NoneType", "str" => some false | "NoneType", "tuple" => some false | "NoneType", "list" => some false
  | "bool", "bool" => some true | "bool", "int" => some true | "bool", "str" => some false | "bool", "tuple" => some false | "bool", "list" => some false
  | "int", "bool" => some false | "int", "int" => some true | "int", "str" => some false | "int", "tuple" => some false | "int", "list" => some false
  | "str", "bool" => some false | "str", "int" => some false | "str", "str" => some true | "str", "tuple" => some false | "str", "list" => some false
  | "tuple", "bool" => some false | "tuple", "int" => some false | "tuple", "str" => some false | "tuple", "tuple" => some true | "tuple", "list" => some false
  | "list", "bool" => some false | "list", "int" => some false | "list", "str" => some false | "list", "tuple" => some false | "list", "list" => some true
  | _, _ => none
theorem isB_ok {a b : String} {r : Bool} (h : isB a b = some r) : kitB a b = some r := by
  unfold isB at h
  split at h <;> first | (cases h; decide +kernel) | cases h
theorem tyN_ok {K : PySem.W.Frag} {F : Fz} {H : Hp} {w : W} {v : V} {n : String} (h : PkR K F H w v) (e : tyN w = some n) : TyX K H v (.type n) := by
  cases w with
  | non => cases e; cases h.non; exact .base .non
  | bl b => cases e; cases h.bl; exact .base (.bl b)
  | int b => cases e; cases h.int; exact .base (.int b)
  | str b => cases e; cases h.str; exact .base (.str b)
  | tup l =>
    cases e
    obtain ⟨a, us, rfl, hs, r⟩ := h.tup
    rcases hs with hs | ⟨o, its, k, ho, hc, _⟩
    · exact .base (.tup hs)
    · exact .kTuple ho hc
  | lst l => cases e; obtain ⟨a, us, rfl, hs, r⟩ := h.lst; exact .base (.lst hs)
  | frl l =>
    cases e
    obtain ⟨a, us, rfl, hs, r⟩ := h.frl
    rcases hs with ⟨o, hs⟩ | ⟨o, its, k, ho, hc, _⟩
    · exact .base (.frz hs)
    · exact .kList ho hc
  | dK ks l => cases e; obtain ⟨a, us, rfl, hs, _⟩ := h.dK; exact .base (.dK hs)
  | _ => cases e
def isAny (n : String) : List W → Option Bool
  | [] => some false
  | .ty c :: r => match isB n c, isAny n r with
    | some a, some b => some (a || b)
    | _, _ => none
  | _ => none
def gIsi : GC
  | [x, .ty c] => (tyN x).bind fun n => (isB n c).map fun b => (.val, .bl b)
  | [x, .tup cs] => (tyN x).bind fun n => (isAny n cs).map fun b => (.val, .bl b)
  | _ => none
theorem isAny_ok {K : PySem.W.Frag} {F : Fz} {H : Hp} {n : String} : ∀ {cs : List W} {vs : List V} {b : Bool}, RepL K F H cs vs → isAny n cs = some b → ∃ us, Paired ClsV vs us ∧ PySem.W.kitAny K (.type n) us = some b
  | [], _, _, r, e => by
    cases r
    cases e
    exact ⟨[], .nil, rfl⟩
  | .ty c :: cs, _, b, r, e => by
    obtain ⟨v, vs, rfl, r1, r2⟩ := r
    cases r1
    have e1 : (match isB n c, isAny n cs with
      | some a, some b => some (a || b)
      | _, _ => none) = some b := e
    cases q : isB n c with
    | none => rw [q] at e1; cases e1
    | some t =>
      cases q2 : isAny n cs with
      | none => rw [q, q2] at e1; cases e1
      | some t2 =>
        rw [q, q2] at e1
        cases e1
        obtain ⟨us, hu, hk2⟩ := isAny_ok r2 q2
        exact ⟨.type c :: us, .cons (.ty c) hu, kitAny_cons (kit_ty (isB_ok q)) (fun z => by rw [z]; exact hk2) fun z => by rw [z]; rfl⟩
  | .non :: _, _, _, _, e => by cases e
  | .bl _ :: _, _, _, _, e => by cases e
  | .int _ :: _, _, _, _, e => by cases e
  | .str _ :: _, _, _, _, e => by cases e
  | .fn _ :: _, _, _, _, e => by cases e
  | .tup _ :: _, _, _, _, e => by cases e
  | .lst _ :: _, _, _, _, e => by cases e
  | .frl _ :: _, _, _, _, e => by cases e
  | .dK _ _ :: _, _, _, _, e => by cases e
theorem g_isi {K : PySem.W.Frag} : CallW K (fun xs H Q => rIsi K xs H Q ∨ rIsiT K xs H Q ∨ rIsiK K xs H Q) gIsi := by
  intro xs m z e F H vs Q t p q
  unfold gIsi at e
  split at e
  · obtain ⟨n, en, e1⟩ := Option.bind_eq_some_iff.mp e
    obtain ⟨b, eb, e2⟩ := Option.map_eq_some_iff.mp e1
    cases e2
    obtain ⟨v, x, rfl, h, h'⟩ := p.two
    cases h'.rep (fun _ => W.noConfusion) (fun _ _ => W.noConfusion) fun _ _ _ => W.noConfusion
    exact .inl ⟨v, _, _, _, b, rfl, .ty _, tyN_ok h en, kit_ty (isB_ok eb), old_val t (K := K) (z := .bl _) rfl q⟩
  · obtain ⟨n, en, e1⟩ := Option.bind_eq_some_iff.mp e
    obtain ⟨b, eb, e2⟩ := Option.map_eq_some_iff.mp e1
    cases e2
    obtain ⟨v, x, rfl, h, h'⟩ := p.two
    obtain ⟨a, us, rfl, hs, r⟩ := h'.tup
    obtain ⟨ws, hp, hk⟩ := isAny_ok r eb
    have fin : Q (.bl b) H := old_val t (K := K) (z := .bl _) rfl q
    rcases hs with hs | ⟨o, its, k, ho, hc, hd, _, hv⟩
    · exact .inr (.inl ⟨v, a, us, _, ws, b, rfl, hs, hp, tyN_ok h en, hk, fin⟩)
    · obtain ⟨oc, od, dt, osl⟩ := o
      cases hc
      cases hd
      have e3 := ClsV.all hp hv
      refine .inr (.inr ⟨v, a, od, ws, k, osl, _, b, rfl, ?_, tyN_ok h en, hk, fin⟩)
      rw [ho, ← e3]
  · cases e
theorem c_isi {X : Cx} : CallR X (.builtin "isinstance") (fun xs H Q => rIsi X.K xs H Q ∨ rIsiT X.K xs H Q ∨ rIsiK X.K xs H Q) := CallR.or call_isi (CallR.or call_isiT call_isiK)
section
variable {X : Cx} {Y : Yx I} {x : Str} {p pos : Pos} {e : Expr} {es : List Expr} {fs : List (Rho → R (Md × W))} {r : List V → Hp → VK → Prop} {g : GC} {id T : String}
theorem pem_callB (hc : CallR X (.builtin id) r) (hg : Gl X x) (hm : X.mg x = none) (hv : bootBuiltins x = some (.builtin id)) (hw : CallW X.K r g) (ha : PAM X Y (e :: es) fs) (hn : x ≠ "__name__" := by decide) (hdb : (x == ("__debug__" : Str)) = false := by decide)
    (he : starEach (e :: es) X.env = (false, eval e X.env) :: starEach es X.env := by rfl) (hpl : (backTo pos (starEach es X.env)).any (·.1) = false := by rfl) : PEM X Y (.Call (.Name x p) (e :: es) [] pos) (mCB g fs) :=
  pe_weak (pe_callB hc hg hm hv ha hn hdb he hpl) fun _ _ _ hq => tCB_of hw hq
theorem pem_callTy (hc : CallR X (.type T) r) (hg : Gl X x) (hm : X.mg x = none) (hv : bootBuiltins x = some (.type T)) (hw : CallW X.K r g) (ha : PAM X Y (e :: es) fs) (hn : x ≠ "__name__" := by decide) (hdb : (x == ("__debug__" : Str)) = false := by decide)
    (he : starEach (e :: es) X.env = (false, eval e X.env) :: starEach es X.env := by rfl) (hpl : (backTo pos (starEach es X.env)).any (·.1) = false := by rfl) : PEM X Y (.Call (.Name x p) (e :: es) [] pos) (mCB g fs) :=
  pe_weak (pe_callTy hc hg hm hv ha hn hdb he hpl) fun _ _ _ hq => tCB_of hw hq
theorem pem_ty (hg : Gl X x) (hm : X.mg x = none) (hv : bootBuiltins x = some (.type T)) (hn : x ≠ "__name__" := by decide) (hdb : (x == ("__debug__" : Str)) = false := by decide) : PEM X Y (.Name x pos) (mC (.ty T)) := pem_c (pe_bltn (v := .ty T) hg hm hv rfl hn hdb) fun _ _ => rfl
theorem pem_glob {v : V} {u : Value} {w : W} (hg : Gl X x) (hm : X.mg x = some u) (r : RelV v u) (h : ∀ F H, Rep X.K F H w v) (hdb : (x == ("__debug__" : Str)) = false := by decide) : PEM X Y (.Name x pos) (mC w) := pem_c (pe_glob hg hm r hdb) h
end
/-! ### subscripts -/
theorem atI_rep {K : PySem.W.Frag} {F : Fz} {H : Hp} {l : List W} {vs : List V} {i : Int} {w : W} (r : RepL K F H l vs) (e : atI l i = some w) : ∃ v, atI vs i = some v ∧ Rep K F H w v := by
  unfold atI at e ⊢
  rw [← r.len]
  obtain ⟨j, ej, e2⟩ := Option.bind_eq_some_iff.mp e
  obtain ⟨v, ev, rv⟩ := r.get e2
  exact ⟨v, by rw [ej]; exact ev, rv⟩
def gIx : GW := fun x y => match x, y with
  | .str z, .int i => if z.length ≤ sizeLine then (atI z.cps.toList i).map fun c => (.val, .str ⟨#[c]⟩) else none
  | x, .int i => (itemsW x).bind fun l => (atI l i).map fun w => (.val, w)
  | _, _ => none
theorem g_ix {K : PySem.W.Frag} : OpW K (rIx K) gIx := by
  intro x y m z e F H vx vy Q t px py q
  unfold gIx at e
  split at e
  · split at e
    · rename_i hl
      obtain ⟨c, ec, e2⟩ := Option.map_eq_some_iff.mp e
      cases e2
      cases px.str
      cases py.int
      exact .inr (.inr ⟨_, _, c, rfl, rfl, hl, ec, old_val t (K := K) (z := .str _) rfl q⟩)
    · cases e
  · obtain ⟨l, el, e1⟩ := Option.bind_eq_some_iff.mp e
    obtain ⟨w, ew, e2⟩ := Option.map_eq_some_iff.mp e1
    cases e2
    cases py.int
    obtain ⟨a, vs, rfl, hs, r⟩ := px.seq el
    obtain ⟨v, ev, rv⟩ := atI_rep r ew
    rcases hs with hs | hs
    · exact .inl ⟨a, vs, _, v, rfl, rfl, hs, ev, old_val t rv q⟩
    · exact .inr (.inl ⟨a, vs, _, v, rfl, rfl, hs, ev, old_val t rv q⟩)
  · cases e
theorem pem_ix {X : Cx} {Y : Yx I} {a b : Expr} {pos : Pos} {fa fb : Rho → R (Md × W)} (ha : PEM X Y a fa) (hb : PEM X Y b fb) (hs : PlainIx b := by exact fun _ _ => rfl) : PEM X Y (.Subscript a b pos) (mOp gIx fa fb) := pe_weak (pe_ix ix_seq ha hb hs) fun _ _ _ hq => tOp_of g_ix hq
end ML

set_option maxHeartbeats 4000000
namespace ML
open PySem PySem.Spec PyProof.Rows L2
variable {I : List Nat}
/-! ### slices -/
def cutW (xs : List W) (lo hi : Option Int) : List W := (xs.drop (HT.sIx xs.length 0 lo)).take (HT.sIx xs.length xs.length hi - HT.sIx xs.length 0 lo)
theorem RepL.cut {K : PySem.W.Frag} {F : Fz} {H : Hp} {l : List W} {vs : List V} (r : RepL K F H l vs) (lo hi : Option Int) : RepL K F H (cutW l lo hi) (cutV vs lo hi) := by
  unfold cutW cutV
  rw [r.len]
  exact (r.drop _).take _
def gSl (x : W) (lo hi : Option Int) : Option (Md × W) := match x with
  | .str z => if z.length ≤ sizeLine then some (.val, .str (cutS z lo hi)) else none
  | .tup l => some (.val, .tup (cutW l lo hi))
  | .lst l => some (.fre, .lst (cutW l lo hi))
  | .frl l => some (.fre, .lst (cutW l lo hi))
  | _ => none
def mPart : Option (Rho → R (Md × W)) → Rho → R (Option Int)
  | none, ρ => .ok none ρ
  | some f, ρ => (f ρ).bind fun b ρ1 => match b.1, b.2 with
    | .val, .int i => .ok (some i) ρ1
    | _, _ => .stk
def mSl (fa : Rho → R (Md × W)) (lo hi : Option (Rho → R (Md × W))) : Rho → R (Md × W) := fun ρ => (fa ρ).bind fun x ρ1 => (mPart lo ρ1).bind fun l ρ2 => (mPart hi ρ2).bind fun h ρ3 => match peek x.1 x.2 ρ3 with
  | some u => lift (gSl u l h) ρ3
  | none => .stk
def tMO (K : PySem.W.Frag) (Y : Yx I) (f : Option (Rho → R (Md × W))) : TO := fun σ H Q => ∃ F ρ, SR K Y.B F H σ ρ ∧ RunG K Y F H σ (mPart f ρ) fun o ρ' F' H' => Q o H'
def POM (X : Cx) (Y : Yx I) (e : Option Expr) (f : Option (Rho → R (Md × W))) : Prop := PO X e (tMO X.K Y f)
theorem po_weak {X : Cx} {e : Option Expr} {t t' : TO} (h : PO X e t) (q : ∀ σ H Q, t' σ H Q → t σ H Q) : PO X e t' := ⟨fun pins s σ H Q J hq => h.run pins s σ H Q J (q _ _ _ hq)⟩
theorem pom_none {X : Cx} {Y : Yx I} : POM X Y none none := po_weak po_none fun σ H Q hq => by
  obtain ⟨F, ρ, S, q⟩ := hq
  exact q F H S .refl
theorem pom_some {X : Cx} {Y : Yx I} {e : Expr} {f : Rho → R (Md × W)} (h : PEM X Y e f) : POM X Y (some e) (some f) := po_weak (po_some h) fun σ H Q hq => by
  obtain ⟨F, ρ, S, q⟩ := hq
  refine ⟨F, ρ, S, (RunG.bind q).imp fun b ρ1 F1 H1 S1 k1 q1 v hv => ?_⟩
  obtain ⟨m, w⟩ := b
  dsimp only at q1
  split at q1
  · exact ⟨_, hv, q1 F1 H1 S1 .refl⟩
  · exact q1.elim
def rSlM (K : PySem.W.Frag) : V → Option Int → Option Int → Hp → VK → Prop := fun x lo hi H Q => rSlL K x lo hi H Q ∨ rSlA K x lo hi H Q ∨ rSlS x lo hi H Q
theorem sl_m {X : Cx} : L2.SlR X (rSlM X.K) := L2.SlR.or sl_list (L2.SlR.or sl_tupA sl_str)
theorem cut_all {xs : List W} {lo hi : Option Int} (h : HT.sIx xs.length 0 lo = 0 ∧ HT.sIx xs.length xs.length hi = xs.length) : cutW xs lo hi = xs := by
  unfold cutW
  rw [h.1, h.2, Nat.sub_zero, List.drop_zero, List.take_length]
theorem g_sl {K : PySem.W.Frag} {x z : W} {lo hi : Option Int} {m : Md} (e : gSl x lo hi = some (m, z)) {F : Fz} {H : Hp} {vx : V} {Q : VK} (t : Tight F H) (px : PkR K F H x vx)
    (q : ∀ F' H' v, Ext [] F H F' H' → NewR K H F' H' m z v → Q v H') : rSlM K vx lo hi H Q := by
  unfold gSl at e
  split at e
  · split at e
    · rename_i hl
      cases e
      cases px.str
      exact .inr (.inr ⟨_, rfl, hl, old_val t (K := K) (z := .str _) rfl q⟩)
    · cases e
  · cases e
    obtain ⟨a, vs, rfl, hs, r⟩ := px.tup
    refine .inr (.inl ⟨a, vs, rfl, hs.seq, fun hw => ?_, fun _ p hp => new_tup t (r.cut lo hi) q hp⟩)
    rw [← r.len] at hw
    rw [cut_all hw] at q
    exact old_val t (show Rep K F H (.tup _) (.ref a) from ⟨a, vs, rfl, hs, r⟩) q
  · cases e
    obtain ⟨a, vs, rfl, hs, r⟩ := px.lst
    exact .inl ⟨a, vs, rfl, .of hs, fun p hp => new_lst t (r.cut lo hi) q hp⟩
  · cases e
    obtain ⟨a, vs, rfl, hs, r⟩ := px.frl
    exact .inl ⟨a, vs, rfl, hs.seq, fun p hp => new_lst t (r.cut lo hi) q hp⟩
  · cases e
theorem pem_slice {X : Cx} {Y : Yx I} {e : Expr} {lo hi : Option Expr} {pos p2 : Pos} {f : Rho → R (Md × W)} {fl fh : Option (Rho → R (Md × W))} (he : PEM X Y e f) (hl : POM X Y lo fl) (hh : POM X Y hi fh) : PEM X Y (.Subscript e (.Slice lo hi none p2) pos) (mSl f fl fh) :=
  pe_weak (pe_slice sl_m he hl hh) fun σ H Q hq => by
    obtain ⟨F, ρ, S, q⟩ := hq
    refine ⟨F, ρ, S, (RunG.bind q).imp fun x ρ1 F1 H1 S1 k1 q1 v1 hv1 => ?_⟩
    obtain ⟨F1', S1', k1', hd1⟩ := S1.hold hv1
    refine ⟨F1', ρ1, S1', (RunG.bind (q1.rebase k1')).imp fun l ρ2 F2 H2 S2 k2 q2 => ?_⟩
    refine ⟨F2, ρ2, S2, (RunG.bind q2).imp fun h ρ3 F3 H3 S3 k3 q3 => ?_⟩
    cases e1 : peek x.1 x.2 ρ3 with
    | none => rw [e1] at q3; exact q3.elim
    | some u =>
      rw [e1] at q3
      obtain ⟨⟨m, z⟩, ez, qz⟩ := lift_ok q3
      exact g_sl ez S3.f2 (S3.peek hd1 (k2.trans k3) e1) fun F' H' v ee hn => qz F' H' (S3.grow ee) ee.keeps v (S3.newR ee hn)
/-! ### methods of an own list -/
/-- x.append(e) -/
def mAppend (i : Nat) (I : List Nat) (fe : Rho → R (Md × W)) : Rho → R (Md × W) := fun ρ => match ownAt ρ i with
  | some (.lst _) => (fe ρ).bind fun b ρ1 => (toVal I b ρ1).bind fun w ρ2 => match ownAt ρ2 i with
    | some (.lst l) => if l.length < sizeLine then .ok (.val, .non) (ρ2.set i (.own (.lst (l ++ [w])))) else .stk
    | _ => .stk
  | _ => .stk
theorem own_list {K : PySem.W.Frag} {B : Bd} {F : Fz} {H : Hp} {σ : L2.St} {ρ : Rho} (S : SR K B F H σ ρ) {i : Nat} {w : W} (h : ownAt ρ i = some w) : ∃ a, σ[i]? = some (some (.ref a)) ∧ OwnR K F H w a := by
  obtain ⟨a, e, o, _⟩ := S.slot i _ (ownAt_get h)
  exact ⟨a, e, o⟩
section
variable {X : Cx} {Y : Yx I} {e o : Expr} {pos apos : Pos} {fe : Rho → R (Md × W)} {i : Nat}
theorem pem_append (ho : PE X o (tVar i)) (he : PEM X Y e fe) (hbase : attributeBase o "append" X.env (eval o X.env) = eval o X.env := by rfl)
    (hfew : ((backTo pos (starEach (e :: []) X.env)).all (fun x => !x.1) && (backToKw pos (keywordEach [] X.env)).all (fun x => x.1.isSome) && decide ((e :: []).length + ([] : List Keyword).length + (if ([] : List Keyword).isEmpty then 0 else 1) < 30)) = true := by rfl)
    (hline : (apos.endLine == pos.line) = true := by rfl) (hs : starEach (e :: []) X.env = (false, eval e X.env) :: starEach [] X.env := by rfl) (hplain : (backTo pos (starEach [] X.env)).any (·.1) = false := by rfl) :
    PEM X Y (.Call (.Attribute o "append" apos) [e] [] pos) (mAppend i I fe) :=
  pe_weak (pe_bm PySem.F.plainAttrs_list PySem.F.slot_list_append PySem.F.type_list_append mt_append ho (pa_cons (te := tM X.K Y fe) he pa_nil hs) hbase hfew hline hs hplain) fun σ H Q hq => by
    obtain ⟨F, ρ, S, q⟩ := hq
    unfold mAppend at q
    cases e0 : ownAt ρ i with
    | none => rw [e0] at q; exact q.elim
    | some w0 =>
      rw [e0] at q
      obtain ⟨a, ea, ow⟩ := own_list S e0
      have ty : ∀ {ρ2 F2 H2 w}, SR X.K Y.B F2 H2 σ ρ2 → ownAt ρ2 i = some (.lst w) → ∃ vs, H2 a = some (.lst vs) ∧ RepL X.K F2 H2 w vs := fun {ρ2 F2 H2 w} S2 e2 => by
        obtain ⟨b, eb, ob⟩ := own_list S2 e2
        rw [ea] at eb
        cases eb
        exact ob
      refine ⟨.ref a, ea, ?_, ?_⟩
      · cases w0 with
        | lst l => obtain ⟨vs, h1, _⟩ := ow; exact .inl ⟨rfl, vs, .of h1⟩
        | dK ks l => exact q.elim
        | obj c ns l => exact q.elim
        | _ => exact ow.elim
      · have q : RunG X.K Y F H σ ((fe ρ).bind fun b ρ1 => (toVal I b ρ1).bind fun w ρ2 => match ownAt ρ2 i with
          | some (.lst l) => if l.length < sizeLine then .ok (.val, .non) (ρ2.set i (.own (.lst (l ++ [w])))) else .stk
          | _ => .stk) fun b ρ' F' H' => ∀ v, VR X.K Y.B F' H' σ ρ' b.1 b.2 v → Q v H' := by
          cases w0 with
          | lst l => exact q
          | dK ks l => exact q.elim
          | obj c ns l => exact q.elim
          | _ => exact ow.elim
        refine ⟨F, ρ, S, (RunG.bind q).imp fun b ρ1 F1 H1 S1 k1 q1 v hv => ?_⟩
        obtain ⟨F2, w, ρ2, S2, k2, r, q2⟩ := S1.toVal hv (RunG.bind q1)
        cases e2 : ownAt ρ2 i with
        | none => rw [e2] at q2; exact q2.elim
        | some u =>
          rw [e2] at q2
          cases u with
          | lst l =>
            dsimp only at q2
            split at q2
            · rename_i hl
              obtain ⟨vs, h1, r1⟩ := ty S2 e2
              refine ⟨a, vs, v, rfl, rfl, h1, by rw [← r1.len]; exact hl, ?_⟩
              have ka : Keeps F2 H1 F2 (upd H1 a (.lst (vs ++ [v]))) := by
                obtain ⟨b, eb, ob, nf, nk⟩ := S2.slot i _ (ownAt_get e2)
                rw [ea] at eb
                cases eb
                exact ⟨fun _ h => h, fun x o ho c => by
                  have nx : x ≠ a := fun z => by
                    subst z
                    rcases c with c | c
                    · exact nf c
                    · rw [h1] at ho; cases ho; exact c trivial
                  rw [upd_ne nx]
                  exact ho⟩
              obtain ⟨S3, k3⟩ := S2.put (w' := .lst (l ++ [w])) (o := .lst (vs ++ [v])) (ownAt_get e2) ea trivial ⟨vs ++ [v], upd_same, (RepL.mono ka _ r1).append (.cons (r.mono ka) .nil)⟩
              exact q2 F2 _ S3 k3 .non rfl
            · exact q2.elim
          | _ => exact q2.elim
end
end ML

set_option maxHeartbeats 4000000
namespace ML
open PySem PySem.Spec PyProof.Rows L2
variable {I : List Nat}
section
variable {K : PySem.W.Frag} {B : Bd} {F : Fz} {H : Hp} {σ : L2.St} {ρ : Rho}
/-- an own list's items are changed -/
theorem SR.putL (S : SR K B F H σ ρ) {i : Nat} {w : W} {a : Addr} {l' : List W} {vs' : List V} (h : ownAt ρ i = some w) (e : σ[i]? = some (some (.ref a))) (r : RepL K F H l' vs') :
    SR K B F (upd H a (.lst vs')) σ (ρ.set i (.own (.lst l'))) ∧ Keeps F H F (upd H a (.lst vs')) := by
  obtain ⟨b, eb, ob, nf, nk⟩ := S.slot i _ (ownAt_get h)
  rw [e] at eb
  cases eb
  obtain ⟨u, hu, mu⟩ := ob.some
  have ka : Keeps F H F (upd H a (.lst vs')) := ⟨fun _ h => h, fun x o ho c => by
    have nx : x ≠ a := fun z => by
      subst z
      rcases c with c | c
      · exact nf c
      · rw [hu] at ho; cases ho; exact c mu
    rw [upd_ne nx]
    exact ho⟩
  exact S.put (w' := .lst l') (o := .lst vs') (ownAt_get h) e trivial ⟨vs', upd_same, r.mono ka⟩
theorem own_lst (S : SR K B F H σ ρ) {i : Nat} {l : List W} (h : ownAt ρ i = some (.lst l)) : ∃ a vs, σ[i]? = some (some (.ref a)) ∧ H a = some (.lst vs) ∧ RepL K F H l vs := by
  obtain ⟨a, e, vs, h1, h2⟩ := own_list S h
  exact ⟨a, vs, e, h1, h2⟩
end
/-! ### x.pop(), x.pop(k) -/
def mPop (i : Nat) : Rho → R (Md × W) := fun ρ => match ownAt ρ i with
  | some (.lst l) => (match l[l.length - 1]? with
    | some w => .ok (.val, w) (ρ.set i (.own (.lst l.dropLast)))
    | none => .stk)
  | _ => .stk
theorem RepL.dropLast {K : PySem.W.Frag} {F : Fz} {H : Hp} {l : List W} {vs : List V} (r : RepL K F H l vs) : RepL K F H l.dropLast vs.dropLast := by
  rw [List.dropLast_eq_take, List.dropLast_eq_take, r.len]
  exact r.take _
theorem RepL.erase {K : PySem.W.Frag} {F : Fz} {H : Hp} : ∀ {l : List W} {vs : List V} (k : Nat), RepL K F H l vs → RepL K F H (l.eraseIdx k) (vs.eraseIdx k)
  | [], _, _, h => by cases h; rfl
  | w :: l, _, 0, ⟨v, r, e, _, h2⟩ => by rw [e]; exact h2
  | w :: l, _, k + 1, ⟨v, r, e, h1, h2⟩ => by rw [e]; exact ⟨v, _, rfl, h1, RepL.erase k h2⟩
section
variable {X : Cx} {Y : Yx I} {e o : Expr} {pos apos : Pos} {fe : Rho → R (Md × W)} {i : Nat}
theorem pem_pop (ho : PE X o (tVar i)) (hbase : attributeBase o "pop" X.env (eval o X.env) = eval o X.env := by rfl) (hline : (apos.endLine == pos.line) = true := by rfl) :
    PEM X Y (.Call (.Attribute o "pop" apos) [] [] pos) (mPop i) :=
  pe_weak (pe_bm0 PySem.F.plainAttrs_list PySem.F.slot_list_pop PySem.F.type_list_pop mt_pop ho hbase hline) fun σ H Q hq => by
    obtain ⟨F, ρ, S, q⟩ := hq
    unfold mPop at q
    split at q
    · rename_i l e0
      obtain ⟨a, vs, ea, h1, r⟩ := own_lst S e0
      split at q
      · rename_i w ew
        obtain ⟨v, ev, rv⟩ := r.get ew
        rw [r.len] at ev
        obtain ⟨S2, k2⟩ := S.putL e0 ea r.dropLast
        exact ⟨.ref a, ea, .inl ⟨rfl, vs, .of h1⟩, a, vs, v, rfl, rfl, h1, ev, q F _ S2 k2 v (rv.mono k2)⟩
      · exact q.elim
    · exact q.elim
/-- x.pop(k), k a written place -/
def mPopAt (i : Nat) (k : Int) : Rho → R (Md × W) := fun ρ => match ownAt ρ i with
  | some (.lst l) => (match seqIndex? k l.length with
    | some j => (match l[j]? with
      | some w => if -(2 ^ 63) ≤ k ∧ k < 2 ^ 63 then .ok (.val, w) (ρ.set i (.own (.lst (l.eraseIdx j)))) else .stk
      | none => .stk)
    | none => .stk)
  | _ => .stk
theorem pem_popAt {k : Int} {jj : Nat} {kp : Pos} (ho : PE X o (tVar i)) (hbase : attributeBase o "pop" X.env (eval o X.env) = eval o X.env := by rfl)
    (hfew : ((backTo pos (starEach ((.Constant (.int k) jj kp) :: []) X.env)).all (fun x => !x.1) && (backToKw pos (keywordEach [] X.env)).all (fun x => x.1.isSome) && decide (((.Constant (.int k) jj kp : Expr) :: []).length + ([] : List Keyword).length + (if ([] : List Keyword).isEmpty then 0 else 1) < 30)) = true := by rfl)
    (hline : (apos.endLine == pos.line) = true := by rfl) (hs : starEach ((.Constant (.int k) jj kp) :: []) X.env = (false, eval (.Constant (.int k) jj kp) X.env) :: starEach [] X.env := by rfl) (hplain : (backTo pos (starEach [] X.env)).any (·.1) = false := by rfl) :
    PEM X Y (.Call (.Attribute o "pop" apos) [.Constant (.int k) jj kp] [] pos) (mPopAt i k) :=
  pe_weak (pe_bm PySem.F.plainAttrs_list PySem.F.slot_list_pop PySem.F.type_list_pop mt_popAt ho (pa_cons pe_int pa_nil hs) hbase hfew hline hs hplain) fun σ H Q hq => by
    obtain ⟨F, ρ, S, q⟩ := hq
    unfold mPopAt at q
    split at q
    · rename_i l e0
      obtain ⟨a, vs, ea, h1, r⟩ := own_lst S e0
      split at q
      · rename_i j ej
        split at q
        · rename_i w ew
          split at q
          · rename_i hk
            obtain ⟨v, ev, rv⟩ := r.get ew
            rw [r.len] at ej
            obtain ⟨S2, k2⟩ := S.putL e0 ea (r.erase j)
            exact ⟨.ref a, ea, .inl ⟨rfl, vs, .of h1⟩, a, vs, k, j, v, rfl, rfl, h1, hk.1, hk.2, ej, ev, q F _ S2 k2 v (rv.mono k2)⟩
          · exact q.elim
        · exact q.elim
      · exact q.elim
    · exact q.elim
/-- x[k] = e, x an own list -/
def mStoreAt (i : Nat) (I : List Nat) (fk fe : Rho → R (Md × W)) : Rho → R Fl := fun ρ => (fe ρ).bind fun b ρ1 => (toVal I b ρ1).bind fun w ρ2 => match ownAt ρ2 i with
  | some (.lst _) => (fk ρ2).bind fun kb ρ3 => (match kb.1, kb.2, ownAt ρ3 i with
    | .val, .int k, some (.lst l) => (match ixN l.length k with
      | some j => .ok .nx (ρ3.set i (.own (.lst (l.set j w))))
      | none => .stk)
    | _, _, _ => .stk)
  | _ => .stk
theorem psm_storeAt {st : Stmt} {fk : Rho → R (Md × W)} (h : PS X st (tAsg (tM X.K Y fe) (L2.gSub (tVar i) (tM X.K Y fk) rSetL))) : PSM X Y st (mStoreAt i I fk fe) := ps_weak h fun D σ H hq => by
  obtain ⟨F, ρ, S, q⟩ := hq
  refine ⟨F, ρ, S, (RunS.bindE q).imp fun b ρ1 F1 H1 S1 k1 q1 v hv => ?_⟩
  obtain ⟨F2, w, ρ2, S2, k2, r, q2⟩ := S1.toVal hv (RunS.bindE (σ := σ) q1)
  split at q2
  · rename_i l0 e0
    obtain ⟨a, vs0, ea, h1, r1⟩ := own_lst S2 e0
    refine ⟨.ref a, ea, F2, ρ2, S2, (RunS.bindE (σ := σ) q2).imp fun kb ρ3 F3 H3 S3 k3 q3 kv hkv => ?_⟩
    obtain ⟨km, kw⟩ := kb
    dsimp only at q3
    split at q3
    · rename_i k l ek
      split at q3
      · rename_i j ej
        obtain ⟨b, vs, eb, h2, r2⟩ := own_lst S3 ek
        rw [ea] at eb
        cases eb
        cases (show kv = .int k from hkv)
        obtain ⟨S4, k4⟩ := S3.putL ek ea (r2.set j (r.mono k3))
        exact ⟨a, vs, k, j, rfl, rfl, h2, by rw [← r2.len]; exact ej, q3 F3 _ σ S4 k4⟩
      · exact q3.elim
    · exact q3.elim
  · exact q2.elim
/-! ### x += e of ints -/
def mAugI (f : Int → Int → Int) (i : Nat) (I : List Nat) (fe : Rho → R (Md × W)) : Rho → R Fl := fun ρ => match ρ[i]? with
  | some (.val (.int x)) => (fe ρ).bind fun b ρ1 => (match b.1, b.2 with
    | .val, .int y => if i ∈ I then .stk else .ok .nx (ρ1.set i (.val (.int (f x y))))
    | _, _ => .stk)
  | _ => .stk
theorem psm_augI {st : Stmt} {f : Int → Int → Int} (h : PS X st (tAug i (tM X.K Y fe) (ipI f))) : PSM X Y st (mAugI f i I fe) := ps_weak h fun D σ H hq => by
  obtain ⟨F, ρ, S, q⟩ := hq
  unfold mAugI at q
  split at q
  · rename_i x ex
    obtain ⟨v, ev, rv⟩ := S.slot i _ ex
    cases rv
    refine ⟨_, ev, F, ρ, S, (RunS.bindE (σ := σ) q).imp fun b ρ1 F1 H1 S1 k1 q1 v hv => ?_⟩
    obtain ⟨m, w⟩ := b
    dsimp only at q1
    split at q1
    · split at q1
      · exact q1.elim
      · rename_i y n
        cases (show v = .int y from hv)
        exact ⟨x, y, rfl, rfl, q1 F1 H1 _ (S1.setVal (Y.un n) (w := .int (f x y)) rfl) .refl⟩
    · exact q1.elim
  · exact q.elim
end
/-! ### ranges, backwards -/
theorem it_ints {K : PySem.W.Frag} {F : Fz} {H : Hp} {J : It} {n : Nat} {f : Nat → Int} (hg : ∀ i H, i < n → J.go i H) (hy : ∀ i H x H', J.yld i H x H' → H' = H ∧ x = .int (f i)) (hs : ∀ i H, n ≤ i → J.stop i H) :
    ItR K J F H ((List.range n).map fun i => .int (f i)) := by
  intro F' H' k t i
  refine ⟨fun w ew => ?_, fun h => hs i H' (by rw [List.length_map, List.length_range] at h; exact h)⟩
  rw [List.getElem?_map] at ew
  obtain ⟨j, ej, e⟩ := Option.map_eq_some_iff.mp ew
  have lt := (List.getElem?_eq_some_iff.mp ej).1
  rw [List.length_range] at lt
  rw [List.getElem?_range lt] at ej
  cases ej
  refine ⟨hg i H' lt, fun x H'' y => ?_⟩
  obtain ⟨e1, e2⟩ := hy i H' x H'' y
  rw [e1, e2, ← e]
  exact ⟨F', .refl t, rfl⟩
def intsW (lo : Int) (n : Nat) : List W := (List.range n).map fun i => .int (lo + (i : Nat))
def okR (i : Int) : Bool := decide (-(2 ^ 62) ≤ i) && decide (i < 2 ^ 62)
theorem okR_is {i : Int} (h : okR i = true) : -(2 ^ 62) ≤ i ∧ i < 2 ^ 62 := by
  have h' : (decide (-(2 ^ 62) ≤ i) && decide (i < 2 ^ 62)) = true := h
  rw [Bool.and_eq_true_iff] at h'
  exact ⟨of_decide_eq_true h'.1, of_decide_eq_true h'.2⟩
def mRange1 (fs : List (Rho → R (Md × W))) : Rho → R (List W) := fun ρ => (mHold fs ρ).bind fun bs ρ1 => match bs with
  | [(.val, .int j)] => if okR j then .ok (intsW 0 j.toNat) ρ1 else .stk
  | _ => .stk
def mRange2 (fs : List (Rho → R (Md × W))) : Rho → R (List W) := fun ρ => (mHold fs ρ).bind fun bs ρ1 => match bs with
  | [(.val, .int i), (.val, .int j)] => if okR i && okR j then .ok (intsW i (j - i).toNat) ρ1 else .stk
  | _ => .stk
section
variable {X : Cx} {Y : Yx I} {tg a b e : Expr} {fs : List (Rho → R (Md × W))} {fe fa fb : Rho → R (Md × W)} {p pos p2 pos2 : Pos}
theorem pim_range1 (hg : Gl X "range") (hm : X.mg "range" = none) (ha : PAM X Y [a] fs) (hs : starEach [a] X.env = [(false, eval a X.env)] := by rfl) : PIM X Y tg (.Call (.Name "range" p) [a] [] pos) (mRange1 fs) := pi_weak (pi_range1 hg hm ha hs) fun σ H Q hq => by
  obtain ⟨F, ρ, S, q⟩ := hq
  refine ⟨F, ρ, S, (RunG.bind q).imp fun bs ρ1 F1 H1 S1 k1 q1 F2 vs S2 k2 hvs => ?_⟩
  split at q1
  · split at q1
    · rename_i j hj
      obtain ⟨v, r, rfl, h1, h2⟩ := hvs
      cases (show v = .int j from h1)
      cases (show r = [] from h2)
      obtain ⟨o1, o2⟩ := okR_is hj
      exact ⟨j, rfl, o1, o2, q1 F2 H1 S2 k2 _ (it_ints (fun _ _ h => h) (fun _ _ _ _ h => h) fun _ _ h => h)⟩
    · exact q1.elim
  · exact q1.elim
theorem pim_range2 (hg : Gl X "range") (hm : X.mg "range" = none) (ha : PAM X Y [a, b] fs) (hs : starEach [a, b] X.env = [(false, eval a X.env), (false, eval b X.env)] := by rfl) (hs2 : starEach [b] X.env = [(false, eval b X.env)] := by rfl) : PIM X Y tg (.Call (.Name "range" p) [a, b] [] pos) (mRange2 fs) :=
  pi_weak (pi_range2 hg hm ha hs hs2) fun σ H Q hq => by
    obtain ⟨F, ρ, S, q⟩ := hq
    refine ⟨F, ρ, S, (RunG.bind q).imp fun bs ρ1 F1 H1 S1 k1 q1 F2 vs S2 k2 hvs => ?_⟩
    split at q1
    · split at q1
      · rename_i i j hj
        rw [Bool.and_eq_true_iff] at hj
        obtain ⟨v, r, rfl, h1, u, r2, rfl, h3, h4⟩ := hvs
        cases (show v = .int i from h1)
        cases (show u = .int j from h3)
        cases (show r2 = [] from h4)
        exact ⟨i, j, rfl, ⟨(okR_is hj.1).1, (okR_is hj.1).2, (okR_is hj.2).1, (okR_is hj.2).2⟩, q1 F2 H1 S2 k2 _ (it_ints (fun _ _ h => h) (fun _ _ _ _ h => h) fun _ _ h => h)⟩
      · exact q1.elim
    · exact q1.elim
/-- reversed(x) of a list, a tuple -/
def mRev (I : List Nat) (f : Rho → R (Md × W)) : Rho → R (List W) := fun ρ => (f ρ).bind fun b ρ1 => (toVal I b ρ1).bind fun w ρ2 => lift ((itemsW w).map List.reverse) ρ2
theorem pim_rev (hg : Gl X "reversed") (hm : X.mg "reversed" = none) (he : PEM X Y e fe) (hs : starEach [e] X.env = (false, eval e X.env) :: starEach [] X.env := by rfl) : PIM X Y tg (.Call (.Name "reversed" p) [e] [] pos) (mRev I fe) := pi_weak (RT.pi_revA hg hm he hs) fun σ H Q hq => by
  obtain ⟨F, ρ, S, q⟩ := hq
  refine ⟨F, ρ, S, (RunG.bind q).imp fun b ρ1 F1 H1 S1 k1 q1 v hv => ?_⟩
  obtain ⟨F2, w, ρ2, S2, k2, r, q2⟩ := S1.toVal hv (RunG.bind q1)
  obtain ⟨ws, ew, q3⟩ := lift_ok q2
  obtain ⟨l, el, rfl⟩ := Option.map_eq_some_iff.mp ew
  have q4 := q3 F2 H1 S2 .refl
  have rev : ∀ {l : List W} {vs : List V} {i : Nat} {w : W}, l.length = vs.length → l.reverse[i]? = some w → i < vs.length ∧ l[vs.length - 1 - i]? = some w := fun {l vs i w} el ew => by
    have lt := (List.getElem?_eq_some_iff.mp ew).1
    rw [List.length_reverse] at lt
    rw [List.getElem?_reverse lt, el] at ew
    exact ⟨by omega, ew⟩
  cases w with
  | tup l' =>
    cases el
    obtain ⟨a, vs, rfl, hs, rl⟩ := r
    refine ⟨a, vs, rfl, .inr ⟨hs.seq, q4 _ fun F' H' k t i => ⟨fun w ew => ?_, fun h => by rw [List.length_reverse, rl.len] at h; exact h⟩⟩⟩
    obtain ⟨lt, eg⟩ := rev rl.len ew
    obtain ⟨v, ev, rv⟩ := rl.get eg
    refine ⟨⟨lt, vs, v, (k.sqU hs).seq, ev⟩, ?_⟩
    rintro x H'' ⟨rfl, y⟩
    have e := y vs (k.sqU hs).seq
    rw [ev] at e
    cases e
    exact ⟨F', .refl t, rv.mono k⟩
  | lst l' =>
    cases el
    obtain ⟨a, vs, rfl, fa, hs, rl⟩ := r
    refine ⟨a, vs, rfl, .inl ⟨.of hs, q4 _ fun F' H' k t i => ⟨fun w ew => ?_, fun h => by rw [List.length_reverse, rl.len] at h; exact h⟩⟩⟩
    obtain ⟨lt, eg⟩ := rev rl.len ew
    obtain ⟨v, ev, rv⟩ := rl.get eg
    have hs' : SqL X.K H' a vs := .of (k.h a _ hs (.inl fa))
    refine ⟨⟨lt, vs, v, hs', ev⟩, ?_⟩
    rintro x H'' ⟨rfl, y⟩
    have e := y vs hs'
    rw [ev] at e
    cases e
    exact ⟨F', .refl t, rv.mono k⟩
  | frl l' =>
    cases el
    obtain ⟨a, vs, rfl, hs, rl⟩ := r
    refine ⟨a, vs, rfl, .inl ⟨hs.seq, q4 _ fun F' H' k t i => ⟨fun w ew => ?_, fun h => by rw [List.length_reverse, rl.len] at h; exact h⟩⟩⟩
    obtain ⟨lt, eg⟩ := rev rl.len ew
    obtain ⟨v, ev, rv⟩ := rl.get eg
    have hs' : SqL X.K H' a vs := (k.frl hs).seq
    refine ⟨⟨lt, vs, v, hs', ev⟩, ?_⟩
    rintro x H'' ⟨rfl, y⟩
    have e := y vs hs'
    rw [ev] at e
    cases e
    exact ⟨F', .refl t, rv.mono k⟩
  | _ => cases el
/-! ### texts -/
def strsW : List W → Option (List Str)
  | [] => some []
  | .str s :: l => (strsW l).map (s :: ·)
  | _ => none
/-- x.join(l) -/
def gJoin : GW := fun x y => match x, itemsW y with
  | .str a, some l => (strsW l).bind fun ys => if (ys.map (·.length)).sum + ys.length * a.length ≤ 16777216 then some (.val, .str (Txt.join a ys)) else none
  | _, _ => none
theorem strs_rep {K : PySem.W.Frag} {F : Fz} {H : Hp} : ∀ {l : List W} {vs : List V} {ys : List Str}, RepL K F H l vs → strsW l = some ys → vs = ys.map V.str
  | [], _, _, r, e => by cases e; exact r
  | w :: l, _, ys, ⟨v, r, e0, h1, h2⟩, e => by
    cases w with
    | str s =>
      obtain ⟨zs, ez, rfl⟩ := Option.map_eq_some_iff.mp (show (strsW l).map _ = some ys from e)
      cases h1
      rw [e0, strs_rep h2 ez]
      rfl
    | _ => cases e
def mJoin (fx fl : Rho → R (Md × W)) : Rho → R (Md × W) := fun ρ => (fx ρ).bind fun x ρ1 => match x.1, x.2 with
  | .val, .str a => (mHold [fl] ρ1).bind fun bs ρ2 => (match peekL bs ρ2 with
    | some [y] => lift (gJoin (.str a) y) ρ2
    | _ => .stk)
  | _, _ => .stk
theorem pem_join {o : Expr} {apos : Pos} {fx : Rho → R (Md × W)} (ho : PEM X Y o fx) (he : PEM X Y e fe) (hbase : attributeBase o "join" X.env (eval o X.env) = eval o X.env := by rfl)
    (hfew : ((backTo pos (starEach (e :: []) X.env)).all (fun x => !x.1) && (backToKw pos (keywordEach [] X.env)).all (fun x => x.1.isSome) && decide ((e :: []).length + ([] : List Keyword).length + (if ([] : List Keyword).isEmpty then 0 else 1) < 30)) = true := by rfl)
    (hline : (apos.endLine == pos.line) = true := by rfl) (hs : starEach (e :: []) X.env = (false, eval e X.env) :: starEach [] X.env := by rfl) (hplain : (backTo pos (starEach [] X.env)).any (·.1) = false := by rfl) :
    PEM X Y (.Call (.Attribute o "join" apos) [e] [] pos) (mJoin fx fe) :=
  pe_weak (pe_bm PySem.F.plainAttrs_str PySem.F.slot_str_join PySem.F.type_str_join mt_join ho (pam_cons he pam_nil hs) hbase hfew hline hs hplain) fun σ H Q hq => by
    obtain ⟨F, ρ, S, q⟩ := hq
    refine ⟨F, ρ, S, (RunG.bind q).imp fun x ρ1 F1 H1 S1 k1 q1 v hv => ?_⟩
    obtain ⟨m, w⟩ := x
    dsimp only at q1
    split at q1
    · rename_i a
      cases (show v = .str a from hv)
      refine ⟨rfl, F1, ρ1, S1, (RunG.bind q1).imp fun bs ρ2 F2 H2 S2 k2 q2 F3 vs S3 k3 hvs => ?_⟩
      have q3 := q2.rebase k3
      split at q3
      · rename_i y ey
        obtain ⟨⟨m, z⟩, ez, qz⟩ := lift_ok q3
        obtain ⟨u, rfl, hu⟩ := PkL.one (S3.peekL hvs ey)
        unfold gJoin at ez
        split at ez
        · rename_i l ea el
          cases ea
          obtain ⟨ys, eys, e1⟩ := Option.bind_eq_some_iff.mp ez
          split at e1
          · rename_i hz
            cases e1
            obtain ⟨b, us, rfl, hs, r⟩ := hu.seq el
            have e2 := strs_rep r eys
            rw [e2] at hs
            exact ⟨_, b, ys, rfl, rfl, hs, hz, old_val S3.f2 (K := X.K) (z := .str _) rfl fun F' H' v ee hn => qz F' H' (S3.grow ee) ee.keeps v (S3.newR ee hn)⟩
          · cases e1
        · cases ez
      · exact q3.elim
    · exact q1.elim
/-! ### a def without arguments, a statement that is never reached, a try that runs through -/
theorem pem_call0 {k : Nat} {f : Addr} {fd : FuncData} {ps : List Str} {fm : List W → FR} {x : Str} (F : FnOk X.prog X.w X.K X.mg X.base (L2.CX X.prog X.w) k f fd ps (spM X.K Y.ct [] 0 fm)) (hr : Room k X.A) (hE : ∀ args, match fm args with
      | .exc _ _ _ _ => False
      | _ => True) (hg : Gl X x) (hm : X.mg x = some (.ref f)) (hk : PySem.W.keepIn X.K (.ref f) = true) (hb : Binds X.K fd ps []) (hdb : (x == ("__debug__" : Str)) = false := by decide) : PEM X Y (.Call (.Name x p) [] [] pos) (mCall I [] fm []) :=
  pe_weak (pe_call0 F hr hg hm hk hb .nil passL hdb) fun σ H Q hq => by
    have h1 := call_of (np := 0) rfl hq
    obtain ⟨F0, ρ, S, q⟩ := h1
    have q2 := q F0 H S .refl F0 [] S .refl rfl
    show spM X.K Y.ct [] 0 fm [] H Q E0
    obtain ⟨F1, args, a1, a2, a3, a4, a5⟩ := q2
    refine ⟨F1, args, a1, a2, a3, a4, ?_⟩
    have hx := hE args
    cases e : fm args with
    | ok fr w outs => rw [e] at a5; exact a5
    | exc c ns ws outs => rw [e] at hx; exact hx.elim
    | stk => rw [e] at a5; exact a5
def mStk {α : Type} : Rho → R α := fun _ => .stk
theorem psm_never {st : Stmt} : PSM X Y st mStk := ps_weak ps_never fun D σ H hq => by
  obtain ⟨F, ρ, S, q⟩ := hq
  exact q
theorem psms_never {st : List Stmt} : PSMs X Y st mStk := pss_weak pss_never fun D σ H hq => by
  obtain ⟨F, ρ, S, q⟩ := hq
  exact q
def mThru (g : Rho → R Fl) : Rho → R Fl := fun ρ => noExc (g ρ)
theorem psm_thru {body : List Stmt} {h0 : ExceptHandler} {hs : List ExceptHandler} {g : Rho → R Fl} (hb : ∀ Y' : Yx I, Y'.ct = Y.ct → (Y'.wx = fun _ _ _ _ => False) → PSMs X.nox Y' body g) : PSM X Y (.Try body (h0 :: hs) [] [] pos) (mThru g) :=
  ps_weak (ps_try_thru0 (hb ⟨Y.ct, Y.B, fun _ _ _ _ => False, Y.hI⟩ rfl rfl)) fun D σ H hq => by
    obtain ⟨F, ρ, S, q⟩ := hq
    refine ⟨F, ρ, S, ?_⟩
    unfold mThru at q
    cases e : g ρ with
    | ok fl ρ' => rw [e] at q; exact q
    | exc c ns ws ρ' => rw [e] at q; exact q.elim
    | stk => rw [e] at q; exact q
end
end ML

set_option maxHeartbeats 4000000
namespace ML
open PySem PySem.Spec PyProof.Rows L2
variable {I : List Nat}
/-! ### defs by names -/
/-- a def of the text, under its name -/
def Src (K : PySem.W.Frag) (mg : Str → Option Value) (x : Str) (st : Stmt) : Prop := ∃ fd, FunD K x x (defArgs st) (defBody st) (defScope st) [] [] (He.ga K x) fd ∧ mg x = some (.ref (He.ga K x))
/-- the def x keeps its mirror's promise, called with room k -/
def Def (P : Program) (w : World) (K : PySem.W.Frag) (mg : Str → Option Value) (base : Heap) (ct : Str → Addr) (k : Nat) (x : Str) (ps : List Str) (J : List Nat) (fm : List W → FR) : Prop :=
  ∃ f fd, mg x = some (.ref f) ∧ PySem.W.keepIn K (.ref f) = true ∧ Binds K fd ps [] ∧ FnOk P w K mg base (L2.CX P w) k f fd ps (spM K ct J ps.length fm) ∧ ∃ oc od osl, K.lookup f = some ⟨oc, od, .func fd, osl⟩
section
variable {P : Program} {w : World} {K : PySem.W.Frag} {mg : Str → Option Value} {base : Heap} {ct : Str → Addr} {j k : Nat} {x : Str} {ps : List Str} {J : List Nat} {fm : List W → FR}
theorem Def.mono (D : Def P w K mg base ct j x ps J fm) (h : j ≤ k) : Def P w K mg base ct k x ps J fm := by
  obtain ⟨f, fd, h1, h2, h3, h4, h5⟩ := D
  exact ⟨f, fd, h1, h2, h3, h4.mono h, h5⟩
theorem Def.congr {fm' : List W → FR} (D : Def P w K mg base ct k x ps J fm) (h : ∀ args, args.length = ps.length → fm' args = .stk ∨ fm' args = fm args) : Def P w K mg base ct k x ps J fm' := by
  obtain ⟨f, fd, h1, h2, h3, h4, h5⟩ := D
  refine ⟨f, fd, h1, h2, h3, h4.imp fun vs H Q E ⟨F, args, a1, a2, a3, a4, a5⟩ => ⟨F, args, a1, a2, a3, a4, ?_⟩, h5⟩
  rcases h args (by rw [a3.len, a1]) with e | e
  · rw [e] at a5; exact a5.elim
  · rw [e] at a5; exact a5
/-- from the text -/
theorem def_mk {st : Stmt} {N : List Str} {g : Rho → R Fl} (T : Src K mg x st) (S : FnScope N ps (defScope st)) (hn : ps.length ≤ N.length)
    (hbi : ∀ (kV doc pm : Value) (an : Option Addr) (cdv ct : Value) (us : List Value), us.length = ps.length → bindArgs (PySem.W.fnOf x x (defArgs st) (defBody st) (defScope st) .none kV doc pm an cdv ct) ⟨us, []⟩ = pure (ps.zip us))
    (hb : ∀ (f : Addr) (cdv : Value) (A : Around) (outer : List Env) (s : Shared) (H : Hp) (E : XK) (Y : Yx J), Room k (cxOf (L2.CX P w) P w K mg base N x (defScope st) f cdv A outer s H E).A → Y.ct = ct → Takes (cxOf (L2.CX P w) P w K mg base N x (defScope st) f cdv A outer s H E) Y.wx →
      PSMs (cxOf (L2.CX P w) P w K mg base N x (defScope st) f cdv A outer s H E) Y (defBody st) g) : Def P w K mg base ct (k + 1) x ps J (mFun J N.length g) := by
  obtain ⟨fd, F, hm⟩ := T
  obtain ⟨oc, od, dV, kV, doc, pm, an, cdv, ct, osl, _, lk, _⟩ := F.ex
  exact ⟨_, fd, hm, F.kp, F.bindsN hbi, fn_ok F S hn (fun _ _ => rfl) (hb _), oc, od, osl, lk⟩
end
section
variable {X : Cx} {Y : Yx I} {ct : Str → Addr} {k : Nat} {x : Str} {ps : List Str} {J : List Nat} {fm : List W → FR} {p pos : Pos} {e : Expr} {es : List Expr} {fs : List (Rho → R (Md × W))}
theorem pem_callD (D : Def X.prog X.w X.K X.mg X.base ct k x ps J fm) (hct : Y.ct = ct) (hr : Room k X.A) (tk : Takes X Y.wx) (hg : Gl X x) (ha : PAM X Y (e :: es) fs) (hn : fs.length = ps.length)
    (hdb : (x == ("__debug__" : Str)) = false := by decide) (he : starEach (e :: es) X.env = (false, eval e X.env) :: starEach es X.env := by rfl) (hpl : (backTo pos (starEach es X.env)).any (·.1) = false := by rfl) :
    PEM X Y (.Call (.Name x p) (e :: es) [] pos) (mCall I J fm fs) := by
  obtain ⟨f, fd, h1, h2, h3, h4, _⟩ := D
  subst hct
  exact pem_call h4 hr tk hg h1 h2 h3 ha hn hdb he hpl
theorem pem_callD0 (D : Def X.prog X.w X.K X.mg X.base ct k x [] [] fm) (hE : ∀ args, match fm args with
      | .exc _ _ _ _ => False
      | _ => True) (hct : Y.ct = ct) (hr : Room k X.A) (hg : Gl X x) (hdb : (x == ("__debug__" : Str)) = false := by decide) : PEM X Y (.Call (.Name x p) [] [] pos) (mCall I [] fm []) := by
  obtain ⟨f, fd, h1, h2, h3, h4, _⟩ := D
  subst hct
  exact pem_call0 h4 hr hE hg h1 h2 h3 hdb
theorem takesF (h : Y.wx = fun _ _ _ _ => False) : Takes X Y.wx := by
  rw [h]
  exact takes0
theorem hu200 {A : Around} (hr : Room k A) : A.units + 200 < cLine := by have := hr.un; omega
/-- a module's text or whole number, a module's tuple -/
theorem pem_gc {v : V} {w : W} (h : ∃ u, X.mg x = some u ∧ RelV v u) (hg : Gl X x) (r : ∀ F H, Rep X.K F H w v) (hdb : (x == ("__debug__" : Str)) = false := by decide) : PEM X Y (.Name x pos) (mC w) := by
  obtain ⟨u, h1, h2⟩ := h
  exact pem_glob hg h1 h2 r hdb
theorem pem_gt {ws : List W} {vs : List V} (h : ∃ a, X.mg x = some (.ref a) ∧ TupK X.K a vs ∧ RepL X.K (fun _ => False) (fun _ => none) ws vs) (hg : Gl X x) (hdb : (x == ("__debug__" : Str)) = false := by decide) : PEM X Y (.Name x pos) (mC (.tup ws)) := by
  obtain ⟨a, h1, h2, h3⟩ := h
  have k : ∀ F H, Keeps (fun _ => False) (fun _ => none) F H := fun F H => ⟨fun _ h => h.elim, fun _ _ h _ => by cases h⟩
  exact pem_glob (v := .ref a) hg h1 rfl (fun F H => ⟨a, vs, rfl, .inr h2, h3.mono (k F H)⟩) hdb
end
end ML

set_option maxHeartbeats 4000000
namespace ML
open PySem PySem.Spec PyProof.Rows L2
variable {I : List Nat}
/-! ### all, any -/
def boolsW : List W → Option (List Bool)
  | [] => some []
  | .bl b :: l => (boolsW l).map (b :: ·)
  | _ => none
theorem bools_rep {K : PySem.W.Frag} {F : Fz} {H : Hp} : ∀ {l : List W} {vs : List V} {ys : List Bool}, RepL K F H l vs → boolsW l = some ys → vs = ys.map V.bl
  | [], _, _, r, e => by cases e; exact r
  | w :: l, _, ys, ⟨v, r, e0, h1, h2⟩, e => by
    cases w with
    | bl s =>
      obtain ⟨zs, ez, rfl⟩ := Option.map_eq_some_iff.mp (show (boolsW l).map _ = some ys from e)
      cases h1
      rw [e0, bools_rep h2 ez]
      rfl
    | _ => cases e
def gAll : GC
  | [.lst l] => (boolsW l).map fun bs => (.val, .bl (bs.all id))
  | _ => none
def gAny : GC
  | [.lst l] => (boolsW l).map fun bs => (.val, .bl (bs.any id))
  | _ => none
theorem g_all {K : PySem.W.Frag} : CallW K (rAll K) gAll := by
  intro xs m z e F H vs Q t p q
  unfold gAll at e
  split at e
  · obtain ⟨bs, eb, e2⟩ := Option.map_eq_some_iff.mp e
    cases e2
    obtain ⟨v, rfl, h⟩ := p.one
    obtain ⟨a, us, rfl, hs, r⟩ := h.lst
    rw [bools_rep r eb] at hs
    exact ⟨a, bs, rfl, .of hs, old_val t (K := K) (z := .bl _) rfl q⟩
  · cases e
theorem g_any {K : PySem.W.Frag} : CallW K (rAny K) gAny := by
  intro xs m z e F H vs Q t p q
  unfold gAny at e
  split at e
  · obtain ⟨bs, eb, e2⟩ := Option.map_eq_some_iff.mp e
    cases e2
    obtain ⟨v, rfl, h⟩ := p.one
    obtain ⟨a, us, rfl, hs, r⟩ := h.lst
    rw [bools_rep r eb] at hs
    exact ⟨a, bs, rfl, .of hs, old_val t (K := K) (z := .bl _) rfl q⟩
  · cases e
/-! ### a dict of the text with text keys -/
structure DctK (K : PySem.W.Frag) (w : World) (d : Addr) (ks : List Str) (vs : List V) : Prop where
  at_ : ∃ es n, K.lookup d = some ⟨.type "dict", none, .dict es n, #[]⟩ ∧ es.toList.map He.keyOf = He.keysIn w.params ks ∧ Vals vs (es.toList.map (·.val)) ∧ (d == sysModules) = false
def lookS (z : Str) : List Str → List V → Option V
  | k :: ks, v :: vs => if k = z then some v else lookS z ks vs
  | _, _ => none
theorem find_lit {P : Params} {z : Str} : ∀ {l : List DictEntry} {ks : List Str} {vs : List V}, l.map He.keyOf = He.keysIn P ks → Vals vs (l.map (·.val)) →
    l.any (·.refKey) = false ∧ match lookS z ks vs with
      | some v => ∃ e, l.find? (·.key.isStr z) = some e ∧ RelV v e.val
      | none => l.find? (·.key.isStr z) = none
  | [], [], vs, _, r => by cases r; exact ⟨rfl, rfl⟩
  | [], k :: ks, _, h, _ => by cases h
  | e :: l, [], _, h, _ => by cases h
  | e :: l, k :: ks, vs, h, r => by
    cases r with
    | cons r1 r2 =>
      rename_i v vs'
      have h1 : He.keyOf e :: l.map He.keyOf = some (k, PyData.keyHash P k) :: He.keysIn P ks := h
      injection h1 with h2 h3
      obtain ⟨g1, g2⟩ := find_lit (z := z) h3 r2
      have hk : ∃ t, e.key = .str k t := by
        unfold He.keyOf at h2
        split at h2
        · rename_i x t q
          obtain ⟨h5, _⟩ := Prod.mk.inj (Option.some.inj h2)
          exact ⟨t, by rw [q, h5]⟩
        · cases h2
      obtain ⟨t, et⟩ := hk
      have is : e.key.isStr z = decide (k = z) := by
        rw [et]
        show (k == z) = decide (k = z)
        by_cases q : k = z
        · subst q; simp
        · rw [decide_eq_false q]; exact beq_eq_false_iff_ne.mpr q
      refine ⟨?_, ?_⟩
      · rw [List.any_cons, g1]
        have : e.refKey = false := by unfold DictEntry.refKey; rw [et]
        rw [this]
        rfl
      · unfold lookS
        by_cases q : k = z
        · rw [if_pos q]
          refine ⟨e, ?_, r1⟩
          rw [List.find?_cons, is, decide_eq_true q]
        · rw [if_neg q]
          have e2 : (e :: l).find? (·.key.isStr z) = l.find? (·.key.isStr z) := by rw [List.find?_cons, is, decide_eq_false q]
          rw [e2]
          exact g2
theorem DctK.at {K : PySem.W.Frag} {w : World} {d : Addr} {ks : List Str} {vs : List V} (D : DctK K w d ks vs) (z : Str) : match lookS z ks vs with
    | some v => KDct K w d z v
    | none => PySem.W.nsIn K d z = some none := by
  obtain ⟨es, n, h1, h2, h3, h4⟩ := D.at_
  obtain ⟨g1, g2⟩ := find_lit (z := z) h2 h3
  have lit := He.keysLit_of h2
  cases q : lookS z ks vs with
  | some v =>
    rw [q] at g2
    obtain ⟨e, e1, e2⟩ := g2
    refine ⟨es, n, e.val, h1, lit, ?_, e2⟩
    unfold PySem.W.nsIn
    rw [h1]
    show (match es.toList.find? (·.key.isStr z) with
      | some e => some (some e.val)
      | none => if es.toList.any (·.refKey) then none else some none) = _
    rw [e1]
  | none =>
    rw [q] at g2
    unfold PySem.W.nsIn
    rw [h1]
    show (match es.toList.find? (·.key.isStr z) with
      | some e => some (some e.val)
      | none => if es.toList.any (·.refKey) then none else some none) = _
    rw [g2, g1]
    rfl
def lookW (z : Str) : List Str → List W → Option W
  | k :: ks, v :: vs => if k = z then some v else lookW z ks vs
  | _, _ => none
theorem look_rep {K : PySem.W.Frag} {F : Fz} {H : Hp} {z : Str} : ∀ {ks : List Str} {ws : List W} {vs : List V}, RepL K F H ws vs → match lookW z ks ws with
    | some w => ∃ v, lookS z ks vs = some v ∧ Rep K F H w v
    | none => lookS z ks vs = none
  | [], _, _, _ => rfl
  | k :: ks, [], _, r => by cases r; rfl
  | k :: ks, w :: ws, _, ⟨v, r, e, h1, h2⟩ => by
    rw [e]
    unfold lookW lookS
    by_cases q : k = z
    · rw [if_pos q, if_pos q]
      exact ⟨v, rfl, h1⟩
    · rw [if_neg q, if_neg q]
      exact look_rep h2
/-- what a global dict is: its keys, its values -/
def GDctF (w : World) (K : PySem.W.Frag) (mg : Str → Option Value) (x : Str) (ks : List Str) (ws : List W) : Prop := ∃ d vs, mg x = some (.ref d) ∧ DctK K w d ks vs ∧ RepL K (fun _ => False) (fun _ => none) ws vs
abbrev GDct (X : Cx) (x : Str) (ks : List Str) (ws : List W) : Prop := GDctF X.w X.K X.mg x ks ws
def mInK (neg : Bool) (ks : List Str) (fa : Rho → R (Md × W)) : Rho → R (Md × W) := fun ρ => (fa ρ).bind fun b ρ1 => match b.1, b.2 with
  | .val, .str z => .ok (.val, .bl (if neg then !(ks.contains z) else ks.contains z)) ρ1
  | _, _ => .stk
def mIxK (ks : List Str) (ws : List W) (fa : Rho → R (Md × W)) : Rho → R (Md × W) := fun ρ => (fa ρ).bind fun b ρ1 => match b.1, b.2 with
  | .val, .str z => (match lookW z ks ws with
    | some w => .ok (.val, w) ρ1
    | none => .stk)
  | _, _ => .stk
theorem lookS_has {z : Str} : ∀ {ks : List Str} {vs : List V}, ks.length = vs.length → (lookS z ks vs).isSome = ks.contains z
  | [], [], _ => rfl
  | [], _ :: _, h => by cases h
  | k :: ks, [], h => by cases h
  | k :: ks, v :: vs, h => by
    unfold lookS
    have ih := lookS_has (z := z) (ks := ks) (vs := vs) (by simpa using h)
    rw [List.contains_cons]
    by_cases q : k = z
    · subst q
      rw [if_pos rfl]
      simp
    · rw [if_neg q, ih]
      have : (z == k) = false := beq_eq_false_iff_ne.mpr fun e => q e.symm
      rw [this, Bool.false_or]
section
variable {X : Cx} {Y : Yx I} {a : Expr} {x : Str} {ks : List Str} {ws : List W} {fa : Rho → R (Md × W)} {pos p : Pos}
theorem dct_len (D : GDct X x ks ws) : ks.length = ws.length := by
  obtain ⟨d, vs, _, ⟨es, n, _, h2, h3, _⟩, r⟩ := D
  have e1 : (es.toList.map He.keyOf).length = ks.length := by rw [h2]; unfold He.keysIn; rw [List.length_map]
  have e2 := h3.length
  rw [List.length_map] at e1 e2
  rw [r.len, e2, e1]
/-- x in D, x not in D -/
theorem pem_inK (D : GDct X x ks ws) (hg : Gl X x) (ha : PEM X Y a fa) (hdb : (x == ("__debug__" : Str)) = false := by decide) (hb : behindInMarks .In (.Name x p) = false := by rfl) : PEM X Y (.Compare a [.In] [.Name x p] pos) (mInK false ks fa) := by
  have hl := dct_len D
  obtain ⟨d, vs, h1, h2, h3⟩ := D
  obtain ⟨es, n, g1, g2, g3, g4⟩ := h2.at_
  have KD : KDict X.K X.w d es n := ⟨g1, He.keysLit_of g2, g4⟩
  refine pe_weak (pe_cmpR (op_in_kd KD) ha (pe_glob (v := .ref d) hg h1 rfl hdb) hb) fun σ H Q hq => ?_
  obtain ⟨F, ρ, S, q⟩ := hq
  refine ⟨F, ρ, S, (RunG.bind q).imp fun b ρ1 F1 H1 S1 k1 q1 v hv => ?_⟩
  obtain ⟨m, w⟩ := b
  dsimp only at q1
  split at q1
  · rename_i z
    cases (show v = .str z from hv)
    have D := h2.at z
    have hs := lookS_has (z := z) (ks := ks) (vs := vs) (by rw [hl, h3.len])
    cases e : lookS z ks vs with
    | some v =>
      rw [e] at D hs
      obtain ⟨es', n', u, _, _, e3, _⟩ := D
      refine ⟨z, _, rfl, rfl, e3, ?_⟩
      exact q1 F1 H1 S1 .refl _ (by show V.bl true = V.bl (ks.contains z); rw [← hs]; rfl)
    | none =>
      rw [e] at D hs
      refine ⟨z, _, rfl, rfl, D, ?_⟩
      exact q1 F1 H1 S1 .refl _ (by show V.bl false = V.bl (ks.contains z); rw [← hs]; rfl)
  · exact q1.elim
theorem pem_notInK (D : GDct X x ks ws) (hg : Gl X x) (ha : PEM X Y a fa) (hdb : (x == ("__debug__" : Str)) = false := by decide) (hb : behindInMarks .NotIn (.Name x p) = false := by rfl) : PEM X Y (.Compare a [.NotIn] [.Name x p] pos) (mInK true ks fa) := by
  have hl := dct_len D
  obtain ⟨d, vs, h1, h2, h3⟩ := D
  obtain ⟨es, n, g1, g2, g3, g4⟩ := h2.at_
  have KD : KDict X.K X.w d es n := ⟨g1, He.keysLit_of g2, g4⟩
  refine pe_weak (pe_cmpR (op_notIn_kd KD) ha (pe_glob (v := .ref d) hg h1 rfl hdb) hb) fun σ H Q hq => ?_
  obtain ⟨F, ρ, S, q⟩ := hq
  refine ⟨F, ρ, S, (RunG.bind q).imp fun b ρ1 F1 H1 S1 k1 q1 v hv => ?_⟩
  obtain ⟨m, w⟩ := b
  dsimp only at q1
  split at q1
  · rename_i z
    cases (show v = .str z from hv)
    have D := h2.at z
    have hs := lookS_has (z := z) (ks := ks) (vs := vs) (by rw [hl, h3.len])
    cases e : lookS z ks vs with
    | some v =>
      rw [e] at D hs
      obtain ⟨es', n', u, _, _, e3, _⟩ := D
      refine ⟨z, _, rfl, rfl, e3, ?_⟩
      exact q1 F1 H1 S1 .refl _ (by show V.bl false = V.bl (!(ks.contains z)); rw [← hs]; rfl)
    | none =>
      rw [e] at D hs
      refine ⟨z, _, rfl, rfl, D, ?_⟩
      exact q1 F1 H1 S1 .refl _ (by show V.bl true = V.bl (!(ks.contains z)); rw [← hs]; rfl)
  · exact q1.elim
/-- as a test -/
theorem ptm_inK (D : GDct X x ks ws) (hg : Gl X x) (ha : PEM X Y a fa) (hdb : (x == ("__debug__" : Str)) = false := by decide) (hb : behindInMarks .In (.Name x p) = false := by rfl) : PTM X Y (.Compare a [.In] [.Name x p] pos) (mTest (mInK false ks fa)) := by
  have hl := dct_len D
  obtain ⟨d, vs, h1, h2, h3⟩ := D
  obtain ⟨es, n, g1, g2, g3, g4⟩ := h2.at_
  have KD : KDict X.K X.w d es n := ⟨g1, He.keysLit_of g2, g4⟩
  refine pt_weak (pt_cmpR (op_in_kd KD) ha (pe_glob (v := .ref d) hg h1 rfl hdb) hb) fun σ H Q hq => ?_
  obtain ⟨F, ρ, S, q⟩ := test_of hq
  refine ⟨F, ρ, S, (RunG.bind q).imp fun b ρ1 F1 H1 S1 k1 q1 v hv => ?_⟩
  obtain ⟨m, w⟩ := b
  dsimp only at q1
  split at q1
  · rename_i z
    cases (show v = .str z from hv)
    have D := h2.at z
    have hs := lookS_has (z := z) (ks := ks) (vs := vs) (by rw [hl, h3.len])
    cases e : lookS z ks vs with
    | some v =>
      rw [e] at D hs
      obtain ⟨es', n', u, _, _, e3, _⟩ := D
      refine ⟨z, _, rfl, rfl, e3, ?_⟩
      exact q1 F1 H1 S1 .refl (.bl true) (by show V.bl true = V.bl (ks.contains z); rw [← hs]; rfl)
    | none =>
      rw [e] at D hs
      refine ⟨z, _, rfl, rfl, D, ?_⟩
      exact q1 F1 H1 S1 .refl (.bl false) (by show V.bl false = V.bl (ks.contains z); rw [← hs]; rfl)
  · exact q1.elim
theorem ptm_notInK (D : GDct X x ks ws) (hg : Gl X x) (ha : PEM X Y a fa) (hdb : (x == ("__debug__" : Str)) = false := by decide) (hb : behindInMarks .NotIn (.Name x p) = false := by rfl) : PTM X Y (.Compare a [.NotIn] [.Name x p] pos) (mTest (mInK true ks fa)) := by
  have hl := dct_len D
  obtain ⟨d, vs, h1, h2, h3⟩ := D
  obtain ⟨es, n, g1, g2, g3, g4⟩ := h2.at_
  have KD : KDict X.K X.w d es n := ⟨g1, He.keysLit_of g2, g4⟩
  refine pt_weak (pt_cmpR (op_notIn_kd KD) ha (pe_glob (v := .ref d) hg h1 rfl hdb) hb) fun σ H Q hq => ?_
  obtain ⟨F, ρ, S, q⟩ := test_of hq
  refine ⟨F, ρ, S, (RunG.bind q).imp fun b ρ1 F1 H1 S1 k1 q1 v hv => ?_⟩
  obtain ⟨m, w⟩ := b
  dsimp only at q1
  split at q1
  · rename_i z
    cases (show v = .str z from hv)
    have D := h2.at z
    have hs := lookS_has (z := z) (ks := ks) (vs := vs) (by rw [hl, h3.len])
    cases e : lookS z ks vs with
    | some v =>
      rw [e] at D hs
      obtain ⟨es', n', u, _, _, e3, _⟩ := D
      refine ⟨z, _, rfl, rfl, e3, ?_⟩
      exact q1 F1 H1 S1 .refl (.bl false) (by show V.bl false = V.bl (!(ks.contains z)); rw [← hs]; rfl)
    | none =>
      rw [e] at D hs
      refine ⟨z, _, rfl, rfl, D, ?_⟩
      exact q1 F1 H1 S1 .refl (.bl true) (by show V.bl true = V.bl (!(ks.contains z)); rw [← hs]; rfl)
  · exact q1.elim
/-- D[x] -/
theorem pem_ixK (D : GDct X x ks ws) (hg : Gl X x) (ha : PEM X Y a fa) (hs : PlainIx a := by exact fun _ _ => rfl) (hdb : (x == ("__debug__" : Str)) = false := by decide) : PEM X Y (.Subscript (.Name x p) a pos) (mIxK ks ws fa) := by
  obtain ⟨d, vs, h1, h2, h3⟩ := D
  refine pe_weak (pe_ix ix_kdict (pe_glob (v := .ref d) hg h1 rfl hdb) ha hs) fun σ H Q hq => ?_
  obtain ⟨F, ρ, S, q⟩ := hq
  refine ⟨F, ρ, S, (RunG.bind q).imp fun b ρ1 F1 H1 S1 k1 q1 v hv => ?_⟩
  obtain ⟨m, w⟩ := b
  dsimp only at q1
  split at q1
  · rename_i z
    cases (show v = .str z from hv)
    split at q1
    · rename_i w2 e
      have kk : Keeps (fun _ => False) (fun _ => none) F1 H1 := ⟨fun _ h => h.elim, fun _ _ h _ => by cases h⟩
      have L := look_rep (z := z) (ks := ks) (h3.mono kk)
      rw [e] at L
      obtain ⟨v2, e2, r2⟩ := L
      have D2 := h2.at z
      rw [e2] at D2
      exact ⟨d, z, v2, rfl, rfl, D2, q1 F1 H1 S1 .refl v2 r2⟩
    · exact q1.elim
  · exact q1.elim
end
/-! ### a local name that holds one of some defs -/
def mCallL (I : List Nat) (i : Nat) (cs : List (Str × (List W → FR))) (fs : List (Rho → R (Md × W))) : Rho → R (Md × W) := fun ρ => match ρ[i]? with
  | some (.val (.fn x)) => (match cs.lookup x with
    | some fm => mCall I [] fm fs ρ
    | none => .stk)
  | _ => .stk
/-- the defs that it may hold -/
def Cands (X : Cx) (ct : Str → Addr) (k : Nat) (ps : List Str) (cs : List (Str × (List W → FR))) : Prop := ∀ (x : Str) (fm : List W → FR), cs.lookup x = some fm → X.mg x = some (.ref (He.ga X.K x)) ∧ Def X.prog X.w X.K X.mg X.base ct k x ps [] fm
theorem cands_nil {X : Cx} {ct : Str → Addr} {k : Nat} {ps : List Str} : Cands X ct k ps [] := fun x fm e => by cases e
theorem cands_cons {X : Cx} {ct : Str → Addr} {k : Nat} {ps : List Str} {cs : List (Str × (List W → FR))} {y : Str} {st : Stmt} {gm : List W → FR} (T : Src X.K X.mg y st) (D : Def X.prog X.w X.K X.mg X.base ct k y ps [] gm) (C : Cands X ct k ps cs) : Cands X ct k ps ((y, gm) :: cs) := fun x fm e => by
  have e1 : (match x == y with
    | true => some gm
    | false => cs.lookup x) = some fm := e
  cases q : x == y with
  | true =>
    rw [q] at e1
    cases e1
    have := beq_iff_eq.mp q
    subst this
    obtain ⟨fd, _, hm⟩ := T
    exact ⟨hm, D⟩
  | false =>
    rw [q] at e1
    exact C x fm e1
section
variable {X : Cx} {Y : Yx I} {ct : Str → Addr} {k i np : Nat} {x : Str} {ps : List Str} {cs : List (Str × (List W → FR))} {p pos : Pos} {e : Expr} {es : List Expr} {fs : List (Rho → R (Md × W))}
theorem pem_callL (C : Cands X ct k ps cs) (hct : Y.ct = ct) (hr : Room k X.A) (tk : Takes X Y.wx) (hv : PE X (.Name x p) (tVar i)) (ha : PAM X Y (e :: es) fs) (hn : fs.length = ps.length)
    (he : starEach (e :: es) X.env = (false, eval e X.env) :: starEach es X.env := by rfl) (hpl : (backTo pos (starEach es X.env)).any (·.1) = false := by rfl) :
    PEM X Y (.Call (.Name x p) (e :: es) [] pos) (mCallL I i cs fs) := ⟨fun pins s σ H Q J hq => by
  obtain ⟨F, ρ, S, q⟩ := hq
  unfold mCallL at q
  split at q
  · rename_i y ey
    split at q
    · rename_i fm ef
      obtain ⟨hga, f, fd, h1, h2, h3, h4, _⟩ := C y fm ef
      rw [hga] at h1
      cases h1
      subst hct
      obtain ⟨v, ev, rv⟩ := S.slot i _ ey
      cases (show v = .ref (He.ga X.K y) from rv)
      refine wpAny_Call_Name_kw (thn (hv.run pins s σ H (fun u H2 => u = .ref (He.ga X.K y) ∧ H2 = H) J ⟨_, ev, rfl, rfl⟩) fun u s1 ⟨v1, H1, J1, r1, e1, e2⟩ => ?_)
      subst e1 e2
      cases r1
      have hw := call_of hn (Y := Y) (J := []) (fm := fm) (σ := σ) (Q := Q) ⟨F, ρ, S, q⟩
      refine PySem.W.callWith_K (h₀ := X.base) J1.ok.mod.kin h2 (thn (ha.run pos pins s1 σ _ _ J1 hw) fun us s2 ⟨vs, H2, J2, r2, q2⟩ => ⟨J2.kIn, ?_⟩) he hpl
      exact run_fnS h4 hr h3 (passAt tk σ) J2 r2 q2
    · exact q.elim
  · exact q.elim⟩
end
end ML

set_option maxHeartbeats 4000000
namespace ML
open PySem PySem.Spec PyProof.Rows L2 He
/-! ### the head's facts -/
def tupAtB (K : PySem.W.Frag) (p : PySem.W.Frag → Addr) (vs : List Dv) : Bool := match K.lookup (p K) with
  | some ⟨.type c, _, .seq its _, _⟩ => decide (c = "tuple") && (decide (its.size ≤ sizeLine) && relAll (vs.map (Dv.v K)) its.toList)
  | _ => false
theorem tupAtB_ok {K : PySem.W.Frag} {p : PySem.W.Frag → Addr} {vs : List Dv} (h : tupAtB K p vs = true) : TupK K (p K) (vs.map (Dv.v K)) := by
  unfold tupAtB at h
  split at h
  · rename_i oc od its n osl q
    obtain ⟨h1, h2⟩ := ba h
    obtain ⟨h3, h4⟩ := ba h2
    exact ⟨_, its, n, q, congrArg Value.type (of_decide_eq_true h1), rfl, of_decide_eq_true h3, relAll_ok h4⟩
  · cases h
def lstAtB (K : PySem.W.Frag) (p : PySem.W.Frag → Addr) (vs : List Dv) : Bool := match K.lookup (p K) with
  | some ⟨.type c, none, .seq its _, _⟩ => decide (c = "list") && (decide (its.size ≤ sizeLine) && relAll (vs.map (Dv.v K)) its.toList)
  | _ => false
theorem lstAtB_ok {K : PySem.W.Frag} {p : PySem.W.Frag → Addr} {vs : List Dv} (h : lstAtB K p vs = true) : LstK K (p K) (vs.map (Dv.v K)) := by
  unfold lstAtB at h
  split at h
  · rename_i oc its n osl q
    obtain ⟨h1, h2⟩ := ba h
    obtain ⟨h3, h4⟩ := ba h2
    exact ⟨_, its, n, q, congrArg Value.type (of_decide_eq_true h1), rfl, rfl, of_decide_eq_true h3, relAll_ok h4⟩
  · cases h
/-- the i-th value of the dict x, of the tuple at p -/
def dvAt (x : Str) (i : Nat) (K : PySem.W.Frag) : Addr := match K.lookup (ga K x) with
  | some ⟨_, _, .dict es _, _⟩ => (match es.toList[i]? with
    | some e => (match e.val with
      | .ref a => a
      | _ => 0)
    | none => 0)
  | _ => 0
def sqAt (p : PySem.W.Frag → Addr) (i : Nat) (K : PySem.W.Frag) : Addr := match K.lookup (p K) with
  | some ⟨_, _, .seq its _, _⟩ => (match its.toList[i]? with
    | some (.ref a) => a
    | _ => 0)
  | _ => 0
def gaP (x : Str) (K : PySem.W.Frag) : Addr := ga K x
def dctB (K : PySem.W.Frag) (x : Str) (vs : List Dv) : Bool := match K.lookup (ga K x) with
  | some ⟨.type c, none, .dict es n, sl⟩ => decide (c = "dict") && (sl.isEmpty && (!(ga K x == sysModules) && relAll (vs.map (Dv.v K)) (es.toList.map (·.val))))
  | _ => false
theorem dctK_ok {K : PySem.W.Frag} {w : World} {x : Str} {vs : List Dv} {ks : List Str} (h : dctB K x vs = true) (hk : dicW K (ga K x) = some (keysIn w.params ks)) : DctK K w (ga K x) ks (vs.map (Dv.v K)) := by
  unfold dctB at h
  split at h
  · rename_i c es n sl q
    obtain ⟨h1, h2⟩ := ba h
    obtain ⟨h3, h4⟩ := ba h2
    obtain ⟨h5, h6⟩ := ba h4
    have e1 : c = "dict" := of_decide_eq_true h1
    have e2 : sl = #[] := Array.isEmpty_iff.mp h3
    have e5 : (ga K x == sysModules) = false := by
      cases z : (ga K x == sysModules) with
      | false => rfl
      | true => rw [z] at h5; cases h5
    subst e1
    subst e2
    refine ⟨es, n, q, ?_, relAll_ok h6, e5⟩
    unfold dicW at hk
    rw [q] at hk
    dsimp only at hk
    split at hk
    · exact Option.some.inj hk
    · cases hk
  · cases h
/-- a Hook with one more Bool -/
abbrev AlM : Type := AlT × Bool
def obsM (fa : List Fa) (fn : List DefD) (ts : List Tab) (more : PySem.W.Frag → Bool) (K : PySem.W.Frag) : AlM := (obsT fa fn ts K, more K)
def valM (fn : List DefD) (ts : List Tab) (w : World) : AlM := (valT fn ts w, true)
def obsMG (n : Nat) (fa : List Fa) (fn : List DefD) (ts : List Tab) (more : PySem.W.Frag → Bool) (g : Addr → Option Obj) : AlM := obsM fa fn ts more (frG g (asD g n))
def SaysM (fa : List Fa) (fn : List DefD) (ts : List Tab) (more : PySem.W.Frag → Bool) (w : World) (K : PySem.W.Frag) : Prop := obsM fa fn ts more K = valM fn ts w
def hookM (n : Nat) (fa : List Fa) (fn : List DefD) (ts : List Tab) (more : PySem.W.Frag → Bool) : PySem.W.Hook where
  α := AlM
  obs := fun s => obsMG n fa fn ts more s.heap.get?
  val := fun w => valM fn ts w
  says := fun w h => ∃ K : PySem.W.Frag, K.In h ∧ SaysM fa fn ts more w K
  of := fun _ _ e => ⟨_, frG_in, e⟩
  keeps := fun _ _ _ ⟨K, hK, c⟩ k => ⟨K, PySem.W.Frag.In.keeps hK k, c⟩
theorem obsMG_eq {n : Nat} {fa : List Fa} {fn : List DefD} {ts : List Tab} {more : PySem.W.Frag → Bool} {g : Addr → Option Obj} {s : Shared} (h : ∀ a, g a = s.heap.get? a) : obsMG n fa fn ts more g = (hookM n fa fn ts more).obs s := by
  have e : g = s.heap.get? := funext h
  rw [e] <;> rfl
section
variable {fa : List Fa} {fn : List DefD} {ts : List Tab} {more : PySem.W.Frag → Bool} {w : World} {K : PySem.W.Frag}
theorem SaysM.t (c : SaysM fa fn ts more w K) : SaysT fa fn ts w K := congrArg (fun z : AlM => z.1) c
theorem SaysM.m (c : SaysM fa fn ts more w K) : more K = true := congrArg (fun z : AlM => z.2) c
theorem SaysM.fact (c : SaysM fa fn ts more w K) (i : Nat) {f : Fa} (h : fa[i]? = some f := by rfl) : f.ok K = true := c.t.d.fact i h
theorem SaysM.tabK (c : SaysM fa fn ts more w K) (i : Nat) {t : Tab} (h : ts[i]? = some t := by rfl) : dicW K (t.1 K) = some (keysIn w.params t.2) := by
  have e : ts.map (fun t => dicW K (t.1 K)) = ts.map fun t => some (keysIn w.params t.2) := congrArg (fun z : AlT => z.2) c.t
  have e2 : (ts.map fun t => dicW K (t.1 K))[i]? = (ts.map fun t => some (keysIn w.params t.2))[i]? := by rw [e]
  rw [List.getElem?_map, List.getElem?_map, h] at e2
  exact Option.some.inj e2
/-- all of some checks -/
theorem all_at {l : List (PySem.W.Frag → Bool)} (h : (l.all fun f => f K) = true) (i : Nat) {f : PySem.W.Frag → Bool} (e : l[i]? = some f := by rfl) : f K = true := List.all_eq_true.mp h f (List.mem_of_getElem? e)
theorem src_ok {h : Heap} {mg : Str → Option Value} (X : K.In h) (G : h.Ns mainGlobals mg) (c : SaysM fa fn ts more w K) (i j : Nat) {x : Str} {st : Stmt} (e : fn[i]? = some ⟨(x, none), x, x, defArgs st, defBody st, defScope st, [], []⟩ := by rfl) (e2 : fa[j]? = some (.glo x) := by rfl) : Src K mg x st := by
  obtain ⟨fd, F⟩ := c.t.d.def_ i e
  exact ⟨fd, F, glo_ok X G (c.fact j e2)⟩
end
/-! ### the law -/
theorem fn0 {P : Program} {w : World} {K : PySem.W.Frag} {mg : Str → Option Value} {base : Heap} {k : Nat} {f : Addr} {fd : FuncData} {ps : List Str} {sp : Sp} (F : FnOk P w K mg base (L2.CX P w) k f fd ps sp) : FnOk P w K mg base CX0 k f fd ps (fun vs H Q _ => sp vs H Q fun _ _ _ => False) :=
  ⟨fun vs H Q _ h => F.len vs H Q _ h, fun A outer s H args us vs Q E hr he hb hv hs => codeAny_mono (F.run A outer s H args us vs Q _ hr he hb hv hs) fun r s' hq => by
    cases r with
    | ok fl => cases fl <;> exact hq
    | error e =>
      obtain ⟨_, _, _, _, _, _, _, _, _, _, _, _, z⟩ := (show L2.CX P w outer H s (fun _ _ _ => False) e s' from hq)
      exact z.elim⟩
/-- what is wanted of the law's mirror -/
def spEnd (K : PySem.W.Frag) (fm : List W → FR) : Sp := fun vs H Q _ => spM K (He.ga K) [] 1 fm vs H Q fun _ _ _ => False
theorem end_sp {K : PySem.W.Frag} {fm : List W → FR} (hfm : ∀ ns : List Int, ns.length ≤ 63 → fm [.frl (ns.map W.int)] = .ok false (.bl true) []) (H : Hp) (a : Addr) (ns : List Int) (hn : ns.length ≤ 63) (hO : Only H) (hS : SqL K H a (ns.map V.int)) :
    spEnd K fm [.ref a] H (fun v _ => v = .bl true) fun _ _ _ => False := by
  have reps : ∀ (F : Fz) (H : Hp) (l : List Int), RepL K F H (l.map W.int) (l.map V.int) := fun F H l => by
    induction l with
    | nil => rfl
    | cons i l ih => exact ⟨_, _, rfl, rfl, ih⟩
  have hF : FrlL K H a (ns.map V.int) := by
    rcases hS with (h | h) | h
    · rcases hO a with q | ⟨o, xs, q⟩
      · rw [q] at h; cases h
      · rw [q] at h; cases h
    · exact .inl h
    · exact .inr h
  refine ⟨fun _ => False, [.frl (ns.map W.int)], rfl, fun _ h => h.elim, ⟨.ref a, [], rfl, ⟨a, _, rfl, hF, reps _ _ _⟩, rfl⟩, ⟨rfl, fun p hp => by cases hp⟩, ?_⟩
  rw [hfm ns hn]
  intro F' H' v _ _ h
  exact h
/-- the law's def as the end wants it -/
theorem end_fn {P : Program} {w : World} {K : PySem.W.Frag} {mg : Str → Option Value} {k : Nat} {x p : Str} {st : Stmt} {f : Addr} {fm : List W → FR} (T : Src K mg x st) (hfa : mg x = some (.ref f))
    (hb : ∀ (fd : FuncData), FunD K x x (defArgs st) (defBody st) (defScope st) [] [] (He.ga K x) fd → ∀ (s : Shared) (v : Value), BindsTo s fd ⟨[v], []⟩ [(p, v)])
    (D : ∀ base : Heap, K.In base → base.Ns mainGlobals mg → Def P w K mg base (He.ga K) k x [p] [] fm) :
    ∃ fd : FuncData, (∀ (s : Shared) (v : Value), BindsTo s fd ⟨[v], []⟩ [(p, v)]) ∧ ∀ base : Heap, K.In base → base.Ns mainGlobals mg → FnOk P w K mg base CX0 k f fd [p] (spEnd K fm) := by
  obtain ⟨fd, F, hm⟩ := T
  refine ⟨fd, hb fd F, fun base hK hG => ?_⟩
  obtain ⟨f', fd', h1, _, _, h4, oc, od, osl, lk⟩ := D base hK hG
  rw [hfa] at h1 hm
  cases h1
  have e : f = He.ga K x := by cases hm; rfl
  obtain ⟨oc2, od2, _, _, _, _, _, _, _, osl2, _, lk2, _⟩ := F.ex
  rw [e, lk2] at lk
  cases lk
  exact fn0 h4
end ML

set_option maxHeartbeats 4000000
namespace ML
open PySem PySem.Spec PyProof.Rows L2
/-! ### reckoning with mirrors: what each does at a frame that is known -/
section
variable {α β : Type} {I J : List Nat} {ρ : Rho}
@[simp] theorem ev_bo (a : α) (ρ : Rho) (k : α → Rho → R β) : R.bind (.ok a ρ) k = k a ρ := rfl
@[simp] theorem ev_bs (k : α → Rho → R β) : R.bind .stk k = .stk := rfl
@[simp] theorem ev_bx (c : Str) (ns : List Str) (ws : List W) (ρ : Rho) (k : α → Rho → R β) : R.bind (.exc c ns ws ρ) k = .exc c ns ws ρ := rfl
@[simp] theorem ev_ls (a : α) : lift (some a) ρ = .ok a ρ := rfl
@[simp] theorem ev_ln : lift (none : Option α) ρ = .stk := rfl
theorem ev_var (i : Nat) : mVar i ρ = (match ρ[i]? with
  | some (.val w) => .ok (.val, w) ρ
  | some (.own w) => .ok (.bor i, w) ρ
  | _ => .stk) := rfl
@[simp] theorem ev_c (w : W) : mC w ρ = .ok (.val, w) ρ := rfl
@[simp] theorem ev_op (g : GW) (fa fb : Rho → R (Md × W)) : mOp g fa fb ρ = (fa ρ).bind fun x ρ1 => (fb ρ1).bind fun y ρ2 => (match peek x.1 x.2 ρ2, peek y.1 y.2 ρ2 with
  | some u, some v => lift (g u v) ρ2
  | _, _ => .stk) := rfl
@[simp] theorem ev_pv (w : W) : peek .val w ρ = some w := rfl
@[simp] theorem ev_pf (w : W) : peek .fre w ρ = some w := rfl
@[simp] theorem ev_pb (i : Nat) (w : W) : peek (.bor i) w ρ = (match ρ[i]? with
  | some (.own u) => some u
  | some (.val u) => some u
  | _ => none) := rfl
@[simp] theorem ev_tv (w : W) : toVal I (.val, w) ρ = .ok w ρ := rfl
@[simp] theorem ev_tf (w : W) : toVal I (.fre, w) ρ = .ok w ρ := rfl
@[simp] theorem ev_tb (i : Nat) (w : W) : toVal I (.bor i, w) ρ = (match ρ[i]? with
  | some (.own u) => if i ∈ I then .stk else .ok u (ρ.set i (.val u))
  | some (.val u) => .ok u ρ
  | _ => .stk) := rfl
@[simp] theorem ev_seq (g g' : Rho → R Fl) : mSeq g g' ρ = thenF (g ρ) g' := rfl
@[simp] theorem ev_tn (k : Rho → R Fl) : thenF (.ok .nx ρ) k = k ρ := rfl
@[simp] theorem ev_tr (m : Md) (w : W) (k : Rho → R Fl) : thenF (.ok (.rt m w) ρ) k = .ok (.rt m w) ρ := rfl
@[simp] theorem ev_tbk (k : Rho → R Fl) : thenF (.ok .bk ρ) k = .ok .bk ρ := rfl
@[simp] theorem ev_tct (k : Rho → R Fl) : thenF (.ok .ct ρ) k = .ok .ct ρ := rfl
@[simp] theorem ev_ts (k : Rho → R Fl) : thenF .stk k = .stk := rfl
@[simp] theorem ev_tx (c : Str) (ns : List Str) (ws : List W) (k : Rho → R Fl) : thenF (.exc c ns ws ρ) k = .exc c ns ws ρ := rfl
@[simp] theorem ev_lpn (k : Rho → R Fl) : loopF (.ok .nx ρ) k = k ρ := rfl
@[simp] theorem ev_lpc (k : Rho → R Fl) : loopF (.ok .ct ρ) k = k ρ := rfl
@[simp] theorem ev_lpb (k : Rho → R Fl) : loopF (.ok .bk ρ) k = .ok .nx ρ := rfl
@[simp] theorem ev_lpr (m : Md) (w : W) (k : Rho → R Fl) : loopF (.ok (.rt m w) ρ) k = .ok (.rt m w) ρ := rfl
@[simp] theorem ev_next : mNext ρ = .ok .nx ρ := rfl
@[simp] theorem ev_set (i : Nat) (f : Rho → R (Md × W)) : mSet I i f ρ = (f ρ).bind fun b ρ1 => mStore I i b ρ1 := rfl
@[simp] theorem ev_sv (i : Nat) (w : W) : mStore I i (.val, w) ρ = if i ∈ I then .stk else .ok .nx (ρ.set i (.val w)) := by
  unfold mStore
  rfl
@[simp] theorem ev_sf (i : Nat) (w : W) : mStore I i (.fre, w) ρ = if i ∈ I then .stk else .ok .nx (ρ.set i (.own w)) := by
  unfold mStore
  rfl
@[simp] theorem ev_sb (i j : Nat) (w : W) : mStore I i (.bor j, w) ρ = if i ∈ I then .stk else (toVal I (.bor j, w) ρ).bind fun w ρ1 => .ok .nx (ρ1.set i (.val w)) := by
  unfold mStore
  rfl
@[simp] theorem ev_drop (f : Rho → R (Md × W)) : mDrop f ρ = (f ρ).bind fun _ ρ1 => .ok .nx ρ1 := rfl
def retB (I : List Nat) (b : Md × W) (ρ1 : Rho) : R Fl := match b.1 with
  | .val => .ok (.rt .val b.2) ρ1
  | .fre => .ok (.rt .fre b.2) ρ1
  | .bor i => if i ∈ I then .stk else .ok (.rt .fre b.2) (ρ1.set i .no)
@[simp] theorem ev_retv (f : Rho → R (Md × W)) : mRet I f ρ = (f ρ).bind (retB I) := rfl
@[simp] theorem ev_rbv (w : W) : retB I (.val, w) ρ = .ok (.rt .val w) ρ := rfl
@[simp] theorem ev_rbf (w : W) : retB I (.fre, w) ρ = .ok (.rt .fre w) ρ := rfl
@[simp] theorem ev_rbb (i : Nat) (w : W) : retB I (.bor i, w) ρ = if i ∈ I then .stk else .ok (.rt .fre w) (ρ.set i .no) := rfl
@[simp] theorem ev_retn : mRetN ρ = .ok (.rt .val .non) ρ := rfl
@[simp] theorem ev_bool (m : Md) (c : Bool) : boolOf (m, .bl c) ρ = .ok c ρ := rfl
@[simp] theorem ev_test (f : Rho → R (Md × W)) : mTest f ρ = (f ρ).bind boolOf := rfl
@[simp] theorem ev_not (c : Rho → R Bool) : mNot c ρ = (c ρ).bind fun b ρ1 => .ok (!b) ρ1 := rfl
@[simp] theorem ev_and (c c' : Rho → R Bool) : mAnd c c' ρ = (c ρ).bind fun b ρ1 => if b then c' ρ1 else .ok false ρ1 := rfl
@[simp] theorem ev_or (c c' : Rho → R Bool) : mOr c c' ρ = (c ρ).bind fun b ρ1 => if b then .ok true ρ1 else c' ρ1 := rfl
@[simp] theorem ev_notv (f : Rho → R (Md × W)) : mNotV f ρ = ((f ρ).bind boolOf).bind fun b ρ1 => .ok (.val, .bl (!b)) ρ1 := rfl
@[simp] theorem ev_andv (f g : Rho → R (Md × W)) : mAndV f g ρ = ((f ρ).bind boolOf).bind fun b ρ1 => if b then g ρ1 else .ok (.val, .bl false) ρ1 := rfl
@[simp] theorem ev_orv (f g : Rho → R (Md × W)) : mOrV f g ρ = ((f ρ).bind boolOf).bind fun b ρ1 => if b then .ok (.val, .bl true) ρ1 else g ρ1 := rfl
@[simp] theorem ev_ife (c : Rho → R Bool) (f g : Rho → R (Md × W)) : mIfE c f g ρ = (c ρ).bind fun b ρ1 => if b then f ρ1 else g ρ1 := rfl
@[simp] theorem ev_if (c : Rho → R Bool) (f g : Rho → R Fl) : mIf c f g ρ = (c ρ).bind fun b ρ1 => if b then f ρ1 else g ρ1 := rfl
@[simp] theorem ev_isn (n : Bool) (f : Rho → R (Md × W)) : mIsN n f ρ = (f ρ).bind fun x ρ1 => .ok (.val, .bl (if n then !nonW x.2 else nonW x.2)) ρ1 := rfl
@[simp] theorem ev_gset (i : Nat) (w : W) : gSet I i w ρ = if i ∈ I then none else some (ρ.set i (.val w)) := rfl
@[simp] theorem ev_gts (t : W → Rho → Option Rho) (ts : List (W → Rho → Option Rho)) (w : W) (ws : List W) : gTups (t :: ts) (w :: ws) ρ = (t w ρ).bind fun ρ1 => gTups ts ws ρ1 := rfl
@[simp] theorem ev_gtn : gTups [] [] ρ = some ρ := rfl
@[simp] theorem ev_gtup (ts : List (W → Rho → Option Rho)) (l : List W) : gTup ts (.tup l) ρ = gTups ts l ρ := rfl
@[simp] theorem ev_asgt (t : W → Rho → Option Rho) (f : Rho → R (Md × W)) : mAsgT I t f ρ = (f ρ).bind fun b ρ1 => (toVal I b ρ1).bind fun w ρ2 => (match t w ρ2 with
  | some ρ3 => .ok .nx ρ3
  | none => .stk) := rfl
@[simp] theorem ev_forn (tg : W → Rho → Option Rho) (g : Rho → R Fl) : forL tg g [] ρ = .ok .nx ρ := rfl
theorem ev_forc (tg : W → Rho → Option Rho) (g : Rho → R Fl) (w : W) (ws : List W) : forL tg g (w :: ws) ρ = (match tg w ρ with
  | some ρ1 => loopF (g ρ1) (forL tg g ws)
  | none => .stk) := rfl
@[simp] theorem ev_for (it : Rho → R (List W)) (tg : W → Rho → Option Rho) (g : Rho → R Fl) : mFor it tg g ρ = (it ρ).bind fun ws ρ1 => forL tg g ws ρ1 := rfl
@[simp] theorem ev_itt (l : List W) : itemsW (.tup l) = some l := rfl
@[simp] theorem ev_itl (l : List W) : itemsW (.lst l) = some l := rfl
@[simp] theorem ev_itf (l : List W) : itemsW (.frl l) = some l := rfl
@[simp] theorem ev_items (f : Rho → R (Md × W)) : mItems I f ρ = (f ρ).bind fun b ρ1 => (toVal I b ρ1).bind fun w ρ2 => lift (itemsX w) ρ2 := rfl
@[simp] theorem ev_ixt (l : List W) : itemsX (.tup l) = some l := rfl
@[simp] theorem ev_ixl (l : List W) : itemsX (.lst l) = some l := rfl
@[simp] theorem ev_ixf (l : List W) : itemsX (.frl l) = some l := rfl
@[simp] theorem ev_rev (f : Rho → R (Md × W)) : mRev I f ρ = (f ρ).bind fun b ρ1 => (toVal I b ρ1).bind fun w ρ2 => lift ((itemsW w).map List.reverse) ρ2 := rfl
@[simp] theorem ev_hn : mHold [] ρ = .ok [] ρ := rfl
@[simp] theorem ev_hc (f : Rho → R (Md × W)) (fs : List (Rho → R (Md × W))) : mHold (f :: fs) ρ = (f ρ).bind fun b ρ1 => (mHold fs ρ1).bind fun bs ρ2 => .ok (b :: bs) ρ2 := rfl
@[simp] theorem ev_pn : peekL [] ρ = some [] := rfl
@[simp] theorem ev_pc (b : Md × W) (bs : List (Md × W)) : peekL (b :: bs) ρ = (match peek b.1 b.2 ρ, peekL bs ρ with
  | some w, some ws => some (w :: ws)
  | _, _ => none) := rfl
@[simp] theorem ev_vn : valsL I [] ρ = .ok [] ρ := rfl
@[simp] theorem ev_vc (b : Md × W) (bs : List (Md × W)) : valsL I (b :: bs) ρ = (toVal I b ρ).bind fun w ρ1 => (valsL I bs ρ1).bind fun ws ρ2 => .ok (w :: ws) ρ2 := rfl
@[simp] theorem ev_tup (fs : List (Rho → R (Md × W))) : mTup I fs ρ = (mHold fs ρ).bind fun bs ρ1 => (valsL I bs ρ1).bind fun ws ρ2 => if ws.length ≤ sizeLine then .ok (.val, .tup ws) ρ2 else .stk := rfl
@[simp] theorem ev_lst (fs : List (Rho → R (Md × W))) : mLst I fs ρ = (mHold fs ρ).bind fun bs ρ1 => (valsL I bs ρ1).bind fun ws ρ2 => if ws.length ≤ sizeLine then .ok (.fre, .lst ws) ρ2 else .stk := rfl
@[simp] theorem ev_cb (g : GC) (fs : List (Rho → R (Md × W))) : mCB g fs ρ = (mHold fs ρ).bind fun bs ρ1 => (match peekL bs ρ1 with
  | some ws => lift (g ws) ρ1
  | none => .stk) := rfl
@[simp] theorem ev_fun (n : Nat) (g : Rho → R Fl) (args : List W) : mFun J n g args = finF J (g (rho0 J args n)) := rfl
@[simp] theorem ev_fn : finF J (.ok .nx ρ) = (match outsOf J ρ with
  | some outs => .ok false .non outs
  | none => .stk) := rfl
@[simp] theorem ev_fv (w : W) : finF J (.ok (.rt .val w) ρ) = (match outsOf J ρ with
  | some outs => .ok false w outs
  | none => .stk) := by
  unfold finF
  cases h : outsOf J ρ <;> simp [h]
@[simp] theorem ev_ff (w : W) : finF J (.ok (.rt .fre w) ρ) = (match outsOf J ρ with
  | some outs => .ok true w outs
  | none => .stk) := by
  unfold finF
  cases h : outsOf J ρ <;> simp [h]
@[simp] theorem ev_on : outsOf [] ρ = some [] := rfl
@[simp] theorem ev_oc (i : Nat) (is : List Nat) : outsOf (i :: is) ρ = (match ownAt ρ i, outsOf is ρ with
  | some w, some ws => some (w :: ws)
  | _, _ => none) := rfl
theorem ev_own (i : Nat) : ownAt ρ i = (match ρ[i]? with
  | some (.own w) => some w
  | _ => none) := rfl
@[simp] theorem ev_call (fm : List W → FR) (fs : List (Rho → R (Md × W))) : mCall I J fm fs ρ = (mHold fs ρ).bind fun bs ρ1 => (callA I J 0 bs ρ1).bind fun xs ρ2 =>
  if (slotsX xs).Nodup ∧ posX 0 xs = J then (match resX ρ2 xs with
    | some args => (match fm args with
      | .ok fr w outs => .ok (if fr then .fre else .val, w) (putOuts (slotsX xs) outs ρ2)
      | .exc c ns ws outs => .exc c ns ws (putOuts (slotsX xs) outs ρ2)
      | .stk => .stk)
    | none => .stk)
  else .stk := rfl
@[simp] theorem ev_can (k : Nat) : callA I J k [] ρ = .ok [] ρ := rfl
@[simp] theorem ev_cac (k : Nat) (b : Md × W) (bs : List (Md × W)) : callA I J k (b :: bs) ρ = if k ∈ J then (match b.1 with
      | .bor i => (callA I J (k + 1) bs ρ).bind fun xs ρ1 => .ok (.inr i :: xs) ρ1
      | _ => .stk)
    else (toVal I b ρ).bind fun w ρ1 => (callA I J (k + 1) bs ρ1).bind fun xs ρ2 => .ok (.inl w :: xs) ρ2 := rfl
@[simp] theorem ev_sxn : slotsX [] = [] := rfl
@[simp] theorem ev_sxl (w : W) (xs : List (W ⊕ Nat)) : slotsX (.inl w :: xs) = slotsX xs := rfl
@[simp] theorem ev_sxr (i : Nat) (xs : List (W ⊕ Nat)) : slotsX (.inr i :: xs) = i :: slotsX xs := rfl
@[simp] theorem ev_pxn (k : Nat) : posX k [] = [] := rfl
@[simp] theorem ev_pxl (k : Nat) (w : W) (xs : List (W ⊕ Nat)) : posX k (.inl w :: xs) = posX (k + 1) xs := rfl
@[simp] theorem ev_pxr (k i : Nat) (xs : List (W ⊕ Nat)) : posX k (.inr i :: xs) = k :: posX (k + 1) xs := rfl
@[simp] theorem ev_rxn : resX ρ [] = some [] := rfl
@[simp] theorem ev_rxl (w : W) (xs : List (W ⊕ Nat)) : resX ρ (.inl w :: xs) = (resX ρ xs).map (w :: ·) := rfl
@[simp] theorem ev_rxr (i : Nat) (xs : List (W ⊕ Nat)) : resX ρ (.inr i :: xs) = (match ownAt ρ i, resX ρ xs with
    | some w, some ws => some (w :: ws)
    | _, _ => none) := rfl
@[simp] theorem ev_pon (ws : List W) : putOuts [] ws ρ = ρ := by
  unfold putOuts
  rfl
@[simp] theorem ev_poc (i : Nat) (is : List Nat) (w : W) (ws : List W) : putOuts (i :: is) (w :: ws) ρ = putOuts is ws (ρ.set i (.own w)) := rfl
@[simp] theorem ev_app (i : Nat) (fe : Rho → R (Md × W)) : mAppend i I fe ρ = (match ownAt ρ i with
  | some (.lst _) => (fe ρ).bind fun b ρ1 => (toVal I b ρ1).bind fun w ρ2 => (match ownAt ρ2 i with
    | some (.lst l) => if l.length < sizeLine then .ok (.val, .non) (ρ2.set i (.own (.lst (l ++ [w])))) else .stk
    | _ => .stk)
  | _ => .stk) := rfl
@[simp] theorem ev_r1 (fs : List (Rho → R (Md × W))) : mRange1 fs ρ = (mHold fs ρ).bind fun bs ρ1 => (match bs with
  | [(.val, .int j)] => if okR j then .ok (intsW 0 j.toNat) ρ1 else .stk
  | _ => .stk) := rfl
@[simp] theorem ev_r2 (fs : List (Rho → R (Md × W))) : mRange2 fs ρ = (mHold fs ρ).bind fun bs ρ1 => (match bs with
  | [(.val, .int i), (.val, .int j)] => if okR i && okR j then .ok (intsW i (j - i).toNat) ρ1 else .stk
  | _ => .stk) := rfl
@[simp] theorem ev_sl (fa : Rho → R (Md × W)) (lo hi : Option (Rho → R (Md × W))) : mSl fa lo hi ρ = (fa ρ).bind fun x ρ1 => (mPart lo ρ1).bind fun l ρ2 => (mPart hi ρ2).bind fun h ρ3 => (match peek x.1 x.2 ρ3 with
  | some u => lift (gSl u l h) ρ3
  | none => .stk) := rfl
@[simp] theorem ev_mpn : mPart none ρ = .ok none ρ := rfl
@[simp] theorem ev_mps (f : Rho → R (Md × W)) : mPart (some f) ρ = (f ρ).bind fun b ρ1 => (match b.1, b.2 with
    | .val, .int i => .ok (some i) ρ1
    | _, _ => .stk) := rfl
@[simp] theorem ev_join (fx fl : Rho → R (Md × W)) : mJoin fx fl ρ = (fx ρ).bind fun x ρ1 => (match x.1, x.2 with
  | .val, .str a => (mHold [fl] ρ1).bind fun bs ρ2 => (match peekL bs ρ2 with
    | some [y] => lift (gJoin (.str a) y) ρ2
    | _ => .stk)
  | _, _ => .stk) := rfl
@[simp] theorem ev_ink (neg : Bool) (ks : List Str) (fa : Rho → R (Md × W)) : mInK neg ks fa ρ = (fa ρ).bind fun b ρ1 => (match b.1, b.2 with
  | .val, .str z => .ok (.val, .bl (if neg then !(ks.contains z) else ks.contains z)) ρ1
  | _, _ => .stk) := rfl
@[simp] theorem ev_ixk (ks : List Str) (vs : List W) (fa : Rho → R (Md × W)) : mIxK ks vs fa ρ = (fa ρ).bind fun b ρ1 => (match b.1, b.2 with
  | .val, .str z => (match lookW z ks vs with
    | some w => .ok (.val, w) ρ1
    | none => .stk)
  | _, _ => .stk) := rfl
@[simp] theorem ev_storeAt (i : Nat) (fk fe : Rho → R (Md × W)) : mStoreAt i I fk fe ρ = (fe ρ).bind fun b ρ1 => (toVal I b ρ1).bind fun w ρ2 => (match ownAt ρ2 i with
  | some (.lst _) => (fk ρ2).bind fun kb ρ3 => (match kb.1, kb.2, ownAt ρ3 i with
    | .val, .int k, some (.lst l) => (match ixN l.length k with
      | some j => .ok .nx (ρ3.set i (.own (.lst (l.set j w))))
      | none => .stk)
    | _, _, _ => .stk)
  | _ => .stk) := rfl
@[simp] theorem ev_el (f : Rho → R (Md × W)) : mEl I f ρ = (f ρ).bind (toVal I) := rfl
theorem ev_lc (it : Rho → R (List W)) (t : CT) (c : Rho → R Bool) (fe : Rho → R (Md × W)) : mLc I it t c fe ρ = (it ρ).bind fun ws ρ1 => if t.ix.all (fun i => decide (i ∉ I)) then noExc (compL t.ix t.put c (mEl I fe) [] ws ρ1) else .stk := rfl
@[simp] theorem ev_nx (a : α) : noExc (.ok a ρ) = .ok a ρ := rfl
@[simp] theorem ev_yes : mYes ρ = .ok true ρ := rfl
@[simp] theorem ev_thru (g : Rho → R Fl) : mThru g ρ = noExc (g ρ) := rfl
@[simp] theorem ev_rhoA (k : Nat) (w : W) (ws : List W) : rhoA J k (w :: ws) = (if k ∈ J then .own w else .val w) :: rhoA J (k + 1) ws := rfl
@[simp] theorem ev_rhoN (k : Nat) : rhoA J k [] = [] := rfl
@[simp] theorem ev_rho0 (args : List W) (n : Nat) : rho0 J args n = rhoA J 0 args ++ List.replicate (n - args.length) .no := rfl
end
/-! ### operators at known values -/
@[simp] theorem ev_addI (i j : Int) : gAdd (.int i) (.int j) = some (.val, .int (i + j)) := rfl
theorem ev_addS (x y : Str) : gAdd (.str x) (.str y) = if x.length + y.length ≤ sizeLine then some (.val, .str (x ++ y)) else none := rfl
@[simp] theorem ev_addL (x y : List W) : gAdd (.lst x) (.lst y) = if x.length + y.length ≤ sizeLine then some (.fre, .lst (x ++ y)) else none := rfl
@[simp] theorem ev_addT (x y : List W) : gAdd (.tup x) (.tup y) = if x.length + y.length ≤ sizeLine then some (.val, .tup (x ++ y)) else none := rfl
@[simp] theorem ev_sub (i j : Int) : gSub (.int i) (.int j) = some (.val, .int (i - j)) := rfl
@[simp] theorem ev_mulI (i j : Int) : gMul (.int i) (.int j) = if okMul i j then some (.val, .int (i * j)) else none := rfl
theorem ev_mod {i j : Int} (h : 0 < j) : gMod (.int i) (.int j) = some (.val, .int (i % j)) := by
  unfold gMod gI
  simp [h]
theorem ev_div {i j : Int} (h : 0 < j) (h' : j < 1073741824) : gFdiv (.int i) (.int j) = some (.val, .int (i / j)) := by
  unfold gFdiv gI
  simp [h, h']
@[simp] theorem ev_cmp (p : Int → Int → Bool) (i j : Int) : gCmp p (.int i) (.int j) = some (.val, .bl (p i j)) := rfl
@[simp] theorem ev_intI (i : Int) : gInt [.int i] = some (.val, .int i) := rfl
@[simp] theorem ev_intB (k : Bool) : gInt [.bl k] = some (.val, .int (if k then 1 else 0)) := rfl
@[simp] theorem ev_strS (a : Str) : gStr [.str a] = some (.val, .str a) := rfl
@[simp] theorem ev_lenT (l : List W) : gLen [.tup l] = some (.val, .int l.length) := rfl
@[simp] theorem ev_lenL (l : List W) : gLen [.lst l] = some (.val, .int l.length) := rfl
@[simp] theorem ev_lenF (l : List W) : gLen [.frl l] = some (.val, .int l.length) := rfl
theorem ev_lenS (a : Str) : gLen [.str a] = if a.length ≤ sizeLine then some (.val, .int a.length) else none := rfl
@[simp] theorem ev_min (i j : Int) : gMin [.int i, .int j] = some (.val, .int (if j < i then j else i)) := rfl
@[simp] theorem ev_max (i j : Int) : gMax [.int i, .int j] = some (.val, .int (if j > i then j else i)) := rfl
@[simp] theorem ev_tcT (l : List W) : gTupC [.tup l] = some (.val, .tup l) := rfl
@[simp] theorem ev_tcL (l : List W) : gTupC [.lst l] = some (.val, .tup l) := rfl
@[simp] theorem ev_tcF (l : List W) : gTupC [.frl l] = some (.val, .tup l) := rfl
@[simp] theorem ev_ixT (l : List W) (i : Int) : gIx (.tup l) (.int i) = (atI l i).map fun w => (.val, w) := rfl
@[simp] theorem ev_ixL (l : List W) (i : Int) : gIx (.lst l) (.int i) = (atI l i).map fun w => (.val, w) := rfl
@[simp] theorem ev_ixF (l : List W) (i : Int) : gIx (.frl l) (.int i) = (atI l i).map fun w => (.val, w) := rfl
theorem ev_ixS (z : Str) (i : Int) : gIx (.str z) (.int i) = if z.length ≤ sizeLine then (atI z.cps.toList i).map fun c => (.val, .str ⟨#[c]⟩) else none := rfl
section
variable {α : Type}
theorem atI_nat (l : List α) (n : Nat) : atI l (n : Int) = l[n]? := by
  unfold atI ixN
  rw [if_pos (Int.natCast_nonneg n)]
  by_cases h : n < l.length
  · rw [if_pos (by omega)]
    simp
  · rw [if_neg (by omega)]
    simp [List.getElem?_eq_none (Nat.le_of_not_lt h)]
@[simp] theorem atI_0 (l : List α) : atI l 0 = l[0]? := atI_nat l 0
@[simp] theorem atI_1 (l : List α) : atI l 1 = l[1]? := atI_nat l 1
@[simp] theorem atI_lit (l : List α) (n : Nat) : atI l (no_index (OfNat.ofNat n) : Int) = l[n]? := atI_nat l n
theorem atI_of {l : List α} {i : Int} {n : Nat} (h : i = n) : atI l i = l[n]? := by rw [h, atI_nat]
end
/-! ### == on texts, whole numbers; in -/
theorem ev_eqS (x y : Str) : eqW (.str x) (.str y) = some (decide (x = y)) := by
  have h : eqW (.str x) (.str y) = some (decide (V.str x = V.str y)) := rfl
  rw [h]
  simp
theorem ev_eqI (x y : Int) : eqW (.int x) (.int y) = some (decide (x = y)) := by
  have h : eqW (.int x) (.int y) = some (decide (V.int x = V.int y)) := rfl
  rw [h]
  simp
@[simp] theorem ev_gEqS (x y : Str) : gEq (.str x) (.str y) = some (.val, .bl (decide (x = y))) := by
  unfold gEq
  rw [ev_eqS]
  rfl
@[simp] theorem ev_gEqI (x y : Int) : gEq (.int x) (.int y) = some (.val, .bl (decide (x = y))) := by
  unfold gEq
  rw [ev_eqI]
  rfl
@[simp] theorem ev_gNeS (x y : Str) : gNe (.str x) (.str y) = some (.val, .bl (!decide (x = y))) := by
  unfold gNe
  rw [ev_eqS]
  rfl
@[simp] theorem ev_gNeI (x y : Int) : gNe (.int x) (.int y) = some (.val, .bl (!decide (x = y))) := by
  unfold gNe
  rw [ev_eqI]
  rfl
theorem inV_str (x : Str) (l : List Str) : inV (V.str x) (l.map V.str) = decide (x ∈ l) := by
  unfold inV
  induction l with
  | nil => rfl
  | cons y l ih =>
    rw [List.map_cons, List.any_cons, ih]
    have e : eqV (V.str y) (V.str x) = decide (y = x) := by
      have : eqV (V.str y) (V.str x) = (y == x) := rfl
      rw [this]
      by_cases h : y = x <;> simp [h]
    rw [e]
    by_cases h : y = x
    · simp [h]
    · have h' : ¬ x = y := fun z => h z.symm
      simp [h, h']
theorem in_strs (neg : Bool) (x : Str) (l : List Str) (w : W) (h : itemsW w = some (l.map W.str)) (hw : ∀ z, w ≠ .str z) : inW neg (.str x) w = some (if neg then !decide (x ∈ l) else decide (x ∈ l)) := by
  have e1 : (l.map W.str).all flatW = true := by simp [flatW]
  have e2 : (l.map W.str).map toV = l.map V.str := by simp [toV]
  have e3 : inW neg (.str x) w = (match itemsW w with
    | some l => if flatW (.str x) && l.all flatW then some (if neg then !inV (toV (.str x)) (l.map toV) else inV (toV (.str x)) (l.map toV)) else none
    | none => none) := by
    cases w with
    | str z => exact (hw z rfl).elim
    | _ => rfl
  rw [e3, h]
  dsimp only
  rw [e1, e2, show toV (.str x) = V.str x from rfl, inV_str]
  rfl
end ML

set_option maxHeartbeats 4000000
namespace ML
open PySem PySem.Spec PyProof.Rows L2
/-! ### texts as lists of code points -/
def S (l : List Nat) : Str := ⟨l.toArray⟩
theorem S_is (l : List Nat) : S l = SX.S l := rfl
theorem S_of (x : Str) : x = S x.cps.toList := rfl
@[simp] theorem S_eq (a b : List Nat) : (S a = S b) = (a = b) := propext ⟨fun h => SX.S_inj h, fun h => by rw [h]⟩
@[simp] theorem S_ite (p : Prop) [Decidable p] (a b : List Nat) : (if p then S a else S b) = S (if p then a else b) := by split <;> rfl
@[simp] theorem S_beq (a b : List Nat) : (S a == S b) = decide (a = b) := SX.S_beq_eq
@[simp] theorem S_cps (a : List Nat) : (S a).cps.toList = a := rfl
@[simp] theorem S_len (a : List Nat) : (S a).length = a.length := SX.S_len a
@[simp] theorem S_cat (a b : List Nat) : S a ++ S b = S (a ++ b) := SX.S_cat a b
theorem line_is : sizeLine = 16777216 := rfl
theorem ev_addSS {a b : List Nat} (h : a.length + b.length ≤ 16777216) : gAdd (.str (S a)) (.str (S b)) = some (.val, .str (S (a ++ b))) := by
  rw [ev_addS, S_len, S_len, S_cat, line_is, if_pos h]
theorem ev_lenSS {a : List Nat} (h : a.length ≤ 16777216) : gLen [.str (S a)] = some (.val, .int a.length) := by
  rw [ev_lenS, S_len, line_is, if_pos h]
theorem ev_ixSS {a : List Nat} {i : Int} (h : a.length ≤ 16777216) : gIx (.str (S a)) (.int i) = (atI a i).map fun c => (.val, .str (S [c])) := by
  rw [ev_ixS, S_len, S_cps, line_is, if_pos h]
  rfl
theorem ev_strI {n : Nat} (h : n < 1000) : gStr [.int n] = some (.val, .str (S (TL.numL n))) := by
  have h1 : ((n : Int)).natAbs.log2 < 1920 := by
    rw [Int.natAbs_natCast]
    have := Nat.log2_le_self n
    omega
  have h2 : gStr [.int n] = if ((n : Int)).natAbs.log2 < 1920 then some (.val, .str (toString (n : Int))) else none := rfl
  rw [h2, if_pos h1]
  exact congrArg (fun z => some (Md.val, W.str z)) (SX.num_S n)
theorem in_SS (neg : Bool) (c : Nat) (l : List Nat) : gIn neg (.str (S [c])) (.str (S l)) = some (.val, .bl (if neg then !decide (c ∈ l) else decide (c ∈ l))) := rfl
theorem in_ST (neg : Bool) (x : List Nat) (l : List (List Nat)) (w : W) (h : itemsW w = some (l.map fun z => W.str (S z))) (hw : ∀ z, w ≠ .str z) : gIn neg (.str (S x)) w = some (.val, .bl (if neg then !decide (x ∈ l) else decide (x ∈ l))) := by
  unfold gIn
  rw [in_strs neg (S x) (l.map S) w (by rw [h, List.map_map]; rfl) hw]
  have e : (S x ∈ l.map S) = (x ∈ l) := propext ⟨fun h => by
    obtain ⟨y, hy, e⟩ := List.mem_map.mp h
    rw [S_eq] at e
    rw [← e]; exact hy, fun h => List.mem_map.mpr ⟨x, h, rfl⟩⟩
  simp only [e]
  rfl
theorem strsW_S : ∀ l : List (List Nat), strsW (l.map fun z => W.str (S z)) = some (l.map S)
  | [] => rfl
  | z :: l => by
    rw [List.map_cons, List.map_cons]
    show (strsW _).map _ = _
    rw [strsW_S l]
    rfl
theorem ev_joinS {a : List Nat} {l : List (List Nat)} {w : W} (hw : itemsW w = some (l.map fun z => W.str (S z))) (h : (l.map List.length).sum + l.length * a.length ≤ 16777216) : gJoin (.str (S a)) w = some (.val, .str (S (TL.joinL a l))) := by
  have e : gJoin (.str (S a)) w = (match itemsW w with
    | some l => (strsW l).bind fun ys => if (ys.map (·.length)).sum + ys.length * (S a).length ≤ 16777216 then some (.val, .str (Txt.join (S a) ys)) else none
    | none => none) := by
    unfold gJoin
    rw [hw]
  rw [e, hw]
  dsimp only
  rw [strsW_S, Option.bind_some, List.map_map, List.length_map, S_len]
  have e2 : (l.map ((fun x : Str => x.length) ∘ S)) = l.map List.length := List.map_congr_left fun x _ => S_len x
  rw [e2, if_pos h]
  have := SX.join_S a l
  exact congrArg (fun z => some (Md.val, W.str z)) this
@[simp] theorem ev_ixs (l : List Nat) : itemsX (.str (S l)) = some (l.map fun c => .str (S [c])) := rfl
/-! ### two lists side by side -/
inductive All2 {α β : Type} (R : α → β → Prop) : List α → List β → Prop
  | nil : All2 R [] []
  | cons {a : α} {b : β} {l : List α} {m : List β} : R a b → All2 R l m → All2 R (a :: l) (b :: m)
theorem All2.imp {α β : Type} {R Q : α → β → Prop} (f : ∀ a b, R a b → Q a b) {l : List α} {m : List β} (h : All2 R l m) : All2 Q l m := by
  induction h with
  | nil => exact .nil
  | cons h _ ih => exact .cons (f _ _ h) ih
theorem All2.len {α β : Type} {R : α → β → Prop} {l : List α} {m : List β} (h : All2 R l m) : l.length = m.length := by
  induction h with
  | nil => rfl
  | cons _ _ ih => rw [List.length_cons, List.length_cons, ih]
theorem All2.same {α : Type} {R : α → α → Prop} : ∀ {l : List α}, (∀ a ∈ l, R a a) → All2 R l l
  | [], _ => .nil
  | a :: l, h => .cons (h a (List.mem_cons_self ..)) (All2.same fun b hb => h b (List.mem_cons_of_mem _ hb))
/-- a comprehension over one name that leaves the frame alone -/
theorem comp2 {α : Type} {i : Nat} {fe : Rho → R W} {g : α → W} {Q : W → α → Prop} {ρ : Rho} (h : ∀ w z, Q w z → fe (ρ.set i (.val w)) = .ok (g z) (ρ.set i (.val w))) :
    ∀ {ws : List W} {zs : List α} {acc : List W} {ρ' : Rho}, All2 Q ws zs → acc.length + ws.length ≤ sizeLine → ρ'.set i .no = ρ → compL [i] (CT.put (.nm i)) mYes fe acc ws ρ' = .ok (.fre, .lst (acc ++ zs.map g)) ρ
  | [], _, acc, ρ', .nil, hl, hr => by
    unfold compL
    rw [if_pos (show acc.length ≤ sizeLine from hl)]
    show R.ok _ (wipeR ρ' [i]) = _
    rw [show wipeR ρ' [i] = ρ'.set i .no from rfl, hr, List.map_nil, List.append_nil]
  | w :: ws, z :: zs, acc, ρ', .cons q qs, hl, hr => by
    have hl' : acc.length + (ws.length + 1) ≤ sizeLine := hl
    unfold compL
    rw [show wipeR ρ' [i] = ρ'.set i .no from rfl, hr]
    show (R.bind (mYes (ρ.set i (.val w))) _) = _
    rw [ev_yes, ev_bo, if_pos rfl, h w z q, ev_bo, if_pos (by omega)]
    rw [comp2 h qs (by rw [List.length_append, List.length_singleton]; omega) (by rw [List.set_set, ← hr, List.set_set]), List.append_assoc]
    rfl
/-- for over one name, an invariant along two lists -/
theorem for_inv {α : Type} {i : Nat} {g : Rho → R Fl} {Q : W → α → Prop} {P : List α → Rho → Prop} (hi : i ∉ ([] : List Nat) ∨ True) : ∀ {ws : List W} {zs : List α} {ρ : Rho}, All2 Q ws zs →
    (∀ w z zs' ρ, Q w z → P (z :: zs') ρ → ∃ ρ1, g (ρ.set i (.val w)) = .ok .nx ρ1 ∧ P zs' ρ1) → P zs ρ → ∃ ρ1, forL (fun w ρ => some (ρ.set i (.val w))) g ws ρ = .ok .nx ρ1 ∧ P [] ρ1
  | [], _, ρ, .nil, _, hp => ⟨ρ, rfl, hp⟩
  | w :: ws, z :: zs, ρ, .cons q qs, h, hp => by
    obtain ⟨ρ1, e, hp1⟩ := h w z zs ρ q hp
    obtain ⟨ρ2, e2, hp2⟩ := for_inv hi qs h hp1
    refine ⟨ρ2, ?_, hp2⟩
    show loopF (g (ρ.set i (.val w))) (forL _ g ws) = _
    rw [e]
    exact e2
theorem gset_is {I : List Nat} {i : Nat} (h : i ∉ I) : gSet I i = fun w ρ => some (ρ.set i (.val w)) := by
  funext w ρ
  unfold gSet
  rw [if_neg h]
@[simp] theorem cut_from (xs : List W) (n : Nat) : cutW xs (some (no_index (OfNat.ofNat n) : Int)) none = xs.drop n := by
  have e : ∀ n : Nat, cutW xs (some (n : Int)) none = xs.drop n := fun n => by
    unfold cutW
    rw [HT.sIx_nat, HT.sIx_none]
    by_cases h : n ≤ xs.length
    · rw [Nat.min_eq_left h, List.take_of_length_le (by rw [List.length_drop]; omega)]
    · rw [Nat.min_eq_right (by omega), List.drop_eq_nil_of_le (Nat.le_refl _), List.drop_eq_nil_of_le (by omega), List.take_nil]
  exact e n
@[simp] theorem cut_from1 (xs : List W) : cutW xs (some 1) none = xs.drop 1 := cut_from xs 1
@[simp] theorem ev_slT (l : List W) (lo hi : Option Int) : gSl (.tup l) lo hi = some (.val, .tup (cutW l lo hi)) := rfl
@[simp] theorem ev_slL (l : List W) (lo hi : Option Int) : gSl (.lst l) lo hi = some (.fre, .lst (cutW l lo hi)) := rfl
/-- [m(x) for x in ..] -/
theorem e_lc1 {α : Type} {m : List W → FR} {i : Nat} {f : Rho → R (Md × W)} {bs : List W} {zs : List α} {g : α → W} {ρ : Rho} (h : All2 (fun b z => m [b] = .ok false (g z) []) bs zs) (hf : f ρ = .ok (.val, .tup bs) ρ) (hi : i < ρ.length) (hn : ρ.set i .no = ρ) (hl : bs.length ≤ sizeLine) :
    mLc [] (mItems [] f) (.nm i) mYes (mCall [] [] m [mVar i]) ρ = .ok (.fre, .lst (zs.map g)) ρ := by
  have e1 : mLc [] (mItems [] f) (.nm i) mYes (mCall [] [] m [mVar i]) ρ = noExc (compL [i] (CT.put (.nm i)) mYes (mEl [] (mCall [] [] m [mVar i])) [] bs ρ) := by
    rw [ev_lc, ev_items, hf]
    simp [CT.ix]
  rw [e1, comp2 (g := g) (Q := fun b z => m [b] = .ok false (g z) []) (ρ := ρ) ?_ h (by simpa using hl) hn]
  · rfl
  · intro w z q
    have e2 : (ρ.set i (.val w))[i]? = some (.val w) := by rw [List.getElem?_set_self hi]
    simp [ev_var, e2, q]
end ML

set_option maxHeartbeats 4000000
namespace ML
open PySem PySem.Spec PyProof.Rows L2
variable {I : List Nat}
/-! ### a text many times -/
def rRepS : R2 := fun x y H Q => ∃ s n, x = .str s ∧ y = .int n ∧ 0 ≤ n ∧ n ≤ 10000 ∧ s.length ≤ 1000 ∧ Q (.str (Txt.mul s n)) H
theorem mulOk_small {s : Str} {n : Int} (h0 : 0 ≤ n) (h1 : n ≤ 10000) (h2 : s.length ≤ 1000) : MulOk s n := by
  refine ⟨by simp; omega, fun h3 _ => ?_, fun h3 _ => ?_⟩
  · have h4 : (92233720368547 : Int) ≤ (2 ^ 63 - 1) / n := by
      refine (Int.le_ediv_iff_mul_le (by omega)).mpr ?_
      omega
    omega
  · obtain ⟨k, rfl⟩ := Int.eq_ofNat_of_zero_le h0
    have h4 : s.length * k ≤ 1000 * 10000 := Nat.mul_le_mul h2 (by omega)
    have h5 : ((k : Int)).toNat = k := rfl
    rw [h5]
    have h6 : 1000 * 10000 ≤ (sizeLine : Nat) := by decide
    exact decide_eq_false (by omega)
theorem op_repS {X : Cx} : OpR X (binaryOp .Mult) rRepS := by
  intro pins s σ H x y v u Q I rx ry h
  obtain ⟨z, n, rfl, rfl, h0, h1, h2, q⟩ := h
  obtain ⟨t, rfl⟩ := rx
  obtain ⟨t2, rfl⟩ := ry
  exact SB.mul (mulOk_small h0 h1 h2) fun t' k => ⟨.str (Txt.mul z n), H, I.tok _, ⟨_, rfl⟩, q⟩
def gMulS : GW
  | .str s, .int n => if 0 ≤ n ∧ n ≤ 10000 ∧ s.length ≤ 1000 then some (.val, .str (Txt.mul s n)) else none
  | x, y => gMul x y
def rMulS : R2 := fun x y H Q => rRepS x y H Q ∨ rMulM x y H Q
theorem o_mulS {X : Cx} : OpR X (binaryOp .Mult) rMulS := OpR.or op_repS o_mul
theorem g_mulS {K : PySem.W.Frag} : OpW K rMulS gMulS := by
  intro x y m z e F H vx vy Q t px py q
  unfold gMulS at e
  split at e
  · split at e
    · rename_i h
      cases e; cases px.str; cases py.int
      exact .inl ⟨_, _, rfl, rfl, h.1, h.2.1, h.2.2, old_val t (K := K) (z := .str _) rfl q⟩
    · cases e
  · exact .inr (g_mul x y m z e F H vx vy Q t px py q)
/-! ### a fresh list, lent as the last argument -/
def finFr (I J : List Nat) (fm : List W → FR) (n : Nat) (ρ : Rho) (bs : List (Md × W)) : R (Md × W) := match callA I J 0 bs ρ with
  | .ok xs ρ3 => if (slotsX xs).Nodup ∧ posX 0 xs = J then (match resX ρ3 xs with
    | some args => (match fm args with
      | .ok fr w outs => .ok (if fr then .fre else .val, w) ((putOuts (slotsX xs) outs ρ3).take n)
      | .exc c ns ws outs => .exc c ns ws ((putOuts (slotsX xs) outs ρ3).take n)
      | .stk => .stk)
    | none => .stk) else .stk
  | _ => .stk
def mCallF (I J : List Nat) (fm : List W → FR) (fs : List (Rho → R (Md × W))) (fl : Rho → R (Md × W)) : Rho → R (Md × W) := fun ρ => (mHold fs ρ).bind fun bs ρ1 => (fl ρ1).bind fun b ρ2 => match b with
  | (.fre, w) => finFr I J fm ρ2.length (ρ2 ++ [.own w]) (bs ++ [(.bor ρ2.length, w)])
  | _ => .stk
def tMAF (K : PySem.W.Frag) (Y : Yx I) (fs : List (Rho → R (Md × W))) (fl : Rho → R (Md × W)) : TA := fun σ H Q => ∃ F ρ, SR K Y.B F H σ ρ ∧ RunG K Y F H σ (mHold fs ρ) fun bs ρ1 F1 H1 => RunG K Y F1 H1 σ (fl ρ1) fun b ρ2 F2 H2 =>
  ∀ F3 vs v, SR K Y.B F3 H2 σ ρ2 → Keeps F2 H2 F3 H2 → HeldL σ K F3 H2 bs vs → VR K Y.B F3 H2 σ ρ2 b.1 b.2 v → Q (vs ++ [v]) H2
def PAMF (X : Cx) (Y : Yx I) (es : List Expr) (fs : List (Rho → R (Md × W))) (fl : Rho → R (Md × W)) : Prop := PA X es (tMAF X.K Y fs fl)
section
variable {X : Cx} {Y : Yx I} {e : Expr} {es : List Expr} {f fl : Rho → R (Md × W)} {fs : List (Rho → R (Md × W))}
theorem pamf_one (h1 : PEM X Y e fl) (hs : starEach [e] X.env = (false, eval e X.env) :: starEach [] X.env := by rfl) : PAMF X Y [e] [] fl := pa_weak (pa_cons h1 pa_nil hs) fun σ H Q hq => by
  obtain ⟨F, ρ, S, q⟩ := hq
  refine ⟨F, ρ, S, (show RunG _ Y F H σ (fl ρ) _ from q F H S .refl).imp fun b ρ1 F1 H1 S1 k1 q1 v hv => ?_⟩
  exact q1 F1 [] v S1 .refl rfl hv
theorem pamf_cons (h1 : PEM X Y e f) (h2 : PAMF X Y es fs fl) (hs : starEach (e :: es) X.env = (false, eval e X.env) :: starEach es X.env := by rfl) : PAMF X Y (e :: es) (f :: fs) fl := pa_weak (pa_cons h1 h2 hs) fun σ H Q hq => by
  obtain ⟨F, ρ, S, q⟩ := hq
  refine ⟨F, ρ, S, (RunG.bind q).imp fun b ρ1 F1 H1 S1 k1 q1 v hv => ?_⟩
  obtain ⟨F1', S1', k1', hd1⟩ := S1.hold hv
  refine ⟨F1', ρ1, S1', (RunG.bind (q1.rebase k1')).imp fun bs ρ2 F2 H2 S2 k2 q2 => ?_⟩
  exact (show RunG _ Y F2 H2 σ (fl ρ2) _ from q2 F2 H2 S2 .refl).imp fun c ρ3 F3 H3 S3 k3 q3 F4 vs u S4 k4 hvs hu => q3 F4 (v :: vs) u S4 k4 ⟨v, vs, rfl, hd1.mono ((k2.trans k3).trans k4), hvs⟩ hu
end
section
variable {K : PySem.W.Frag} {B : Bd} {F : Fz} {H : Hp} {σ : L2.St} {ρ : Rho}
theorem SR.plus (S : SR K B F H σ ρ) {w : W} {v : V} (h : Fre K B F H σ ρ w v) : SR K B F H (σ ++ [some v]) (ρ ++ [.own w]) := by
  obtain ⟨a, rfl, o, nf, h0, hs⟩ := h
  have new : ∀ {j : Nat} {u : W}, (ρ ++ [Sl.own w])[j]? = some (.own u) → (σ ++ [some (.ref a)])[j]? = some (some (.ref a)) → j = ρ.length := fun {j u} h1 h2 => by
    by_cases lt : j < ρ.length
    · rw [List.getElem?_append_left lt] at h1
      rw [List.getElem?_append_left (by rw [S.len]; exact lt)] at h2
      exact absurd h2 (hs j u h1)
    · have : j < (ρ ++ [Sl.own w]).length := (List.getElem?_eq_some_iff.mp h1).1
      simp at this
      omega
  refine ⟨by simp [S.len], fun i s h => ?_, fun i j u u' b h1 h2 e1 e2 => ?_, fun p hp => ?_, S.ext, S.alive, S.f0, S.f1, S.f2⟩
  · by_cases lt : i < ρ.length
    · rw [List.getElem?_append_left lt] at h
      rw [List.getElem?_append_left (by rw [S.len]; exact lt)]
      exact S.slot i s h
    · have : i < (ρ ++ [Sl.own w]).length := (List.getElem?_eq_some_iff.mp h).1
      have e : i = ρ.length := by simp at this; omega
      subst e
      rw [List.getElem?_append_right (Nat.le_refl _), Nat.sub_self] at h
      cases (Option.some.inj h)
      rw [← S.len, List.getElem?_append_right (Nat.le_refl _), Nat.sub_self]
      exact ⟨a, rfl, o, nf, fun k => k.1 h0⟩
  · by_cases li : i < ρ.length
    · by_cases lj : j < ρ.length
      · rw [List.getElem?_append_left li] at h1
        rw [List.getElem?_append_left lj] at h2
        rw [List.getElem?_append_left (by rw [S.len]; exact li)] at e1
        rw [List.getElem?_append_left (by rw [S.len]; exact lj)] at e2
        exact S.sep i j u u' b h1 h2 e1 e2
      · have : j < (ρ ++ [Sl.own w]).length := (List.getElem?_eq_some_iff.mp h2).1
        have e : j = ρ.length := by simp at this; omega
        have e2' := e2
        rw [e, ← S.len, List.getElem?_append_right (Nat.le_refl _), Nat.sub_self] at e2'
        have eb : a = b := by simpa using e2'
        subst eb
        rw [e]
        exact new h1 e1
    · have : i < (ρ ++ [Sl.own w]).length := (List.getElem?_eq_some_iff.mp h1).1
      have e : i = ρ.length := by simp at this; omega
      have e1' := e1
      rw [e, ← S.len, List.getElem?_append_right (Nat.le_refl _), Nat.sub_self] at e1'
      have eb : a = b := by simpa using e1'
      subst eb
      rw [e, new h2 e2]
  · obtain ⟨h1, u, h2⟩ := S.lent p hp
    have l1 : p.1 < σ.length := (List.getElem?_eq_some_iff.mp h1).1
    have l2 : p.1 < ρ.length := (List.getElem?_eq_some_iff.mp h2).1
    exact ⟨by rw [List.getElem?_append_left l1]; exact h1, u, by rw [List.getElem?_append_left l2]; exact h2⟩
theorem SR.minus {F' : Fz} {H' : Hp} {σ' : L2.St} {ρ' : Rho} (S : SR K B F' H' (σ ++ σ') ρ') (hI : ∀ p ∈ B.I, p.1 < σ.length) : SR K B F' H' σ (ρ'.take σ.length) := by
  have at_ : ∀ {i : Nat} {s : Sl}, (ρ'.take σ.length)[i]? = some s → i < σ.length ∧ ρ'[i]? = some s := fun {i s} h => by
    rw [List.getElem?_take] at h
    split at h
    · exact ⟨by assumption, h⟩
    · cases h
  refine ⟨?_, fun i s h => ?_, fun i j u u' b h1 h2 e1 e2 => ?_, fun p hp => ?_, S.ext, S.alive, S.f0, S.f1, S.f2⟩
  · rw [List.length_take, ← S.len, List.length_append]; omega
  · obtain ⟨l, h1⟩ := at_ h
    have := S.slot i s h1
    rwa [List.getElem?_append_left l] at this
  · obtain ⟨l1, g1⟩ := at_ h1
    obtain ⟨l2, g2⟩ := at_ h2
    exact S.sep i j u u' b g1 g2 (by rw [List.getElem?_append_left l1]; exact e1) (by rw [List.getElem?_append_left l2]; exact e2)
  · obtain ⟨h1, u, h2⟩ := S.lent p hp
    have l := hI p hp
    rw [List.getElem?_append_left l] at h1
    exact ⟨h1, u, by rw [List.getElem?_take, if_pos l]; exact h2⟩
end
theorem HeldL.plus {σ : L2.St} {K : PySem.W.Frag} {F : Fz} {H : Hp} {v : V} : ∀ {bs : List (Md × W)} {vs : List V}, HeldL σ K F H bs vs → HeldL (σ ++ [some v]) K F H bs vs
  | [], _, h => h
  | (m, w) :: bs, _, ⟨u, r, e, h1, h2⟩ => ⟨u, r, e, by
      cases m with
      | val => exact h1
      | fre => exact h1
      | bor i =>
        have h3 : σ[i]? = some (some u) := h1
        show (σ ++ [some v])[i]? = some (some u)
        rw [List.getElem?_append_left (List.getElem?_eq_some_iff.mp h3).1]
        exact h3, HeldL.plus h2⟩
theorem HeldL.snoc {σ : L2.St} {K : PySem.W.Frag} {F : Fz} {H : Hp} {b : Md × W} {v : V} (hb : Held σ K F H b.1 b.2 v) : ∀ {bs : List (Md × W)} {vs : List V}, HeldL σ K F H bs vs → HeldL σ K F H (bs ++ [b]) (vs ++ [v])
  | [], _, h => by
    have e : _ = [] := h
    subst e
    exact ⟨v, [], rfl, hb, rfl⟩
  | c :: bs, _, ⟨u, r, e, h1, h2⟩ => ⟨u, r ++ [v], by rw [e]; rfl, h1, HeldL.snoc hb h2⟩
theorem HeldL.len {σ : L2.St} {K : PySem.W.Frag} {F : Fz} {H : Hp} : ∀ {bs : List (Md × W)} {vs : List V}, HeldL σ K F H bs vs → vs.length = bs.length
  | [], _, h => by have e : _ = [] := h; rw [e]; rfl
  | b :: bs, _, ⟨v, r, e, _, h⟩ => by rw [e, List.length_cons, List.length_cons, HeldL.len h]
theorem mHold_len : ∀ {fs : List (Rho → R (Md × W))} {ρ ρ' : Rho} {bs : List (Md × W)}, mHold fs ρ = .ok bs ρ' → bs.length = fs.length
  | [], _, _, _, e => by cases e; rfl
  | f :: fs, ρ, ρ', bs, e => by
    have e1 : (f ρ).bind (fun b ρ1 => (mHold fs ρ1).bind fun bs ρ2 => .ok (b :: bs) ρ2) = .ok bs ρ' := e
    cases q1 : f ρ with
    | ok b ρ1 =>
      rw [q1] at e1
      have e2 : (mHold fs ρ1).bind (fun bs ρ2 => R.ok (b :: bs) ρ2) = .ok bs ρ' := e1
      cases q2 : mHold fs ρ1 with
      | ok bs1 ρ2 =>
        rw [q2] at e2
        cases e2
        rw [List.length_cons, List.length_cons, mHold_len q2]
      | exc c ns ws ρ2 => rw [q2] at e2; cases e2
      | stk => rw [q2] at e2; cases e2
    | exc c ns ws ρ1 => rw [q1] at e1; cases e1
    | stk => rw [q1] at e1; cases e1
theorem callF_of {K : PySem.W.Frag} {Y : Yx I} {J : List Nat} {np : Nat} {fm : List W → FR} {fs : List (Rho → R (Md × W))} {fl : Rho → R (Md × W)} {σ : L2.St} {H : Hp} {Q : VK} (hnp : fs.length + 1 = np) (hq : tM K Y (mCallF I J fm fs fl) σ H Q) :
    tMAF K Y fs fl σ H fun vs H1 => spM K Y.ct J np fm vs H1 Q (WE Y.wx σ) := by
  obtain ⟨F, ρ, S, q⟩ := hq
  have hb := RunG.bind q
  have hb2 := RunG.withP (p := fun bs => bs.length + 1 = np) (fun bs ρ1 e => by rw [mHold_len e, hnp]) hb
  refine ⟨F, ρ, S, hb2.imp fun bs ρ1 F1 H1 S1 k1 ⟨hlen, q1⟩ => (RunG.bind q1).imp fun b ρb Fb Hb Sb kb q2 F2 vs v S2 k2 hvs hv => ?_⟩
  replace q2 := q2.rebase k2
  obtain ⟨m, wl⟩ := b
  cases m with
  | val => exact q2.elim
  | bor i => exact q2.elim
  | fre =>
    have SP := S2.plus hv
    have hn : σ.length = ρb.length := S2.len
    have hI : ∀ p ∈ Y.B.I, p.1 < σ.length := fun p hp => (List.getElem?_eq_some_iff.mp (S2.lent p hp).1).1
    have HV : HeldL (σ ++ [some v]) K F2 Hb (bs ++ [(.bor ρb.length, wl)]) (vs ++ [v]) := (hvs.plus).snoc (b := (.bor ρb.length, wl)) (by
      show (σ ++ [some v])[ρb.length]? = some (some v)
      rw [← hn, List.getElem?_append_right (Nat.le_refl _), Nat.sub_self]
      rfl)
    have vl : (vs ++ [v]).length = np := by rw [HV.len, List.length_append]; exact hlen
    replace q2 : RunG K Y F2 Hb σ (finFr I J fm ρb.length (ρb ++ [.own wl]) (bs ++ [(.bor ρb.length, wl)])) _ := q2
    unfold finFr at q2
    cases ec : callA I J 0 (bs ++ [(.bor ρb.length, wl)]) (ρb ++ [.own wl]) with
    | stk => rw [ec] at q2; exact q2.elim
    | exc c ns ws ρx => rw [ec] at q2; exact q2.elim
    | ok xs ρ3 =>
      rw [ec] at q2
      dsimp only at q2
      obtain ⟨F3, xs', ρ3', S3, k3, xr, e1, e2⟩ := callA_ok (Y := Y) (J := J) (P := fun xs' ρ' _ _ => xs' = xs ∧ ρ' = ρ3) SP HV (by rw [ec]; exact fun _ _ _ _ => ⟨rfl, rfl⟩)
      subst e1 e2
      replace q2 := q2.rebase k3
      split at q2
      · rename_i hc
        cases er : resX ρ3' xs' with
        | none => rw [er] at q2; exact q2.elim
        | some args =>
          rw [er] at q2
          dsimp only at q2
          obtain ⟨g1, g2, g3⟩ := x_lent S3 (k := 0) xr er
          have el : lentA J (vs ++ [v]) = (lentX 0 xs' (vs ++ [v])).map fun t => (t.1, t.2.2) := by
            rw [← hc.2, ← g1]
            exact lentA_eq fun t ht => by have := (g3 t ht).2.1; rwa [Nat.sub_zero] at this
          have hl : ∀ (t : Nat × Nat × Addr), t ∈ lentX 0 xs' (vs ++ [v]) → (σ ++ [some v])[t.2.1]? = some (some (.ref t.2.2)) ∧ ∃ w, ρ3'[t.2.1]? = some (.own w) := fun t ht => (g3 t ht).2.2
          have nd : ((lentX 0 xs' (vs ++ [v])).map (·.2.1)).Nodup := by rw [g2]; exact hc.1
          refine ⟨F3, args, vl, S3.f2, x_args S3 xr er (fun j hj _ => by rw [hc.2]; exact hj) (fun j hj => by rw [hc.2] at hj; exact hj), ⟨?_, ?_⟩, ?_⟩
          · rw [el, List.map_map]
            show (lentX 0 xs' (vs ++ [v])).map (·.1) = J
            rw [g1, hc.2]
          · rw [el]
            intro p hp q hq epq
            obtain ⟨t, ht, et⟩ := List.mem_map.mp hp
            obtain ⟨u, hu, eu⟩ := List.mem_map.mp hq
            subst et
            subst eu
            obtain ⟨h1, w1, h2⟩ := hl t ht
            obtain ⟨h3, w2, h4⟩ := hl u hu
            have e1 : t.2.2 = u.2.2 := epq
            rw [← e1] at h3
            have es := S3.sep _ _ _ _ _ h2 h4 h1 h3
            obtain ⟨n, en⟩ := List.mem_iff_getElem?.mp ht
            obtain ⟨m, em⟩ := List.mem_iff_getElem?.mp hu
            have nm := nodup_get nd (i := n) (j := m) (x := t.2.1) (by rw [List.getElem?_map, en]; rfl) (by rw [List.getElem?_map, em, es]; rfl)
            subst nm
            rw [en] at em
            cases em
            rfl
          · have eA : (lentA J (vs ++ [v])).map (·.2) = (lentX 0 xs' (vs ++ [v])).map (·.2.2) := by
              rw [el, List.map_map]
              rfl
            rw [eA, el]
            cases ef : fm args with
            | stk => rw [ef] at q2; exact q2.elim
            | exc c ns ws outs =>
              rw [ef] at q2
              intro F' H' d ee oo x
              obtain ⟨S4, k4⟩ := sr_called S3 hl nd ee oo
              rw [g2] at S4
              have S5 := S4.minus hI
              rw [hn] at S5
              exact q2 F' H' d S5 x
            | ok fr w outs =>
              rw [ef] at q2
              intro F' H' u ee oo hu
              obtain ⟨S4, k4⟩ := sr_called S3 hl nd ee oo
              rw [g2] at S4
              have S5 := S4.minus hI
              rw [hn] at S5
              refine q2 F' H' S5 k4 u ?_
              cases fr with
              | false => exact hu
              | true =>
                obtain ⟨a, ea, o, nf, h0⟩ := hu
                refine ⟨a, ea, o, nf, ?_, fun i w' hi ei => ?_⟩
                · cases q5 : Y.B.H0 a with
                  | none => rfl
                  | some u => exact absurd h0 (S3.alive a (by rw [q5]; exact (fun z => nomatch z)))
                · have li : i < σ.length := (List.getElem?_eq_some_iff.mp ei).1
                  rw [List.getElem?_take, if_pos (by rw [← hn]; exact li)] at hi
                  have ei2 : (σ ++ [some v])[i]? = some (some (.ref a)) := by rw [List.getElem?_append_left li]; exact ei
                  have q6 : ∃ w0, ρ3'[i]? = some (.own w0) := by
                    have hlen2 : outs.length = (slotsX xs').length := by rw [oo.1, ← g2, List.length_map, List.length_map]
                    obtain ⟨_, p2⟩ := putOuts_get (ρ := ρ3') hc.1 hlen2 fun i hi => by
                      rw [← g2] at hi
                      obtain ⟨t, ht, et⟩ := List.mem_map.mp hi
                      obtain ⟨_, w, h2⟩ := hl t ht
                      rw [← et]
                      exact (List.getElem?_eq_some_iff.mp h2).1
                    rcases p2 i with ⟨n, u, e1, _, _⟩ | ⟨_, e1⟩
                    · rw [← g2, List.getElem?_map] at e1
                      obtain ⟨t, et, e1⟩ := Option.map_eq_some_iff.mp e1
                      obtain ⟨_, w0, h2⟩ := hl t (List.mem_of_getElem? et)
                      rw [e1] at h2
                      exact ⟨w0, h2⟩
                    · rw [e1] at hi
                      exact ⟨w', hi⟩
                  obtain ⟨w0, h6⟩ := q6
                  obtain ⟨b, eb, ob, _⟩ := S3.slot i _ h6
                  rw [ei2] at eb
                  cases eb
                  obtain ⟨u, hu, _⟩ := ob.some
                  rw [h0] at hu
                  cases hu
      · exact q2.elim
section
variable {X : Cx} {Y : Yx I} {J : List Nat} {k : Nat} {f : Addr} {fd : FuncData} {ps : List Str} {np : Nat} {fm : List W → FR} {x : Str} {p pos : Pos} {e : Expr} {es : List Expr} {fs : List (Rho → R (Md × W))} {fl : Rho → R (Md × W)}
theorem pem_callF (F : FnOk X.prog X.w X.K X.mg X.base (L2.CX X.prog X.w) k f fd ps (spM X.K Y.ct J np fm)) (hr : Room k X.A) (tk : Takes X Y.wx) (hg : Gl X x) (hm : X.mg x = some (.ref f)) (hk : PySem.W.keepIn X.K (.ref f) = true) (hb : Binds X.K fd ps [])
    (ha : PAMF X Y (e :: es) fs fl) (hn : fs.length + 1 = np) (hdb : (x == ("__debug__" : Str)) = false := by decide) (he : starEach (e :: es) X.env = (false, eval e X.env) :: starEach es X.env := by rfl) (hpl : (backTo pos (starEach es X.env)).any (·.1) = false := by rfl) :
    PEM X Y (.Call (.Name x p) (e :: es) [] pos) (mCallF I J fm fs fl) := pe_weak (pe_callS F hr hg hm hk hb (fun σ => passAt tk σ) ha hdb he hpl) fun _ _ _ hq => callF_of hn hq
end
section
variable {X : Cx} {Y : Yx I} {ct : Str → Addr} {k : Nat} {x : Str} {ps : List Str} {J : List Nat} {fm : List W → FR} {p pos : Pos} {e : Expr} {es : List Expr} {fs : List (Rho → R (Md × W))} {fl : Rho → R (Md × W)}
theorem pem_callFD (D : Def X.prog X.w X.K X.mg X.base ct k x ps J fm) (hct : Y.ct = ct) (hr : Room k X.A) (tk : Takes X Y.wx) (hg : Gl X x) (ha : PAMF X Y (e :: es) fs fl) (hn : fs.length + 1 = ps.length)
    (hdb : (x == ("__debug__" : Str)) = false := by decide) (he : starEach (e :: es) X.env = (false, eval e X.env) :: starEach es X.env := by rfl) (hpl : (backTo pos (starEach es X.env)).any (·.1) = false := by rfl) :
    PEM X Y (.Call (.Name x p) (e :: es) [] pos) (mCallF I J fm fs fl) := by
  obtain ⟨f, fd, h1, h2, h3, h4, _⟩ := D
  subst hct
  exact pem_callF h4 hr tk hg h1 h2 h3 ha hn hdb he hpl
end
end ML

set_option maxHeartbeats 4000000
namespace ML
open PySem PySem.Spec PyProof.Rows L2
variable {I : List Nat}
/-! ### an own class of errors: its __init__ stores its arguments -/
def spI (C : Addr) (ns : List Str) : Sp := fun vs H Q E => ∃ (a : Addr) (ys : List V), vs = .ref a :: ys ∧ ys.length = ns.length ∧ H a = some (exo a C none) ∧ ∀ d, H d = none → d ≠ a → Q .non (upd (upd H d (exd d (ns.zip ys).reverse)) a (exo a C (some d)))
inductive InitB (N : List Str) (sc : Scope) : Nat → List Str → List Stmt → Prop
  | nil {k : Nat} : InitB N sc k [] []
  | cons {k : Nat} {f x : Str} {fs : List Str} {ss : List Stmt} {p p' p2 pos : Pos} : N[k]? = some x → Vis sc x → (x == ("__debug__" : Str)) = false → (x == ("__classdict__" : Str)) = false → InitB N sc (k + 1) fs ss → InitB N sc k (f :: fs) (.Assign [.Attribute (.Name "self" p) f p'] (.Name x p2) pos :: ss)
def tIn (K : PySem.W.Frag) (C : Addr) (k : Nat) (fs : List Str) : TS := fun D σ H => OexC K C ∧ (∀ f ∈ fs, PySem.W.findIn K (.ref C) f = some none) ∧ ∃ (a : Addr) (ys : List V), ys.length = fs.length ∧ σ[0]? = some (some (.ref a)) ∧ (∀ i y, ys[i]? = some y → σ[k + i]? = some (some y)) ∧
  ((H a = some (exo a C none) ∧ fs ≠ [] ∧ fs.length ≤ 900 ∧ ∀ dx, H dx = none → dx ≠ a → D.nx σ (upd (upd H dx (exd dx (fs.zip ys).reverse)) a (exo a C (some dx)))) ∨
    ∃ (dx : Addr) (acc : List (Str × V)), H a = some (exo a C (some dx)) ∧ H dx = some (exd dx acc) ∧ dx ≠ a ∧ acc.length + fs.length ≤ 900 ∧ D.nx σ (upd H dx (exd dx ((fs.zip ys).reverse ++ acc))))
theorem upd_same2 {H : Hp} {a : Addr} {o o' : HO} : upd (upd H a o) a o' = upd H a o' := by
  funext b
  by_cases h : b = a
  · rw [h, upd_same, upd_same]
  · rw [upd_ne h, upd_ne h, upd_ne h]
theorem upd_comm {H : Hp} {a b : Addr} {o o' : HO} (n : a ≠ b) : upd (upd H a o) b o' = upd (upd H b o') a o := by
  funext c
  by_cases h : c = a
  · subst h
    rw [upd_ne n, upd_same, upd_same]
  · by_cases g : c = b
    · subst g
      rw [upd_same, upd_ne h, upd_same]
    · rw [upd_ne g, upd_ne h, upd_ne h, upd_ne g]
theorem upd_id {H : Hp} {a : Addr} {o : HO} (h : H a = some o) : upd H a o = H := by
  funext b
  by_cases g : b = a
  · rw [g, upd_same, h]
  · rw [upd_ne g]
theorem pss_init {X : Cx} {C : Addr} (h0 : X.N[0]? = some ("self" : Str)) (hv : Vis X.env.scope "self") : ∀ {k : Nat} {fs : List Str} {ss : List Stmt}, InitB X.N X.env.scope k fs ss → PSs X ss (tIn X.K C k fs)
  | k, _, _, .nil => by
    refine pss_weak pss_nil fun D σ H ⟨_, _, a, ys, hy, _, _, h⟩ => ?_
    have e : ys = [] := List.length_eq_zero_iff.mp hy
    subst e
    rcases h with ⟨_, n, _⟩ | ⟨dx, acc, _, h2, _, _, h3⟩
    · exact absurd rfl n
    · have : upd H dx (exd dx ((([] : List Str).zip ([] : List V)).reverse ++ acc)) = H := upd_id h2
      rw [this] at h3
      exact h3
  | k, _, _, .cons (f := f) (x := x) (fs := fs) (p := p) (p' := p') (p2 := p2) (pos := pos) g1 g2 g3 g4 t => by
    have ih := pss_init (C := C) h0 hv t
    refine pss_weak (pss_cons (ps_ost (pe_var (i := 0) h0 hv) (pe_var (i := k) g1 g2 g3 g4) (by rfl)) ih) fun D σ H ⟨T, hf, a, ys, hy, s0, sk, h⟩ => ?_
    cases ys with
    | nil => cases hy
    | cons y ys =>
      have hy' : ys.length = fs.length := Nat.succ.inj hy
      have y0 : σ[k]? = some (some y) := sk 0 y rfl
      have sk' : ∀ i z, ys[i]? = some z → σ[k + 1 + i]? = some (some z) := fun i z e => by
        have := sk (i + 1) z e
        rwa [show k + (i + 1) = k + 1 + i by omega] at this
      have hf' : ∀ g ∈ fs, PySem.W.findIn X.K (.ref C) g = some none := fun g hg => hf g (List.mem_cons_of_mem _ hg)
      refine ⟨y, y0, .ref a, s0, a, C, rfl, T, hf f (List.mem_cons_self ..), ?_⟩
      have ez : ((f :: fs).zip (y :: ys)).reverse = (fs.zip ys).reverse ++ [(f, y)] := by simp
      rw [ez] at h
      rcases h with ⟨h1, _, hl, h2⟩ | ⟨dx, acc, h1, h2, h3, hl, h4⟩
      · refine .inl ⟨h1, fun dx nd ne => ⟨T, hf', a, ys, hy', s0, sk', .inr ⟨dx, [(f, y)], upd_same, ?_, ne, ?_, ?_⟩⟩⟩
        · rw [upd_ne ne, upd_same]
        · simp at hl ⊢
          omega
        · have h9 := h2 dx nd ne
          rw [upd_comm (a := a) (b := dx) (Ne.symm ne), upd_same2]
          exact h9
      · refine .inr ⟨dx, acc, h1, h2, by simp at hl; omega, T, hf', a, ys, hy', s0, sk', .inr ⟨dx, (f, y) :: acc, ?_, upd_same, h3, ?_, ?_⟩⟩
        · rw [upd_ne (Ne.symm h3)]
          exact h1
        · simp at hl ⊢
          omega
        · rw [upd_same2]
          rw [List.append_assoc] at h4
          exact h4
/-- the class c of errors with the fields ns can be raised with room k -/
def Exc (P : Program) (w : World) (K : PySem.W.Frag) (mg : Str → Option Value) (base : Heap) (ct : Str → Addr) (k : Nat) (c : Str) (ns : List Str) : Prop :=
  mg c = some (.ref (ct c)) ∧ OexC K (ct c) ∧ ∃ (fI : Addr) (fd : FuncData) (ps : List Str), PySem.W.findIn K (.ref (ct c)) "__init__" = some (some (.ref fI)) ∧ PySem.W.typeIn K (.ref fI) = some (.type "function") ∧ Binds K fd ps [] ∧ FnOk P w K mg base (L2.CX P w) k fI fd ps (spI (ct c) ns)
theorem Exc.mono {P : Program} {w : World} {K : PySem.W.Frag} {mg : Str → Option Value} {base : Heap} {ct : Str → Addr} {j k : Nat} {c : Str} {ns : List Str} (D : Exc P w K mg base ct j c ns) (h : j ≤ k) : Exc P w K mg base ct k c ns := by
  obtain ⟨h1, h2, fI, fd, ps, h3, h4, h5, h6⟩ := D
  exact ⟨h1, h2, fI, fd, ps, h3, h4, h5, h6.mono h⟩
theorem init_ok {P : Program} {w : World} {K : PySem.W.Frag} {mg : Str → Option Value} {base : Heap} {x qual : Str} {params : Arguments} {body : List Stmt} {scope : Scope} {dvs : List V} {kws : List (Str × V)} {f : Addr} {fd : FuncData} {xs : List Str} {k : Nat} {C : Addr} {ns : List Str}
    (F : FunD K x qual params body scope dvs kws f fd) (S : FnScope (("self" : Str) :: xs) (("self" : Str) :: xs) scope) (hx : xs.length = ns.length) (hne : ns ≠ []) (hl : ns.length ≤ 900) (hb : InitB (("self" : Str) :: xs) scope 1 ns body) (hv : Vis scope "self") (T : OexC K C) (hf : ∀ g ∈ ns, PySem.W.findIn K (.ref C) g = some none) :
    FnOk P w K mg base (L2.CX P w) (k + 1) f fd (("self" : Str) :: xs) (spI C ns) := by
  refine F.ok S (fun vs H Q E ⟨a, ys, e, hy, _⟩ => by rw [e]; simp [hy, hx]) fun cdv A outer s H vs Q E hr ⟨a, ys, e, hy, h1, h2⟩ => ?_
  subst e
  refine ⟨_, pss_init (X := cxOf (L2.CX P w) P w K mg base (("self" : Str) :: xs) qual scope f cdv A outer s H E) (C := C) rfl hv hb, T, hf, a, ys, hy, rfl, fun i y hi => ?_, .inl ⟨h1, hne, hl, fun dx nd ne => h2 dx nd ne⟩⟩
  unfold L2.start
  have lt : i < ys.length := (List.getElem?_eq_some_iff.mp hi).1
  rw [List.getElem?_append_left (by simp; omega), List.getElem?_map, show 1 + i = i + 1 by omega, List.getElem?_cons_succ, hi]
  rfl
end ML
namespace ML
open PySem PySem.Spec PyProof.Rows L2
variable {I : List Nat}
/-! ### raise -/
def mRaise (I : List Nat) (c : Str) (ns : List Str) (fs : List (Rho → R (Md × W))) : Rho → R Fl := fun ρ => (mHold fs ρ).bind fun bs ρ1 => (valsL I bs ρ1).bind fun ws ρ2 => if ws.length = ns.length ∧ ns ≠ [] ∧ ns.length ≤ 900 then .exc c ns.reverse ws.reverse ρ2 else .stk
theorem zip_rev {α β : Type} : ∀ {l : List α} {m : List β}, l.length = m.length → (l.zip m).reverse = l.reverse.zip m.reverse
  | [], [], _ => rfl
  | a :: l, b :: m, h => by
    have h' : l.length = m.length := Nat.succ.inj h
    rw [List.zip_cons_cons, List.reverse_cons, List.reverse_cons, List.reverse_cons, zip_rev h', List.zip_append (by simp [h'])]
    rfl
section
variable {X : Cx} {Y : Yx I} {ct : Str → Addr} {k : Nat} {c : Str} {ns : List Str} {p pos pos' : Pos} {e : Expr} {es : List Expr} {fs : List (Rho → R (Md × W))}
theorem psm_raise (hc : X.calm = true) (tk : Takes X Y.wx) (D : Exc X.prog X.w X.K X.mg X.base ct k c ns) (hct : Y.ct = ct) (hr : Room (k + 1) X.A) (hg : Gl X c) (ha : PAM X Y (e :: es) fs)
    (hdb : (c == ("__debug__" : Str)) = false := by decide) (he : starEach (e :: es) X.env = (false, eval e X.env) :: starEach es X.env := by rfl) (hpl : (backTo pos (starEach es X.env)).any (·.1) = false := by rfl) :
    PSM X Y (.Raise (some (.Call (.Name c p) (e :: es) [] pos)) none pos') (mRaise I c ns fs) := by
  obtain ⟨hm, T, fI, fd, ps, h3, h4, h5, h6⟩ := D
  subst hct
  refine ps_weak (ps_raise hc tk (pmk_oex (dvs := []) (ds := []) T h3 h4 h6 hr h5 .nil (fun _ _ _ _ _ _ _ ⟨_, _, _, _, _, _, _, _, _, _, _, _, f⟩ => f.elim) hg hm ha hdb he hpl)) fun D σ H hq => ?_
  obtain ⟨F, ρ, S, q⟩ := hq
  refine ⟨F, ρ, S, (RunS.bindE q).imp fun bs ρ1 F1 H1 S1 k1 q1 F2 vs S2 k2 hvs => ?_⟩
  obtain ⟨F3, ws, ρ3, S3, k3, r3, q3⟩ := S2.valsL hvs (P := fun ws ρ3 F3 H3 => RunS X.K Y F3 H3 (if ws.length = ns.length ∧ ns ≠ [] ∧ ns.length ≤ 900 then .exc c ns.reverse ws.reverse ρ3 else .stk) D) (RunS.bindE (q1.rebase k2))
  split at q3
  · rename_i hl
    obtain ⟨l1, l2, l3⟩ := hl
    have lv : vs.length = ns.length := by rw [← r3.len, l1]
    refine ⟨by omega, fun a na => ⟨a, vs ++ [], rfl, by simpa using lv, upd_same, fun d nd ne => ?_⟩⟩
    have nd1 : H1 d = none := by rwa [upd_ne ne] at nd
    refine ⟨rfl, d, (ns.zip (vs ++ [])).reverse, upd_same, by rw [upd_ne ne, upd_same], nd1, ?_⟩
    have eH : upd (del (upd (upd (upd H1 a (exo a (Y.ct c) none)) d (exd d (ns.zip (vs ++ [])).reverse)) a (exo a (Y.ct c) (some d))) a) d (.xd (ns.zip (vs ++ [])).reverse) = upd H1 d (.xd (ns.zip (vs ++ [])).reverse) := by
      funext b
      by_cases hb : b = d
      · rw [hb, upd_same, upd_same]
      · rw [upd_ne hb, upd_ne hb]
        by_cases hba : b = a
        · rw [hba, del_same, na]
        · rw [del_ne hba, upd_ne hba, upd_ne hb, upd_ne hba]
    rw [eH, List.append_nil]
    have ex : Ext [] F3 H1 F3 (upd H1 d (.xd (ns.zip vs).reverse)) := by
      refine ⟨fun b o _ h => ?_, fun _ h => h, fun _ h => .inl h, fun b h => ?_⟩
      · have nb : b ≠ d := fun z => by rw [z, nd1] at h; cases h
        rw [upd_ne nb]
        exact h
      · have hb := S3.f2 b h
        have nb : b ≠ d := fun z => hb (by rw [z]; exact nd1)
        rw [upd_ne nb]
        exact hb
    refine q3 F3 _ σ (some d) (S3.grow ex) ?_
    have hz : (ns.zip vs).reverse = ns.reverse.zip vs.reverse := zip_rev lv.symm
    have hex : ∃ x l, ns.reverse = x :: l := by
      cases hh : ns.reverse with
      | nil => exact absurd (List.reverse_eq_nil_iff.mp hh) l2
      | cons x l => exact ⟨x, l, rfl⟩
    obtain ⟨x, l, hx⟩ := hex
    have r4 := (r3.mono ex.keeps).reverse
    unfold ExF
    rw [hz, hx] at r4 ⊢
    exact ⟨d, vs.reverse, rfl, upd_same, by rw [← hx]; simp [lv], r4⟩
  · exact q3.elim
end
end ML
namespace ML
open PySem PySem.Spec PyProof.Rows L2
variable {I : List Nat}
/-! ### try .. except C as e -/
def noX (ρ : Rho) : Rho := ρ.map fun s => match s with
  | .exn => .no
  | s => s
theorem noX_get {ρ : Rho} {j : Nat} {s : Sl} (h : (noX ρ)[j]? = some s) : s = .no ∨ (s ≠ .exn ∧ ρ[j]? = some s) := by
  unfold noX at h
  rw [List.getElem?_map] at h
  obtain ⟨z, hz, e⟩ := Option.map_eq_some_iff.mp h
  cases z with
  | no => exact .inl e.symm
  | exn => exact .inl e.symm
  | val w => have e' : Sl.val w = s := e; rw [← e']; exact .inr ⟨(fun z => nomatch z), hz⟩
  | own w => have e' : Sl.own w = s := e; rw [← e']; exact .inr ⟨(fun z => nomatch z), hz⟩
theorem noX_own {ρ : Rho} {j : Nat} {w : W} (h : (noX ρ)[j]? = some (.own w)) : ρ[j]? = some (.own w) := by
  rcases noX_get h with e | ⟨_, e⟩
  · cases e
  · exact e
theorem noX_len (ρ : Rho) : (noX ρ).length = ρ.length := by unfold noX; rw [List.length_map]
theorem noX_keep {ρ : Rho} {j : Nat} {w : W} (h : ρ[j]? = some (.own w)) : (noX ρ)[j]? = some (.own w) := by
  unfold noX
  rw [List.getElem?_map, h]
  rfl
open Classical in
noncomputable def suiteH (B : Bd) (F : Fz) (H : Hp) : Hp := fun b => if F b ∨ ¬ Mut (H b) then (match H b with
    | some o => some o
    | none => B.H0 b) else B.H0 b
/-- the base of a suite: all that does not change stays -/
noncomputable def Bd.suite (B : Bd) (F : Fz) (H : Hp) (a : Addr) : Bd := { H0 := suiteH B F H, F0 := F, I := B.I, ea := a }
section
variable {K : PySem.W.Frag} {B : Bd} {F F' : Fz} {H H' : Hp} {σ σ' : L2.St} {ρ ρ' : Rho} {a : Addr}
theorem suite_yes {b : Addr} {o : HO} (h : H b = some o) (m : F b ∨ ¬ Mut (some o)) : (B.suite F H a).H0 b = some o := by
  show suiteH B F H b = _
  unfold suiteH
  rw [if_pos (by rw [h]; exact m), h]
theorem suite_no {b : Addr} (h : ¬ (F b ∨ ¬ Mut (H b))) : (B.suite F H a).H0 b = B.H0 b := by
  show suiteH B F H b = _
  unfold suiteH
  rw [if_neg h]
theorem suite_cases (b : Addr) : (∃ o, H b = some o ∧ (F b ∨ ¬ Mut (some o)) ∧ (B.suite F H a).H0 b = some o) ∨ (B.suite F H a).H0 b = B.H0 b := by
  by_cases h : F b ∨ ¬ Mut (H b)
  · cases e : H b with
    | none =>
      right
      show suiteH B F H b = _
      unfold suiteH
      rw [if_pos h, e]
    | some o => exact .inl ⟨o, rfl, by rw [← e]; exact h, suite_yes e (by rw [← e]; exact h)⟩
  · exact .inr (suite_no h)
theorem suite_kept (S : SR K B F H σ ρ) {b : Addr} (h : B.kept b) : (B.suite F H a).kept b := by
  refine ⟨?_, h.2⟩
  rcases suite_cases (B := B) (F := F) (H := H) (a := a) b with ⟨o, _, _, e⟩ | e
  · rw [e]; exact (fun z => nomatch z)
  · rw [e]; exact h.1
theorem suite_sr (S : SR K B F H σ ρ) {i : Nat} (u : unlent B i) (lt : i < ρ.length) : SR K (B.suite F H a) F H (σ.set i (some (.ref a))) ((noX ρ).set i .exn) := by
  have own : ∀ {j : Nat} {w : W}, ((noX ρ).set i .exn)[j]? = some (.own w) → j ≠ i ∧ ρ[j]? = some (.own w) := fun {j w} h => by
    rcases set_cases h with ⟨_, e, _⟩ | ⟨n, e⟩
    · cases e
    · exact ⟨n, noX_own e⟩
  refine ⟨by rw [List.length_set, List.length_set, noX_len]; exact S.len, fun j s h => ?_, fun j k w w' c h1 h2 e1 e2 => ?_, fun p hp => ?_, fun b o kb hb => ?_, fun b hb => ?_, fun b h => h, fun b h => .inl h, S.f2⟩
  · rcases set_cases h with ⟨e, e', _⟩ | ⟨n, e⟩
    · rw [e, e', set_eq (by rw [S.len]; exact lt)]
      rfl
    · rw [set_ne n]
      rcases noX_get e with e | ⟨_, e⟩
      · subst e; trivial
      · have q := S.slot j s e
        cases s with
        | no => trivial
        | exn => rename_i hx; exact absurd rfl hx
        | val w => exact q
        | own w =>
          obtain ⟨c, ec, o, nf, nk⟩ := q
          refine ⟨c, ec, o, nf, fun kc => nk ⟨?_, kc.2⟩⟩
          obtain ⟨u, hu, mu⟩ := o.some
          rcases suite_cases (B := B) (F := F) (H := H) (a := a) c with ⟨o2, h2, m2, _⟩ | e2
          · rw [hu] at h2
            cases h2
            rcases m2 with m2 | m2
            · exact absurd m2 nf
            · exact absurd mu m2
          · rw [← e2]; exact kc.1
  · obtain ⟨n1, g1⟩ := own h1
    obtain ⟨n2, g2⟩ := own h2
    rw [set_ne n1] at e1
    rw [set_ne n2] at e2
    exact S.sep j k w w' c g1 g2 e1 e2
  · obtain ⟨h1, w, h2⟩ := S.lent p hp
    have n : p.1 ≠ i := fun e => u (List.mem_map.mpr ⟨p, hp, e⟩)
    exact ⟨by rw [set_ne n]; exact h1, w, by rw [set_ne n]; exact noX_keep h2⟩
  · rcases suite_cases (B := B) (F := F) (H := H) (a := a) b with ⟨o2, h2, _, e2⟩ | e2
    · rw [e2] at hb
      rw [h2]
      exact hb
    · rw [e2] at hb
      exact S.ext b o ⟨by rw [hb]; exact (fun z => nomatch z), kb.2⟩ hb
  · rcases suite_cases (B := B) (F := F) (H := H) (a := a) b with ⟨o2, h2, _, _⟩ | e2
    · rw [h2]; exact (fun z => nomatch z)
    · rw [e2] at hb
      exact S.alive b hb
/-- in the suite all that did not change at its entry still stands -/
theorem suite_keeps (S : SR K B F H σ ρ) (S' : SR K (B.suite F H a) F' H' σ' ρ') : Keeps F H F' H' := by
  refine ⟨fun b h => S'.f0 b h, fun b o h m => ?_⟩
  have e : (B.suite F H a).H0 b = some o := suite_yes h m
  refine S'.ext b o ⟨by rw [e]; exact (fun z => nomatch z), fun p hp z => ?_⟩ e
  obtain ⟨h1, w, h2⟩ := S.lent p hp
  obtain ⟨c, ec, ow, nf, _⟩ := S.slot _ _ h2
  rw [h1] at ec
  cases ec
  obtain ⟨u, hu, mu⟩ := ow.some
  rw [z, h] at hu
  cases hu
  rcases m with m | m
  · exact nf (by rw [z]; exact m)
  · exact m mu
theorem suite_leave (S : SR K B F H σ ρ) (S' : SR K (B.suite F H a) F' H' σ' ρ') : SR K B F' H' σ' (noX ρ') := by
  refine ⟨by rw [noX_len]; exact S'.len, fun j s h => ?_, fun j k w w' c h1 h2 e1 e2 => S'.sep j k w w' c (noX_own h1) (noX_own h2) e1 e2, fun p hp => ?_, fun b o kb hb => ?_, fun b hb => ?_, fun b h => S'.f0 b (S.f0 b h), fun b h => ?_, S'.f2⟩
  · rcases noX_get h with e | ⟨nx, e⟩
    · subst e; trivial
    · have q := S'.slot j s e
      cases s with
      | no => trivial
      | exn => exact absurd rfl nx
      | val w => exact q
      | own w =>
        obtain ⟨c, ec, o, nf, nk⟩ := q
        exact ⟨c, ec, o, nf, fun kc => nk (suite_kept S kc)⟩
  · obtain ⟨h1, w, h2⟩ := S'.lent p hp
    exact ⟨h1, w, noX_keep h2⟩
  · refine S'.ext b o (suite_kept S kb) ?_
    rcases suite_cases (B := B) (F := F) (H := H) (a := a) b with ⟨o2, h2, _, e2⟩ | e2
    · have := S.ext b o kb hb
      rw [h2] at this
      rw [e2, this]
    · rw [e2]; exact hb
  · refine S'.alive b ?_
    rcases suite_cases (B := B) (F := F) (H := H) (a := a) b with ⟨o2, _, _, e2⟩ | e2
    · rw [e2]; exact (fun z => nomatch z)
    · rw [e2]; exact hb
  · rcases S'.f1 b h with h | h
    · exact S.f1 b h
    · right
      rcases suite_cases (B := B) (F := F) (H := H) (a := a) b with ⟨o2, _, _, e2⟩ | e2
      · rw [e2] at h; cases h
      · rw [← e2]; exact h
end
end ML
namespace ML
open PySem PySem.Spec PyProof.Rows L2
variable {I : List Nat}
/-- what a suite knows of its exception -/
structure Sui (K : PySem.W.Frag) (ct : Str → Addr) (Y' : Yx I) (a : Addr) (cls : Value) (d : Option Addr) (c : Str) (ns : List Str) (ws : List W) : Prop where
  cls : cls = .ref (ct c)
  ea : Y'.B.ea = a
  ct : Y'.ct = ct
  wx : Y'.wx = fun _ _ _ _ => False
  fld : ∀ F H σ ρ, SR K Y'.B F H σ ρ → ExF K F H ns ws d
def mTry (I : List Nat) (i : Nat) (cm : Str → Option Bool) (g : Rho → R Fl) (h : Str → List Str → List W → Rho → R Fl) : Rho → R Fl := fun ρ => match g (noX ρ) with
  | .exc c ns ws ρ1 => (match cm c with
    | some true => if i ∉ I ∧ i < ρ1.length then (match h c ns ws ((noX ρ1).set i .exn) with
      | .ok (.rt (.bor _) _) _ => .stk
      | .ok fl ρ2 => .ok fl (noX ((noX ρ2).set i .no))
      | _ => .stk) else .stk
    | some false => .exc c ns ws (noX ρ1)
    | none => .stk)
  | .ok fl ρ1 => .ok fl (noX ρ1)
  | .stk => .stk
section
variable {K : PySem.W.Frag} {B : Bd} {F F' : Fz} {H H' : Hp} {σ σ' : L2.St} {ρ ρ' : Rho} {a : Addr}
theorem suite_in (S : SR K B F H σ ρ) : SR K (B.suite F H a) F H σ (noX ρ) := by
  refine ⟨by rw [noX_len]; exact S.len, fun j s h => ?_, fun j k w w' c h1 h2 e1 e2 => S.sep j k w w' c (noX_own h1) (noX_own h2) e1 e2, fun p hp => ?_, fun b o kb hb => ?_, fun b hb => ?_, fun b h => h, fun b h => .inl h, S.f2⟩
  · rcases noX_get h with e | ⟨nx, e⟩
    · subst e; trivial
    · have q := S.slot j s e
      cases s with
      | no => trivial
      | exn => exact absurd rfl nx
      | val w => exact q
      | own w =>
        obtain ⟨c, ec, o, nf, nk⟩ := q
        refine ⟨c, ec, o, nf, fun kc => nk ⟨?_, kc.2⟩⟩
        obtain ⟨u, hu, mu⟩ := o.some
        rcases suite_cases (B := B) (F := F) (H := H) (a := a) c with ⟨o2, h2, m2, _⟩ | e2
        · rw [hu] at h2
          cases h2
          rcases m2 with m2 | m2
          · exact absurd m2 nf
          · exact absurd mu m2
        · rw [← e2]; exact kc.1
  · obtain ⟨h1, w, h2⟩ := S.lent p hp
    exact ⟨h1, w, noX_keep h2⟩
  · rcases suite_cases (B := B) (F := F) (H := H) (a := a) b with ⟨o2, h2, _, e2⟩ | e2
    · rw [e2] at hb
      rw [h2]
      exact hb
    · rw [e2] at hb
      exact S.ext b o ⟨by rw [hb]; exact (fun z => nomatch z), kb.2⟩ hb
  · rcases suite_cases (B := B) (F := F) (H := H) (a := a) b with ⟨o2, h2, _, _⟩ | e2
    · rw [h2]; exact (fun z => nomatch z)
    · rw [e2] at hb
      exact S.alive b hb
theorem suite_h0 {b : Addr} (h : (B.suite F H a).H0 b = none) : B.H0 b = none := by
  rcases suite_cases (B := B) (F := F) (H := H) (a := a) b with ⟨o2, _, _, e2⟩ | e2
  · rw [e2] at h; cases h
  · rw [← e2]; exact h
theorem suite_vr {ρ2 : Rho} (ho : ∀ (j : Nat) (w : W), ρ2[j]? = some (.own w) → ρ'[j]? = some (.own w)) {m : Md} {w : W} {v : V} (hb : ∀ j, m = .bor j → ρ'[j]? = some (.own w) → ρ2[j]? = some (.own w)) (h : VR K (B.suite F H a) F' H' σ' ρ' m w v) : VR K B F' H' σ' ρ2 m w v := by
  cases m with
  | val => exact h
  | fre =>
    obtain ⟨c, ec, o, nf, h0, hs⟩ := h
    exact ⟨c, ec, o, nf, suite_h0 h0, fun j w' hj => hs j w' (ho j w' hj)⟩
  | bor j => exact ⟨hb j rfl h.1, h.2⟩
end
theorem ExF.mono {K : PySem.W.Frag} {F F' : Fz} {H H' : Hp} {ns : List Str} {ws : List W} {d : Option Addr} (k : Keeps F H F' H') (h : ExF K F H ns ws d) : ExF K F' H' ns ws d := by
  cases ns with
  | nil => exact h
  | cons n ns =>
    obtain ⟨dd, vs, e, h1, h2, h3⟩ := h
    exact ⟨dd, vs, e, k.h dd _ h1 (.inr fun q => q), h2, h3.mono k⟩
theorem SR.out {K : PySem.W.Frag} {B : Bd} {F : Fz} {H : Hp} {σ : L2.St} {ρ : Rho} (S : SR K B F H σ ρ) {i : Nat} (u : unlent B i) : SR K B F H (σ.set i none) (ρ.set i .no) := by
  have own : ∀ {j : Nat} {w : W}, (ρ.set i .no)[j]? = some (.own w) → j ≠ i ∧ ρ[j]? = some (.own w) := fun {j w} h => by
    rcases set_cases h with ⟨_, e, _⟩ | ⟨n, e⟩
    · cases e
    · exact ⟨n, e⟩
  refine ⟨by rw [List.length_set, List.length_set]; exact S.len, fun j s h => ?_, fun j k w w' c h1 h2 e1 e2 => ?_, fun p hp => ?_, S.ext, S.alive, S.f0, S.f1, S.f2⟩
  · rcases set_cases h with ⟨_, e, _⟩ | ⟨n, e⟩
    · rw [e]; trivial
    · rw [set_ne n]; exact S.slot j s e
  · obtain ⟨n1, g1⟩ := own h1
    obtain ⟨n2, g2⟩ := own h2
    rw [set_ne n1] at e1
    rw [set_ne n2] at e2
    exact S.sep j k w w' c g1 g2 e1 e2
  · obtain ⟨h1, w, h2⟩ := S.lent p hp
    have n : p.1 ≠ i := fun e => u (List.mem_map.mpr ⟨p, hp, e⟩)
    exact ⟨by rw [set_ne n]; exact h1, w, by rw [set_ne n]; exact h2⟩
section
variable {X : Cx} {Y : Yx I} {x n : Str} {i : Nat} {body suite : List Stmt} {b0 : Stmt} {np pos pos' : Pos} {g : Rho → R Fl} {h : Str → List Str → List W → Rho → R Fl} {cm : Str → Option Bool} {C : Value}
theorem psm_try (hs : X.stack = X.env :: X.outer) (hf : X.env.frame = some X.env.locals) (hN : X.N.Nodup) (hi : X.N[i]? = some n) (hln : X.env.kindOf n = some .local) (hc : Names X x C) (tk : Takes X Y.wx)
    (hcm : ∀ c b, cm c = some b → PySem.W.exmOne X.K (.ref (Y.ct c)) C = some b)
    (hb : ∀ (Y' : Yx I) (pn : List (Addr × Obj)) (xe : Value → Shared → Prop), Y'.ct = Y.ct → Takes (X.tr pn xe) Y'.wx → PassesOwn (model X.prog X.w) X.A X.env xe → PSMs (X.tr pn xe) Y' body g)
    (hsu : ∀ (a : Addr) (oe : Obj) (cls : Value) (d : Option Addr) (pn : List (Addr × Obj)) (Y' : Yx I) (c : Str) (ns : List Str) (ws : List W), Zc cls d oe → (∃ vs, oe.data = .fields vs) → Sui X.K Y.ct Y' a cls d c ns ws → PSMs (X.suite a ((a, oe) :: pn)) Y' (b0 :: suite) (h c ns ws)) :
    PSM X Y (.Try body [.ExceptHandler (some (.Name x np)) (some n) (b0 :: suite) pos'] [] [] pos) (mTry I i cm g h) := by
  let tb : WX → TS := fun W D σ H => ∃ B1 : Bd, ∃ hI : B1.I.map (·.1) = I, tMS X.K ⟨Y.ct, B1, W, hI⟩ g D σ H
  let ts : Addr → Value → Option Addr → TS := fun a cls d D σ H => ∃ (Y' : Yx I) (c : Str) (ns : List Str) (ws : List W), Sui X.K Y.ct Y' a cls d c ns ws ∧ tMS X.K Y' (h c ns ws) D σ H
  refine ps_weak (ps_try_as (tb := tb) (ts := ts) hs hf hN hi hln hc tk (fun W pn xe t p => ⟨fun pins s σ H D J ⟨B1, hI, q⟩ => (hb ⟨Y.ct, B1, W, hI⟩ pn xe rfl t p).run pins s σ H D J q⟩) (fun a oe cls d pn z f => ⟨fun pins s σ H D J ⟨Y', c, ns, ws, su, q⟩ => (hsu a oe cls d pn Y' c ns ws z f su).run pins s σ H D J q⟩)) fun D σ H hq => ?_
  obtain ⟨F, ρ, S, q⟩ := hq
  refine ⟨Y.B.suite F H 0, Y.hI, F, noX ρ, suite_in (a := 0) S, ?_⟩
  unfold mTry at q
  cases e : g (noX ρ) with
  | stk => rw [e] at q; exact q.elim
  | ok fl ρ1 =>
    rw [e] at q
    cases fl with
    | nx => exact fun F1 H1 σ1 S3 k3 => q F1 H1 _ (suite_leave S S3) k3
    | bk => exact fun F1 H1 σ1 S3 k3 => q F1 H1 _ (suite_leave S S3) k3
    | ct => exact fun F1 H1 σ1 S3 k3 => q F1 H1 _ (suite_leave S S3) k3
    | rt m w => exact fun F1 H1 σ1 v S3 hv => q F1 H1 _ v (suite_leave S S3) (suite_vr (fun j w => noX_own) (fun j _ => noX_keep) hv)
  | exc c ns ws ρ1 =>
    rw [e] at q
    dsimp only at q
    intro F' H' σ' d S' x'
    cases ec : cm c with
    | none => rw [ec] at q; exact q.elim
    | some b =>
      rw [ec] at q
      refine ⟨b, hcm c b ec, fun hbt a na => ?_, fun hbf => ?_⟩
      · subst hbt
        dsimp only at q
        split at q
        · rename_i hi2
          obtain ⟨hiI, hlt⟩ := hi2
          have u : unlent Y.B i := Y.un hiI
          have u1 : unlent (Y.B.suite F H 0) i := u
          have S2 := suite_sr (a := a) S' u1 hlt
          refine ⟨⟨Y.ct, (Y.B.suite F H 0).suite F' H' a, fun _ _ _ _ => False, Y.hI⟩, c, ns, ws, ⟨rfl, rfl, rfl, rfl, fun F1 H1 σ1 ρ2 S3 => x'.mono (suite_keeps S' S3)⟩, F', _, S2, ?_⟩
          cases eh : h c ns ws ((noX ρ1).set i .exn) with
          | stk => rw [eh] at q; exact q.elim
          | exc c2 ns2 ws2 ρ2 => rw [eh] at q; exact q.elim
          | ok fl ρ2 =>
            rw [eh] at q
            have lv : ∀ {F1 H1 σ1}, SR X.K ((Y.B.suite F H 0).suite F' H' a) F1 H1 σ1 ρ2 → SR X.K (Y.B.suite F H 0) F1 H1 (σ1.set i none) ((noX ρ2).set i .no) := fun S3 => (suite_leave S' S3).out u1
            have lk : ∀ {F1 H1 σ1}, SR X.K ((Y.B.suite F H 0).suite F' H' a) F1 H1 σ1 ρ2 → SR X.K Y.B F1 H1 (σ1.set i none) (noX ((noX ρ2).set i .no)) ∧ Keeps F H F1 H1 := fun S3 => ⟨suite_leave S (lv S3), suite_keeps S (lv S3)⟩
            cases fl with
            | nx => exact fun F1 H1 σ1 S3 k3 => q F1 H1 _ (lk S3).1 (lk S3).2
            | bk => exact fun F1 H1 σ1 S3 k3 => q F1 H1 _ (lk S3).1 (lk S3).2
            | ct => exact fun F1 H1 σ1 S3 k3 => q F1 H1 _ (lk S3).1 (lk S3).2
            | rt m w =>
              intro F1 H1 σ1 v S3 hv
              have S4 : SR X.K Y.B F1 H1 σ1 (noX ((noX ρ2).set i .no)) := suite_leave S ((suite_leave S' S3).drop u1)
              have ho : ∀ (j : Nat) (w : W), (noX ((noX ρ2).set i .no))[j]? = some (.own w) → ρ2[j]? = some (.own w) := fun j w hj => by
                have h1 := noX_own hj
                rcases set_cases h1 with ⟨_, z, _⟩ | ⟨_, z⟩
                · cases z
                · exact noX_own z
              cases m with
              | bor j => exact q.elim
              | val => exact q F1 H1 σ1 v S4 hv
              | fre =>
                obtain ⟨c2, ec2, o, nf, h0, hs⟩ := hv
                exact q F1 H1 σ1 v S4 ⟨c2, ec2, o, nf, suite_h0 (suite_h0 h0), fun j w' hj => hs j w' (ho j w' hj)⟩
        · exact q.elim
      · subst hbf
        exact q F' H' σ' d (suite_leave S S') x'
end
end ML
namespace ML
open PySem PySem.Spec PyProof.Rows L2
variable {I : List Nat}
/-! ### the exception in its suite: e.f, isinstance(e, D) -/
def mXf (cl : List Str) (i : Nat) (f c : Str) (ns : List Str) (ws : List W) : Rho → R (Md × W) := fun ρ => if c ∈ cl ∧ ns.length = ws.length then (match ρ[i]? with
  | some .exn => (match (ns.zip ws).lookup f with
    | some w => .ok (.val, w) ρ
    | none => .stk)
  | _ => .stk) else .stk
theorem lookup_rep {K : PySem.W.Frag} {F : Fz} {H : Hp} {f : Str} {w : W} : ∀ {ns : List Str} {ws : List W} {vs : List V}, RepL K F H ws vs → (ns.zip ws).lookup f = some w → ∃ v, (ns.zip vs).lookup f = some v ∧ Rep K F H w v
  | [], _, _, _, e => by cases e
  | n :: ns, [], _, _, e => by cases e
  | n :: ns, u :: ws, _, ⟨v, r, ev, h1, h2⟩, e => by
    subst ev
    rw [List.zip_cons_cons] at e ⊢
    unfold List.lookup at e ⊢
    cases hb : (f == n) with
    | true =>
      rw [hb] at e
      cases e
      exact ⟨v, rfl, h1⟩
    | false =>
      rw [hb] at e
      exact lookup_rep h2 e
section
variable {X : Cx} {ct : Str → Addr} {Y' : Yx I} {a : Addr} {oe : Obj} {cls : Value} {d : Option Addr} {pn : List (Addr × Obj)} {i : Nat} {f c x : Str} {ns : List Str} {ws : List W} {cl : List Str} {p pos : Pos}
theorem pem_xf (su : Sui X.K ct Y' a cls d c ns ws) (hz : Zc cls d oe) (hf : ∃ vs, oe.data = .fields vs) (hcl : ∀ c ∈ cl, XfC X.K (ct c) ∧ PySem.W.findIn X.K (.ref (ct c)) f = some none) (hv : PE (X.suite a ((a, oe) :: pn)) (.Name x p) (tVar i)) :
    PEM (X.suite a ((a, oe) :: pn)) Y' (.Attribute (.Name x p) f pos) (mXf cl i f c ns ws) := by
  by_cases hc : c ∈ cl
  · obtain ⟨T, hno⟩ := hcl c hc
    refine pe_weak (pe_xf (C := ct c) (cls := cls) (d := d) T hno hz hf hv (by rfl)) fun σ H Q hq => ?_
    obtain ⟨F, ρ, S, q⟩ := hq
    unfold mXf at q
    split at q
    · rename_i hh
      cases g : ρ[i]? with
      | none => rw [g] at q; exact q.elim
      | some sl =>
        rw [g] at q
        cases sl with
        | no => exact q.elim
        | val w => exact q.elim
        | own w => exact q.elim
        | exn =>
          dsimp only at q
          have hs := S.slot i _ g
          have hs' : σ[i]? = some (some (.ref Y'.B.ea)) := hs
          rw [su.ea] at hs'
          refine ⟨.ref a, hs', rfl, su.cls, ?_⟩
          have x' := su.fld F H σ ρ S
          cases e : (ns.zip ws).lookup f with
          | none => rw [e] at q; exact q.elim
          | some w =>
            rw [e] at q
            cases ns with
            | nil => cases e
            | cons n ns =>
              obtain ⟨dd, vs, ed, h1, h2, h3⟩ := x'
              obtain ⟨v, hv2, r⟩ := lookup_rep h3 e
              exact ⟨dd, _, v, ed, h1, hv2, q F H S .refl v r⟩
    · exact q.elim
  · refine pe_weak (t := fun _ _ _ => False) ⟨fun _ _ _ _ _ _ h => h.elim⟩ fun σ H Q hq => ?_
    obtain ⟨F, ρ, S, q⟩ := hq
    unfold mXf at q
    rw [if_neg (fun z => hc z.1)] at q
    exact q
def mIsE (i : Nat) (t : Option Bool) : Rho → R (Md × W) := fun ρ => match ρ[i]?, t with
  | some .exn, some b => .ok (.val, .bl b) ρ
  | _, _ => .stk
def rIsX (K : PySem.W.Frag) (C a : Addr) (d : Option Addr) : List V → Hp → VK → Prop := fun xs H Q => ∃ (c : V) (cv : Value) (b : Bool), xs = [.ref a, c] ∧ (∀ u, RelV c u → u = cv) ∧ PySem.W.kitOne K (.ref C) cv = some b ∧ (d = none ∨ ∃ (dd : Addr) (fs : List (Str × V)), d = some dd ∧ H dd = some (.xd fs)) ∧ Q (.bl b) H
theorem call_isX {C : Addr} (E : ExcC X.K C) (hz : Zc (.ref C) d oe) (hf : ∃ vs, oe.data = .fields vs) : CallR (X.suite a ((a, oe) :: pn)) (.builtin "isinstance") (rIsX X.K C a d) := by
  intro pins s σ H xs us Q I r h
  obtain ⟨c, cv, b, rfl, hcv, e, hd, q⟩ := h
  cases r with
  | cons rx rr =>
    cases rr with
    | cons rt rr =>
      cases rr
      cases rx
      have ec := hcv _ rt
      subst ec
      obtain ⟨hget, _⟩ := I.pin (a, oe) (List.mem_append.mpr (.inl List.mem_cons_self))
      obtain ⟨vs, hv⟩ := hf
      obtain ⟨od, J⟩ : ∃ od, PySem.W.InstAt s.heap a oe C od := by
        rcases hd with hd | ⟨dd, fs, hd, hH⟩
        · refine ⟨none, hget, hz.1, by unfold PySem.W.notCls; rw [hv] <;> rfl, ?_⟩
          rw [hz.2, hd]
          trivial
        · have hx : ObjOk X.prog X.w H s.heap dd (.xd fs) := I.hok dd _ hH
          obtain ⟨mA, hns, _⟩ := hx
          obtain ⟨od, ho, _⟩ := lookIn_ns hns
          refine ⟨some od, hget, hz.1, by unfold PySem.W.notCls; rw [hv] <;> rfl, ?_⟩
          rw [hz.2, hd]
          exact ho
      have hcl : (PySem.W.clsIn X.K C).isSome = true := by
        obtain ⟨cd, hc, _⟩ := PySem.W.any_some E.hd
        rw [hc]
        rfl
      exact PySem.W.kia_one (PySem.W.kitx_exc hcl E.hg E.hk E.hs E.ha E.hn E.ht E.hm) I.kIn J e (fun z => nomatch z) fun tk => ⟨.bl b, H, I.kept (t' := tk) fun _ _ z => z, rfl, q⟩
theorem pem_isX {D : Str} {p1 p2 pos : Pos} {cv : V} {cw : Value} (su : Sui X.K ct Y' a cls d c ns ws) (hz : Zc cls d oe) (hf : ∃ vs, oe.data = .fields vs) (hcl : ∀ c ∈ cl, ExcC X.K (ct c)) (hg : Gl X "isinstance") (hm : X.mg "isinstance" = none) (hv : PE (X.suite a ((a, oe) :: pn)) (.Name x p) (tVar i))
    (hD : PE (X.suite a ((a, oe) :: pn)) (.Name D p2) (tC cv)) (hcw : ∀ u, RelV cv u → u = cw) {t : Option Bool} (ht : ∀ b, t = some b → c ∈ cl ∧ PySem.W.kitOne X.K (.ref (ct c)) cw = some b) :
    PEM (X.suite a ((a, oe) :: pn)) Y' (.Call (.Name "isinstance" p1) [.Name x p, .Name D p2] [] pos) (mIsE i t) := by
  cases t with
  | none =>
    refine pe_weak (t := fun _ _ _ => False) ⟨fun _ _ _ _ _ _ h => h.elim⟩ fun σ H Q hq => ?_
    obtain ⟨F, ρ, S, q⟩ := hq
    unfold mIsE at q
    split at q
    · rename_i hh
      cases hh
    · exact q
  | some b =>
    obtain ⟨hc, hk⟩ := ht b rfl
    have hz' : Zc (.ref (ct c)) d oe := by rw [← su.cls]; exact hz
    refine pe_weak (pe_callB (call_isX (hcl c hc) hz' hf) hg hm (by rfl) (pa_cons hv (pa_cons hD pa_nil)) (by decide) (by decide) (by rfl) (by rfl)) fun σ H Q hq => ?_
    obtain ⟨F, ρ, S, q⟩ := hq
    unfold mIsE at q
    cases g : ρ[i]? with
    | none => rw [g] at q; exact q.elim
    | some sl =>
      rw [g] at q
      cases sl with
      | no => exact q.elim
      | val w => exact q.elim
      | own w => exact q.elim
      | exn =>
        have hs' : σ[i]? = some (some (.ref Y'.B.ea)) := S.slot i _ g
        rw [su.ea] at hs'
        refine ⟨.ref a, hs', cv, cw, b, rfl, hcw, hk, ?_, q F H S .refl _ rfl⟩
        have x' := su.fld F H σ ρ S
        cases ns with
        | nil => exact .inl x'.1
        | cons n ns =>
          obtain ⟨dd, vs, ed, h1, _⟩ := x'
          exact .inr ⟨dd, _, ed, h1⟩
end
end ML

set_option maxHeartbeats 4000000
namespace ML
open PySem PySem.Spec PyProof.Rows L2
variable {I : List Nat}
/-! ### an own class of errors without __init__, made of nothing -/
/-- the class c of errors without fields can be raised -/
structure Exc0 (K : PySem.W.Frag) (mg : Str → Option Value) (ct : Str → Addr) (c : Str) : Prop where
  g : mg c = some (.ref (ct c))
  q : PySem.W.excIn K (ct c) He.veBase "ValueError.__new__" = true
  k : PySem.W.keepIn K (.ref (ct c)) = true
  s : PySem.W.subIn K (.ref (ct c)) (.type "BaseException") = some true
  t : PySem.W.typeIn K (.ref (ct c)) = some (.type "type")
def mRaise0 (c : Str) : Rho → R Fl := fun ρ => .exc c [] [] ρ
section
variable {X : Cx} {Y : Yx I} {ct : Str → Addr} {c : Str} {p pos pos' : Pos}
theorem pmk_none (D : Exc0 X.K X.mg ct c) (hg : Gl X c) (hdb : (c == ("__debug__" : Str)) = false := by decide) : PMk X (.Call (.Name c p) [] [] pos) (fun _ H Q => Q (.ref (ct c)) none H) := by
  intro pins s0 σ H Q J hQ
  refine wpAny_Call_Name_kw (ld_glob J hg D.g ?_ hdb)
  refine PySem.W.callWith_K0 J.kIn D.k ?_
  show wpAny _ _ (call (.ref (ct c)) []) _ _ _
  obtain ⟨x1, x2, x3, x4, x5, x6, x7, x8, x9, xa, xb, xc, xd, xe, xf, xg, xh, e1, e2, e3, e4⟩ := exc_obj J.kIn D.q
  exact wpAny_call_exc_subT PySem.F.excBase_ValueError e4 e1 e2 e3 (fun h' b mk => mk_of J mk (raises_own D.s D.t) hQ (J.hok.gone mk.new)) (by simp)
theorem psm_raise0 (hc : X.calm = true) (tk : Takes X Y.wx) (D : Exc0 X.K X.mg ct c) (hct : Y.ct = ct) (hg : Gl X c) (hdb : (c == ("__debug__" : Str)) = false := by decide) : PSM X Y (.Raise (some (.Call (.Name c p) [] [] pos)) none pos') (mRaise0 c) := by
  subst hct
  refine ps_weak (ps_raise hc tk (pmk_none D hg hdb)) fun D σ H hq => ?_
  obtain ⟨F, ρ, S, q⟩ := hq
  exact q F H σ none S ⟨rfl, rfl⟩
end
/-! ### checks of a class, for the head -/
def oexB (K : PySem.W.Frag) (C : Addr) : Bool := (match K.lookup C with
  | some ⟨.type "type", _, .cls cd, sl⟩ => (match cd.mro, sl.toList with
    | .ref D :: bm, [_, _, _, _, some (.builtin n), _] => decide (D = C) && (decide (n = "ValueError.__new__") && (cd.hasDict && (!cd.hasDel && PySem.HandSPX.refsVE bm)))
    | _, _ => false)
  | _ => false) && (decide (PySem.W.findIn K (.ref C) "__setattr__" = some (some (.builtin "object.__setattr__"))) && (decide (PySem.W.subIn K (.ref C) (.type "BaseException") = some true) && (decide (PySem.W.typeIn K (.ref C) = some (.type "type")) && PySem.W.keepIn K (.ref C))))
theorem oexB_ok {K : PySem.W.Frag} {C : Addr} (h : oexB K C = true) : OexC K C := by
  unfold oexB at h
  rw [Bool.and_eq_true_iff, Bool.and_eq_true_iff, Bool.and_eq_true_iff, Bool.and_eq_true_iff] at h
  obtain ⟨h1, h2, h3, h4, h5⟩ := h
  refine ⟨?_, of_decide_eq_true h2, of_decide_eq_true h3, of_decide_eq_true h4, h5⟩
  split at h1
  · rename_i dd cd sl hl
    split at h1
    · rename_i D bm k0 k1 k2 k3 n k5 hm hs
      simp only [Bool.and_eq_true, decide_eq_true_eq, Bool.not_eq_true'] at h1
      obtain ⟨g1, g2, g3, g4, g5⟩ := h1
      subst g1 g2
      obtain ⟨nm, bs, mro, ns, qn, hd, sn, sub, ab, col, de⟩ := cd
      dsimp only at hm g3 g4
      subst hm g3 g4
      obtain ⟨sl⟩ := sl
      simp only at hs
      subst hs
      exact ⟨nm, qn, ns, bs, bm, sn, sub, ab, col, dd, k0, k1, k2, k3, k5, hl, g5⟩
    · cases h1
  · cases h1
def excB (K : PySem.W.Frag) (D : Addr) : Bool := decide (PySem.W.findIn K (.ref D) "__getattribute__" = some (some (.builtin "BaseException.__getattribute__"))) && (decide (PySem.W.findIn K (.ref D) "__getattr__" = some none) && (decide (PySem.W.subIn K (.ref D) (.type "BaseException") = some true) && (PySem.W.hasDictIn K D &&
  (decide (PySem.W.findIn K (.ref D) "__class__" = some (some (.builtin "object.__class__"))) && (decide (PySem.W.specialIn K (.builtin "object.__class__") "__get__" = some (some (.builtin "getset_descriptor.__get__"))) && (decide (PySem.W.takesIn K (.builtin "object.__class__") = some true) && decide (PySem.W.mroIn K D (.type "object") = some true)))))))
theorem excB_ok {K : PySem.W.Frag} {D : Addr} (h : excB K D = true) : ExcC K D := by
  unfold excB at h
  simp only [Bool.and_eq_true, decide_eq_true_eq] at h
  obtain ⟨h1, h2, h3, h4, h5, h6, h7, h8⟩ := h
  exact ⟨h1, h2, h3, h4, h5, h6, h7, h8⟩
/-- what the text gives of the class C, whose __init__ is st -/
def ErrT (K : PySem.W.Frag) (mg : Str → Option Value) (C q : Str) (ns : List Str) (st : Stmt) : Prop :=
  mg C = some (.ref (He.ga K C)) ∧ OexC K (He.ga K C) ∧ (∀ f ∈ ns, PySem.W.findIn K (.ref (He.ga K C)) f = some none) ∧ ∃ (fI : Addr) (fd : FuncData), PySem.W.findIn K (.ref (He.ga K C)) "__init__" = some (some (.ref fI)) ∧ PySem.W.typeIn K (.ref fI) = some (.type "function") ∧ FunD K "__init__" q (defArgs st) (defBody st) (defScope st) [] [] fI fd
theorem exc_mk {P : Program} {w : World} {K : PySem.W.Frag} {mg : Str → Option Value} {base : Heap} {k : Nat} {C q : Str} {ns xs : List Str} {st : Stmt} (T : ErrT K mg C q ns st) (S : FnScope (("self" : Str) :: xs) (("self" : Str) :: xs) (defScope st)) (hx : xs.length = ns.length) (hne : ns ≠ []) (hl : ns.length ≤ 900)
    (hbi : ∀ (kV doc pm : Value) (an : Option Addr) (cdv ct : Value) (us : List Value), us.length = (("self" : Str) :: xs).length → bindArgs (PySem.W.fnOf "__init__" q (defArgs st) (defBody st) (defScope st) .none kV doc pm an cdv ct) ⟨us, []⟩ = pure ((("self" : Str) :: xs).zip us))
    (hb : InitB (("self" : Str) :: xs) (defScope st) 1 ns (defBody st)) (hv : Vis (defScope st) "self") : Exc P w K mg base (He.ga K) (k + 1) C ns := by
  obtain ⟨h1, h2, h3, fI, fd, h4, h5, F⟩ := T
  exact ⟨h1, h2, fI, fd, _, h4, h5, F.bindsN hbi, init_ok F S hx hne hl hb hv h2 h3⟩
theorem errT_ok {h : Heap} {w : World} {K : PySem.W.Frag} {mg : Str → Option Value} {fa : List He.Fa} {fn : List He.DefD} {ts : List He.Tab} {more : PySem.W.Frag → Bool} (X : K.In h) (G : h.Ns mainGlobals mg) (c : SaysM fa fn ts more w K) (i j m : Nat) {C q : Str} {ns : List Str} {st : Stmt}
    (e : fn[i]? = some ⟨(C, some "__init__"), "__init__", q, defArgs st, defBody st, defScope st, [], []⟩ := by rfl) (e2 : fa[j]? = some (.glo C) := by rfl) (e3 : fa[m]? = some (.meth C "__init__") := by rfl) (ho : oexB K (He.ga K C) = true) (hf : (ns.all fun f => decide (PySem.W.findIn K (.ref (He.ga K C)) f = some none)) = true) : ErrT K mg C q ns st := by
  obtain ⟨fd, F⟩ := c.t.d.def_ i e
  have hm : (He.eqO (PySem.W.findIn K (.ref (He.ga K C)) "__init__") (some (some (.ref (He.ma K (He.ga K C) "__init__")))) && (PySem.W.isFn K (.ref (He.ma K (He.ga K C) "__init__")) && PySem.W.keepIn K (.ref (He.ma K (He.ga K C) "__init__")))) = true := c.fact m e3
  rw [Bool.and_eq_true_iff, Bool.and_eq_true_iff] at hm
  obtain ⟨m1, m2, m3⟩ := hm
  refine ⟨He.glo_ok X G (c.fact j e2), oexB_ok ho, fun f hfm => of_decide_eq_true (List.all_eq_true.mp hf f hfm), _, fd, He.eqO_ok m1, ?_, F⟩
  unfold PySem.W.isFn at m2
  exact beq_iff_eq.mp m2
end ML

set_option maxHeartbeats 4000000
namespace ML
open PySem PySem.Spec PyProof.Rows L2
variable {I : List Nat}
/-! ### objects of own classes -/
theorem PkR.obj {K : PySem.W.Frag} {F : Fz} {H : Hp} {c : Str} {ns : List Str} {l : List W} {v : V} (h : PkR K F H (.obj c ns l) v) : ∃ a dx vs, v = .ref a ∧ H a = some (.ins (He.ga K c) dx (ns.zip vs)) ∧ ns.length = vs.length ∧ RepL K F H l vs := by
  rcases h with ⟨a, dx, vs, e, _, h1, n, h2⟩ | ⟨a, e, dx, vs, h1, n, h2⟩
  · exact ⟨a, dx, vs, e, h1, n, h2⟩
  · exact ⟨a, dx, vs, e, h1, n, h2⟩
def mFld (cl : List Str) (f : Str) (fe : Rho → R (Md × W)) : Rho → R (Md × W) := fun ρ => (fe ρ).bind fun b ρ1 => match peek b.1 b.2 ρ1 with
  | some (.obj c ns l) => if c ∈ cl then (match (ns.zip l).lookup f with
    | some w => .ok (.val, w) ρ1
    | none => .stk) else .stk
  | _ => .stk
def putN (f : Str) : List Str → List Str
  | [] => [f]
  | g :: r => if g = f then g :: r else g :: putN f r
def putL {α : Type} (f : Str) (y : α) : List Str → List α → List α
  | [], _ => [y]
  | g :: r, x :: t => if g = f then y :: t else x :: putL f y r t
  | _ :: _, [] => []
theorem put_zip {f : Str} {y : V} : ∀ {ns : List Str} {vs : List V}, ns.length = vs.length → putF f y (ns.zip vs) = (putN f ns).zip (putL f y ns vs) ∧ (putN f ns).length = (putL f y ns vs).length
  | [], [], _ => ⟨rfl, rfl⟩
  | g :: r, x :: t, h => by
    obtain ⟨h1, h2⟩ := put_zip (f := f) (y := y) (ns := r) (vs := t) (Nat.succ.inj h)
    unfold putN putL putF
    by_cases e : g = f
    · rw [if_pos e, if_pos e, List.zip_cons_cons, List.zip_cons_cons]
      exact ⟨by dsimp only; rw [if_pos e], h⟩
    · rw [if_neg e, if_neg e, List.zip_cons_cons, List.zip_cons_cons, ← h1]
      exact ⟨by dsimp only; rw [if_neg e], by rw [List.length_cons, List.length_cons, h2]⟩
theorem put_rep {K : PySem.W.Frag} {F : Fz} {H : Hp} {f : Str} {w : W} {y : V} (r : Rep K F H w y) : ∀ {ns : List Str} {l : List W} {vs : List V}, RepL K F H l vs → RepL K F H (putL f w ns l) (putL f y ns vs)
  | [], l, vs, _ => by
    cases l <;> cases vs <;> exact ⟨y, [], rfl, r, rfl⟩
  | g :: ns, [], _, h => by cases h; rfl
  | g :: ns, x :: l, _, ⟨v, t, e, h1, h2⟩ => by
    subst e
    unfold putL
    split
    · exact ⟨y, t, rfl, r, h2⟩
    · exact ⟨v, _, rfl, h1, put_rep r h2⟩
theorem lookup_none {K : PySem.W.Frag} {F : Fz} {H : Hp} {f : Str} : ∀ {ns : List Str} {ws : List W} {vs : List V}, RepL K F H ws vs → (ns.zip ws).lookup f = none → (ns.zip vs).lookup f = none
  | [], _, _, _, _ => by simp
  | n :: ns, [], _, h, _ => by cases h; simp
  | n :: ns, u :: ws, _, ⟨v, r, ev, h1, h2⟩, e => by
    subst ev
    rw [List.zip_cons_cons] at e ⊢
    unfold List.lookup at e ⊢
    cases hb : (f == n) with
    | true => rw [hb] at e; cases e
    | false => rw [hb] at e; exact lookup_none h2 e
def mFset (i : Nat) (I : List Nat) (cl : List Str) (f : Str) (fe : Rho → R (Md × W)) : Rho → R Fl := fun ρ => (fe ρ).bind fun b ρ1 => (toVal I b ρ1).bind fun w ρ2 => match ownAt ρ2 i with
  | some (.obj c ns l) => if c ∈ cl ∧ ns.length < 900 then .ok .nx (ρ2.set i (.own (.obj c (putN f ns) (putL f w ns l)))) else .stk
  | _ => .stk
section
variable {X : Cx} {Y : Yx I} {e o : Expr} {f : Str} {pos pos' apos p : Pos} {fe fo : Rho → R (Md × W)} {cl : List Str} {i : Nat}
theorem pem_fld (hcl : ∀ c ∈ cl, Cls X.K (He.ga X.K c) ∧ NoAttr X.K (He.ga X.K c) f) (he : PEM X Y e fe) (hb : attributeBase e f X.env (eval e X.env) = eval e X.env := by rfl) : PEM X Y (.Attribute e f pos) (mFld cl f fe) := pe_weak (pe_fld he hb) fun σ H Q hq => by
  obtain ⟨F, ρ, S, q⟩ := hq
  refine ⟨F, ρ, S, (RunG.bind q).imp fun b ρ1 F1 H1 S1 k1 q1 v hv => ?_⟩
  obtain ⟨F2, S2, k2, hd⟩ := S1.hold hv
  cases ep : peek b.1 b.2 ρ1 with
  | none => rw [ep] at q1; exact q1.elim
  | some w =>
    rw [ep] at q1
    have pk := S2.peek hd .refl ep
    cases w with
    | obj c ns l =>
      dsimp only at q1
      split at q1
      · rename_i hc
        obtain ⟨a, dx, vs, rfl, h1, h2, h3⟩ := pk.obj
        obtain ⟨g1, g2⟩ := hcl c hc
        cases el : (ns.zip l).lookup f with
        | none => rw [el] at q1; exact q1.elim
        | some u =>
          rw [el] at q1
          obtain ⟨y, hy, r⟩ := lookup_rep h3 el
          exact ⟨a, _, dx, _, y, rfl, h1, g1, g2, hy, q1 F2 H1 S2 k2 y r⟩
      · exact q1.elim
    | _ => exact q1.elim
theorem psm_fset (hcl : ∀ c ∈ cl, Cls X.K (He.ga X.K c) ∧ NoAttr X.K (He.ga X.K c) f) (ho : PE X o (tVar i)) (he : PEM X Y e fe) (hs : swapsWith e (some (.Attribute o f pos')) pos.line X.env = pure false := by rfl) : PSM X Y (.Assign [.Attribute o f pos'] e pos) (mFset i I cl f fe) := ps_weak (ps_fld ho he hs) fun D σ H hq => by
  obtain ⟨F, ρ, S, q⟩ := hq
  refine ⟨F, ρ, S, (RunS.bindE q).imp fun b ρ1 F1 H1 S1 k1 q1 v hv => ?_⟩
  obtain ⟨F2, w, ρ2, S2, k2, r, q2⟩ := S1.toVal hv (RunS.bindE (σ := σ) q1)
  cases e0 : ownAt ρ2 i with
  | none => rw [e0] at q2; exact q2.elim
  | some u =>
    rw [e0] at q2
    cases u with
    | obj c ns l =>
      dsimp only at q2
      split at q2
      · rename_i hc
        obtain ⟨a, ea, dx, vs, h1, h2, h3⟩ := own_list S2 e0
        obtain ⟨g1, g2⟩ := hcl c hc.1
        obtain ⟨z1, z2⟩ := put_zip (f := f) (y := v) h2
        have ka : Keeps F2 H1 F2 (upd H1 a (.ins (He.ga X.K c) dx (putF f v (ns.zip vs)))) := by
          obtain ⟨b2, eb2, ob2, nf, nk⟩ := S2.slot i _ (ownAt_get e0)
          rw [ea] at eb2
          cases eb2
          refine ⟨fun _ h => h, fun x o ho c2 => ?_⟩
          have nx : x ≠ a := fun z => by
            subst z
            rcases c2 with c2 | c2
            · exact nf c2
            · rw [h1] at ho
              cases ho
              exact c2 trivial
          rw [upd_ne nx]
          exact ho
        obtain ⟨S4, k4⟩ := S2.put (w' := .obj c (putN f ns) (putL f w ns l)) (o := .ins (He.ga X.K c) dx (putF f v (ns.zip vs))) (ownAt_get e0) ea trivial ⟨dx, putL f v ns vs, by rw [upd_same, z1], z2, (put_rep (r.mono ka) (h3.mono ka))⟩
        exact ⟨.ref a, ea, a, _, dx, _, rfl, h1, g1, g2, by rw [List.length_zip]; omega, q2 _ _ σ S4 k4⟩
      · exact q2.elim
    | _ => exact q2.elim
end
end ML
namespace ML
open PySem PySem.Spec PyProof.Rows L2
variable {I : List Nat}
/-! ### methods, new objects -/
/-- the method m of the class c keeps its mirror's promise -/
def MDef (P : Program) (w : World) (K : PySem.W.Frag) (mg : Str → Option Value) (base : Heap) (ct : Str → Addr) (k : Nat) (c m : Str) (ps : List Str) (fm : List W → FR) : Prop :=
  ∃ f fd, Cls K (He.ga K c) ∧ Meth K (He.ga K c) m f ∧ Binds K fd ps [] ∧ FnOk P w K mg base (L2.CX P w) k f fd ps (spM K ct [] ps.length fm)
/-- the class c makes objects, its __init__ keeping its mirror's promise -/
def KDef (P : Program) (w : World) (K : PySem.W.Frag) (mg : Str → Option Value) (base : Heap) (ct : Str → Addr) (k : Nat) (c : Str) (ps : List Str) (fm : List W → FR) : Prop :=
  ∃ f fd, mg c = some (.ref (He.ga K c)) ∧ Mk K (He.ga K c) f ∧ Binds K fd ps [] ∧ FnOk P w K mg base (L2.CX P w) k f fd ps (spM K ct [0] ps.length fm)
def mMeth (I : List Nat) (c m : Str) (fm : List W → FR) (fo : Rho → R (Md × W)) (fs : List (Rho → R (Md × W))) : Rho → R (Md × W) := fun ρ => (fo ρ).bind fun b ρ1 => match b with
  | (.val, .obj c' ns l) => if c' = c ∧ (ns.zip l).lookup m = none then (mHold fs ρ1).bind fun bs ρ2 => (valsL I bs ρ2).bind fun ws ρ3 => (match fm (.obj c ns l :: ws) with
    | .ok fr w [] => .ok (if fr then .fre else .val, w) ρ3
    | _ => .stk) else .stk
  | _ => .stk
def mMake (I : List Nat) (c : Str) (fm : List W → FR) (fs : List (Rho → R (Md × W))) : Rho → R (Md × W) := fun ρ => (mHold fs ρ).bind fun bs ρ1 => (valsL I bs ρ1).bind fun ws ρ2 => match fm (.obj c [] [] :: ws) with
  | .ok false .non [.obj c' ns l] => .ok (.fre, .obj c' ns l) ρ2
  | _ => .stk
theorem args_ok {K : PySem.W.Frag} {F : Fz} {H : Hp} {J : List Nat} : ∀ {ws : List W} {vs : List V} {k : Nat}, (∀ j, k ≤ j → j ∉ J) → RepL K F H ws vs → ArgsOk K F H J k ws vs
  | [], _, _, _, h => by cases h; exact rfl
  | w :: ws, _, k, hj, ⟨v, r, e, h1, h2⟩ => ⟨v, r, e, by rw [if_neg (hj k (Nat.le_refl k))]; exact h1, args_ok (fun j l => hj j (by omega)) h2⟩
theorem noPass {X : Cx} : Passes (L2.CX X.prog X.w) X (fun _ _ _ => False) := fun _ _ _ _ _ _ _ ⟨_, _, _, _, _, _, _, _, _, _, _, _, f⟩ => f.elim
section
variable {X : Cx} {Y : Yx I} {ct : Str → Addr} {k : Nat} {c m : Str} {ps : List Str} {fm : List W → FR} {p apos pos : Pos} {o e : Expr} {es : List Expr} {fo : Rho → R (Md × W)} {fs : List (Rho → R (Md × W))}
theorem vals_len : ∀ {bs : List (Md × W)} {ρ ρ' : Rho} {ws : List W}, valsL I bs ρ = .ok ws ρ' → ws.length = bs.length
  | [], _, _, _, e => by cases e; rfl
  | b :: bs, ρ, ρ', ws, e => by
    have e1 : (toVal I b ρ).bind (fun w ρ1 => (valsL I bs ρ1).bind fun ws ρ2 => .ok (w :: ws) ρ2) = .ok ws ρ' := e
    cases q1 : toVal I b ρ with
    | ok w ρ1 =>
      rw [q1] at e1
      have e2 : (valsL I bs ρ1).bind (fun ws ρ2 => R.ok (w :: ws) ρ2) = .ok ws ρ' := e1
      cases q2 : valsL I bs ρ1 with
      | ok ws2 ρ2 =>
        rw [q2] at e2
        cases e2
        rw [List.length_cons, List.length_cons, vals_len q2]
      | exc c ns ws ρ2 => rw [q2] at e2; cases e2
      | stk => rw [q2] at e2; cases e2
    | exc c ns ws ρ1 => rw [q1] at e1; cases e1
    | stk => rw [q1] at e1; cases e1
theorem meth_end {σ : L2.St} {F : Fz} {H : Hp} {ρ : Rho} {Q : VK} {a : Addr} {ns : List Str} {l ws : List W} {vs : List V} (S : SR X.K Y.B F H σ ρ) (hself : Rep X.K F H (.obj c ns l) (.ref a)) (r : RepL X.K F H ws vs) (hn : ws.length + 1 = ps.length)
    (q : RunG X.K Y F H σ (match fm (.obj c ns l :: ws) with
    | .ok fr w [] => R.ok (if fr then Md.fre else Md.val, w) ρ
    | _ => R.stk) fun b ρ' F' H' => ∀ v, VR X.K Y.B F' H' σ ρ' b.1 b.2 v → Q v H') : spM X.K ct [] ps.length fm (.ref a :: vs) H Q fun _ _ _ => False := by
  refine ⟨F, .obj c ns l :: ws, by rw [List.length_cons, ← r.len, hn], S.f2, ⟨_, vs, rfl, by rw [if_neg (by simp)]; exact hself, args_ok (fun j _ => by simp) r⟩, ⟨rfl, fun p hp => by cases hp⟩, ?_⟩
  cases ef : fm (.obj c ns l :: ws) with
  | stk => rw [ef] at q; exact q.elim
  | exc c2 ns2 ws2 outs => rw [ef] at q; exact q.elim
  | ok fr w outs =>
    rw [ef] at q
    cases outs with
    | cons o1 os => exact q.elim
    | nil =>
      intro F' H' v ex _ hv
      have ex' : Ext [] F H F' H' := ex
      exact q F' H' (S.grow ex') ex'.keeps v (S.newR ex' hv)
theorem pem_meth (D : MDef X.prog X.w X.K X.mg X.base ct k c m ps fm) (hr : Room k X.A) (he : PEM X Y o fo) (ha : PAM X Y (e :: es) fs) (hn : fs.length + 1 = ps.length)
    {pl : Sem Bool} (ht : eval (.Call (.Attribute o m apos) (e :: es) [] pos) X.env = (do
      let ov ← eval o X.env
      standAt apos.atName
      let (f, first) ← holding [ov] (getMethod ov m pl)
      callWith pos f first (backTo pos (starEach (e :: es) X.env)) (backToKw pos (keywordEach [] X.env))) := by rfl)
    (hst : starEach (e :: es) X.env = (false, eval e X.env) :: starEach es X.env := by rfl) (hpl : (backTo pos (starEach es X.env)).any (·.1) = false := by rfl) :
    PEM X Y (.Call (.Attribute o m apos) (e :: es) [] pos) (mMeth I c m fm fo fs) := by
  obtain ⟨f, fd, h1, h2, h3, h4⟩ := D
  refine pe_weak (pe_meth (dvs := []) (ds := []) (E := fun _ _ _ => False) he h1 h2 h4 hr h3 .nil noPass ha hst hpl ht) fun σ H Q hq => ?_
  obtain ⟨F, ρ, S, q⟩ := hq
  refine ⟨F, ρ, S, (RunG.bind q).imp fun b ρ1 F1 H1 S1 k1 q1 v hv => ?_⟩
  obtain ⟨bm, bw⟩ := b
  cases bm with
  | fre => exact q1.elim
  | bor i => exact q1.elim
  | val =>
    cases bw with
    | obj c' ns l =>
      dsimp only at q1
      split at q1
      · rename_i hc
        obtain ⟨rfl, hlk⟩ := hc
        have rp : Rep X.K F1 H1 (.obj c' ns l) v := hv
        obtain ⟨a, dx, vs0, rfl, fa, hH, hl, hR⟩ := rp
        refine ⟨a, dx, _, rfl, hH, lookup_none hR hlk, F1, ρ1, S1, ?_⟩
        have q2 := RunG.bind q1
        have q3 := RunG.withP (p := fun bs => bs.length = fs.length) (fun bs ρ2 e => mHold_len e) q2
        refine q3.imp fun bs ρ2 F2 H2 S2 k2 ⟨hlen, q4⟩ F3 vs S3 k3 hvs => ?_
        have q5 := RunG.withP (p := fun ws => ws.length = bs.length) (fun ws ρ e => vals_len e) (RunG.bind (q4.rebase k3))
        obtain ⟨F4, ws, ρ4, S4, k4, r4, hw, q6⟩ := S3.valsL hvs q5
        have kk : Keeps F1 H1 F4 H2 := (k2.trans k3).trans k4
        have hself : Rep X.K F4 H2 (.obj c' ns l) (.ref a) := Rep.mono kk _ ⟨a, dx, vs0, rfl, fa, hH, hl, hR⟩
        show spM X.K ct [] ps.length fm (V.ref a :: (vs ++ [])) H2 Q _
        rw [List.append_nil]
        exact meth_end S4 hself r4 (by omega) q6
      · exact q1.elim
    | _ => exact q1.elim
theorem pem_make (D : KDef X.prog X.w X.K X.mg X.base ct k c ps fm) (hr : Room (k + 1) X.A) (hg : Gl X c) (ha : PAM X Y (e :: es) fs) (hn : fs.length + 1 = ps.length) (hdb : (c == ("__debug__" : Str)) = false := by decide)
    (he : starEach (e :: es) X.env = (false, eval e X.env) :: starEach es X.env := by rfl) (hpl : (backTo pos (starEach es X.env)).any (·.1) = false := by rfl) : PEM X Y (.Call (.Name c p) (e :: es) [] pos) (mMake I c fm fs) := by
  obtain ⟨f, fd, hm, h2, h3, h4⟩ := D
  refine pe_weak (pe_make (dvs := []) (ds := []) (E := fun _ _ _ => False) h2 h4 hr hg hm h3 .nil noPass ha hdb he hpl) fun σ H Q hq => ?_
  obtain ⟨F, ρ, S, q⟩ := hq
  have q3 := RunG.withP (p := fun bs => bs.length = fs.length) (fun bs ρ2 e => mHold_len e) (RunG.bind q)
  refine ⟨F, ρ, S, q3.imp fun bs ρ1 F1 H1 S1 k1 ⟨hlen, q1⟩ F2 vs S2 k2 hvs x dx nx nd ne => ?_⟩
  have q5 := RunG.withP (p := fun ws => ws.length = bs.length) (fun ws ρ e => vals_len e) (RunG.bind (q1.rebase k2))
  obtain ⟨F3, ws, ρ3, S3, k3, r3, hw, q6⟩ := S2.valsL hvs q5
  have up : ∀ b u, H1 b = some u → (upd (upd H1 dx (.own x)) x (.ins (He.ga X.K c) dx [])) b = some u := fun b u hb => by
    rw [upd_ne (fun z => by rw [z, nx] at hb; cases hb), upd_ne (fun z => by rw [z, nd] at hb; cases hb)]
    exact hb
  have ex0 : Ext [] F3 H1 F3 (upd (upd H1 dx (.own x)) x (.ins (He.ga X.K c) dx [])) := ⟨fun b u _ h => up b u h, fun _ h => h, fun _ h => .inl h, fun b h => by
    have := S3.f2 b h
    cases hb : H1 b with
    | none => exact absurd hb this
    | some u => rw [up b u hb]; exact (fun z => nomatch z)⟩
  have nfx : ¬ F3 x := fun z => S3.f2 x z nx
  rw [List.append_nil]
  refine ⟨F3, .obj c [] [] :: ws, by rw [List.length_cons, ← r3.len]; omega, ex0.t, ⟨_, vs, rfl, by rw [if_pos (by simp)]; exact ⟨x, rfl, ⟨dx, [], upd_same, rfl, rfl⟩, nfx⟩, args_ok (fun j l => by simp; omega) (r3.mono ex0.keeps)⟩, ⟨rfl, fun p hp q hq _ => by
    have e1 : lentA [0] (V.ref x :: vs) = [(0, x)] := rfl
    rw [e1] at hp hq
    simp at hp hq
    rw [hp, hq]⟩, ?_⟩
  cases ef : fm (.obj c [] [] :: ws) with
  | stk => rw [ef] at q6; exact q6.elim
  | exc c2 ns2 ws2 outs => rw [ef] at q6; exact q6.elim
  | ok fr w outs =>
    rw [ef] at q6
    split at q6
    · rename_i heq
      cases heq
      rename_i c' ns l
      intro F' H' v ex oo hv
      have e1 : lentA [0] (V.ref x :: vs) = [(0, x)] := rfl
      rw [e1] at ex oo
      have ex' : Ext [] F3 H1 F' H' := ⟨fun b u _ h => ex.h b u (fun z => by
        have hbx : b = x := by simpa using z
        rw [hbx, nx] at h
        cases h) (up b u h), ex.f, (fun b h => by
        rcases ex.g b h with g | g
        · exact .inl g
        · right
          cases hb : H1 b with
          | none => rfl
          | some u => rw [up b u hb] at g; cases g), ex.t⟩
      obtain ⟨ow, nf⟩ := oo.2 0 (0, x) _ rfl rfl
      refine ⟨hv, q6 F' H' (S3.grow ex') ex'.keeps (.ref x) ⟨x, rfl, ow, nf, ?_, fun i w' hi ei => ?_⟩⟩
      · cases hb : Y.B.H0 x with
        | none => rfl
        | some u => exact absurd nx (S3.alive x (by rw [hb]; exact (fun z => nomatch z)))
      · obtain ⟨b, eb, ob, _⟩ := S3.slot i _ hi
        rw [ei] at eb
        cases eb
        obtain ⟨u, hu, _⟩ := ob.some
        rw [nx] at hu
        cases hu
    · exact q6.elim
end
end ML

set_option maxHeartbeats 4000000
namespace ML
open PySem PySem.Spec PyProof.Rows L2
variable {I : List Nat}
/-! ### texts split, in capitals -/
def mSplit (fo fe : Rho → R (Md × W)) : Rho → R (Md × W) := fun ρ => (fo ρ).bind fun x ρ1 => match x.1, x.2 with
  | .val, .str a => (fe ρ1).bind fun y ρ2 => (match y.1, y.2 with
    | .val, .str b => if b.length ≠ 0 ∧ a.length + 2 ≤ sizeLine then .ok (.fre, .lst ((Txt.split a b).map .str)) ρ2 else .stk
    | _, _ => .stk)
  | _, _ => .stk
def mUpper (fo : Rho → R (Md × W)) : Rho → R (Md × W) := fun ρ => (fo ρ).bind fun x ρ1 => match x.1, x.2 with
  | .val, .str a => if a.length ≤ 5592405 then .ok (.val, .str (Txt.upper a)) ρ1 else .stk
  | _, _ => .stk
theorem rep_strs {K : PySem.W.Frag} {F : Fz} {H : Hp} : ∀ ys : List Str, RepL K F H (ys.map .str) (ys.map .str)
  | [] => rfl
  | y :: ys => ⟨_, _, rfl, rfl, rep_strs ys⟩
section
variable {X : Cx} {Y : Yx I} {o e : Expr} {apos pos : Pos} {fo fe : Rho → R (Md × W)}
theorem pem_split (ho : PEM X Y o fo) (he : PEM X Y e fe) (hs : starEach [e] X.env = [(false, eval e X.env)] := by rfl) (hbase : attributeBase o "split" X.env (eval o X.env) = eval o X.env := by rfl) (hline : (apos.endLine == pos.line) = true := by rfl) :
    PEM X Y (.Call (.Attribute o "split" apos) [e] [] pos) (mSplit fo fe) := pe_weak (pe_split ho he hs hbase hline) fun σ H Q hq => by
  obtain ⟨F, ρ, S, q⟩ := hq
  refine ⟨F, ρ, S, (RunG.bind q).imp fun x ρ1 F1 H1 S1 k1 q1 v hv => ?_⟩
  obtain ⟨m, w⟩ := x
  dsimp only at q1
  split at q1
  · rename_i a
    cases (show v = .str a from hv)
    refine ⟨⟨a, rfl⟩, F1, ρ1, S1, (RunG.bind q1).imp fun y ρ2 F2 H2 S2 k2 q2 u hu => ?_⟩
    obtain ⟨m, w⟩ := y
    dsimp only at q2
    split at q2
    · rename_i b
      cases (show u = .str b from hu)
      split at q2
      · rename_i hc
        refine ⟨a, b, rfl, rfl, by simpa using hc.1, hc.2, fun p hp => ?_⟩
        exact new_lst (K := X.K) S2.f2 (rep_strs (Txt.split a b)) (fun F' H' v ee hn => q2 F' H' (S2.grow ee) ee.keeps v (S2.newR ee hn)) hp
      · exact q2.elim
    · exact q2.elim
  · exact q1.elim
theorem pem_upper (ho : PEM X Y o fo) (hbase : attributeBase o "upper" X.env (eval o X.env) = eval o X.env := by rfl) (hline : (apos.endLine == pos.line) = true := by rfl) :
    PEM X Y (.Call (.Attribute o "upper" apos) [] [] pos) (mUpper fo) := pe_weak (pe_upper ho hbase hline) fun σ H Q hq => by
  obtain ⟨F, ρ, S, q⟩ := hq
  refine ⟨F, ρ, S, (RunG.bind q).imp fun x ρ1 F1 H1 S1 k1 q1 v hv => ?_⟩
  obtain ⟨m, w⟩ := x
  dsimp only at q1
  split at q1
  · rename_i a
    cases (show v = .str a from hv)
    split at q1
    · rename_i hc
      exact ⟨⟨a, rfl⟩, a, rfl, rfl, hc, q1 F1 H1 S1 .refl _ rfl⟩
    · exact q1.elim
  · exact q1.elim
end
end ML

set_option maxHeartbeats 4000000
/-! ### list.extend(a tuple) -/
namespace PySem
open Builtin AutoSeq1
set_option maxRecDepth 8000 in
theorem ext_by_tuple (lst tup : Addr) (xs ys : Array Value) (m k : Nat) (dd : Option Addr) (sl : Array (Option Value)) (room : ¬(!xs.isEmpty && Builtin.List.listTooLong (xs.size + ys.size)) = true) (b1 : xs.size ≤ sizeLine) (b2 : xs.size + ys.size ≤ sizeLine + 1) :
    Meets (Builtin.«list.extend» ⟨[.ref lst, .ref tup], []⟩) (fun _ R s0 => s0.heap.get? lst = some { cls := .type "list", dict := none, data := .seq xs m, slots := #[] } ∧ s0.heap.get? tup = some { cls := .type "tuple", dict := dd, data := .seq ys k, slots := sl } ∧ R (.ok (.ret Value.none)) { s0 with heap := s0.heap.update lst (Obj.mapSeq fun z => z ++ ys), toks := s0.toks }) :=
  .of_wp fun prog w A R s0 all => by
    obtain ⟨heap, gens, drawn, toks, os⟩ := s0
    obtain ⟨at1, at2, fin⟩ := all
    have g1 := idx_int
    have g2 := sub_tuple_tuple
    have g3 := sub_list_list
    have g4 := sub_tuple_list
    have g5 := sub_list_tuple
    have big : (xs ++ ys).size ≤ sizeLine + 1 := by rw [Array.size_append]; exact b2
    wp_walk using (wpAny_updateSeq at1 rfl (hz := b1) (_hz' := big)), wpAny_loadPart' at1, wpAny_loadPart' at2
    exact ⟨_, rfl, fin⟩
end PySem
namespace ML
open PySem PySem.Spec PyProof.Rows L2
variable {I : List Nat}
def rExtT (K : PySem.W.Frag) : V → List V → Hp → VK → Prop := fun x vs H Q => ∃ a b xs zs, x = .ref a ∧ vs = [.ref b] ∧ H a = some (.lst xs) ∧ SqT K H b zs ∧ xs.length + zs.length ≤ sizeLine ∧ Q .non (upd H a (.lst (xs ++ zs)))
theorem mt_extT {X : Cx} : MtM X "list.extend" (rExtT X.K) := by
  intro pins s σ H x vs v us Q J rx rv hh
  obtain ⟨a, b, xs, zs, rfl, rfl, hA, hB, hz, q⟩ := hh
  cases rx
  obtain ⟨u, rfl, ru⟩ := rv.one
  cases ru
  obtain ⟨z, its, n, r, hl, e⟩ := J.lstM hA
  obtain ⟨its2, r2, p2, _⟩ := J.tuple hB
  obtain ⟨o2, e2, c2, n2, d2⟩ := p2
  obtain ⟨cl, dd, da, sl⟩ := o2
  have c2' : cl = .type "tuple" := c2
  have d2' : da = .seq its2.toArray n2 := d2
  subst c2' d2'
  have l1 := r.length
  have l2 := r2.length
  have both : its.toArray.size + its2.toArray.size ≤ sizeLine := by rw [List.size_toArray, List.size_toArray]; omega
  have room : ¬ (!its.toArray.isEmpty && Builtin.List.listTooLong (its.toArray.size + its2.toArray.size)) = true := by
    rw [notLongL both, Bool.and_false]
    exact Bool.false_ne_true
  refine call_meets PySem.F.slot_list_extend ⟨_, e, rfl⟩ PySem.F.entry_list_extend (PySem.F.args_list_extend_2 _ _) (PySem.ext_by_tuple a b its.toArray its2.toArray n n2 dd sl room (by omega) (by omega)) ⟨e, e2, ?_⟩
  refine ⟨.non, _, J.lset (its' := its ++ its2) hA e (by simp) (r.append r2) ?_, rfl, q⟩
  rw [List.length_append]
  omega
def mExtend (i : Nat) (I : List Nat) (fe : Rho → R (Md × W)) : Rho → R (Md × W) := fun ρ => match ownAt ρ i with
  | some (.lst _) => (fe ρ).bind fun b ρ1 => (toVal I b ρ1).bind fun w ρ2 => (match ownAt ρ2 i, w with
    | some (.lst l), .tup m => if l.length + m.length ≤ sizeLine then .ok (.val, .non) (ρ2.set i (.own (.lst (l ++ m)))) else .stk
    | _, _ => .stk)
  | _ => .stk
section
variable {X : Cx} {Y : Yx I} {o e : Expr} {apos pos : Pos} {fe : Rho → R (Md × W)} {i : Nat}
theorem pem_extend (ho : PE X o (tVar i)) (he : PEM X Y e fe) (hbase : attributeBase o "extend" X.env (eval o X.env) = eval o X.env := by rfl)
    (hfew : ((backTo pos (starEach (e :: []) X.env)).all (fun x => !x.1) && (backToKw pos (keywordEach [] X.env)).all (fun x => x.1.isSome) && decide ((e :: []).length + ([] : List Keyword).length + (if ([] : List Keyword).isEmpty then 0 else 1) < 30)) = true := by rfl)
    (hline : (apos.endLine == pos.line) = true := by rfl) (hs : starEach (e :: []) X.env = (false, eval e X.env) :: starEach [] X.env := by rfl) (hplain : (backTo pos (starEach [] X.env)).any (·.1) = false := by rfl) :
    PEM X Y (.Call (.Attribute o "extend" apos) [e] [] pos) (mExtend i I fe) :=
  pe_weak (pe_bm PySem.F.plainAttrs_list PySem.F.slot_list_extend PySem.F.type_list_extend mt_extT ho (pa_cons (te := tM X.K Y fe) he pa_nil hs) hbase hfew hline hs hplain) fun σ H Q hq => by
    obtain ⟨F, ρ, S, q⟩ := hq
    unfold mExtend at q
    cases e0 : ownAt ρ i with
    | none => rw [e0] at q; exact q.elim
    | some w0 =>
      rw [e0] at q
      obtain ⟨a, ea, ow⟩ := own_list S e0
      cases w0 with
      | lst l0 =>
        obtain ⟨vs0, g1, _⟩ := ow
        refine ⟨.ref a, ea, .inl ⟨rfl, vs0, .of g1⟩, F, ρ, S, (RunG.bind q).imp fun b ρ1 F1 H1 S1 k1 q1 v hv => ?_⟩
        obtain ⟨F2, w, ρ2, S2, k2, r, q2⟩ := S1.toVal hv (RunG.bind q1)
        split at q2
        · rename_i l m e2
          split at q2
          · rename_i hl
            obtain ⟨b2, eb, vs, h1, r1⟩ := own_list S2 e2
            rw [ea] at eb
            cases eb
            obtain ⟨c, zs, rfl, hc, rz⟩ := r
            have ka : Keeps F2 H1 F2 (upd H1 a (.lst (vs ++ zs))) := by
              obtain ⟨b3, eb3, ob, nf, nk⟩ := S2.slot i _ (ownAt_get e2)
              rw [ea] at eb3
              cases eb3
              exact ⟨fun _ h => h, fun x o ho c => by
                have nx : x ≠ a := fun z => by
                  subst z
                  rcases c with c | c
                  · exact nf c
                  · rw [h1] at ho; cases ho; exact c trivial
                rw [upd_ne nx]
                exact ho⟩
            obtain ⟨S3, k3⟩ := S2.put (w' := .lst (l ++ m)) (o := .lst (vs ++ zs)) (ownAt_get e2) ea trivial ⟨vs ++ zs, upd_same, (RepL.mono ka _ r1).append (RepL.mono ka _ rz)⟩
            exact ⟨a, c, vs, zs, rfl, rfl, h1, hc.seq, by rw [← r1.len, ← rz.len]; exact hl, q2 F2 _ S3 k3 .non rfl⟩
          · exact q2.elim
        · exact q2.elim
      | _ => exact q.elim
end
end ML

set_option maxHeartbeats 4000000
/-! ### enumerate(a tuple) -/
namespace PySem
set_option maxRecDepth 100000
theorem enum_new1 {src : Value} {ito : Obj} {Hp0 : Heap → Prop} (Bg : Begins src ito Hp0) :
    Meets (Builtin.«enumerate.__new__» ⟨[.type "enumerate", src], []⟩) (fun _ R st => Hp0 st.heap ∧
      R (.ok (.ret (.ref (st.heap.push ito).objs.size))) { st with heap := (st.heap.push ito).push { cls := .type "enumerate", data := .fields #[.none, .bool false, .ref st.heap.objs.size, rawInt 0, .none, .none] } }) :=
  .of_wp fun prog w A R st hh => by
    obtain ⟨heap, gens, drawn, toks, os⟩ := st
    obtain ⟨hst, hR⟩ := hh
    have hsub := sub_enumerate
    have it1 : ∀ {A' : Around} {E : Value → Shared → Prop} {Q : Value → Shared → Prop}, Q (.ref heap.objs.size) ⟨heap.push ito, gens, drawn, toks, os⟩ → wpAny (model prog w) A' (pyIter src) Q E ⟨heap, gens, drawn, toks, os⟩ :=
      fun q => Bg.iter prog w _ _ ⟨heap, gens, drawn, toks, os⟩ _ hst q
    wp_walk using it1
    refine wpAny_stack_any fun stk => wpAny_pure ?_
    split
    · rename_i cc _ _ _ _ _
      cases (cc == Value.type "enumerate")
      · wp_walk using it1
        exact ⟨_, rfl, hR⟩
      · wp_walk using it1
        exact ⟨_, rfl, hR⟩
    · wp_walk using it1
      exact ⟨_, rfl, hR⟩
section
variable {prog : Program} {w : World} {A : Around} {E : Value → Shared → Prop} {st : Shared}
theorem enum_call1 {src : Value} {ito : Obj} {Hp0 : Heap → Prop} {Q : Value → Shared → Prop} (Bg : Begins src ito Hp0) (h0 : Hp0 st.heap)
    (hQ : ∀ hp', IsEnum hp' (st.heap.objs.size + 1) st.heap.objs.size 0 .none → hp'.get? st.heap.objs.size = some ito → hp'.objs.size = st.heap.objs.size + 2 → (∀ b ob, st.heap.get? b = some ob → hp'.get? b = some ob) → Q (.ref (st.heap.objs.size + 1)) { st with heap := hp' }) :
    wpAny (model prog w) A (call (.type "enumerate") [src]) Q E st := by
  refine callType_new F.called_enumerate (by decide) (F.typeCall_enumerate_1 _) (F.newCall_enumerate_1 _) (fun ob => F.args_object_init_2 ob _) F.entry_enumerate_new (enum_new1 Bg) ⟨h0, ?_⟩
  have sz : (st.heap.push ito).objs.size = st.heap.objs.size + 1 := Heap.size_push ..
  show _ ∧ _
  rw [sz]
  have isE : IsEnum ((st.heap.push ito).push { cls := .type "enumerate", data := .fields #[.none, .bool false, .ref st.heap.objs.size, rawInt 0, .none, .none] }) (st.heap.objs.size + 1) st.heap.objs.size 0 .none := by
    have z := Heap.get?_push_size (st.heap.push ito) (o := { cls := .type "enumerate", data := .fields #[.none, .bool false, .ref st.heap.objs.size, rawInt 0, .none, .none] }) rfl
    rw [sz] at z
    exact z
  exact ⟨⟨_, isE, rfl⟩, hQ _ isE (Heap.get?_push_of_some _ (Heap.get?_push_size _ Bg.free)) (by rw [Heap.size_push, sz]) fun b ob z => Heap.get?_push_of_some _ (Heap.get?_push_of_some _ z)⟩
theorem enum_endT {en it t : Addr} {i : Nat} {its : Array Value} {old : Value} {k : Int} {Q : Option Value → Shared → Prop} (calm : A.handled = none) (isE : IsEnum st.heap en it k old) (hit : st.heap.IsTupleIter it t i) (ht : st.heap.IsTuple t its) (hx : its[i]? = none)
    (hQ : ∀ hp', Heap.ExtBut it st.heap hp' → Q none { st with heap := hp' }) : wpAny (model prog w) A (pyNext (.ref en)) Q E st := by
  have ty : st.TypeIs (.ref en) "enumerate" := ⟨_, isE, rfl⟩
  unfold pyNext
  refine wpAny_bind ?_
  refine wpAny_attempt ?_
  refine wpAny_callSpecial?_slot (name := Str.ofString "__next__") ty F.slot_enumerate_next ?_
  refine wpAny_call_entry F.slot_enumerate_next ty F.entry_enumerate_next ?_ (F.args_enumerate_next_1 _)
  show wpAny _ _ (field (.ref en) 2 >>= _) _ _ st
  refine wpAny_bind (wpAny_field isE rfl (x := .ref it) rfl ?_)
  refine wpAny_bind ?_
  refine wpAny_nextOf_tuple_end (show A.in1.handled = none from calm) hit ht hx fun hp' err he her => ?_
  obtain ⟨oo, ho, hc⟩ := her
  refine wpAny_bind ?_
  refine wpAny_isInstance (T := "StopIteration") (b := true) ⟨oo, ho, hc⟩ isSubtype_stop ?_
  exact wpAny_pure (hQ _ he)
end
end PySem
namespace L2
open PySem PySem.Spec PyProof.Rows
/-- the tuple at t, each item in a new pair with its number -/
def IteT (K : PySem.W.Frag) (t : Addr) : It :=
  ⟨fun i H => ∃ (xs : List V) (x : V), SqT K H t xs ∧ xs[i]? = some x,
    fun i H v H' => ∃ T x, v = .ref T ∧ H T = none ∧ H' = upd H T (.tup [.int (i : Nat), x]) ∧ ∀ xs, SqT K H t xs → xs[i]? = some x,
    fun i H => ∃ xs : List V, SqT K H t xs ∧ xs.length ≤ i⟩
theorem turn_enumT {P : Program} {w : World} {K : PySem.W.Frag} {elts : List Expr} {kk : Nat} {tpos : Pos} (t en it : Addr) :
    Turn P w K (.Tuple elts kk tpos) (IteT K t) [en, it] en (fun i hp => (∃ old, IsEnum hp en it ((i : Nat) : Int) old) ∧ hp.IsTupleIter it t i ∧ en ≠ it ∧ en ≠ t ∧ t ≠ it) where
  mem := by simp
  obj := fun i hp stt b hb => by
    obtain ⟨⟨old, isE⟩, ⟨oi, gi, _, di⟩, _⟩ := stt
    have cs : b = en ∨ b = it := by simpa using hb
    rcases cs with rfl | rfl
    · exact ⟨_, isE, fun v q => nomatch q⟩
    · exact ⟨oi, gi, fun v q => by rw [di] at q; cases q⟩
  keep := fun i hp hp' stt k => by
    obtain ⟨⟨old, isE⟩, hi, n1, n2, n3⟩ := stt
    exact ⟨⟨old, k en (by simp) _ isE⟩, hi.at fun ob q => k it (by simp) ob q, n1, n2, n3⟩
  item := by
    intro X eP ew eK calm i pins st σ H E J hf stt hg
    subst eP ew eK
    obtain ⟨⟨old, isE⟩, hit, n1, n2, n3⟩ := stt
    obtain ⟨xs, x, hq, hx⟩ := hg
    obtain ⟨its, rv, pt, _⟩ := J.tuple hq
    obtain ⟨u, hu, ru⟩ := rv.get hx
    have le1 : en < st.heap.objs.size := Heap.lt_size isE
    have le2 : it < st.heap.objs.size := by obtain ⟨_, q, _⟩ := hit; exact Heap.lt_size q
    have hlt : i < its.toArray.size := by
      rw [List.size_toArray]
      exact (List.getElem?_eq_some_iff.mp hu).1
    refine wpAny_pyNext_enum_itemD (Draws.tuple (A := X.A.in1) (show X.A.in1.handled = none from J.ok.hd calm) it t n3 its.toArray) isE ⟨hit, pt⟩ hlt n1 (by simp [n1, n2]) fun y hp' tk py ho st' hT hsz hk => ?_
    have ey : y = u := by
      have e1 : its[i]? = some y := by simpa using py
      rw [hu] at e1
      exact (Option.some.inj e1).symm
    subst ey
    refine ⟨_, rfl, wpAny_letOwnedTupleGo_enum (s := { st with heap := hp', toks := tk + 1 }) ho fun hp'' isE' sb => ?_⟩
    have gT : hp''.get? st.heap.objs.size = some { cls := .type "tuple", data := .seq #[.int i tk, y] } := (sb.2 _ (Nat.ne_of_gt le1)).trans hT
    have new : ObjOk X.prog X.w (upd H st.heap.objs.size (.tup [.int (i : Nat), x])) hp'' st.heap.objs.size (.tup [.int (i : Nat), x]) :=
      ⟨by show 2 ≤ sizeLine; decide, [.int i tk, y], .cons ⟨_, rfl⟩ (.cons ru .nil), ⟨_, gT, rfl, _, rfl⟩⟩
    have J1 : Inv X pins σ (upd H st.heap.objs.size (.tup [.int (i : Nat), x])) { st with heap := hp'', toks := tk + 1 } :=
      J.turnedNew (ch := [en, it]) (fun b ob hb q => (sb.2 b (fun z => hb (by simp [z]))).trans (hk b ob (fun z => hb (by simp [z])) (fun z => hb (by simp [z])) q)) hf (Nat.le_refl _) new
    refine ⟨.ref st.heap.objs.size, _, J1, rfl, ⟨_, x, rfl, J.hok.fresh (Nat.le_refl _), rfl, fun ys hy => by rw [J.tuple_inj hy hq]; exact hx⟩, ⟨⟨y, ?_⟩, st'.1.at fun ob q => (sb.2 it (Ne.symm n1)).trans q, n1, n2, n3⟩, fun b hb => ?_⟩
    · have e1 : ((i + 1 : Nat) : Int) = (i : Int) + 1 := by omega
      rw [e1]
      exact isE'
    · have lt : b < st.heap.objs.size := by
        have cs : b = en ∨ b = it := by simpa using hb
        rcases cs with rfl | rfl
        · exact le1
        · exact le2
      rw [upd_ne (Nat.ne_of_lt lt)]
      exact (hf b hb).1
  done := by
    intro X eP ew eK calm i pins st σ H E J hf stt hg
    subst eP ew eK
    obtain ⟨⟨old, isE⟩, hit, n1, n2, n3⟩ := stt
    obtain ⟨xs, hq, hx⟩ := hg
    obtain ⟨its, rv, pt, _⟩ := J.tuple hq
    obtain ⟨f0, f1, f2, f3, f4, f5⟩ := hf it (by simp)
    have hl := rv.length
    exact enum_endT (J.ok.hd calm) isE hit pt (by simp; omega) fun hp' eb => ⟨rfl, J.turned (t' := st.toks) (fun b ob hb q => eb b ob hb q) f0 f1 f3 f4 f5⟩
  self := fun A i st Q E stt q => by
    obtain ⟨⟨_, isE⟩, _⟩ := stt
    exact wpAny_pyIter_enum isE q
def iEnumT (K : PySem.W.Frag) (ta : TA) : TI := fun σ H R => ta σ H fun vs H1 => ∃ t xs, vs = [.ref t] ∧ SqT K H1 t xs ∧ R (IteT K t) H1
theorem pi_enumT {X : Cx} {e : Expr} {ta : TA} {p pos tpos : Pos} {elts : List Expr} {kk : Nat} (hg : Gl X "enumerate") (hm : X.mg "enumerate" = none) (ha : PA X [e] ta) (hs : starEach [e] X.env = [(false, eval e X.env)] := by rfl) :
    PI X (.Tuple elts kk tpos) (.Call (.Name "enumerate" p) [e] [] pos) (iEnumT X.K ta) := by
  refine ⟨fun pins st σ H R J hh => ?_⟩
  refine Call_ (ld_blt J hg hm boot_enumerate (PyProof.Rows.callWith_type1 (thn (ha.run pos pins st σ H _ J hh) fun us st1 ⟨vs, H1, J1, r1, q1⟩ => ?_) hs rfl))
  obtain ⟨t, xs, ex, hq, q⟩ := q1
  subst ex
  cases r1 with
  | cons r rr =>
    cases rr
    cases r
    obtain ⟨its, rv, pt, _⟩ := J1.tuple hq
    refine enum_call1 (begins_tuple t its.toArray) pt fun hp' isE gi hsz hk => wpAny_pyIter_enum isE ?_
    have J2 : Inv X pins σ H1 { st1 with heap := hp' } := J1.kept (t' := st1.toks) hk
    have lt : t < st1.heap.objs.size := by obtain ⟨_, q, _⟩ := pt; exact Heap.lt_size q
    refine ⟨st1.heap.objs.size + 1, [st1.heap.objs.size + 1, st1.heap.objs.size], _, _, H1, rfl, J2, turn_enumT t (st1.heap.objs.size + 1) st1.heap.objs.size, ⟨⟨.none, isE⟩, ⟨_, gi, rfl, rfl⟩, Nat.succ_ne_self _, Nat.ne_of_gt (Nat.lt_succ_of_lt lt), Nat.ne_of_lt lt⟩, fun b hb => ?_, q⟩
    have cs : b = st1.heap.objs.size + 1 ∨ b = st1.heap.objs.size := by simpa using hb
    have le : st1.heap.objs.size ≤ b := by
      rcases cs with z | z
      · rw [z]; exact Nat.le_add_right _ _
      · rw [z]; exact Nat.le_refl _
    exact J1.fpOk le (J1.hok.fresh le)
end L2
namespace ML
open PySem PySem.Spec PyProof.Rows L2
variable {I : List Nat}
/-- numbered items -/
def enumW : Nat → List W → List W
  | _, [] => []
  | n, w :: l => .tup [.int (n : Int), w] :: enumW (n + 1) l
theorem enumW_len : ∀ (l : List W) (n : Nat), (enumW n l).length = l.length
  | [], _ => rfl
  | w :: l, n => by rw [enumW, List.length_cons, List.length_cons, enumW_len l]
theorem enumW_get : ∀ (l : List W) (n i : Nat) (u : W), (enumW n l)[i]? = some u → ∃ w, l[i]? = some w ∧ u = .tup [.int ((n + i : Nat) : Int), w]
  | [], _, _, _, e => by simp [enumW] at e
  | w :: l, n, 0, u, e => ⟨w, rfl, by
    have e1 : W.tup [.int (n : Int), w] = u := Option.some.inj e
    exact e1.symm⟩
  | w :: l, n, i + 1, u, e => by
    have e1 : (enumW (n + 1) l)[i]? = some u := e
    obtain ⟨w', e2, e3⟩ := enumW_get l (n + 1) i u e1
    exact ⟨w', e2, by rw [e3, show n + 1 + i = n + (i + 1) by omega]⟩
def mEnum (fs : List (Rho → R (Md × W))) : Rho → R (List W) := fun ρ => (mHold fs ρ).bind fun bs ρ1 => match bs with
  | [(.val, .tup l)] => .ok (enumW 0 l) ρ1
  | _ => .stk
theorem it_enumT {K : PySem.W.Frag} {F : Fz} {H : Hp} {a : Addr} {ws : List W} {vs : List V} (hs : SqU K H a vs) (r : RepL K F H ws vs) : ItR K (IteT K a) F H (enumW 0 ws) := by
  intro F' H' k t i
  refine ⟨fun u eu => ?_, fun h => ⟨vs, (k.sqU hs).seq, by rw [← r.len, ← enumW_len ws 0]; exact h⟩⟩
  obtain ⟨w, ew, rfl⟩ := enumW_get _ _ _ _ eu
  obtain ⟨v, ev, rv⟩ := r.get ew
  refine ⟨⟨vs, v, (k.sqU hs).seq, ev⟩, ?_⟩
  rintro x H'' ⟨T, y, rfl, nT, rfl, hy⟩
  have e1 := hy vs (k.sqU hs).seq
  rw [ev] at e1
  cases e1
  have ex : Ext [] F' H' F' (upd H' T (.tup [.int (i : Nat), v])) := Ext.new nT t
  refine ⟨F', ex, T, _, rfl, .inl upd_same, .int _, _, rfl, ?_, v, [], rfl, Rep.mono (k.trans ex.keeps) _ rv, rfl⟩
  show V.int _ = V.int _
  rw [show (0 + i : Nat) = i by omega]
section
variable {X : Cx} {Y : Yx I} {e : Expr} {fs : List (Rho → R (Md × W))} {p pos tpos : Pos} {elts : List Expr} {kk : Nat}
theorem pim_enum (hg : Gl X "enumerate") (hm : X.mg "enumerate" = none) (ha : PAM X Y [e] fs) (hs : starEach [e] X.env = [(false, eval e X.env)] := by rfl) :
    PIM X Y (.Tuple elts kk tpos) (.Call (.Name "enumerate" p) [e] [] pos) (mEnum fs) := pi_weak (pi_enumT hg hm ha hs) fun σ H Q hq => by
  obtain ⟨F, ρ, S, q⟩ := hq
  refine ⟨F, ρ, S, (RunG.bind q).imp fun bs ρ1 F1 H1 S1 k1 q1 F2 vs S2 k2 hvs => ?_⟩
  split at q1
  · rename_i l
    obtain ⟨v, r, rfl, h1, h2⟩ := hvs
    cases (show r = [] from h2)
    obtain ⟨a, xs, rfl, hs, rl⟩ := (show Rep X.K F2 H1 (.tup l) v from h1)
    exact ⟨a, xs, rfl, hs.seq, q1 F2 H1 S2 k2 _ (it_enumT hs rl)⟩
  · exact q1.elim
end
end ML

set_option maxHeartbeats 4000000
namespace ML
open PySem PySem.Spec PyProof.Rows L2
variable {I : List Nat}
/-! ### isinstance(e, (C, D, ..)) of an exception in its suite -/
theorem kitAny_names {K : PySem.W.Frag} {t : Value} {g : Str → Bool} : ∀ {Ds : List Str}, (∀ D ∈ Ds, PySem.W.kitOne K t (.ref (He.ga K D)) = some (g D)) → PySem.W.kitAny K t (Ds.map fun D => .ref (He.ga K D)) = some (Ds.any g)
  | [], _ => rfl
  | D :: Ds, h => by
    rw [List.map_cons, List.any_cons]
    unfold PySem.W.kitAny
    rw [h D (List.mem_cons_self ..)]
    cases g D with
    | true => rfl
    | false => exact kitAny_names fun E hE => h E (List.mem_cons_of_mem _ hE)
theorem fns_vals {K : PySem.W.Frag} {F : Fz} {H : Hp} : ∀ {Ds : List Str} {vs : List V} {us : List Value}, RepL K F H (Ds.map .fn) vs → Vals vs us → us = Ds.map fun D => .ref (He.ga K D)
  | [], _, _, r, v => by
    cases (show _ = [] from r)
    cases v
    rfl
  | D :: Ds, _, _, ⟨v, r, e, h1, h2⟩, q => by
    subst e
    cases (show v = .ref (He.ga K D) from h1)
    cases q with
    | cons q1 q2 =>
      cases q1
      rw [fns_vals h2 q2, List.map_cons]
def rIsT (K : PySem.W.Frag) (C a : Addr) (d : Option Addr) : List V → Hp → VK → Prop := fun xs H Q => ∃ (tp : Addr) (vs : List V) (F : Fz) (Ds : List Str) (b : Bool), xs = [.ref a, .ref tp] ∧ SqT K H tp vs ∧ RepL K F H (Ds.map .fn) vs ∧ PySem.W.kitAny K (.ref C) (Ds.map fun D => .ref (He.ga K D)) = some b ∧ (d = none ∨ ∃ (dd : Addr) (fs : List (Str × V)), d = some dd ∧ H dd = some (.xd fs)) ∧ Q (.bl b) H
section
variable {X : Cx} {ct : Str → Addr} {Y' : Yx I} {a : Addr} {oe : Obj} {cls : Value} {d : Option Addr} {pn : List (Addr × Obj)} {i : Nat} {f c x : Str} {ns : List Str} {ws : List W} {cl : List Str} {p pos : Pos}
theorem call_isT {C : Addr} (E : ExcC X.K C) (hz : Zc (.ref C) d oe) (hf : ∃ vs, oe.data = .fields vs) : CallR (X.suite a ((a, oe) :: pn)) (.builtin "isinstance") (rIsT X.K C a d) := by
  intro pins s σ H xs us Q I r h
  obtain ⟨tp, vs, F, Ds, b, rfl, hq, hr, e, hd, q⟩ := h
  cases r with
  | cons rx rr =>
    cases rr with
    | cons rt rr =>
      cases rr
      cases rx
      cases rt
      obtain ⟨hget, _⟩ := I.pin (a, oe) (List.mem_append.mpr (.inl List.mem_cons_self))
      obtain ⟨ws0, hv⟩ := hf
      obtain ⟨od, J⟩ : ∃ od, PySem.W.InstAt s.heap a oe C od := by
        rcases hd with hd | ⟨dd, fs, hd, hH⟩
        · refine ⟨none, hget, hz.1, by unfold PySem.W.notCls; rw [hv] <;> rfl, ?_⟩
          rw [hz.2, hd]
          trivial
        · have hx : ObjOk X.prog X.w H s.heap dd (.xd fs) := I.hok dd _ hH
          obtain ⟨mA, hns, _⟩ := hx
          obtain ⟨od, ho, _⟩ := lookIn_ns hns
          refine ⟨some od, hget, hz.1, by unfold PySem.W.notCls; rw [hv] <;> rfl, ?_⟩
          rw [hz.2, hd]
          exact ho
      have hcl : (PySem.W.clsIn X.K C).isSome = true := by
        obtain ⟨cd, hc, _⟩ := PySem.W.any_some E.hd
        rw [hc]
        rfl
      obtain ⟨its, r2, p2, _⟩ := I.tuple hq
      obtain ⟨o2, e2, c2, n2, d2⟩ := p2
      obtain ⟨cl, dd, da, sl⟩ := o2
      have c2' : cl = .type "tuple" := c2
      have d2' : da = .seq its.toArray n2 := d2
      subst c2' d2'
      have ei := fns_vals hr r2
      subst ei
      exact PySem.W.kia_tup (PySem.W.kitx_exc hcl E.hg E.hk E.hs E.ha E.hn E.ht E.hm) I.kIn J e2 e (fun z => nomatch z) fun tk => ⟨.bl b, H, I.kept (t' := tk) fun _ _ z => z, rfl, q⟩
def mIsT (i : Nat) (t : Option Bool) (Ds : List Str) : Rho → R (Md × W) := fun ρ => match ρ[i]?, t with
  | some .exn, some b => if Ds.length ≤ sizeLine then .ok (.val, .bl b) ρ else .stk
  | _, _ => .stk
def mFns (Ds : List Str) : List (Rho → R (Md × W)) := Ds.map fun D => mC (.fn D)
theorem hold_fns : ∀ (Ds : List Str) (ρ : Rho), mHold (mFns Ds) ρ = .ok (Ds.map fun D => (.val, .fn D)) ρ
  | [], _ => rfl
  | D :: Ds, ρ => by
    have := hold_fns Ds ρ
    show (mHold (mFns Ds) ρ).bind _ = _
    rw [this]
    rfl
theorem vals_fns : ∀ (Ds : List Str) (ρ : Rho), valsL I (Ds.map fun D => (Md.val, W.fn D)) ρ = .ok (Ds.map .fn) ρ
  | [], _ => rfl
  | D :: Ds, ρ => by
    have := vals_fns Ds ρ
    show (valsL I (Ds.map fun D => (Md.val, W.fn D)) ρ).bind _ = _
    rw [this]
    rfl
theorem tup_fns (Ds : List Str) (ρ : Rho) (h : Ds.length ≤ sizeLine) : mTup I (mFns Ds) ρ = .ok (.val, .tup (Ds.map .fn)) ρ := by
  show (mHold (mFns Ds) ρ).bind (fun bs ρ1 => (valsL I bs ρ1).bind fun ws ρ2 => if ws.length ≤ sizeLine then R.ok (Md.val, W.tup ws) ρ2 else .stk) = _
  rw [hold_fns]
  show (valsL I (Ds.map fun D => (Md.val, W.fn D)) ρ).bind (fun ws ρ2 => if ws.length ≤ sizeLine then R.ok (Md.val, W.tup ws) ρ2 else .stk) = _
  rw [vals_fns]
  show (if (Ds.map W.fn).length ≤ sizeLine then _ else _) = _
  rw [List.length_map, if_pos h]
theorem pem_isT {Ds : List Str} {te : Expr} {p1 : Pos} (su : Sui X.K ct Y' a cls d c ns ws) (hz : Zc cls d oe) (hf : ∃ vs, oe.data = .fields vs) (hcl : ∀ c ∈ cl, ExcC X.K (ct c)) (hg : Gl X "isinstance") (hm : X.mg "isinstance" = none) (hv : PE (X.suite a ((a, oe) :: pn)) (.Name x p) (tVar i))
    (hD : PEM (X.suite a ((a, oe) :: pn)) Y' te (mTup I (mFns Ds))) {t : Option Bool} (ht : ∀ b, t = some b → c ∈ cl ∧ PySem.W.kitAny X.K (.ref (ct c)) (Ds.map fun D => .ref (He.ga X.K D)) = some b)
    (hs1 : starEach [.Name x p, te] (X.suite a ((a, oe) :: pn)).env = (false, eval (.Name x p) (X.suite a ((a, oe) :: pn)).env) :: starEach [te] (X.suite a ((a, oe) :: pn)).env := by rfl)
    (hs2 : starEach [te] (X.suite a ((a, oe) :: pn)).env = (false, eval te (X.suite a ((a, oe) :: pn)).env) :: starEach [] (X.suite a ((a, oe) :: pn)).env := by rfl)
    (hpl : (backTo pos (starEach [te] (X.suite a ((a, oe) :: pn)).env)).any (·.1) = false := by rfl) :
    PEM (X.suite a ((a, oe) :: pn)) Y' (.Call (.Name "isinstance" p1) [.Name x p, te] [] pos) (mIsT i t Ds) := by
  cases t with
  | none =>
    refine pe_weak (t := fun _ _ _ => False) ⟨fun _ _ _ _ _ _ h => h.elim⟩ fun σ H Q hq => ?_
    obtain ⟨F, ρ, S, q⟩ := hq
    unfold mIsT at q
    split at q
    · rename_i hh
      cases hh
    · exact q
  | some b =>
    obtain ⟨hc, hk⟩ := ht b rfl
    have hz' : Zc (.ref (ct c)) d oe := by rw [← su.cls]; exact hz
    refine pe_weak (pe_callB (call_isT (hcl c hc) hz' hf) hg hm (by rfl) (pa_cons (te := tVar i) hv (pa_cons (te := tM X.K Y' (mTup I (mFns Ds))) hD pa_nil hs2) hs1) (by decide) (by decide) hs1 hpl) fun σ H Q hq => ?_
    obtain ⟨F, ρ, S, q⟩ := hq
    unfold mIsT at q
    cases g : ρ[i]? with
    | none => rw [g] at q; exact q.elim
    | some sl =>
      rw [g] at q
      cases sl with
      | no => exact q.elim
      | val w => exact q.elim
      | own w => exact q.elim
      | exn =>
        dsimp only at q
        split at q
        · rename_i hl
          have hs' : σ[i]? = some (some (.ref Y'.B.ea)) := S.slot i _ g
          rw [su.ea] at hs'
          refine ⟨.ref a, hs', F, ρ, S, ?_⟩
          rw [tup_fns Ds ρ hl]
          intro F1 H1 S1 k1 v hv
          obtain ⟨tp, vs, rfl, hq1, hr⟩ := (show Rep X.K F1 H1 (.tup (Ds.map .fn)) v from hv)
          refine ⟨tp, vs, F1, Ds, b, rfl, hq1.seq, hr, hk, ?_, q F1 H1 S1 k1 _ rfl⟩
          have x' := su.fld F1 H1 σ ρ S1
          cases ns with
          | nil => exact .inl x'.1
          | cons n ns =>
            obtain ⟨dd, vs, ed, h1, _⟩ := x'
            exact .inr ⟨dd, _, ed, h1⟩
        · exact q.elim
end
end ML

set_option maxHeartbeats 4000000
namespace ML
open PySem PySem.Spec PyProof.Rows L2
variable {I : List Nat}
/-! ### own classes from the text -/
/-- the method m (st) of the class C -/
def MethT (K : PySem.W.Frag) (C m q : Str) (st : Stmt) : Prop := Cls K (He.ga K C) ∧ Meth K (He.ga K C) m (He.ma K (He.ga K C) m) ∧ ∃ fd, FunD K m q (defArgs st) (defBody st) (defScope st) [] [] (He.ma K (He.ga K C) m) fd
/-- the class C makes objects by its __init__ (st), which has n defaults -/
def MakeT (K : PySem.W.Frag) (mg : Str → Option Value) (C q : Str) (n : Nat) (st : Stmt) : Prop := mg C = some (.ref (He.ga K C)) ∧ Mk K (He.ga K C) (He.ma K (He.ga K C) "__init__") ∧ ∃ fd dvs, dvs.length = n ∧ FunD K "__init__" q (defArgs st) (defBody st) (defScope st) dvs [] (He.ma K (He.ga K C) "__init__") fd
section
variable {P : Program} {w : World} {K : PySem.W.Frag} {mg : Str → Option Value} {base : Heap} {ct : Str → Addr} {k : Nat} {C m q : Str} {ps N : List Str} {st : Stmt} {g : Rho → R Fl}
theorem meth_mk (T : MethT K C m q st) (S : FnScope N ps (defScope st)) (hn : ps.length ≤ N.length)
    (hbi : ∀ (kV doc pm : Value) (an : Option Addr) (cdv ct : Value) (us : List Value), us.length = ps.length → bindArgs (PySem.W.fnOf m q (defArgs st) (defBody st) (defScope st) .none kV doc pm an cdv ct) ⟨us, []⟩ = pure (ps.zip us))
    (hb : ∀ (f : Addr) (cdv : Value) (A : Around) (outer : List Env) (s : Shared) (H : Hp) (E : XK) (Y : Yx []), Room k (cxOf (L2.CX P w) P w K mg base N q (defScope st) f cdv A outer s H E).A → Y.ct = ct → Takes (cxOf (L2.CX P w) P w K mg base N q (defScope st) f cdv A outer s H E) Y.wx →
      PSMs (cxOf (L2.CX P w) P w K mg base N q (defScope st) f cdv A outer s H E) Y (defBody st) g) : MDef P w K mg base ct (k + 1) C m ps (mFun [] N.length g) := by
  obtain ⟨hc, hm, fd, F⟩ := T
  exact ⟨_, fd, hc, hm, F.bindsN hbi, fn_ok F S hn (fun _ _ => rfl) (hb _)⟩
theorem binds_all {x : Str} {dvs : List V} {f : Addr} {fd : FuncData} {params : Arguments} {body : List Stmt} {scope : Scope} (F : FunD K x q params body scope dvs [] f fd)
    (hbi : ∀ (kV doc pm : Value) (an : Option Addr) (cdv ct : Value) (us : List Value), us.length = ps.length → bindArgs (PySem.W.fnOf x q params body scope .none kV doc pm an cdv ct) ⟨us, []⟩ = pure (ps.zip us))
    (hbd : ∀ (T : Addr) (kV doc pm : Value) (an : Option Addr) (cdv ct : Value) (us its : List Value), us.length = ps.length → its.length = dvs.length →
      ∃ k, bindArgs (PySem.W.fnOf x q params body scope (.ref T) kV doc pm an cdv ct) ⟨us, []⟩ = seqItems? (.ref T) >>= k ∧ k (some its.toArray) = pure (ps.zip us)) : Binds K fd ps [] := by
  by_cases hd : dvs = []
  · subst hd
    exact F.bindsN hbi
  · obtain ⟨ds, hv, hb⟩ := F.binds1 (ps := ps) ps.length dvs.length hd (by omega) fun T kV doc pm an cdv ct us its h1 h2 => by
      have e : us ++ its.drop dvs.length = us := by rw [← h2, List.drop_length, List.append_nil]
      rw [e]
      exact hbd T kV doc pm an cdv ct us its h1 h2
    rw [List.drop_length] at hv
    cases hv
    exact hb
theorem make_mk {n : Nat} (T : MakeT K mg C q n st) (S : FnScope N ps (defScope st)) (hn : ps.length ≤ N.length)
    (hbi : ∀ (kV doc pm : Value) (an : Option Addr) (cdv ct : Value) (us : List Value), us.length = ps.length → bindArgs (PySem.W.fnOf "__init__" q (defArgs st) (defBody st) (defScope st) .none kV doc pm an cdv ct) ⟨us, []⟩ = pure (ps.zip us))
    (hbd : ∀ (T : Addr) (kV doc pm : Value) (an : Option Addr) (cdv ct : Value) (us its : List Value), us.length = ps.length → its.length = n →
      ∃ k, bindArgs (PySem.W.fnOf "__init__" q (defArgs st) (defBody st) (defScope st) (.ref T) kV doc pm an cdv ct) ⟨us, []⟩ = seqItems? (.ref T) >>= k ∧ k (some its.toArray) = pure (ps.zip us))
    (hb : ∀ (f : Addr) (cdv : Value) (A : Around) (outer : List Env) (s : Shared) (H : Hp) (E : XK) (Y : Yx [0]), Room k (cxOf (L2.CX P w) P w K mg base N q (defScope st) f cdv A outer s H E).A → Y.ct = ct → Takes (cxOf (L2.CX P w) P w K mg base N q (defScope st) f cdv A outer s H E) Y.wx →
      PSMs (cxOf (L2.CX P w) P w K mg base N q (defScope st) f cdv A outer s H E) Y (defBody st) g) : KDef P w K mg base ct (k + 1) C ps (mFun [0] N.length g) := by
  obtain ⟨hm, hk, fd, dvs, hl, F⟩ := T
  subst hl
  exact ⟨_, fd, hm, hk, binds_all F hbi hbd, fn_ok F S hn (fun _ _ => rfl) (hb _)⟩
end
section
variable {h : Heap} {w : World} {K : PySem.W.Frag} {mg : Str → Option Value} {fa : List He.Fa} {fn : List He.DefD} {ts : List He.Tab} {more : PySem.W.Frag → Bool} {C m q : Str} {st : Stmt}
theorem methT_ok (c : SaysM fa fn ts more w K) (i j n : Nat) (e : fn[i]? = some ⟨(C, some m), m, q, defArgs st, defBody st, defScope st, [], []⟩ := by rfl) (e2 : fa[j]? = some (.cls C) := by rfl) (e3 : fa[n]? = some (.meth C m) := by rfl) : MethT K C m q st := by
  obtain ⟨fd, F⟩ := c.t.d.def_ i e
  exact ⟨He.cls_ok (c.fact j e2), He.meth_ok (c.fact n e3), fd, F⟩
theorem makeT_ok (X : K.In h) (G : h.Ns mainGlobals mg) (c : SaysM fa fn ts more w K) (i j n : Nat) {dfl : List He.Dv} (e : fn[i]? = some ⟨(C, some "__init__"), "__init__", q, defArgs st, defBody st, defScope st, dfl, []⟩ := by rfl) (e2 : fa[j]? = some (.glo C) := by rfl) (e3 : fa[n]? = some (.mkr C) := by rfl) : MakeT K mg C q dfl.length st := by
  obtain ⟨fd, F⟩ := c.t.d.def_ i e
  refine ⟨He.glo_ok X G (c.fact j e2), He.mkr_ok (c.fact n e3), fd, _, ?_, F⟩
  show (dfl.map _).length = _
  rw [List.length_map]
theorem noat_ok {f : Str} (c : SaysM fa fn ts more w K) (j n : Nat) (e2 : fa[j]? = some (.cls C) := by rfl) (e3 : fa[n]? = some (.noat C f) := by rfl) : Cls K (He.ga K C) ∧ NoAttr K (He.ga K C) f := ⟨He.cls_ok (c.fact j e2), He.noat_ok (c.fact n e3)⟩
end
end ML

set_option maxHeartbeats 4000000
/-! ### {**d, k: v} -/
namespace PySem
open Sem (wp)
section
variable {prog : Program} {w : World} {K : Type} [DecidableEq K] {knd : KeyKind prog w K} {A : Around} {E : Value → Shared → Prop} {s : Shared}
theorem wpAny_dictPut_pairs {d : Addr} {kvs : List (K × Value)} {k : K} {key v : Value} {Q : Unit → Shared → Prop} (hkey : knd.is k key = true) (hm : s.heap.DictOf knd d kvs)
    (hQ : ∀ h', h'.DictOf knd d (stored kvs k v) → Heap.SameBut d s.heap h' → Q () { s with heap := h' })
    (hsz : kvs.length ≤ sizeLine := by size_fits) :
    wpAny (model prog w) A (dictPut d (knd.hash k) key v) Q E s := by
  obtain ⟨o, es, ep, ho, hc, hd, hk, hp, hn⟩ := hm
  have hes : es.size ≤ sizeLine := by have e1 := hp.length; have e2 : es.toList.length = es.size := by simp
                                      omega
  unfold dictPut
  refine wpAny_bind (wpAny_dictFind_of hkey ho hd hk ?_)
  have hidx : (es.findIdx? fun e => knd.is k e.key) = kvs.findIdx? fun kv => decide (kv.1 = k) := by
    rw [← hp.findIdx k]; obtain ⟨l⟩ := es; simp
  cases hi : es.findIdx? fun e => knd.is k e.key with
  | some i =>
    refine wpAny_updateDict ho hd (hQ _ ⟨_, _, ep, Heap.get?_update_self _ ho (Obj.isFreed_of_dict (Obj.data_mapDict hd _)),
      hc.mapDict _, Obj.data_mapDict hd _, hk.modify _ _, ?_, ?_⟩ (Heap.SameBut.update ..))
    · rw [stored, if_pos (any_of_findIdx_some (hidx ▸ hi))]
      have hl : (es.toList.findIdx? fun e => knd.is k e.key) = some i := by rw [← hi]; obtain ⟨l⟩ := es; simp
      have := hp.modify hn hl v
      obtain ⟨l⟩ := es
      simpa using this
    · rw [stored, if_pos (any_of_findIdx_some (hidx ▸ hi)), keys_map_store]; exact hn
  | none =>
    have hnot : k ∉ kvs.map (·.1) := not_mem_of_findIdx_none (hidx ▸ hi)
    have hany : ¬ (kvs.any fun kv => decide (kv.1 = k)) = true := by
      rw [List.any_eq_true]; rintro ⟨kv, hkv, he⟩
      exact hnot (List.mem_map.mpr ⟨kv, hkv, of_decide_eq_true he⟩)
    refine wpAny_updateDictKeys (hz := hes) ho hd (hQ _ ⟨_, _, ep + 1, Heap.get?_update_self _ ho (Obj.isFreed_of_dict (Obj.data_mapDictKeys hd _)),
      hc.mapDictKeys _, Obj.data_mapDictKeys hd _, hk.push hkey _, ?_, ?_⟩ (Heap.SameBut.update ..))
    · rw [stored, if_neg hany]
      have := hp.append hkey (knd.hash k) v
      obtain ⟨l⟩ := es
      simpa using this
    · rw [stored, if_neg hany, List.map_append, List.nodup_append]
      refine ⟨hn, by simp, ?_⟩
      intro a ha b hb
      simp only [List.map_cons, List.map_nil, List.mem_singleton] at hb
      subst hb
      exact fun e => hnot (e ▸ ha)
theorem wpAny_mergeMapping {d o : Addr} {kvs more : List (K × Value)} {Q : Unit → Shared → Prop} (hdo : d ≠ o) (hoS : (o == sysModules) = false)
    (hd : s.heap.DictOf knd d kvs) (ho : s.heap.DictOf knd o more)
    (hQ : ∀ h', h'.DictOf knd d (merged kvs more) → h'.DictOf knd o more → Heap.SameBut d s.heap h' → Q () { s with heap := h' })
    (hsz : kvs.length + more.length ≤ sizeLine := by size_fits) :
    wpAny (model prog w) A (mergeMapping d (.ref o) false) Q E s := by
  obtain ⟨od, esd, epd, hod, hcd, hdd, hkd, hpd, hnd⟩ := id hd
  obtain ⟨oo, eso, epo, hoo, hco, hdo', hko, hpo, hno⟩ := id ho
  have hT := ho.typeIs
  have hlen : more.length = eso.size := by rw [← hpo.length]; simp
  unfold mergeMapping
  refine wpAny_bind (wpAny_isInstance hT isSubtype_dict_dict ?_)
  rw [if_pos rfl]
  refine wpAny_bind (wpAny_specialOf hT F.slot_dict_iter.lookup (wpAny_bind (wpAny_pure ?_)))
  rw [show (some (Value.builtin "dict.__iter__") == some (Value.builtin "dict.__iter__")) = true from beq_self_eq_true _]
  dsimp only
  rw [if_neg (by rw [hoS]; exact Bool.false_ne_true)]
  have main : wpAny (model prog w) A (do
      let l ← dictEntries o
      let epoch ← dictEpoch o
      forIn (List.range l.size) PUnit.unit fun i (_ : PUnit) => (do
        let l' ← dictEntries o
        match l'[i]? with
          | some e => do
            holding [e.key, e.val] (if false = true then do
                let f ← dictFind d e.key e.hash
                if f.isSome = true then do
                  rule "dict.merge.duplicate-key"
                  let x ← newExc (Value.type "KeyError") [e.key]
                  let _ ← (raiseNew x : Sem PUnit)
                  dictPut d e.hash e.key e.val
                else dictPut d e.hash e.key e.val
              else dictPut d e.hash e.key e.val)
            let ep' ← dictEpoch o
            if (ep' != epoch) = true then do
              (unsupported "dict.changed-during-merge" : Sem PUnit)
              pure (ForInStep.yield PUnit.unit)
            else pure (ForInStep.yield PUnit.unit)
          | _ => do
            (unsupported "dict.changed-during-merge" : Sem PUnit)
            pure (ForInStep.yield PUnit.unit) : Sem (ForInStep PUnit))
      pure ()) Q E s := by
    refine wpAny_bind (wpAny_dictEntries hoo hdo' ?_)
    refine wpAny_bind (wpAny_dictEpoch hoo hdo' ?_)
    refine wpAny_bind ?_
    rw [List.range_eq_range']
    refine wpAny_forIn_list _
      (fun rest _ s' => ∃ h' i, s' = { s with heap := h' } ∧ rest = List.range' i (eso.size - i) ∧ i ≤ eso.size ∧ h'.DictOf knd d (merged kvs (more.take i)) ∧ h'.get? o = some oo ∧ Heap.SameBut d s.heap h')
      _ ?_ ?_ _ _ ⟨s.heap, 0, rfl, by simp, Nat.zero_le _, by simpa [merged] using hd, hoo, Heap.SameBut.refl _ _⟩
    · rintro x rest b s' ⟨h', i, rfl, hr, hi, hd', hoo', hs'⟩
      have hlt : i < eso.size := by
        rcases Nat.lt_or_ge i eso.size with h | h
        · exact h
        · rw [Nat.sub_eq_zero_of_le h] at hr; simp at hr
      obtain ⟨rfl, hrest⟩ : x = i ∧ rest = List.range' (i + 1) (eso.size - (i + 1)) := by
        have e : eso.size - i = (eso.size - (i + 1)) + 1 := by omega
        rw [e, List.range'_succ] at hr
        injection hr with h1 h2
        exact ⟨h1, h2⟩
      refine wpAny_bind (wpAny_dictEntries hoo' hdo' ?_)
      rw [Array.getElem?_eq_getElem hlt]
      obtain ⟨kv, hkv⟩ : ∃ kv, more[x]? = some kv := ⟨more[x]'(by rw [hlen]; exact hlt), List.getElem?_eq_getElem _⟩
      obtain ⟨k, v⟩ := kv
      obtain ⟨hkey, hval⟩ := hpo.get? (e := eso[x]) (by simp [hlt]) hkv
      obtain ⟨k', hkey', hhash⟩ := hko eso[x] (Array.getElem_mem hlt)
      obtain rfl : k' = k := knd.inj _ _ _ hkey' hkey
      dsimp only
      rw [if_neg Bool.false_ne_true]
      rw [hhash, hval]
      have hmx : (merged kvs (more.take x)).length ≤ sizeLine := by
        have e1 := merged_length_le kvs (more.take x)
        have e2 : (more.take x).length ≤ more.length := by rw [List.length_take]; omega
        omega
      refine wpAny_bind (wpAny_holding (wpAny_dictPut_pairs (hsz := hmx) hkey hd' fun h'' hd'' hs'' => ?_))
      have hoo'' : h''.get? o = some oo := (hs''.2 o (Ne.symm hdo)).trans hoo'
      refine wpAny_bind (wpAny_dictEpoch hoo'' hdo' ?_)
      rw [if_neg (by simp)]
      exact wpAny_pure ⟨h'', x + 1, rfl, hrest, hlt, by rw [merged_take_succ kvs more x (k', v) hkv]; exact hd'', hoo'', hs'.trans hs''⟩
    · rintro b s' ⟨h', i, rfl, hr, hi, hd', hoo', hs'⟩
      have hin : i = eso.size := by
        rcases Nat.lt_or_ge i eso.size with h | h
        · have e : eso.size - i = (eso.size - (i + 1)) + 1 := by omega
          rw [e, List.range'_succ] at hr; exact nomatch hr
        · exact Nat.le_antisymm hi h
      refine wpAny_pure (hQ h' ?_ ⟨oo, eso, epo, hoo', hco, hdo', hko, hpo, hno⟩ hs')
      rw [hin, ← hlen, List.take_length] at hd'; exact hd'
  refine wpAny_bind (wpAny_dictEntries hod hdd ?_)
  split
  · refine wpAny_bind (wpAny_dictEntries hoo hdo' ?_)
    have hloop : ∀ (f : DictEntry → Sem (ForInStep PUnit)) (hf : ∀ e, carriedByValue e.key = true → f e = pure (ForInStep.yield PUnit.unit)), (forIn eso PUnit.unit fun e (_ : PUnit) => f e) = pure PUnit.unit := by
      intro f hf
      rw [← Array.forIn_toList]
      refine forIn_yield_id _ fun e he c => ?_
      obtain ⟨k, hkey, _⟩ := hko e (Array.mem_toList_iff.mp he)
      exact hf e (knd.byValue k _ hkey)
    refine wpAny_bind (wpAny_of_eq (hloop _ fun e he => ?_) ?_)
    · cases hk : e.key <;> first | rfl | (rw [hk] at he; exact absurd he Bool.false_ne_true)
    · exact main
  · exact main
end
end PySem
namespace L2
open PySem PySem.Spec PyProof.Rows
section
variable {X : Cx} {pins : List (Addr × Obj)} {σ : List (Option V)} {H : Hp} {s : Shared} {h' : Heap}
/-- an untracked object of ours becomes a tracked one -/
theorem Inv.adopt {t' : Nat} {it : Addr} {o : HO} (I : Inv X pins σ H s) (k : ∀ b o, b ≠ it → s.heap.get? b = some o → h'.get? b = some o) (hn : H it = none) (hL : it ≠ X.env.locals)
    (h1 : X.s_0.heap.objs.size ≤ it) (h2 : ∀ x c, X.env.cells.lookup x = some c → c ≠ it) (h3 : ∀ p ∈ X.pn ++ pins, p.1 ≠ it) (hnew : ObjOk X.prog X.w (upd H it o) h' it o) : Inv X pins σ (upd H it o) { s with heap := h', toks := t' } := by
  have nit : ∀ b u, H b = some u → b ≠ it := fun b u e z => by rw [z, hn] at e; cases e
  refine I.step (g' := s.gens) (d' := s.drawn) (ch := [it]) (fun b hb => ?_) (fun b o _ _ hc e _ => k b o (fun z => hc (by simp [z])) e) (fun b o _ _ hc e _ => ⟨o.slots, k b o (fun z => hc (by simp [z])) e⟩) (fun b o hc e n => ?_)
    (fun b o hc e => ⟨o, k b o (fun z => hc (by simp [z])) e⟩) (fun b xs e => by rw [upd_ne (nit b _ e)]; exact e) (fun b o u e => by rw [upd_ne (nit b _ e)]; exact e) (fun b ps e => ⟨#[], by rw [upd_ne (nit b _ e), e]; simp⟩) (fun m hm => ?_) (fun b u e => ?_) I.bare
  · have e : b = it := by simpa using hb
    subst e
    exact ⟨.inr h1, hL, h2, h3⟩
  · rw [upd_ne (fun z => hc (by simp [z]))]; exact n
  · obtain ⟨o, es, ep, ho, r⟩ := hm
    exact ⟨o, es, ep, k _ o (Ne.symm hL) ho, r⟩
  · by_cases hb : b = it
    · subst hb; rw [upd_same] at e; cases e; exact hnew
    · rw [upd_ne hb] at e
      refine (I.hok b u e).stay (fun c v hc q => k c v ?_ q) (fun c q => by rw [upd_ne (nit c _ q)]; exact q) fun c xs q => by rw [upd_ne (nit c _ q)]; exact q
      rcases hc with z | z
      · rw [z]; exact hb
      · exact nit c _ z
/-- a raw object of ours stands apart -/
structure Apart (X : Cx) (pins : List (Addr × Obj)) (a : Addr) : Prop where
  loc : a ≠ X.env.locals
  big : X.s_0.heap.objs.size ≤ a
  cells : ∀ x c, X.env.cells.lookup x = some c → c ≠ a
  pn : ∀ p ∈ X.pn ++ pins, p.1 ≠ a
  fs : a ∉ X.fs
theorem Inv.apart (I : Inv X pins σ H s) {a : Addr} (h : s.heap.objs.size ≤ a) : Apart X pins a := by
  refine ⟨fun z => ?_, Nat.le_trans I.sz h, fun x c e z => ?_, fun p hp z => ?_, I.nofs h⟩
  · have := I.lt
    rw [← z] at this
    exact absurd (Nat.lt_of_lt_of_le this h) (Nat.lt_irrefl _)
  · obtain ⟨v, o, ho, _⟩ := I.cell x c e
    have := Heap.lt_size ho
    rw [z] at this
    exact absurd (Nat.lt_of_lt_of_le this h) (Nat.lt_irrefl _)
  · have := Heap.lt_size (I.pin p hp).1
    rw [z] at this
    exact absurd (Nat.lt_of_lt_of_le this h) (Nat.lt_irrefl _)
theorem Inv.put_pin (I : Inv X pins σ H s) {a : Addr} {o : Obj} (A : Apart X pins a) (h : s.heap.get? a = some o) (hn : H a = none) (hd : ∀ v, o.data ≠ .cell v) : Inv X ((a, o) :: pins) σ H s :=
  I.pins_of fun p hp => by
    rcases List.mem_cons.mp hp with e | hp
    · rw [e]; exact ⟨h, hn, A.loc, A.fs, hd⟩
    · exact I.pin p (List.mem_append_right _ hp)
theorem Inv.drop_pin {q : Addr × Obj} (I : Inv X (q :: pins) σ H s) : Inv X pins σ H s := I.pins_of fun p hp => I.pin p (List.mem_append_right _ (List.mem_cons_of_mem _ hp))
theorem Inv.get_pin {q : Addr × Obj} (I : Inv X (q :: pins) σ H s) : s.heap.get? q.1 = some q.2 ∧ H q.1 = none := by
  have z := I.pin q (List.mem_append_right _ List.mem_cons_self)
  exact ⟨z.1, z.2.1⟩
end
/-- {**e, k: v} -/
def tDspl (te tk tv : TE) : TE := fun σ H Q => te σ H fun x H1 => ∃ a kvs, x = .ref a ∧ Rd H1 a (.dK kvs) ∧ kvs.length + 1 ≤ sizeLine ∧ tk σ H1 fun y H2 => tv σ H2 fun z H3 => ∃ key, y = kV key ∧ ∀ p, H3 p = none → Q (.ref p) (upd H3 p (.dK (putK kvs key z)))
theorem KV.putAll {kvs : List (Key × V)} {vs : List (Key × Value)} (r : KV kvs vs) : vs.map (·.1) = kvs.map (·.1) := by
  unfold KV at r
  induction r with
  | nil => rfl
  | cons h t ih => rw [List.map_cons, List.map_cons, ih, h.1]
theorem stored_fresh {α : Type} [DecidableEq α] {acc : List (α × Value)} {k : α} {v : Value} (h : k ∉ acc.map (·.1)) : stored acc k v = acc ++ [(k, v)] := by
  unfold stored
  rw [if_neg]
  rw [List.any_eq_true]
  rintro ⟨kv, hkv, he⟩
  exact h (List.mem_map.mpr ⟨kv, hkv, of_decide_eq_true he⟩)
theorem merged_fresh {α : Type} [DecidableEq α] : ∀ (more acc : List (α × Value)), (acc.map (·.1) ++ more.map (·.1)).Nodup → merged acc more = acc ++ more
  | [], acc, _ => by simp [merged]
  | (k, v) :: more, acc, h => by
    have hk : k ∉ acc.map (·.1) := fun hk => by
      have := (List.nodup_append.mp h).2.2 k hk k (by simp)
      exact this rfl
    have e : merged acc ((k, v) :: more) = merged (stored acc k v) more := by simp [merged]
    rw [e, stored_fresh hk, merged_fresh more (acc ++ [(k, v)]) (by simpa using h)]
    simp
end L2
namespace L2
open PySem PySem.Spec PyProof.Rows
section
variable {X : Cx} {pos : Pos} {e k v : Expr} {te tk tv : TE}
theorem dict_empty {P : Program} {w : World} {h : Heap} {a : Addr} (g : h.get? a = some { cls := .type "dict", data := .dict #[] }) : h.DictOf (mixKind P w) a [] := ⟨_, #[], 0, g, ⟨rfl, rfl, rfl⟩, rfl, fun e he => by simp at he, Pairs.nil, List.nodup_nil⟩
theorem pe_dspl (he : PE X e te) (hk : PE X k tk) (hv : PE X v tv) : PE X (.Dict [none, some k] [e, v] pos) (tDspl te tk tv) := by
  refine ⟨fun pins s σ H Q I h => ?_⟩
  rw [arm_eval_Dict]
  refine wpAny_bind (wpAny_standAt ?_)
  show wpAny (model X.prog X.w) X.A (dictDisplay [(none, do let x ← eval e X.env; standAt pos; pure x), (some (eval k X.env), do let x ← eval v X.env; standAt pos; pure x)]) _ _ _
  unfold dictDisplay
  simp only [List.forIn_cons, List.forIn_nil, pure_bind, bind_assoc, List.isEmpty_nil, if_true]
  refine wpAny_bind (wpAny_alloc ?_)
  have hn0 : H s.heap.objs.size = none := I.hok.fresh (Nat.le_refl _)
  have A0 := I.apart (Nat.le_refl s.heap.objs.size)
  have big0 := I.big
  generalize ea0 : s.heap.objs.size = a0 at *
  have I0 : Inv X pins σ H { s with heap := s.heap.push { cls := .type "dict", data := .dict #[] } } := I.kept (t' := s.toks) fun _ _ q => Heap.get?_push_of_some _ q
  have g0 : (s.heap.push { cls := .type "dict", data := .dict #[] }).get? a0 = some { cls := .type "dict", data := .dict #[] } := by rw [← ea0]; exact Heap.get?_push_size _ rfl
  have P0 := I0.put_pin A0 g0 hn0 fun v z => nomatch z
  refine wpAny_bind (wpAny_holding (wpAny_bind (thn (he.run _ _ σ H _ P0 h) fun u s1 ⟨x, H1, I1, rx, a, kvs, ex, rd, hz, q1⟩ => wpAny_bind (wpAny_standAt (wpAny_pure ?_)))))
  subst ex
  obtain rfl : u = Value.ref a := rx
  obtain ⟨z, hd, vs, rel, dd⟩ := dk_rd I1.hok rd
  obtain ⟨e1, n1⟩ := I1.get_pin
  dsimp only at e1 n1
  have hne : a0 ≠ a := fun z => by
    subst z
    rcases rd with r | ⟨o, r⟩ <;> (rw [n1] at r; cases r)
  have hvl : vs.length = kvs.length := rel.length.symm
  refine wpAny_bind (wpAny_onRaise (wpAny_tryCatch (wpAny_onRaise (wpAny_holding (wpAny_mergeMapping (hsz := by rw [List.length_nil]; omega) hne hd (dict_empty e1) dd fun h1 m1 m2 sb => ?_)))))
  have hvn : (vs.map (·.1)).Nodup := by obtain ⟨_, _, _, _, _, _, _, _, hn⟩ := dd; exact hn
  rw [merged_fresh vs [] (by simpa using hvn), List.nil_append] at m1
  have I2 : Inv X pins σ H1 { s1 with heap := h1 } := (I1.drop_pin).turned (it := a0) (t' := s1.toks) (fun b o hb e => (sb.2 b hb).trans e) n1 A0.loc (.inr A0.big) A0.cells A0.pn
  obtain ⟨o1, es1, ep1, g1, c1, dt1, r1⟩ := m1
  have P2 := I2.put_pin A0 g1 n1 fun v z => by rw [dt1] at z; cases z
  simp only [List.nil_append, List.length_cons, List.length_nil, List.isEmpty_cons]
  rw [if_neg (by decide)]
  simp only [pure_bind, List.isEmpty_cons, Bool.false_eq_true, if_false]
  have big1 := P2.big
  have hn3 : H1 h1.objs.size = none := P2.hok.fresh (Nat.le_refl _)
  have A1 := P2.apart (Nat.le_refl h1.objs.size)
  have lt01 : a0 < h1.objs.size := Heap.lt_size g1
  generalize ea1 : h1.objs.size = a1 at *
  refine wpAny_bind (wpAny_bind (wpAny_holding ?_))
  refine wpAny_subDict (knd := mixKind X.prog X.w) (pairs := [_]) (Nat.le_add_left 1 14) ?_
  rw [ea1]
  have I3 : Inv X ((a0, o1) :: pins) σ H1 { s1 with heap := h1.push { cls := .type "dict", data := .dict #[] } } := P2.kept (t' := s1.toks) fun _ _ q => Heap.get?_push_of_some _ q
  have g3 : (h1.push { cls := .type "dict", data := .dict #[] }).get? a1 = some { cls := .type "dict", data := .dict #[] } := by rw [← ea1]; exact Heap.get?_push_size _ rfl
  have P3 := I3.put_pin A1 g3 hn3 fun v z => nomatch z
  refine evalPairs_cons (thn (hk.run _ _ σ H1 _ P3 q1) fun kv s4 ⟨y, H2, I4, ry, q2⟩ => wpAny_bind (thn (hv.run _ s4 σ H2 _ I4 q2) fun vv s5 ⟨zv, H3, I5, rz, key, ek, q3⟩ => wpAny_bind (wpAny_standAt (wpAny_pure (evalPairs_nil ?_)))))
  subst ek
  obtain ⟨e5, n5⟩ := I5.get_pin
  dsimp only at e5 n5
  refine ⟨[(key, vv)], ⟨kV_is ry, rfl, True.intro⟩, dict_empty e5, fun h6 m6 sb6 => ?_⟩
  have I6 : Inv X ((a0, o1) :: pins) σ H3 { s5 with heap := h6, toks := s5.toks + [(kv, vv)].length } := (I5.drop_pin).turned (it := a1) (fun b o hb e => (sb6.2 b hb).trans e) n5 A1.loc (.inr A1.big) A1.cells A1.pn
  obtain ⟨e6, n6⟩ := I6.get_pin
  dsimp only at e6 n6
  refine wpAny_bind (wpAny_onRaise (wpAny_holding (wpAny_mergeMapping (kvs := vs) (more := [(key, vv)]) (hsz := by show vs.length + 1 ≤ sizeLine; omega) (Nat.ne_of_lt lt01) (beq_eq_false_iff_ne.mpr (Ne.symm (Nat.ne_of_lt big1))) ⟨o1, es1, ep1, e6, c1, dt1, r1⟩ m6 fun h7 m7 _ sb7 => wpAny_pure (wpAny_pure ?_))))
  have hl : (putK kvs key zv).length ≤ sizeLine := by have := length_putK kvs key zv; omega
  have I7 := (I6.drop_pin).adopt (it := a0) (o := .dK (putK kvs key zv)) (t' := s5.toks + [(kv, vv)].length) (fun b o hb e => (sb7.2 b hb).trans e) n6 A0.loc A0.big A0.cells A0.pn (dk_new hl (beq_eq_false_iff_ne.mpr (Ne.symm (Nat.ne_of_lt big0))) (rel.put key rz) m7)
  exact ⟨.ref a0, _, I7, rfl, q3 a0 n6⟩
end
end L2

set_option maxHeartbeats 4000000
namespace ML
open PySem PySem.Spec PyProof.Rows L2
variable {I : List Nat}
/-! ### dicts -/
def toK : W → Option Key
  | .int i => some (.inl i)
  | .str s => some (.inr s)
  | _ => none
theorem toK_rep {K : PySem.W.Frag} {F : Fz} {H : Hp} {w : W} {v : V} {k : Key} (h : Rep K F H w v) (e : toK w = some k) : v = kV k := by
  cases w with
  | int i => cases e; exact h
  | str i => cases e; exact h
  | _ => cases e
def dGet : List Key → List W → Key → Option W
  | k' :: ks, w :: l, k => if k' = k then some w else dGet ks l k
  | _, _, _ => none
def dVals : List Key → List W → Key → W → List W
  | k' :: ks, w' :: l, k, w => (if k' = k then w else w') :: dVals ks l k w
  | _, _, _, _ => []
def kHas (ks : List Key) (k : Key) : Bool := ks.any fun x => decide (x = k)
def dPut (ks : List Key) (l : List W) (k : Key) (w : W) : List Key × List W := if kHas ks k = true then (ks, dVals ks l k w) else (ks ++ [k], l ++ [w])
section
variable {K : PySem.W.Frag} {F : Fz} {H : Hp}
theorem dGet_rep : ∀ {ks : List Key} {l : List W} {vs : List V} {k : Key}, ks.length = vs.length → RepL K F H l vs → (∀ w, dGet ks l k = some w → ∃ v, valV (ks.zip vs) k = some v ∧ Rep K F H w v) ∧ (dGet ks l k = none → valV (ks.zip vs) k = none)
  | [], l, vs, k, _, _ => ⟨fun w e => by (cases l <;> cases e), fun _ => rfl⟩
  | k' :: ks, [], vs, k, n, r => by
    cases r
    cases n
  | k' :: ks, w' :: l, vs, k, n, r => by
    obtain ⟨v, vs, rfl, h1, h2⟩ := r
    have n' : ks.length = vs.length := Nat.succ.inj n
    obtain ⟨a, b⟩ := dGet_rep (k := k) n' h2
    unfold dGet
    rw [List.zip_cons_cons]
    by_cases e : k' = k
    · rw [if_pos e, valV_pos (p := (k', v)) e]
      exact ⟨fun w ew => by cases ew; exact ⟨v, rfl, h1⟩, fun z => nomatch z⟩
    · rw [if_neg e, valV_neg (p := (k', v)) e]
      exact ⟨a, b⟩
theorem any_zip : ∀ {ks : List Key} {vs : List V} {k : Key}, ks.length = vs.length → ((ks.zip vs).any fun kv => decide (kv.1 = k)) = kHas ks k
  | [], _, _, _ => rfl
  | k' :: ks, [], _, n => by cases n
  | k' :: ks, v :: vs, k, n => by
    rw [List.zip_cons_cons, List.any_cons, any_zip (Nat.succ.inj n)]
    rfl
theorem vals_rep : ∀ {ks : List Key} {l : List W} {vs : List V} {k : Key} {w : W} {v : V}, ks.length = vs.length → RepL K F H l vs → Rep K F H w v →
    ∃ us, (ks.zip vs).map (fun kv => if kv.1 = k then (kv.1, v) else kv) = ks.zip us ∧ ks.length = us.length ∧ RepL K F H (dVals ks l k w) us
  | [], l, vs, k, w, v, n, _, _ => ⟨[], rfl, rfl, by cases l <;> exact rfl⟩
  | k' :: ks, [], vs, k, w, v, n, r, _ => by
    cases r
    cases n
  | k' :: ks, w' :: l, vs, k, w, v, n, r, h => by
    obtain ⟨v', vs, rfl, h1, h2⟩ := r
    obtain ⟨us, e1, e2, e3⟩ := vals_rep (k := k) (Nat.succ.inj n) h2 h
    refine ⟨(if k' = k then v else v') :: us, ?_, congrArg Nat.succ e2, ⟨_, us, rfl, ?_, e3⟩⟩
    · rw [List.zip_cons_cons, List.map_cons, e1, List.zip_cons_cons]
      by_cases e : k' = k
      · rw [if_pos e, if_pos e]
      · rw [if_neg e, if_neg e]
    · by_cases e : k' = k
      · rw [if_pos e, if_pos e]; exact h
      · rw [if_neg e, if_neg e]; exact h1
theorem dPut_rep {ks : List Key} {l : List W} {vs : List V} {k : Key} {w : W} {v : V} (n : ks.length = vs.length) (r : RepL K F H l vs) (h : Rep K F H w v) :
    ∃ us, putK (ks.zip vs) k v = (dPut ks l k w).1.zip us ∧ (dPut ks l k w).1.length = us.length ∧ RepL K F H (dPut ks l k w).2 us := by
  unfold putK dPut
  rw [any_zip n]
  by_cases e : kHas ks k = true
  · rw [if_pos e, if_pos e]
    exact vals_rep n r h
  · rw [if_neg e, if_neg e]
    refine ⟨vs ++ [v], ?_, by rw [List.length_append, List.length_append, n]; rfl, r.append ⟨v, [], rfl, h, rfl⟩⟩
    rw [List.zip_append n]
    rfl
end
def mDnew : Rho → R (Md × W) := fun ρ => .ok (.fre, .dK [] []) ρ
def mDspl (I : List Nat) (fe fk fv : Rho → R (Md × W)) : Rho → R (Md × W) := fun ρ => (fe ρ).bind fun b ρ1 => match peek b.1 b.2 ρ1 with
  | some (.dK ks l) => if ks.length + 1 ≤ sizeLine then (fk ρ1).bind fun kb ρ2 => (match kb.1, toK kb.2 with
    | .val, some key => (fv ρ2).bind fun vb ρ3 => (toVal I vb ρ3).bind fun w ρ4 => .ok (.fre, .dK (dPut ks l key w).1 (dPut ks l key w).2) ρ4
    | _, _ => .stk) else .stk
  | _ => .stk
section
variable {X : Cx} {Y : Yx I} {e k v o a b : Expr} {pos apos : Pos} {fe fk fv fo fa fb : Rho → R (Md × W)}
theorem pem_dnew : PEM X Y (.Dict [] [] pos) mDnew := pe_weak pe_dnewK fun σ H Q hq => by
  obtain ⟨F, ρ, S, q⟩ := hq
  intro p hp
  have ee := Ext.new (o := .dK []) hp S.f2
  exact q F _ (S.grow ee) ee.keeps _ (S.newR ee (m := .fre) (z := .dK [] []) ⟨p, rfl, ⟨[], upd_same, rfl, rfl⟩, fun f => S.f2 p f hp, hp⟩)
theorem pem_dspl (he : PEM X Y e fe) (hk : PEM X Y k fk) (hv : PEM X Y v fv) : PEM X Y (.Dict [none, some k] [e, v] pos) (mDspl I fe fk fv) := pe_weak (pe_dspl he hk hv) fun σ H Q hq => by
  obtain ⟨F, ρ, S, q⟩ := hq
  refine ⟨F, ρ, S, (RunG.bind q).imp fun b ρ1 F1 H1 S1 k1 q1 v hv => ?_⟩
  obtain ⟨F1', S1', k1', hd1⟩ := S1.hold hv
  have q2 := q1.rebase k1'
  split at q2
  · rename_i ks l ep
    split at q2
    · rename_i hz
      obtain ⟨c, vs, rfl, h1, n, r⟩ := (S1'.peek hd1 .refl ep).dK
      refine ⟨c, ks.zip vs, rfl, .of h1, by rw [List.length_zip, ← n, Nat.min_self]; exact hz, F1', ρ1, S1', (RunG.bind q2).imp fun kb ρ2 F2 H2 S2 k2 q3 kv hkv => ?_⟩
      obtain ⟨km, kw⟩ := kb
      dsimp only at q3
      split at q3
      · rename_i key ek
        refine ⟨F2, ρ2, S2, (RunG.bind q3).imp fun vb ρ3 F3 H3 S3 k3 q4 vv hvv => ?_⟩
        obtain ⟨F4, w, ρ4, S4, k4, rw_, q5⟩ := S3.toVal hvv (RunG.bind q4)
        refine ⟨key, toK_rep hkv ek, fun p hp => ?_⟩
        obtain ⟨us, e1, e2, e3⟩ := dPut_rep (k := key) n (r.mono (k2.trans (k3.trans k4))) rw_
        rw [e1]
        have ee := Ext.new (o := .dK ((dPut ks l key w).1.zip us)) hp S4.f2
        exact q5 F4 _ (S4.grow ee) ee.keeps _ (S4.newR ee (m := .fre) (z := .dK (dPut ks l key w).1 (dPut ks l key w).2) ⟨p, rfl, ⟨us, upd_same, e2, e3.mono ee.keeps⟩, fun f => S4.f2 p f hp, hp⟩)
      · exact q3.elim
    · exact q2.elim
  · exact q2.elim
/-- d.get(k, x) -/
def mDget (I : List Nat) (fo fa fb : Rho → R (Md × W)) : Rho → R (Md × W) := fun ρ => (fo ρ).bind fun b ρ1 => match peek b.1 b.2 ρ1 with
  | some (.dK _ _) => (fa ρ1).bind fun kb ρ2 => (match kb.1, toK kb.2 with
    | .val, some key => (fb ρ2).bind fun vb ρ3 => (toVal I vb ρ3).bind fun w ρ4 => (match peek b.1 b.2 ρ4 with
      | some (.dK ks l) => .ok (.val, (dGet ks l key).getD w) ρ4
      | _ => .stk)
    | _, _ => .stk)
  | _ => .stk
theorem pem_dget (hu : X.A.units + 1 < cLine) (ho : PEM X Y o fo) (ha : PEM X Y a fa) (hb : PEM X Y b fb) (hbase : attributeBase o "get" X.env (eval o X.env) = eval o X.env := by rfl)
    (hfew : ((backTo pos (starEach [a, b] X.env)).all (fun x => !x.1) && (backToKw pos (keywordEach [] X.env)).all (fun x => x.1.isSome) && decide (([a, b] : List Expr).length + ([] : List Keyword).length + (if ([] : List Keyword).isEmpty then 0 else 1) < 30)) = true := by rfl)
    (hline : (apos.endLine == pos.line) = true := by rfl) (htrees : backTo pos (starEach [a, b] X.env) = [(false, eval a X.env), (false, eval b X.env)] := by rfl) :
    PEM X Y (.Call (.Attribute o "get" apos) [a, b] [] pos) (mDget I fo fa fb) := pe_weak (pe_dget2 hu ho ha hb ⟨hbase, hfew, hline, htrees⟩) fun σ H Q hq => by
  obtain ⟨F, ρ, S, q⟩ := hq
  refine ⟨F, ρ, S, (RunG.bind q).imp fun bb ρ1 F1 H1 S1 k1 q1 v hv => ?_⟩
  obtain ⟨F1', S1', k1', hd1⟩ := S1.hold hv
  have q2 := q1.rebase k1'
  split at q2
  · rename_i ks0 l0 ep
    obtain ⟨c, vs, rfl, h1, n, r⟩ := (S1'.peek hd1 .refl ep).dK
    refine ⟨c, rfl, .inl ⟨_, .of h1⟩, F1', ρ1, S1', (RunG.bind q2).imp fun kb ρ2 F2 H2 S2 k2 q3 kv hkv => ?_⟩
    obtain ⟨km, kw⟩ := kb
    dsimp only at q3
    split at q3
    · rename_i key ek
      refine ⟨F2, ρ2, S2, (RunG.bind q3).imp fun vb ρ3 F3 H3 S3 k3 q4 vv hvv => ?_⟩
      obtain ⟨F4, w, ρ4, S4, k4, rw_, q5⟩ := S3.toVal hvv (RunG.bind q4)
      split at q5
      · rename_i ks l ep2
        obtain ⟨c2, us, e0, h2, n2, r2⟩ := (S4.peek hd1 (k2.trans (k3.trans k4)) ep2).dK
        cases e0
        obtain ⟨g1, g2⟩ := dGet_rep (k := key) n2 r2
        refine ⟨_, .inl ⟨_, key, .of h2, toK_rep hkv ek, rfl⟩, ?_⟩
        cases eg : dGet ks l key with
        | none =>
          rw [g2 eg]
          rw [eg] at q5
          exact q5 F4 _ S4 .refl _ rw_
        | some u =>
          obtain ⟨v2, e2, rv2⟩ := g1 u eg
          rw [e2]
          rw [eg] at q5
          exact q5 F4 _ S4 .refl _ rv2
      · exact q5.elim
    · exact q3.elim
  · exact q2.elim
end
def gDctC : GC
  | [.dK ks l] => some (.fre, .dK ks l)
  | _ => none
theorem g_dctC {K : PySem.W.Frag} : CallW K (fun xs H Q => ∃ (a : Addr) (kvs : List (Key × V)), xs = [.ref a] ∧ Rd H a (.dK kvs) ∧ ∀ p, H p = none → Q (.ref p) (upd H p (.dK kvs))) gDctC := by
  intro xs m z e F H vs Q t p q
  unfold gDctC at e
  split at e
  · cases e
    obtain ⟨v, rfl, h⟩ := p.one
    rename_i ks l
    obtain ⟨a, us, rfl, h1, n, r⟩ := h.dK
    refine ⟨a, _, rfl, .of h1, fun p hp => ?_⟩
    have ee : Ext [] F H F (upd H p (.dK (ks.zip us))) := Ext.new hp t
    exact q _ _ _ ee ⟨p, rfl, ⟨us, upd_same, n, r.mono ee.keeps⟩, fun f => t p f hp, hp⟩
  · cases e
section
variable {K : PySem.W.Frag} {B : Bd} {F : Fz} {H : Hp} {σ : L2.St} {ρ : Rho}
theorem SR.putD (S : SR K B F H σ ρ) {i : Nat} {w : W} {a : Addr} {ks : List Key} {l' : List W} {vs' : List V} (h : ownAt ρ i = some w) (e : σ[i]? = some (some (.ref a))) (n : ks.length = vs'.length) (r : RepL K F H l' vs') :
    SR K B F (upd H a (.dK (ks.zip vs'))) σ (ρ.set i (.own (.dK ks l'))) ∧ Keeps F H F (upd H a (.dK (ks.zip vs'))) := by
  obtain ⟨b, eb, ob, nf, nk⟩ := S.slot i _ (ownAt_get h)
  rw [e] at eb
  cases eb
  obtain ⟨u, hu, mu⟩ := ob.some
  have ka : Keeps F H F (upd H a (.dK (ks.zip vs'))) := ⟨fun _ h => h, fun x o ho c => by
    have nx : x ≠ a := fun z => by
      subst z
      rcases c with c | c
      · exact nf c
      · rw [hu] at ho; cases ho; exact c mu
    rw [upd_ne nx]
    exact ho⟩
  exact S.put (w' := .dK ks l') (o := .dK (ks.zip vs')) (ownAt_get h) e trivial ⟨vs', upd_same, n, r.mono ka⟩
theorem own_dct (S : SR K B F H σ ρ) {i : Nat} {ks : List Key} {l : List W} (h : ownAt ρ i = some (.dK ks l)) : ∃ a vs, σ[i]? = some (some (.ref a)) ∧ H a = some (.dK (ks.zip vs)) ∧ ks.length = vs.length ∧ RepL K F H l vs := by
  obtain ⟨a, e, ⟨us, g1, g2, g3⟩, _⟩ := S.slot i _ (ownAt_get h)
  exact ⟨a, us, e, g1, g2, g3⟩
end
/-- x[k] = e, x an own dict -/
def mStoreD (i : Nat) (I : List Nat) (fk fe : Rho → R (Md × W)) : Rho → R Fl := fun ρ => (fe ρ).bind fun b ρ1 => (toVal I b ρ1).bind fun w ρ2 => match ownAt ρ2 i with
  | some (.dK _ _) => (fk ρ2).bind fun kb ρ3 => (match kb.1, toK kb.2, ownAt ρ3 i with
    | .val, some key, some (.dK ks l) => if ks.length < sizeLine then .ok .nx (ρ3.set i (.own (.dK (dPut ks l key w).1 (dPut ks l key w).2))) else .stk
    | _, _, _ => .stk)
  | _ => .stk
section
variable {X : Cx} {Y : Yx I} {i : Nat} {fe : Rho → R (Md × W)}
theorem psm_storeD {st : Stmt} {fk : Rho → R (Md × W)} (h : PS X st (tAsg (tM X.K Y fe) (L2.gSub (tVar i) (tM X.K Y fk) rSetD))) : PSM X Y st (mStoreD i I fk fe) := ps_weak h fun D σ H hq => by
  obtain ⟨F, ρ, S, q⟩ := hq
  refine ⟨F, ρ, S, (RunS.bindE q).imp fun b ρ1 F1 H1 S1 k1 q1 v hv => ?_⟩
  obtain ⟨F2, w, ρ2, S2, k2, r, q2⟩ := S1.toVal hv (RunS.bindE (σ := σ) q1)
  split at q2
  · rename_i ks0 l0 e0
    obtain ⟨a, vs0, ea, h1, n1, r1⟩ := own_dct S2 e0
    refine ⟨.ref a, ea, F2, ρ2, S2, (RunS.bindE (σ := σ) q2).imp fun kb ρ3 F3 H3 S3 k3 q3 kv hkv => ?_⟩
    obtain ⟨km, kw⟩ := kb
    dsimp only at q3
    split at q3
    · rename_i key ks l etk ek
      split at q3
      · rename_i hz
        obtain ⟨b, vs, eb, h2, n2, r2⟩ := own_dct S3 ek
        rw [ea] at eb
        cases eb
        obtain ⟨us, e1, e2, e3⟩ := dPut_rep (k := key) n2 r2 (r.mono k3)
        obtain ⟨S4, k4⟩ := S3.putD ek ea e2 e3
        refine ⟨a, _, rfl, .inl ⟨_, key, h2, toK_rep hkv etk, by rw [List.length_zip, ← n2, Nat.min_self]; exact hz, rfl⟩, ?_⟩
        rw [e1]
        exact q3 F3 _ σ S4 k4
      · exact q3.elim
    · exact q3.elim
  · exact q2.elim
end
/-! ### truth of a list, sum, sorted -/
def mTru (f : Rho → R (Md × W)) : Rho → R Bool := fun ρ => (f ρ).bind fun b ρ1 => match peek b.1 b.2 ρ1 with
  | some (.lst l) => .ok (!l.isEmpty) ρ1
  | _ => .stk
theorem ptm_tru {X : Cx} {Y : Yx I} {e : Expr} {f : Rho → R (Md × W)} (he : PEM X Y e f) (hw : ∀ whole, isTrue e X.env whole = (do let v ← whole; standAt e.pos; holding [v] (truthy v)) := by intro _; rfl) : PTM X Y e (mTru f) := pt_weak (pt_truth he hw) fun σ H Q hq => by
  obtain ⟨F, ρ, S, q⟩ := hq
  refine ⟨F, ρ, S, (RunG.bind q).imp fun b ρ1 F1 H1 S1 k1 q1 v hv => ?_⟩
  obtain ⟨F1', S1', k1', hd1⟩ := S1.hold hv
  have q2 := q1.rebase k1'
  split at q2
  · rename_i l ep
    obtain ⟨a, vs, rfl, h1, r⟩ := (S1'.peek hd1 .refl ep).lst
    refine ⟨!l.isEmpty, .inl ⟨vs, .of h1, ?_⟩, q2 F1' _ S1' .refl⟩
    cases l with
    | nil => cases r; rfl
    | cons w l => obtain ⟨v, us, rfl, _, _⟩ := r; rfl
  · exact q2.elim
def numsW : List W → Option (List Int)
  | [] => some []
  | .int i :: l => (numsW l).map (i :: ·)
  | _ => none
theorem nums_rep {K : PySem.W.Frag} {F : Fz} {H : Hp} : ∀ {l : List W} {vs : List V} {ys : List Int}, RepL K F H l vs → numsW l = some ys → vs = ys.map V.int
  | [], vs, ys, r, e => by cases e; exact r
  | w :: l, _, ys, ⟨v, r, e0, h1, h2⟩, e => by
    cases w with
    | int s =>
      obtain ⟨zs, ez, rfl⟩ := Option.map_eq_some_iff.mp (show (numsW l).map _ = some ys from e)
      cases h1
      rw [e0, nums_rep h2 ez]
      rfl
    | _ => cases e
def gSum : GC
  | [.lst l] => (numsW l).map fun ns => (.val, .int ns.sum)
  | _ => none
theorem g_sum {K : PySem.W.Frag} : CallW K (rSum K) gSum := by
  intro xs m z e F H vs Q t p q
  unfold gSum at e
  split at e
  · obtain ⟨ns, en, e2⟩ := Option.map_eq_some_iff.mp e
    cases e2
    obtain ⟨v, rfl, h⟩ := p.one
    obtain ⟨a, us, rfl, hs, r⟩ := h.lst
    have e2 := nums_rep r en
    rw [e2] at hs
    exact ⟨a, ns, rfl, .of hs, old_val t (K := K) (z := .int _) rfl q⟩
  · cases e
def leS (a b : Str) : Bool := !ltCps b.cps.toList a.cps.toList
theorem leS_iff {a b : Str} : leS a b = true ↔ ¬ b.cps.toList < a.cps.toList := by
  unfold leS
  rw [ltCps_eq]
  simp
theorem leS_total (a b : Str) : (leS a b || leS b a) = true := by
  rw [Bool.or_eq_true_iff, leS_iff, leS_iff]
  by_cases h : b.cps.toList < a.cps.toList
  · exact .inr (List.lt_asymm h)
  · exact .inl h
theorem leS_trans (a b c : Str) (h1 : leS a b = true) (h2 : leS b c = true) : leS a c = true := by
  rw [leS_iff] at h1 h2 ⊢
  exact List.not_lt.mpr (List.le_trans (List.not_lt.mp h1) (List.not_lt.mp h2))
theorem leS_anti (a b : Str) (h1 : leS a b = true) (h2 : leS b a = true) : a = b := by
  rw [leS_iff] at h1 h2
  have e := List.le_antisymm (List.not_lt.mp h1) (List.not_lt.mp h2)
  obtain ⟨⟨x⟩⟩ := a
  obtain ⟨⟨y⟩⟩ := b
  have e' : x = y := e
  rw [e']
theorem rising_pair : ∀ (l : List Str) (p : Str), risingS p l = true → (p :: l).Pairwise fun a b => leS a b = true
  | [], p, _ => List.pairwise_singleton _ _
  | x :: r, p, h => by
    have h' : (leS p x && risingS x r) = true := h
    rw [Bool.and_eq_true_iff] at h'
    have ih := rising_pair r x h'.2
    refine .cons (fun c hc => ?_) ih
    rcases List.mem_cons.mp hc with e | hc
    · rw [e]; exact h'.1
    · exact leS_trans _ _ _ h'.1 ((List.pairwise_cons.mp ih).1 c hc)
def sortW (xs : List Str) : List Str := xs.mergeSort leS
theorem sortW_eq {xs ys : List Str} (h : ys.Perm xs) (hs : sortedS ys = true) : ys = sortW xs := by
  have h1 : ys.Pairwise fun a b => leS a b = true := by
    cases ys with
    | nil => exact .nil
    | cons y r => exact rising_pair r y hs
  exact List.Perm.eq_of_pairwise (le := fun a b => leS a b = true) (fun a b _ _ x y => leS_anti a b x y) h1 (List.pairwise_mergeSort leS_trans leS_total xs) (h.trans (List.mergeSort_perm xs leS).symm)
theorem sortW_mem {xs : List Str} {x : Str} : x ∈ sortW xs ↔ x ∈ xs := (List.mergeSort_perm xs leS).mem_iff
def gSorted : GC
  | [.lst l] => (strsW l).bind fun xs => if xs.length < 64 then some (.fre, .lst ((sortW xs).map W.str)) else none
  | _ => none
theorem reps_str {K : PySem.W.Frag} {F : Fz} {H : Hp} : ∀ l : List Str, RepL K F H (l.map W.str) (l.map V.str)
  | [] => rfl
  | i :: l => ⟨_, _, rfl, rfl, reps_str l⟩
theorem g_sorted {K : PySem.W.Frag} : CallW K (rSortedS K) gSorted := by
  intro xs m z e F H vs Q t p q
  unfold gSorted at e
  split at e
  · obtain ⟨ss, en, e2⟩ := Option.bind_eq_some_iff.mp e
    split at e2
    · rename_i h64
      cases e2
      obtain ⟨v, rfl, h⟩ := p.one
      obtain ⟨a, us, rfl, hs, r⟩ := h.lst
      have e2 := strs_rep r en
      rw [e2] at hs
      refine ⟨a, ss, rfl, .of hs, h64, fun ys p hp ho hn => ?_⟩
      rw [sortW_eq hp ho]
      exact new_lst t (reps_str _) q hn
    · cases e2
  · cases e
end ML

set_option maxHeartbeats 4000000
namespace ML
open PySem PySem.Spec PyProof.Rows L2
variable {I : List Nat}
/-! ### a def f(p, *, kw=()) -/
theorem hu1 {A : Around} {k : Nat} (hr : Room k A) : A.units + 1 < cLine := by
  have := hu200 hr
  omega
def SrcK (K : PySem.W.Frag) (mg : Str → Option Value) (x kw : Str) (st : Stmt) : Prop := ∃ fd a, FunD K x x (defArgs st) (defBody st) (defScope st) [] [(kw, .ref a)] (He.ga K x) fd ∧ mg x = some (.ref (He.ga K x)) ∧ TupK K a []
def nox (fm : List W → FR) : List W → FR := fun args => match fm args with
  | .exc _ _ _ _ => .stk
  | r => r
def DefK (P : Program) (w : World) (K : PySem.W.Frag) (mg : Str → Option Value) (base : Heap) (ct : Str → Addr) (k : Nat) (x p kw : Str) (fm : List W → FR) : Prop :=
  ∃ f fd a, mg x = some (.ref f) ∧ PySem.W.keepIn K (.ref f) = true ∧ TupK K a [] ∧ (∃ ds, Vals [.ref a] ds ∧ Binds K fd [p, kw] ds) ∧ KBn K fd [p, kw] 1 [kw] (fun us ws => us ++ ws) (fun vs zs => vs ++ zs) ∧ FnOk P w K mg base (L2.CX P w) k f fd [p, kw] (spM K ct [] 2 fm)
section
variable {P : Program} {w : World} {K : PySem.W.Frag} {mg : Str → Option Value} {base : Heap} {ct : Str → Addr} {j k : Nat} {x p kw : Str} {fm : List W → FR}
theorem DefK.mono (D : DefK P w K mg base ct j x p kw fm) (h : j ≤ k) : DefK P w K mg base ct k x p kw fm := by
  obtain ⟨f, fd, a, h1, h2, h3, h4, h5, h6⟩ := D
  exact ⟨f, fd, a, h1, h2, h3, h4, h5, h6.mono h⟩
theorem defK_mk {st : Stmt} {N : List Str} {g : Rho → R Fl} (T : SrcK K mg x kw st) (S : FnScope N [p, kw] (defScope st)) (hn : 2 ≤ N.length)
    (hb0 : ∀ (D : Addr) (doc pm : Value) (an : Option Addr) (cdv ct : Value) (us ks : List Value), us.length = 1 → ks.length = 1 → KwChain D ([kw].zip ks) (bindArgs (PySem.W.fnOf x x (defArgs st) (defBody st) (defScope st) .none (.ref D) doc pm an cdv ct) ⟨us, []⟩) ([p, kw].zip (us ++ ks)))
    (hb1 : ∀ (D : Addr) (doc pm : Value) (an : Option Addr) (cdv ct : Value) (us ws : List Value), us.length = 1 → ws.length = 1 → bindArgs (PySem.W.fnOf x x (defArgs st) (defBody st) (defScope st) .none (.ref D) doc pm an cdv ct) ⟨us, [kw].zip ws⟩ = pure ([p, kw].zip (us ++ ws)))
    (hb : ∀ (f : Addr) (cdv : Value) (A : Around) (outer : List Env) (s : Shared) (H : Hp) (E : XK) (Y : Yx []), Room k (cxOf (L2.CX P w) P w K mg base N x (defScope st) f cdv A outer s H E).A → Y.ct = ct → Takes (cxOf (L2.CX P w) P w K mg base N x (defScope st) f cdv A outer s H E) Y.wx →
      PSMs (cxOf (L2.CX P w) P w K mg base N x (defScope st) f cdv A outer s H E) Y (defBody st) g) : DefK P w K mg base ct (k + 1) x p kw (mFun [] N.length g) := by
  obtain ⟨fd, a, F, hm, ht⟩ := T
  refine ⟨_, fd, a, hm, F.kp, ht, F.binds0 (ps := [p, kw]) 1 (by simp) rfl hb0, ?_, fn_ok F S hn (fun _ _ => rfl) (hb _)⟩
  obtain ⟨mv, B⟩ := F.kbinds0 (ps := [p, kw]) 1 [kw] [] (fun us _ ws => us ++ ws) (by simp) (fun q h => nomatch h) (fun r1 _ r3 => r1.append r3) fun D doc pm an cdv ct us mv ws h1 h2 h3 => hb1 D doc pm an cdv ct us ws h1 h3
  exact ⟨B.to, B.rel⟩
end
section
variable {X : Cx} {Y : Yx I} {ct : Str → Addr} {k : Nat} {x p kw : Str} {fm : List W → FR} {np pos kpos : Pos} {e v : Expr} {fe fv : Rho → R (Md × W)}
theorem pem_callK0 (D : DefK X.prog X.w X.K X.mg X.base ct k x p kw fm) (hct : Y.ct = ct) (hr : Room k X.A) (tk : Takes X Y.wx) (hg : Gl X x) (ha : PEM X Y e fe)
    (hdb : (x == ("__debug__" : Str)) = false := by decide) (he : starEach (e :: []) X.env = (false, eval e X.env) :: starEach [] X.env := by rfl) (hpl : (backTo pos (starEach [] X.env)).any (·.1) = false := by rfl) :
    PEM X Y (.Call (.Name x np) (e :: []) [] pos) (mCall I [] fm [fe, mC (.tup [])]) := by
  obtain ⟨f, fd, a, h1, h2, h3, ⟨ds, h4, h5⟩, _, h6⟩ := D
  subst hct
  refine pe_weak (pe_callSD h6 hr hg h1 h2 h5 h4 (fun σ => passAt tk σ) (pam_cons ha pam_nil he) hdb he hpl) fun σ H Q hq => ?_
  obtain ⟨F, ρ, S, q⟩ := call_of (np := 2) rfl hq
  refine ⟨F, ρ, S, ?_⟩
  cases e1 : fe ρ with
  | stk =>
    have q' : RunG X.K Y F H σ ((fe ρ).bind _) _ := q
    rw [e1] at q'
    exact q'.elim
  | exc c ns ws ρ1 =>
    have q' : RunG X.K Y F H σ ((fe ρ).bind _) _ := q
    rw [e1] at q'
    show RunG X.K Y F H σ ((fe ρ).bind _) _
    rw [e1]
    exact q'
  | ok b ρ1 =>
    have q' : RunG X.K Y F H σ ((fe ρ).bind _) _ := q
    rw [e1] at q'
    show RunG X.K Y F H σ ((fe ρ).bind _) _
    rw [e1]
    intro F' H' S' k' F2 vs S2 k2 hvs
    have z := q' F' H' S' k' F2 (vs ++ [.ref a]) S2 k2
    obtain ⟨v0, r0, rfl, hd, rfl⟩ := hvs
    exact z ⟨v0, [.ref a], rfl, hd, ⟨.ref a, [], rfl, ⟨a, [], rfl, .inr h3, rfl⟩, rfl⟩⟩
theorem pem_callK (D : DefK X.prog X.w X.K X.mg X.base ct k x p kw fm) (hct : Y.ct = ct) (hr : Room k X.A) (hg : Gl X x) (ha : PEM X Y e fe) (hv : PEM X Y v fv)
    (hall : (backToKw pos (keywordEach [⟨some kw, v, kpos⟩] X.env)).all (·.1.isSome) = true := by rfl) (hks : (backToKw pos (keywordEach [⟨some kw, v, kpos⟩] X.env)).filterMap (·.1) = [kw] := by rfl)
    (hdb : (x == ("__debug__" : Str)) = false := by decide) (he : starEach (e :: []) X.env = (false, eval e X.env) :: starEach [] X.env := by rfl)
    (hpl : ((backTo pos (starEach (e :: []) X.env)).any (·.1) || (backToKw pos (keywordEach [⟨some kw, v, kpos⟩] X.env)).any (·.1.isNone)) = false := by rfl) :
    PEM X Y (.Call (.Name x np) (e :: []) [⟨some kw, v, kpos⟩] pos) (mCall I [] (nox fm) [fe, fv]) := by
  obtain ⟨f, fd, a, h1, h2, _, _, h5, h6⟩ := D
  subst hct
  refine pe_weak (pe_callN h6 hr hg h1 h2 h5 passL (pam_cons ha pam_nil he) (pk_cons hv pk_nil) hall hks hdb he hpl) fun σ H Q hq => ?_
  obtain ⟨F, ρ, S, q⟩ := call_of (np := 2) rfl hq
  refine ⟨F, ρ, S, ?_⟩
  cases e1 : fe ρ with
  | stk =>
    have q' : RunG X.K Y F H σ ((fe ρ).bind _) _ := q
    rw [e1] at q'
    exact q'.elim
  | exc c ns ws ρ1 =>
    have q' : RunG X.K Y F H σ ((fe ρ).bind _) _ := q
    rw [e1] at q'
    show RunG X.K Y F H σ ((fe ρ).bind _) _
    rw [e1]
    exact q'
  | ok b ρ1 =>
    have q' : RunG X.K Y F H σ ((fe ρ).bind _) _ := q
    rw [e1] at q'
    show RunG X.K Y F H σ ((fe ρ).bind _) _
    rw [e1]
    intro F' H' S' k' F2 vs S2 k2 hvs
    obtain ⟨v0, r0, rfl, hd, rfl⟩ := hvs
    refine ⟨F2, ρ1, S2, ?_⟩
    have q2 : RunG X.K Y F H σ ((((fv ρ1).bind fun c ρ2 => R.ok [c] ρ2)).bind fun bs ρ2 => R.ok (b :: bs) ρ2) _ := q'
    cases e2 : fv ρ1 with
    | stk =>
      rw [e2] at q2
      exact q2.elim
    | exc c ns ws ρ2 =>
      rw [e2] at q2
      exact q2
    | ok c ρ2 =>
      rw [e2] at q2
      intro F3 H3 S3 k3 u hu
      obtain ⟨F3', S3', k3', hd3⟩ := S3.hold hu
      have z := q2 F3 H3 S3 (k'.trans (k2.trans k3)) F3' [v0, u] S3' k3' ⟨v0, [u], rfl, hd.mono (k3.trans k3'), ⟨u, [], rfl, hd3, rfl⟩⟩
      refine ⟨rfl, rfl, ?_⟩
      obtain ⟨F1, args, a1, a2, a3, a4, a5⟩ := z
      refine ⟨F1, args, a1, a2, a3, a4, ?_⟩
      unfold nox at a5
      cases e3 : fm args with
      | ok fr w outs => rw [e3] at a5; exact a5
      | exc c ns ws outs => rw [e3] at a5; exact a5.elim
      | stk => rw [e3] at a5; exact a5
end
/-- the keyword-only default of the def x, if it is an object -/
def kwdAt (x kw : Str) (K : PySem.W.Frag) : Addr := match K.lookup (He.ga K x) with
  | some ⟨_, _, .func fd, _⟩ => (match fd.kwdefaults with
    | .ref D => (match PySem.W.nsIn K D kw with
      | some (some (.ref a)) => a
      | _ => 0)
    | _ => 0)
  | _ => 0
theorem srcK_ok {h : Heap} {w : World} {K : PySem.W.Frag} {mg : Str → Option Value} {fa : List He.Fa} {fn : List He.DefD} {ts : List He.Tab} {more : PySem.W.Frag → Bool} {x kw : Str} {st : Stmt} (X : K.In h) (G : h.Ns mainGlobals mg) (c : SaysM fa fn ts more w K) (i j : Nat) (ht : tupAtB K (kwdAt x kw) [] = true)
    (e : fn[i]? = some ⟨(x, none), x, x, defArgs st, defBody st, defScope st, [], [(kw, .adr (kwdAt x kw))]⟩ := by rfl) (e2 : fa[j]? = some (.glo x) := by rfl) : SrcK K mg x kw st := by
  obtain ⟨fd, F⟩ := c.t.d.def_ i e
  exact ⟨fd, _, F, He.glo_ok X G (c.fact j e2), tupAtB_ok (vs := []) ht⟩
end ML

set_option maxHeartbeats 4000000
namespace ML
open PySem PySem.Spec PyProof.Rows L2
variable {I : List Nat}
/-! ### a comprehension over an own list, that stays own -/
def compO (vs : List Nat) (put : W → Rho → Option Rho) (c : Rho → R Bool) (fe : Rho → R W) (i len : Nat) : Nat → List W → Rho → R (Md × W)
  | 0, acc, ρ => match ownAt (wipeR ρ vs) i with
    | some (.lst l) => if l.length = len ∧ acc.length ≤ sizeLine then .ok (.fre, .lst acc) (wipeR ρ vs) else .stk
    | _ => .stk
  | r + 1, acc, ρ => match ownAt (wipeR ρ vs) i with
    | some (.lst l) => if l.length = len then (match l[len - (r + 1)]? with
      | some w => (match put w (wipeR ρ vs) with
        | some ρ1 => (c ρ1).bind fun b ρ2 => if b then (fe ρ2).bind fun y ρ3 => if acc.length < sizeLine then compO vs put c fe i len r (acc ++ [y]) ρ3 else .stk else compO vs put c fe i len r acc ρ2
        | none => .stk)
      | none => .stk) else .stk
    | _ => .stk
def mLcO (I : List Nat) (i : Nat) (t : CT) (c : Rho → R Bool) (fe : Rho → R (Md × W)) : Rho → R (Md × W) := fun ρ => match ownAt ρ i with
  | some (.lst l) => if (t.ix.all fun j => decide (j ∉ I)) && decide (i ∉ t.ix) then noExc (compO t.ix t.put c (mEl I fe) i l.length l.length [] ρ) else .stk
  | _ => .stk
theorem compO_fre {vs : List Nat} {put : W → Rho → Option Rho} {c : Rho → R Bool} {fe : Rho → R W} {i len : Nat} {b : Md × W} {ρe : Rho} : ∀ {r : Nat} {acc : List W} {ρ : Rho}, compO vs put c fe i len r acc ρ = .ok b ρe → ∃ L, b = (.fre, .lst L)
  | 0, acc, ρ, h => by
    unfold compO at h
    split at h
    · split at h
      · cases h; exact ⟨_, rfl⟩
      · cases h
    · cases h
  | r + 1, acc, ρ, h => by
    unfold compO at h
    split at h
    · split at h
      · split at h
        · split at h
          · obtain ⟨t, ρ2, _, h2⟩ := bind_ok h
            split at h2
            · obtain ⟨y, ρ3, _, h3⟩ := bind_ok h2
              split at h3
              · exact compO_fre h3
              · cases h3
            · exact compO_fre h2
          · cases h
        · cases h
      · cases h
    · cases h
theorem lc_ofO {K : PySem.W.Frag} {Y : Yx I} {i : Nat} {t : CT} {c : Rho → R Bool} {fe : Rho → R (Md × W)} {σ : L2.St} {H1 : Hp} {Q : VK} (hq : tM K Y (mLcO I i t c fe) σ H1 Q) :
    tLc (iSeqM K (tVar i)) (t.tg K) (tMTx K Y.ct I c) (tMx K Y.ct I fe) t.ix σ H1 Q := by
  obtain ⟨F1, ρ1, S1, q1⟩ := hq
  unfold mLcO at q1
  split at q1
  · rename_i l0 e0
    split at q1
    · rename_i hix
      rw [Bool.and_eq_true_iff] at hix
      have un : ∀ j ∈ t.ix, j ∉ I := fun j hj => of_decide_eq_true (List.all_eq_true.mp hix.1 j hj)
      have nix : i ∉ t.ix := of_decide_eq_true hix.2
      have u : ∀ j ∈ t.ix, unlent Y.B j := fun j hj => Y.un (un j hj)
      obtain ⟨a, vs0, ea, h1a, r1a⟩ := own_lst S1 e0
      refine ⟨.ref a, ea, .inr ⟨a, rfl, .inl ⟨vs0, .of h1a, fun D nD => ?_⟩⟩⟩
      generalize hlen : l0.length = len at q1
      cases er : compO t.ix t.put c (mEl I fe) i len len [] ρ1 with
      | exc cc ns us ρ' => rw [er] at q1; exact q1.elim
      | stk => rw [er] at q1; exact q1.elim
      | ok b ρe =>
        rw [er] at q1
        obtain ⟨L, rfl⟩ := compO_fre er
        obtain ⟨S2, k2⟩ := S1.enter nD
        have nd : ∀ p ∈ Y.B.I, p.2 ≠ D := fun p hp z => by
          obtain ⟨h1, w, h2⟩ := S1.lent p hp
          obtain ⟨a, ea, o, _⟩ := S1.slot _ _ h2
          rw [h1] at ea
          cases ea
          obtain ⟨x, hx, _⟩ := o.some
          rw [z, nD] at hx
          cases hx
        have nf : ¬ Y.B.F0 D := fun z => S1.f2 D (S1.f0 D z) nD
        have h0 : Y.B.H0 D = none := by
          cases q : Y.B.H0 D with
          | none => rfl
          | some x => exact absurd nD (S1.alive D (by rw [q]; exact (fun z => nomatch z)))
        refine ⟨fun k m H => ∃ F ρ acc vacc, SR K (Y.B.wit D vacc) F H (wipe σ t.ix) (wipeR ρ t.ix) ∧ RepL K F H acc vacc ∧ Keeps F1 H1 F H ∧ compO t.ix t.put c (mEl I fe) i len (len - k) acc ρ = .ok (.fre, .lst L) ρe ∧ m = len - k ∧ k ≤ len,
          ⟨_, F1, ρ1, [], [], S2.wiped u, rfl, k2, er, rfl, Nat.zero_le _⟩, ?_⟩
        rintro k m H ⟨F, ρ, acc, vacc, S, ra, kk, ec, rfl, hk⟩
        have own : ∀ l, ownAt (wipeR ρ t.ix) i = some (.lst l) → ∃ vs, H a = some (.lst vs) ∧ RepL K F H l vs := fun l hl => by
          obtain ⟨a', vs, ea', h2, r2⟩ := own_lst S hl
          rw [wipe_ne nix, ea] at ea'
          cases ea'
          exact ⟨vs, h2, r2⟩
        cases ed : len - k with
        | zero =>
          rw [ed] at ec
          unfold compO at ec
          split at ec
          · rename_i l eo
            split at ec
            · rename_i hz
              obtain ⟨vs, hv, rv⟩ := own l eo
              cases ec
              obtain ⟨S3, fr⟩ := S.leave nd nf h0 ra
              have S4 := S3.unwiped u
              refine .inl ⟨⟨vs, .of hv, by rw [← rv.len]; omega⟩, ?_⟩
              have ew : wipeR (wipeR ρ t.ix) t.ix = wipeR ρ t.ix := by
                apply List.ext_getElem?
                intro j
                by_cases hj : j ∈ t.ix
                · have g : ∀ (ρ : Rho) (vs : List Nat), j ∈ vs → (wipeR ρ vs)[j]? = if j < ρ.length then some .no else none := fun ρ vs => by
                    induction vs with
                    | nil => intro h; cases h
                    | cons v vs ih =>
                      intro h
                      unfold wipeR
                      by_cases e : j = v
                      · subst e
                        rw [List.getElem?_set, if_pos rfl, wipeR_len]
                      · rw [set_ne e]
                        cases h with
                        | head => exact absurd rfl e
                        | tail _ h => exact ih h
                  rw [g _ _ hj, g _ _ hj, wipeR_len]
                · rw [wipeR_ne hj]
              rw [ew] at S4
              refine q1 F H S4 kk _ ?_
              obtain ⟨a, ea, o, n1, n2, n3⟩ := fr
              refine ⟨a, ea, o, n1, n2, fun j w' hj ej => ?_⟩
              rcases wipeR_get hj with z | ⟨z1, z2⟩
              · cases z
              · exact n3 j w' hj (by rw [wipe_ne z1]; exact ej)
            · cases ec
          · cases ec
        | succ r =>
          rw [ed] at ec
          unfold compO at ec
          split at ec
          · rename_i l eo
            split at ec
            · rename_i hz
              obtain ⟨vs, hv, rv⟩ := own l eo
              split at ec
              · rename_i w ew
                have ek : len - (r + 1) = k := by omega
                rw [ek] at ew
                obtain ⟨v, ev, rw_⟩ := rv.get ew
                refine .inr ⟨⟨vs, v, .of hv, ev⟩, fun H' => ∃ F ρ acc vacc, SR K (Y.B.wit D vacc) F H' (wipe σ t.ix) (wipeR ρ t.ix) ∧ RepL K F H' acc vacc ∧ Keeps F1 H1 F H' ∧ compO t.ix t.put c (mEl I fe) i len r acc ρ = .ok (.fre, .lst L) ρe,
                  fun H' ⟨F', ρ', acc', vacc', a1, a2, a3, a4⟩ => ⟨len - (k + 1), by omega, F', ρ', acc', vacc', a1, a2, a3, by rw [show len - (k + 1) = r by omega]; exact a4, rfl, by omega⟩, ?_⟩
                rintro x H'' ⟨rfl, y⟩
                have ex := y vs (.of hv)
                rw [ev] at ex
                cases ex
                split at ec
                · rename_i ρ3 ep
                  obtain ⟨b, ρ4, ecb, ec2⟩ := bind_ok ec
                  have u' : ∀ j ∈ t.ix, unlent (Y.B.wit D vacc) j := u
                  refine put_ok S rw_ u' ep fun σ' S5 hw => ⟨hw, ?_⟩
                  refine ⟨⟨Y.ct, Y.B.wit D vacc, fun _ _ _ _ => False, Y.hI⟩, rfl, rfl, F, ρ3, S5, ?_⟩
                  rw [ecb]
                  intro F6 H6 S6 k6
                  cases b with
                  | false =>
                    rw [if_neg Bool.false_ne_true] at ec2
                    rw [if_neg Bool.false_ne_true]
                    have S7 := SR.wiped (vs := t.ix) S6 u'
                    rw [hw] at S7
                    exact ⟨F6, ρ4, acc, vacc, S7, ra.mono k6, kk.trans k6, ec2⟩
                  | true =>
                    rw [if_pos rfl] at ec2
                    rw [if_pos rfl]
                    obtain ⟨yw, ρ7, ey, ec3⟩ := bind_ok ec2
                    obtain ⟨bm, ρ6, e6, e7⟩ := bind_ok (show (fe ρ4).bind (toVal I) = .ok yw ρ7 from ey)
                    refine ⟨⟨Y.ct, Y.B.wit D vacc, fun _ _ _ _ => False, Y.hI⟩, rfl, rfl, F6, ρ4, S6, ?_⟩
                    rw [e6]
                    intro F8 H8 S8 k8 v8 hv8
                    split at ec3
                    · rename_i hsz
                      have qv : RunG K (⟨Y.ct, Y.B.wit D vacc, fun _ _ _ _ => False, Y.hI⟩ : Yx I) F8 H8 σ' (toVal I bm ρ6) fun w ρ _ _ => w = yw ∧ ρ = ρ7 := by
                        rw [e7]
                        exact fun _ _ _ _ => ⟨rfl, rfl⟩
                      obtain ⟨F9, yw', ρ9, S9, k9, r9, ⟨e9, e10⟩⟩ := S8.toVal hv8 qv
                      subst e9
                      subst e10
                      obtain ⟨hD, fD, _⟩ := S9.wit_at nd nf
                      have ra9 := (ra.mono k6).mono (k8.trans k9)
                      obtain ⟨Sa, ka⟩ := S9.witPut (us := vacc ++ [v8]) nd nf
                      refine ⟨vacc, hD, by rw [← ra9.len]; exact hsz, F9, ρ9, acc ++ [yw'], vacc ++ [v8], ?_, RepL.mono ka _ (ra9.append (.cons r9 .nil)), ((kk.trans k6).trans (k8.trans k9)).trans ka, ec3⟩
                      have Sb := SR.wiped (vs := t.ix) Sa u'
                      rw [hw] at Sb
                      exact Sb
                    · cases ec3
                · cases ec
              · cases ec
            · cases ec
          · cases ec
    · exact q1.elim
  · exact q1.elim
section
variable {X : Cx} {Y : Yx I} {elt tg iter : Expr} {ifs : List Expr} {scope : Scope} {own : List (Str × Nat)} {pos : Pos} {j : Nat} {t : CT} {c : Rho → R Bool} {fe : Rho → R (Md × W)}
theorem pem_lcO (hc : X.calm = true) (hN : X.N.Nodup) (hi : PE X iter (tVar j)) (ok : BlkOk X.N X.env.scope scope own) (ho : own.map (·.2) = t.ix)
    (hg : ∀ (s : Shared) (H : Hp) (C : Addr) (cl : List (Str × Addr)) (fp : List Addr), PG (X.blk s H scope (compEnvC scope cl C X.env) fp) tg (t.tg X.K))
    (ht : ∀ (s : Shared) (H : Hp) (C : Addr) (cl : List (Str × Addr)) (fp : List Addr), PCs (X.blk s H scope (compEnvC scope cl C X.env) fp) Y.ct I ifs c)
    (he : ∀ (s : Shared) (H : Hp) (C : Addr) (cl : List (Str × Addr)) (fp : List Addr) (Y' : Yx I), Y'.ct = Y.ct → (Y'.wx = fun _ _ _ _ => False) → PEM (X.blk s H scope (compEnvC scope cl C X.env) fp) Y' elt fe)
    (hs : ∀ x, foldedSetIterable iter X.env x = pure x := by intro _; rfl) : PEM X Y (.ListComp elt [⟨tg, iter, ifs, 0⟩] scope pos) (mLcO I j t c fe) :=
  pe_weak (pe_lc (tt := tMTx X.K Y.ct I c) (te := tMx X.K Y.ct I fe) hc hN (pi_seqM hi) ok hg ht (fun s H C cl fp => pe_x (he s H C cl fp)) hs) fun σ H Q hq => by
    rw [ho]
    exact lc_ofO hq
theorem psm_setLcO {i : Nat} {y : Str} {py spos : Pos} (hc : X.calm = true) (hN : X.N.Nodup) (hy : X.N[i]? = some y) (hyl : X.env.scope.names.lookup y = some .local)
    (hsw : swapsWith (.ListComp elt [⟨tg, iter, ifs, 0⟩] scope pos) (some (.Name y py)) spos.line X.env = pure true) (hi : PE X iter (tVar j)) (ok : BlkOk X.N X.env.scope scope own) (ho : own.map (·.2) = t.ix)
    (hg : ∀ (s : Shared) (H : Hp) (C : Addr) (cl : List (Str × Addr)) (fp : List Addr), PG (X.blk s H scope (compEnvC scope cl C X.env) fp) tg (t.tg X.K))
    (ht : ∀ (s : Shared) (H : Hp) (C : Addr) (cl : List (Str × Addr)) (fp : List Addr), PCs (X.blk s H scope (compEnvC scope cl C X.env) fp) Y.ct I ifs c)
    (he : ∀ (s : Shared) (H : Hp) (C : Addr) (cl : List (Str × Addr)) (fp : List Addr) (Y' : Yx I), Y'.ct = Y.ct → (Y'.wx = fun _ _ _ _ => False) → PEM (X.blk s H scope (compEnvC scope cl C X.env) fp) Y' elt fe)
    (hs : ∀ x, foldedSetIterable iter X.env x = pure x := by intro _; rfl) : PSM X Y (.Assign [.Name y py] (.ListComp elt [⟨tg, iter, ifs, 0⟩] scope pos) spos) (mSet I i (mLcO I j t c fe)) :=
  ps_weak (ps_setLc (tt := tMTx X.K Y.ct I c) (te := tMx X.K Y.ct I fe) hc hN hy hyl hsw (pi_seqM hi) ok hg ht (fun s H C cl fp => pe_x (he s H C cl fp)) hs) fun D σ H hq => by
    obtain ⟨F, ρ, S, q⟩ := hq
    rw [ho]
    exact lc_ofO ⟨F, ρ, S, (RunS.bindE q).imp fun b ρ1 F1 H1 S1 k1 q1 v hv => store_of S1 hv q1⟩
end
theorem All2.get {α β : Type} {R : α → β → Prop} : ∀ {l : List α} {m : List β} {i : Nat} (_ : All2 R l m) (h1 : i < l.length) (h2 : i < m.length), R l[i] m[i]
  | _, _, 0, .cons h _, _, _ => h
  | _, _, i + 1, .cons _ t, h1, h2 => All2.get t (Nat.lt_of_succ_lt_succ h1) (Nat.lt_of_succ_lt_succ h2)
/-- .. reckoned: the frame stays -/
theorem compO_ok {α : Type} {i j : Nat} {c : Rho → R Bool} {fe : Rho → R W} {f : α → Bool} {g : α → W} {Q : W → α → Prop} {ρ : Rho} {l : List W} {zs : List α} (ho : ownAt ρ i = some (.lst l)) (hq : All2 Q l zs)
    (hc : ∀ w z, Q w z → c (ρ.set j (.val w)) = .ok (f z) (ρ.set j (.val w))) (he : ∀ w z, Q w z → f z = true → fe (ρ.set j (.val w)) = .ok (g z) (ρ.set j (.val w))) (hl : l.length ≤ sizeLine) :
    ∀ (r : Nat) {acc : List W} {ρ' : Rho}, r ≤ l.length → ρ'.set j .no = ρ → acc.length + r ≤ sizeLine → compO [j] (CT.put (.nm j)) c fe i l.length r acc ρ' = .ok (.fre, .lst (acc ++ ((zs.drop (l.length - r)).filter f).map g)) ρ
  | 0, acc, ρ', _, hn, ha => by
    unfold compO
    rw [show wipeR ρ' [j] = ρ'.set j .no from rfl, hn, ho]
    dsimp only
    rw [if_pos ⟨rfl, by omega⟩, List.drop_eq_nil_of_le (by have := hq.len; omega)]
    simp
  | r + 1, acc, ρ', hr, hn, ha => by
    have hlt : l.length - (r + 1) < l.length := by omega
    have hlz : l.length - (r + 1) < zs.length := by rw [← hq.len]; exact hlt
    have hw : Q l[l.length - (r + 1)] zs[l.length - (r + 1)] := hq.get hlt hlz
    have hd : zs.drop (l.length - (r + 1)) = zs[l.length - (r + 1)] :: zs.drop (l.length - r) := by
      rw [List.drop_eq_getElem_cons hlz, show l.length - (r + 1) + 1 = l.length - r by omega]
    unfold compO
    rw [show wipeR ρ' [j] = ρ'.set j .no from rfl, hn, ho]
    dsimp only
    rw [if_pos rfl, List.getElem?_eq_getElem hlt]
    dsimp only
    show (R.bind (c (ρ.set j (.val _))) _) = _
    rw [hc _ _ hw]
    show (if f _ = true then _ else _) = _
    rw [hd, List.filter_cons]
    have hset : ∀ w, (ρ.set j (.val w)).set j .no = ρ := fun w => by rw [List.set_set, ← hn, List.set_set]
    by_cases hf : f zs[l.length - (r + 1)] = true
    · rw [if_pos hf, if_pos hf, he _ _ hw hf]
      show (if _ then _ else _) = _
      rw [if_pos (by omega), compO_ok ho hq hc he hl r (by omega) (hset _) (by rw [List.length_append, List.length_singleton]; omega), List.map_cons, List.append_assoc]
      rfl
    · rw [if_neg hf, if_neg hf, compO_ok ho hq hc he hl r (by omega) (hset _) (by omega)]
theorem lcO_ok {α : Type} {I : List Nat} {i j : Nat} {c : Rho → R Bool} {fe : Rho → R (Md × W)} {f : α → Bool} {g : α → W} {Q : W → α → Prop} {ρ : Rho} {l : List W} {zs : List α} (ho : ownAt ρ i = some (.lst l)) (hj : j ∉ I) (hij : i ≠ j) (hq : All2 Q l zs) (hn : ρ.set j .no = ρ)
    (hc : ∀ w z, Q w z → c (ρ.set j (.val w)) = .ok (f z) (ρ.set j (.val w))) (he : ∀ w z, Q w z → f z = true → mEl I fe (ρ.set j (.val w)) = .ok (g z) (ρ.set j (.val w))) (hl : l.length ≤ sizeLine) :
    mLcO I i (.nm j) c fe ρ = .ok (.fre, .lst ((zs.filter f).map g)) ρ := by
  unfold mLcO
  rw [ho]
  dsimp only
  have e : CT.ix (.nm j) = [j] := rfl
  rw [e, if_pos (by simp [hj, hij]), compO_ok ho hq hc he hl l.length (Nat.le_refl _) hn (by simpa using hl)]
  simp [noExc]
end ML

set_option maxHeartbeats 4000000
namespace K03
open PySem PySem.Spec PyProof.Rows L2 ML

def top (i : Nat) : Stmt := PySem.Challenge.pw_heardsaid_k03_renamed_apart.main.body.getD i (.Pass ⟨0, 0, 0, 0⟩)
abbrev s_frozen : Stmt := top 1
abbrev s_parts_of : Stmt := top 5
abbrev s_with_sub_blocks : Stmt := top 6
abbrev s_bound_names : Stmt := top 7
abbrev s_bound_in_part : Stmt := top 8
abbrev s_free_names : Stmt := top 9
abbrev s_binding_count : Stmt := top 12
abbrev s_new_names : Stmt := top 13
abbrev s_renamed_let : Stmt := top 14
abbrev s_renamed_within : Stmt := top 15
abbrev s_renamed : Stmt := top 16
abbrev s__law_whole : Stmt := top 18
abbrev s__law_cell : Stmt := top 19
abbrev s__law_digits : Stmt := top 20
abbrev s__law_reader : Stmt := top 21
abbrev s__law_next : Stmt := top 22
abbrev s__law_reserved : Stmt := top 23
abbrev s__law_name : Stmt := top 24
abbrev s__law_names : Stmt := top 25
abbrev s__law_kinds : Stmt := top 26
abbrev s__law_outside : Stmt := top 27
abbrev s__law_seen : Stmt := top 28
abbrev s__law_split : Stmt := top 29
abbrev s__law_leaf : Stmt := top 30
abbrev s__law_draw_call : Stmt := top 31
abbrev s__law_draw_let : Stmt := top 32
abbrev s__law_draw_set : Stmt := top 33
abbrev s__law_draw_two : Stmt := top 34
abbrev s__law_draw : Stmt := top 35
abbrev s__law_draw_deep : Stmt := top 36
abbrev s__law_parts : Stmt := top 37
abbrev s__law_free : Stmt := top 38
abbrev s__law_found : Stmt := top 39
abbrev s__law_renamed : Stmt := top 40
abbrev s__law_renamed_due : Stmt := top 41
abbrev s__law_same : Stmt := top 42
abbrev s__law_listed : Stmt := top 43
abbrev s__law_built : Stmt := top 44
abbrev s__law_left_out : Stmt := top 45
abbrev s_law : Stmt := top 46

structure Txt (w : World) (K : PySem.W.Frag) (mg : Str → Option Value) : Prop where
  s_frozen : Src K mg "frozen" s_frozen
  s_parts_of : Src K mg "parts_of" s_parts_of
  s_with_sub_blocks : Src K mg "with_sub_blocks" s_with_sub_blocks
  s_bound_names : Src K mg "bound_names" s_bound_names
  s_bound_in_part : Src K mg "bound_in_part" s_bound_in_part
  s_free_names : Src K mg "free_names" s_free_names
  s_binding_count : Src K mg "binding_count" s_binding_count
  s_new_names : Src K mg "new_names" s_new_names
  s_renamed_let : Src K mg "renamed_let" s_renamed_let
  s_renamed_within : Src K mg "renamed_within" s_renamed_within
  s_renamed : SrcK K mg "renamed" "avoid" s_renamed
  s__law_whole : Src K mg "_law_whole" s__law_whole
  s__law_cell : Src K mg "_law_cell" s__law_cell
  s__law_digits : Src K mg "_law_digits" s__law_digits
  s__law_reader : Src K mg "_law_reader" s__law_reader
  s__law_next : Src K mg "_law_next" s__law_next
  s__law_reserved : Src K mg "_law_reserved" s__law_reserved
  s__law_name : Src K mg "_law_name" s__law_name
  s__law_names : Src K mg "_law_names" s__law_names
  s__law_kinds : Src K mg "_law_kinds" s__law_kinds
  s__law_outside : Src K mg "_law_outside" s__law_outside
  s__law_seen : Src K mg "_law_seen" s__law_seen
  s__law_split : Src K mg "_law_split" s__law_split
  s__law_leaf : Src K mg "_law_leaf" s__law_leaf
  s__law_draw_call : Src K mg "_law_draw_call" s__law_draw_call
  s__law_draw_let : Src K mg "_law_draw_let" s__law_draw_let
  s__law_draw_set : Src K mg "_law_draw_set" s__law_draw_set
  s__law_draw_two : Src K mg "_law_draw_two" s__law_draw_two
  s__law_draw : Src K mg "_law_draw" s__law_draw
  s__law_draw_deep : Src K mg "_law_draw_deep" s__law_draw_deep
  s__law_parts : Src K mg "_law_parts" s__law_parts
  s__law_free : Src K mg "_law_free" s__law_free
  s__law_found : Src K mg "_law_found" s__law_found
  s__law_renamed : Src K mg "_law_renamed" s__law_renamed
  s__law_renamed_due : Src K mg "_law_renamed_due" s__law_renamed_due
  s__law_same : Src K mg "_law_same" s__law_same
  s__law_listed : Src K mg "_law_listed" s__law_listed
  s__law_built : Src K mg "_law_built" s__law_built
  s__law_left_out : Src K mg "_law_left_out" s__law_left_out
  s_law : Src K mg "law" s_law
  b_int : mg "int" = none
  b_str : mg "str" = none
  b_tuple : mg "tuple" = none
  b_list : mg "list" = none
  b_bool : mg "bool" = none
  b_len : mg "len" = none
  b_min : mg "min" = none
  b_isinstance : mg "isinstance" = none
  b_range : mg "range" = none
  b_sorted : mg "sorted" = none
  b_sum : mg "sum" = none
  b_dict : mg "dict" = none
  c_LEAVES : ∃ a, mg "LEAVES" = some (.ref a) ∧ TupK K a [.str "skip", .str "quit", .str "number", .str "get", .str "hole"] 
  c_USES_blocks : ∃ a, mg "USES_blocks" = some (.ref a) ∧ TupK K a [.str "get", .str "set", .str "call"] 
  c_USES_renaming : ∃ a, mg "USES_renaming" = some (.ref a) ∧ TupK K a [.str "get", .str "set", .str "call"] 
abbrev w_LEAVES : W := .tup [.str "skip", .str "quit", .str "number", .str "get", .str "hole"]
abbrev w_USES_blocks : W := .tup [.str "get", .str "set", .str "call"]
abbrev w_USES_renaming : W := .tup [.str "get", .str "set", .str "call"]
section
variable {X : Cx} {I : List Nat} {Y : Yx I} {pos : Pos}
theorem pg_LEAVES (T : Txt X.w X.K X.mg) (hg : Gl X "LEAVES" := by rfl) : PEM X Y (.Name "LEAVES" pos) (mC w_LEAVES) := by
  obtain ⟨a, h1, h2⟩ := T.c_LEAVES
  exact pem_gt ⟨a, h1, h2, .cons rfl (.cons rfl (.cons rfl (.cons rfl (.cons rfl RepL.nil))))⟩ hg
theorem pg_USES_blocks (T : Txt X.w X.K X.mg) (hg : Gl X "USES_blocks" := by rfl) : PEM X Y (.Name "USES_blocks" pos) (mC w_USES_blocks) := by
  obtain ⟨a, h1, h2⟩ := T.c_USES_blocks
  exact pem_gt ⟨a, h1, h2, .cons rfl (.cons rfl (.cons rfl RepL.nil))⟩ hg
theorem pg_USES_renaming (T : Txt X.w X.K X.mg) (hg : Gl X "USES_renaming" := by rfl) : PEM X Y (.Name "USES_renaming" pos) (mC w_USES_renaming) := by
  obtain ⟨a, h1, h2⟩ := T.c_USES_renaming
  exact pem_gt ⟨a, h1, h2, .cons rfl (.cons rfl (.cons rfl RepL.nil))⟩ hg
end

end K03

namespace K03
open PySem PySem.Spec PyProof.Rows L2 ML
def d_frozen : He.DefD := ⟨("frozen", none), "frozen", "frozen", defArgs s_frozen, defBody s_frozen, defScope s_frozen, [], []⟩
def d_parts_of : He.DefD := ⟨("parts_of", none), "parts_of", "parts_of", defArgs s_parts_of, defBody s_parts_of, defScope s_parts_of, [], []⟩
def d_with_sub_blocks : He.DefD := ⟨("with_sub_blocks", none), "with_sub_blocks", "with_sub_blocks", defArgs s_with_sub_blocks, defBody s_with_sub_blocks, defScope s_with_sub_blocks, [], []⟩
def d_bound_names : He.DefD := ⟨("bound_names", none), "bound_names", "bound_names", defArgs s_bound_names, defBody s_bound_names, defScope s_bound_names, [], []⟩
def d_bound_in_part : He.DefD := ⟨("bound_in_part", none), "bound_in_part", "bound_in_part", defArgs s_bound_in_part, defBody s_bound_in_part, defScope s_bound_in_part, [], []⟩
def d_free_names : He.DefD := ⟨("free_names", none), "free_names", "free_names", defArgs s_free_names, defBody s_free_names, defScope s_free_names, [], []⟩
def d_binding_count : He.DefD := ⟨("binding_count", none), "binding_count", "binding_count", defArgs s_binding_count, defBody s_binding_count, defScope s_binding_count, [], []⟩
def d_new_names : He.DefD := ⟨("new_names", none), "new_names", "new_names", defArgs s_new_names, defBody s_new_names, defScope s_new_names, [], []⟩
def d_renamed_let : He.DefD := ⟨("renamed_let", none), "renamed_let", "renamed_let", defArgs s_renamed_let, defBody s_renamed_let, defScope s_renamed_let, [], []⟩
def d_renamed_within : He.DefD := ⟨("renamed_within", none), "renamed_within", "renamed_within", defArgs s_renamed_within, defBody s_renamed_within, defScope s_renamed_within, [], []⟩
def d_renamed : He.DefD := ⟨("renamed", none), "renamed", "renamed", defArgs s_renamed, defBody s_renamed, defScope s_renamed, [], [("avoid", .adr (kwdAt "renamed" "avoid"))]⟩
def d__law_whole : He.DefD := ⟨("_law_whole", none), "_law_whole", "_law_whole", defArgs s__law_whole, defBody s__law_whole, defScope s__law_whole, [], []⟩
def d__law_cell : He.DefD := ⟨("_law_cell", none), "_law_cell", "_law_cell", defArgs s__law_cell, defBody s__law_cell, defScope s__law_cell, [], []⟩
def d__law_digits : He.DefD := ⟨("_law_digits", none), "_law_digits", "_law_digits", defArgs s__law_digits, defBody s__law_digits, defScope s__law_digits, [], []⟩
def d__law_reader : He.DefD := ⟨("_law_reader", none), "_law_reader", "_law_reader", defArgs s__law_reader, defBody s__law_reader, defScope s__law_reader, [], []⟩
def d__law_next : He.DefD := ⟨("_law_next", none), "_law_next", "_law_next", defArgs s__law_next, defBody s__law_next, defScope s__law_next, [], []⟩
def d__law_reserved : He.DefD := ⟨("_law_reserved", none), "_law_reserved", "_law_reserved", defArgs s__law_reserved, defBody s__law_reserved, defScope s__law_reserved, [], []⟩
def d__law_name : He.DefD := ⟨("_law_name", none), "_law_name", "_law_name", defArgs s__law_name, defBody s__law_name, defScope s__law_name, [], []⟩
def d__law_names : He.DefD := ⟨("_law_names", none), "_law_names", "_law_names", defArgs s__law_names, defBody s__law_names, defScope s__law_names, [], []⟩
def d__law_kinds : He.DefD := ⟨("_law_kinds", none), "_law_kinds", "_law_kinds", defArgs s__law_kinds, defBody s__law_kinds, defScope s__law_kinds, [], []⟩
def d__law_outside : He.DefD := ⟨("_law_outside", none), "_law_outside", "_law_outside", defArgs s__law_outside, defBody s__law_outside, defScope s__law_outside, [], []⟩
def d__law_seen : He.DefD := ⟨("_law_seen", none), "_law_seen", "_law_seen", defArgs s__law_seen, defBody s__law_seen, defScope s__law_seen, [], []⟩
def d__law_split : He.DefD := ⟨("_law_split", none), "_law_split", "_law_split", defArgs s__law_split, defBody s__law_split, defScope s__law_split, [], []⟩
def d__law_leaf : He.DefD := ⟨("_law_leaf", none), "_law_leaf", "_law_leaf", defArgs s__law_leaf, defBody s__law_leaf, defScope s__law_leaf, [], []⟩
def d__law_draw_call : He.DefD := ⟨("_law_draw_call", none), "_law_draw_call", "_law_draw_call", defArgs s__law_draw_call, defBody s__law_draw_call, defScope s__law_draw_call, [], []⟩
def d__law_draw_let : He.DefD := ⟨("_law_draw_let", none), "_law_draw_let", "_law_draw_let", defArgs s__law_draw_let, defBody s__law_draw_let, defScope s__law_draw_let, [], []⟩
def d__law_draw_set : He.DefD := ⟨("_law_draw_set", none), "_law_draw_set", "_law_draw_set", defArgs s__law_draw_set, defBody s__law_draw_set, defScope s__law_draw_set, [], []⟩
def d__law_draw_two : He.DefD := ⟨("_law_draw_two", none), "_law_draw_two", "_law_draw_two", defArgs s__law_draw_two, defBody s__law_draw_two, defScope s__law_draw_two, [], []⟩
def d__law_draw : He.DefD := ⟨("_law_draw", none), "_law_draw", "_law_draw", defArgs s__law_draw, defBody s__law_draw, defScope s__law_draw, [], []⟩
def d__law_draw_deep : He.DefD := ⟨("_law_draw_deep", none), "_law_draw_deep", "_law_draw_deep", defArgs s__law_draw_deep, defBody s__law_draw_deep, defScope s__law_draw_deep, [], []⟩
def d__law_parts : He.DefD := ⟨("_law_parts", none), "_law_parts", "_law_parts", defArgs s__law_parts, defBody s__law_parts, defScope s__law_parts, [], []⟩
def d__law_free : He.DefD := ⟨("_law_free", none), "_law_free", "_law_free", defArgs s__law_free, defBody s__law_free, defScope s__law_free, [], []⟩
def d__law_found : He.DefD := ⟨("_law_found", none), "_law_found", "_law_found", defArgs s__law_found, defBody s__law_found, defScope s__law_found, [], []⟩
def d__law_renamed : He.DefD := ⟨("_law_renamed", none), "_law_renamed", "_law_renamed", defArgs s__law_renamed, defBody s__law_renamed, defScope s__law_renamed, [], []⟩
def d__law_renamed_due : He.DefD := ⟨("_law_renamed_due", none), "_law_renamed_due", "_law_renamed_due", defArgs s__law_renamed_due, defBody s__law_renamed_due, defScope s__law_renamed_due, [], []⟩
def d__law_same : He.DefD := ⟨("_law_same", none), "_law_same", "_law_same", defArgs s__law_same, defBody s__law_same, defScope s__law_same, [], []⟩
def d__law_listed : He.DefD := ⟨("_law_listed", none), "_law_listed", "_law_listed", defArgs s__law_listed, defBody s__law_listed, defScope s__law_listed, [], []⟩
def d__law_built : He.DefD := ⟨("_law_built", none), "_law_built", "_law_built", defArgs s__law_built, defBody s__law_built, defScope s__law_built, [], []⟩
def d__law_left_out : He.DefD := ⟨("_law_left_out", none), "_law_left_out", "_law_left_out", defArgs s__law_left_out, defBody s__law_left_out, defScope s__law_left_out, [], []⟩
def d_law : He.DefD := ⟨("law", none), "law", "law", defArgs s_law, defBody s_law, defScope s_law, [], []⟩
def hfn0 : List He.DefD := [d_frozen, d_parts_of, d_with_sub_blocks, d_bound_names, d_bound_in_part, d_free_names, d_binding_count, d_new_names, d_renamed_let, d_renamed_within, d_renamed, d__law_whole]
def hfn1 : List He.DefD := [d__law_cell, d__law_digits, d__law_reader, d__law_next, d__law_reserved, d__law_name, d__law_names, d__law_kinds, d__law_outside, d__law_seen, d__law_split, d__law_leaf]
def hfn2 : List He.DefD := [d__law_draw_call, d__law_draw_let, d__law_draw_set, d__law_draw_two, d__law_draw, d__law_draw_deep, d__law_parts, d__law_free, d__law_found, d__law_renamed, d__law_renamed_due, d__law_same]
def hfn3 : List He.DefD := [d__law_listed, d__law_built, d__law_left_out, d_law]
def hfn : List He.DefD := hfn0 ++ hfn1 ++ hfn2 ++ hfn3
def hfa0 : List He.Fa := [.glo "frozen", .glo "parts_of", .glo "with_sub_blocks", .glo "bound_names", .glo "bound_in_part", .glo "free_names", .glo "binding_count", .glo "new_names", .glo "renamed_let", .glo "renamed_within", .glo "renamed", .glo "_law_whole"]
def hfa1 : List He.Fa := [.glo "_law_cell", .glo "_law_digits", .glo "_law_reader", .glo "_law_next", .glo "_law_reserved", .glo "_law_name", .glo "_law_names", .glo "_law_kinds", .glo "_law_outside", .glo "_law_seen", .glo "_law_split", .glo "_law_leaf"]
def hfa2 : List He.Fa := [.glo "_law_draw_call", .glo "_law_draw_let", .glo "_law_draw_set", .glo "_law_draw_two", .glo "_law_draw", .glo "_law_draw_deep", .glo "_law_parts", .glo "_law_free", .glo "_law_found", .glo "_law_renamed", .glo "_law_renamed_due", .glo "_law_same"]
def hfa3 : List He.Fa := [.glo "_law_listed", .glo "_law_built", .glo "_law_left_out", .glo "law", .free "int", .free "str", .free "tuple", .free "list", .free "bool", .free "len", .free "min", .free "isinstance"]
def hfa4 : List He.Fa := [.free "range", .free "sorted", .free "sum", .free "dict", .glo "LEAVES", .glo "USES_blocks", .glo "USES_renaming"]
def hfa : List He.Fa := hfa0 ++ hfa1 ++ hfa2 ++ hfa3 ++ hfa4
def hts : List He.Tab := []
def hms0 : List (PySem.W.Frag → Bool) := [(fun K => tupAtB K (kwdAt "renamed" "avoid") []), (fun K => tupAtB K (gaP "LEAVES") [.str "skip", .str "quit", .str "number", .str "get", .str "hole"]), (fun K => tupAtB K (gaP "USES_blocks") [.str "get", .str "set", .str "call"]), (fun K => tupAtB K (gaP "USES_renaming") [.str "get", .str "set", .str "call"])]
def hms : List (PySem.W.Frag → Bool) := hms0
def hmore (K : PySem.W.Frag) : Bool := hms.all fun f => f K
abbrev hR : PySem.W.OpenRow := PySem.W.OpenLaw.row PySem.Challenge.rw_heardsaid_k03_renamed_apart
abbrev hhk : PySem.W.Hook := hookM 5 hfa hfn hts hmore
def hob (s : PySem.W.SharedT) : AlM := obsMG 5 hfa hfn hts hmore (HandSHeadRun.getT s)
theorem hob_eq (s : PySem.W.SharedT) : hob s = hhk.obs s.abs := obsMG_eq (HandSHeadRun.getT_eq s)
def hnames0 : List Str := ["frozen", "LEAVES", "USES_blocks", "parts_of", "with_sub_blocks", "bound_names", "bound_in_part", "free_names", "USES_renaming", "binding_count", "new_names", "renamed_let"]
def hnames1 : List Str := ["renamed_within", "renamed", "_law_whole", "_law_cell", "_law_digits", "_law_reader", "_law_next", "_law_reserved", "_law_name", "_law_names", "_law_kinds", "_law_outside"]
def hnames2 : List Str := ["_law_seen", "_law_split", "_law_leaf", "_law_draw_call", "_law_draw_let", "_law_draw_set", "_law_draw_two", "_law_draw", "_law_draw_deep", "_law_parts", "_law_free", "_law_found"]
def hnames3 : List Str := ["_law_renamed", "_law_renamed_due", "_law_same", "_law_listed", "_law_built", "_law_left_out"]
def hnames : List Str := hnames0 ++ hnames1 ++ hnames2 ++ hnames3
theorem hrun (w : World) : HandSHeadRun.RunEq hR (PySem.W.view hR.prog [46]) hhk hob 20000 hnames w :=
  by intro os; kernel_rfl
theorem txt_ok {w : World} {K : PySem.W.Frag} {h : Heap} {mg : Str → Option Value} (X : K.In h) (G : h.Ns mainGlobals mg) (c : SaysM hfa hfn hts hmore w K) : Txt w K mg := by
  have M := c.m
  exact {
    s_frozen := src_ok X G c 0 0,
    s_parts_of := src_ok X G c 1 1,
    s_with_sub_blocks := src_ok X G c 2 2,
    s_bound_names := src_ok X G c 3 3,
    s_bound_in_part := src_ok X G c 4 4,
    s_free_names := src_ok X G c 5 5,
    s_binding_count := src_ok X G c 6 6,
    s_new_names := src_ok X G c 7 7,
    s_renamed_let := src_ok X G c 8 8,
    s_renamed_within := src_ok X G c 9 9,
    s_renamed := srcK_ok X G c 10 10 (all_at M 0),
    s__law_whole := src_ok X G c 11 11,
    s__law_cell := src_ok X G c 12 12,
    s__law_digits := src_ok X G c 13 13,
    s__law_reader := src_ok X G c 14 14,
    s__law_next := src_ok X G c 15 15,
    s__law_reserved := src_ok X G c 16 16,
    s__law_name := src_ok X G c 17 17,
    s__law_names := src_ok X G c 18 18,
    s__law_kinds := src_ok X G c 19 19,
    s__law_outside := src_ok X G c 20 20,
    s__law_seen := src_ok X G c 21 21,
    s__law_split := src_ok X G c 22 22,
    s__law_leaf := src_ok X G c 23 23,
    s__law_draw_call := src_ok X G c 24 24,
    s__law_draw_let := src_ok X G c 25 25,
    s__law_draw_set := src_ok X G c 26 26,
    s__law_draw_two := src_ok X G c 27 27,
    s__law_draw := src_ok X G c 28 28,
    s__law_draw_deep := src_ok X G c 29 29,
    s__law_parts := src_ok X G c 30 30,
    s__law_free := src_ok X G c 31 31,
    s__law_found := src_ok X G c 32 32,
    s__law_renamed := src_ok X G c 33 33,
    s__law_renamed_due := src_ok X G c 34 34,
    s__law_same := src_ok X G c 35 35,
    s__law_listed := src_ok X G c 36 36,
    s__law_built := src_ok X G c 37 37,
    s__law_left_out := src_ok X G c 38 38,
    s_law := src_ok X G c 39 39,
    b_int := He.free_ok X G (c.fact 40 (f := .free "int")),
    b_str := He.free_ok X G (c.fact 41 (f := .free "str")),
    b_tuple := He.free_ok X G (c.fact 42 (f := .free "tuple")),
    b_list := He.free_ok X G (c.fact 43 (f := .free "list")),
    b_bool := He.free_ok X G (c.fact 44 (f := .free "bool")),
    b_len := He.free_ok X G (c.fact 45 (f := .free "len")),
    b_min := He.free_ok X G (c.fact 46 (f := .free "min")),
    b_isinstance := He.free_ok X G (c.fact 47 (f := .free "isinstance")),
    b_range := He.free_ok X G (c.fact 48 (f := .free "range")),
    b_sorted := He.free_ok X G (c.fact 49 (f := .free "sorted")),
    b_sum := He.free_ok X G (c.fact 50 (f := .free "sum")),
    b_dict := He.free_ok X G (c.fact 51 (f := .free "dict")),
    c_LEAVES := ⟨_, He.glo_ok X G (c.fact 52 (f := .glo "LEAVES")), tupAtB_ok (p := gaP "LEAVES") (vs := [.str "skip", .str "quit", .str "number", .str "get", .str "hole"]) (all_at M 1)⟩,
    c_USES_blocks := ⟨_, He.glo_ok X G (c.fact 53 (f := .glo "USES_blocks")), tupAtB_ok (p := gaP "USES_blocks") (vs := [.str "get", .str "set", .str "call"]) (all_at M 2)⟩,
    c_USES_renaming := ⟨_, He.glo_ok X G (c.fact 54 (f := .glo "USES_renaming")), tupAtB_ok (p := gaP "USES_renaming") (vs := [.str "get", .str "set", .str "call"]) (all_at M 3)⟩ }
end K03

namespace K03
open PySem PySem.Spec PyProof.Rows L2 ML
section
variable {P : Program} {w : World} {K : PySem.W.Frag} {mg : Str → Option Value} {base : Heap} {ct : Str → Addr} {k : Nat}
/-! frozen -/
theorem sc_frozen : FnScope ["value", "parts", "part"] ["value"] (defScope s_frozen) := ⟨rfl, rfl, rfl, by decide +kernel, rfl, by decide +kernel, by decide +kernel⟩
def body_frozen (m_frozen : List W → FR) : Rho → ML.R Fl := mSeq (mIf (mNot (mTest (mCB gIsi [mVar 0, mTup [] [mC (.ty "list"), mC (.ty "tuple")]]))) (mRet [] (mVar 0)) (mNext)) (mSeq (mSet [] 1 (mLst [] [])) (mSeq (mFor (mItems [] (mVar 0)) (gSet [] 2) (mDrop (mAppend 1 [] (mCall [] [] m_frozen [mVar 2])))) (mRet [] (mCB gTupC [mVar 1]))))
def fun_frozen (m_frozen : List W → FR) : List W → FR := mFun [] 3 (body_frozen m_frozen)
theorem def_frozen (T : Txt w K mg) {m_frozen : List W → FR} (D_frozen : Def P w K mg base ct k "frozen" ["value"] [] m_frozen) : Def P w K mg base ct (k + 1) "frozen" ["value"] [] (fun_frozen m_frozen) :=
  def_mk (N := ["value", "parts", "part"]) (g := body_frozen m_frozen) T.s_frozen sc_frozen (by decide) (fun _ _ _ _ _ _ us hl => match us, hl with | [_], _ => rfl) fun f cdv A outer s H E Y hr hct tk =>
    (psm_cons (psm_if (ptm_not (ptm_val (pem_callB (c_isi) rfl T.b_isinstance (by rfl) g_isi (pam_cons (pem_var 0 (pv 0)) (pam_cons (pem_tup (pam_cons (pem_ty rfl T.b_list (by rfl)) (pam_cons (pem_ty rfl T.b_tuple (by rfl)) (pam_nil)))) (pam_nil)))))) (psm_one (psm_ret (pem_var 0 (pv 0)))) (psm_nil)) (psm_cons (psm_set (i := 1) sc_frozen.nd rfl (Or.inl rfl) (pem_lst (pam_nil))) (psm_cons (psm_for (passes_of rfl) rfl (pim_seq (pem_var 0 (pv 0))) (pgm_name (pg_name (i := 2) sc_frozen.nd rfl (Or.inl rfl))) (psm_one (psm_expr (pem_append (pv 1) (pem_callD D_frozen hct hr tk rfl (pam_cons (pem_var 2 (pv 2)) (pam_nil)) rfl))))) (psm_one (psm_ret (pem_callTy call_tuple_of rfl T.b_tuple (by rfl) g_tupC (pam_cons (pem_var 1 (pv 1)) (pam_nil))))))))
/-! parts_of -/
theorem sc_parts_of : FnScope ["node", "word"] ["node"] (defScope s_parts_of) := ⟨rfl, rfl, rfl, by decide +kernel, rfl, by decide +kernel, by decide +kernel⟩
def body_parts_of : Rho → ML.R Fl := mSeq (mSet [] 1 (mOp gIx (mVar 0) (mC (.int 0)))) (mSeq (mIf (mTest (mOp (gIn false) (mVar 1) (mC w_LEAVES))) (mRet [] (mTup [] [])) (mNext)) (mSeq (mIf (mTest (mOp gEq (mVar 1) (mC (.str "call")))) (mRet [] (mOp gIx (mVar 0) (mC (.int 2)))) (mNext)) (mSeq (mIf (mTest (mOp gEq (mVar 1) (mC (.str "set")))) (mRet [] (mSl (mVar 0) (some (mC (.int 2))) none)) (mNext)) (mSeq (mIf (mOr (mTest (mOp gEq (mVar 1) (mC (.str "new")))) (mTest (mOp gEq (mVar 1) (mC (.str "let"))))) (mRet [] (mSl (mVar 0) (some (mC (.int 3))) none)) (mNext)) (mRet [] (mSl (mVar 0) (some (mC (.int 1))) none))))))
def fun_parts_of : List W → FR := mFun [] 2 (body_parts_of)
theorem def_parts_of (T : Txt w K mg) : Def P w K mg base ct (k + 1) "parts_of" ["node"] [] (fun_parts_of) :=
  def_mk (N := ["node", "word"]) (g := body_parts_of) T.s_parts_of sc_parts_of (by decide) (fun _ _ _ _ _ _ us hl => match us, hl with | [_], _ => rfl) fun f cdv A outer s H E Y hr hct tk =>
    (psm_cons (psm_set (i := 1) sc_parts_of.nd rfl (Or.inl rfl) (pem_ix (pem_var 0 (pv 0)) (pem_int))) (psm_cons (psm_if (ptm_cmp o_in g_in (pem_var 1 (pv 1)) (pg_LEAVES T) rfl) (psm_one (psm_ret (pem_tup (pam_nil)))) (psm_nil)) (psm_cons (psm_if (ptm_cmp (o_eq (hu200 hr)) g_eq (pem_var 1 (pv 1)) (pem_str) (nomark _)) (psm_one (psm_ret (pem_ix (pem_var 0 (pv 0)) (pem_int)))) (psm_nil)) (psm_cons (psm_if (ptm_cmp (o_eq (hu200 hr)) g_eq (pem_var 1 (pv 1)) (pem_str) (nomark _)) (psm_one (psm_ret (pem_slice (pem_var 0 (pv 0)) (pom_some (pem_int)) pom_none))) (psm_nil)) (psm_cons (psm_if (PW.pt (pwm_or (ptm_cmp (o_eq (hu200 hr)) g_eq (pem_var 1 (pv 1)) (pem_str) (nomark _)) (pwm_or1 (ptm_cmp (o_eq (hu200 hr)) g_eq (pem_var 1 (pv 1)) (pem_str) (nomark _))))) (psm_one (psm_ret (pem_slice (pem_var 0 (pv 0)) (pom_some (pem_int)) pom_none))) (psm_nil)) (psm_one (psm_ret (pem_slice (pem_var 0 (pv 0)) (pom_some (pem_int)) pom_none))))))))
/-! with_sub_blocks -/
theorem sc_with_sub_blocks : FnScope ["block", "parts", "word"] ["block", "parts"] (defScope s_with_sub_blocks) := ⟨rfl, rfl, rfl, by decide +kernel, rfl, by decide +kernel, by decide +kernel⟩
def body_with_sub_blocks : Rho → ML.R Fl := mSeq (mSet [] 2 (mOp gIx (mVar 0) (mC (.int 0)))) (mSeq (mIf (mTest (mOp (gIn false) (mVar 2) (mC w_LEAVES))) (mRet [] (mVar 0)) (mNext)) (mSeq (mIf (mTest (mOp gEq (mVar 2) (mC (.str "call")))) (mRet [] (mTup [] [mC (.str "call"), mOp gIx (mVar 0) (mC (.int 1)), mCB gTupC [mVar 1]])) (mNext)) (mSeq (mIf (mTest (mOp gEq (mVar 2) (mC (.str "set")))) (mRet [] (mOp gAdd (mSl (mVar 0) none (some (mC (.int 2)))) (mCB gTupC [mVar 1]))) (mNext)) (mSeq (mIf (mOr (mTest (mOp gEq (mVar 2) (mC (.str "new")))) (mTest (mOp gEq (mVar 2) (mC (.str "let"))))) (mRet [] (mOp gAdd (mSl (mVar 0) none (some (mC (.int 3)))) (mCB gTupC [mVar 1]))) (mNext)) (mRet [] (mOp gAdd (mSl (mVar 0) none (some (mC (.int 1)))) (mCB gTupC [mVar 1])))))))
def fun_with_sub_blocks : List W → FR := mFun [] 3 (body_with_sub_blocks)
theorem def_with_sub_blocks (T : Txt w K mg) : Def P w K mg base ct (k + 1) "with_sub_blocks" ["block", "parts"] [] (fun_with_sub_blocks) :=
  def_mk (N := ["block", "parts", "word"]) (g := body_with_sub_blocks) T.s_with_sub_blocks sc_with_sub_blocks (by decide) (fun _ _ _ _ _ _ us hl => match us, hl with | [_, _], _ => rfl) fun f cdv A outer s H E Y hr hct tk =>
    (psm_cons (psm_set (i := 2) sc_with_sub_blocks.nd rfl (Or.inl rfl) (pem_ix (pem_var 0 (pv 0)) (pem_int))) (psm_cons (psm_if (ptm_cmp o_in g_in (pem_var 2 (pv 2)) (pg_LEAVES T) rfl) (psm_one (psm_ret (pem_var 0 (pv 0)))) (psm_nil)) (psm_cons (psm_if (ptm_cmp (o_eq (hu200 hr)) g_eq (pem_var 2 (pv 2)) (pem_str) (nomark _)) (psm_one (psm_ret (pem_tup (pam_cons (pem_str) (pam_cons (pem_ix (pem_var 0 (pv 0)) (pem_int)) (pam_cons (pem_callTy call_tuple_of rfl T.b_tuple (by rfl) g_tupC (pam_cons (pem_var 1 (pv 1)) (pam_nil))) (pam_nil))))))) (psm_nil)) (psm_cons (psm_if (ptm_cmp (o_eq (hu200 hr)) g_eq (pem_var 2 (pv 2)) (pem_str) (nomark _)) (psm_one (psm_ret (pem_op o_add g_add (pem_slice (pem_var 0 (pv 0)) pom_none (pom_some (pem_int))) (pem_callTy call_tuple_of rfl T.b_tuple (by rfl) g_tupC (pam_cons (pem_var 1 (pv 1)) (pam_nil)))))) (psm_nil)) (psm_cons (psm_if (PW.pt (pwm_or (ptm_cmp (o_eq (hu200 hr)) g_eq (pem_var 2 (pv 2)) (pem_str) (nomark _)) (pwm_or1 (ptm_cmp (o_eq (hu200 hr)) g_eq (pem_var 2 (pv 2)) (pem_str) (nomark _))))) (psm_one (psm_ret (pem_op o_add g_add (pem_slice (pem_var 0 (pv 0)) pom_none (pom_some (pem_int))) (pem_callTy call_tuple_of rfl T.b_tuple (by rfl) g_tupC (pam_cons (pem_var 1 (pv 1)) (pam_nil)))))) (psm_nil)) (psm_one (psm_ret (pem_op o_add g_add (pem_slice (pem_var 0 (pv 0)) pom_none (pom_some (pem_int))) (pem_callTy call_tuple_of rfl T.b_tuple (by rfl) g_tupC (pam_cons (pem_var 1 (pv 1)) (pam_nil)))))))))))
/-! bound_names -/
theorem sc_bound_names : FnScope ["block", "pair"] ["block"] (defScope s_bound_names) := ⟨rfl, rfl, rfl, by decide +kernel, rfl, by decide +kernel, by decide +kernel⟩
def body_bound_names : Rho → ML.R Fl := mSeq (mIf (mTest (mOp gEq (mOp gIx (mVar 0) (mC (.int 0))) (mC (.str "new")))) (mRet [] (mTup [] [mOp gIx (mVar 0) (mC (.int 1))])) (mNext)) (mSeq (mIf (mTest (mOp gEq (mOp gIx (mVar 0) (mC (.int 0))) (mC (.str "let")))) (mRet [] (mOp gAdd (mTup [] [mOp gIx (mVar 0) (mC (.int 1))]) (mCB gTupC [mLc [] (mItems [] (mOp gIx (mVar 0) (mC (.int 2)))) (.nm 1) (mYes) (mOp gIx (mVar 1) (mC (.int 0)))]))) (mNext)) (mRet [] (mTup [] [])))
def fun_bound_names : List W → FR := mFun [] 2 (body_bound_names)
theorem def_bound_names (T : Txt w K mg) : Def P w K mg base ct (k + 1) "bound_names" ["block"] [] (fun_bound_names) :=
  def_mk (N := ["block", "pair"]) (g := body_bound_names) T.s_bound_names sc_bound_names (by decide) (fun _ _ _ _ _ _ us hl => match us, hl with | [_], _ => rfl) fun f cdv A outer s H E Y hr hct tk =>
    (psm_cons (psm_if (ptm_cmp (o_eq (hu200 hr)) g_eq (pem_ix (pem_var 0 (pv 0)) (pem_int)) (pem_str) (nomark _)) (psm_one (psm_ret (pem_tup (pam_cons (pem_ix (pem_var 0 (pv 0)) (pem_int)) (pam_nil))))) (psm_nil)) (psm_cons (psm_if (ptm_cmp (o_eq (hu200 hr)) g_eq (pem_ix (pem_var 0 (pv 0)) (pem_int)) (pem_str) (nomark _)) (psm_one (psm_ret (pem_op o_add g_add (pem_tup (pam_cons (pem_ix (pem_var 0 (pv 0)) (pem_int)) (pam_nil))) (pem_callTy call_tuple_of rfl T.b_tuple (by rfl) g_tupC (pam_cons (pem_lc (own := [("pair", 1)]) (t := .nm 1) rfl sc_bound_names.nd (pim_seq (pem_ix (pem_var 0 (pv 0)) (pem_int))) (blkOk_by (N := ["block", "pair"]) (sc := defScope s_bound_names) (by decide +kernel)) rfl (fun _ _ _ _ _ => pg_name (i := 1) sc_bound_names.nd rfl (by first | exact Or.inl rfl | exact Or.inr rfl) (by first | exact .inl rfl | exact .inr rfl)) (fun _ _ _ _ _ => pcs_nil) (fun _ _ _ _ _ Y1 hY1 wY1 => (pem_ix (pem_var 1 (pv 1)) (pem_int)))) (pam_nil)))))) (psm_nil)) (psm_one (psm_ret (pem_tup (pam_nil))))))
/-! bound_in_part -/
theorem sc_bound_in_part : FnScope ["node", "number", "pair"] ["node", "number"] (defScope s_bound_in_part) := ⟨rfl, rfl, rfl, by decide +kernel, rfl, by decide +kernel, by decide +kernel⟩
def body_bound_in_part : Rho → ML.R Fl := mSeq (mIf (mAnd (mTest (mOp gEq (mOp gIx (mVar 0) (mC (.int 0))) (mC (.str "let")))) (mTest (mOp gEq (mVar 1) (mC (.int 0))))) (mRet [] (mCB gTupC [mLc [] (mItems [] (mOp gIx (mVar 0) (mC (.int 2)))) (.nm 2) (mYes) (mOp gIx (mVar 2) (mC (.int 0)))])) (mNext)) (mSeq (mIf (mOr (mTest (mOp gEq (mOp gIx (mVar 0) (mC (.int 0))) (mC (.str "let")))) (mTest (mOp gEq (mOp gIx (mVar 0) (mC (.int 0))) (mC (.str "new"))))) (mRet [] (mTup [] [mOp gIx (mVar 0) (mC (.int 1))])) (mNext)) (mRet [] (mTup [] [])))
def fun_bound_in_part : List W → FR := mFun [] 3 (body_bound_in_part)
theorem def_bound_in_part (T : Txt w K mg) : Def P w K mg base ct (k + 1) "bound_in_part" ["node", "number"] [] (fun_bound_in_part) :=
  def_mk (N := ["node", "number", "pair"]) (g := body_bound_in_part) T.s_bound_in_part sc_bound_in_part (by decide) (fun _ _ _ _ _ _ us hl => match us, hl with | [_, _], _ => rfl) fun f cdv A outer s H E Y hr hct tk =>
    (psm_cons (psm_if (PW.pt (pwm_and (ptm_cmp (o_eq (hu200 hr)) g_eq (pem_ix (pem_var 0 (pv 0)) (pem_int)) (pem_str) (nomark _)) (pwm_and1 (ptm_cmp (o_eq (hu200 hr)) g_eq (pem_var 1 (pv 1)) (pem_int) (nomark _))))) (psm_one (psm_ret (pem_callTy call_tuple_of rfl T.b_tuple (by rfl) g_tupC (pam_cons (pem_lc (own := [("pair", 2)]) (t := .nm 2) rfl sc_bound_in_part.nd (pim_seq (pem_ix (pem_var 0 (pv 0)) (pem_int))) (blkOk_by (N := ["node", "number", "pair"]) (sc := defScope s_bound_in_part) (by decide +kernel)) rfl (fun _ _ _ _ _ => pg_name (i := 2) sc_bound_in_part.nd rfl (by first | exact Or.inl rfl | exact Or.inr rfl) (by first | exact .inl rfl | exact .inr rfl)) (fun _ _ _ _ _ => pcs_nil) (fun _ _ _ _ _ Y1 hY1 wY1 => (pem_ix (pem_var 2 (pv 2)) (pem_int)))) (pam_nil))))) (psm_nil)) (psm_cons (psm_if (PW.pt (pwm_or (ptm_cmp (o_eq (hu200 hr)) g_eq (pem_ix (pem_var 0 (pv 0)) (pem_int)) (pem_str) (nomark _)) (pwm_or1 (ptm_cmp (o_eq (hu200 hr)) g_eq (pem_ix (pem_var 0 (pv 0)) (pem_int)) (pem_str) (nomark _))))) (psm_one (psm_ret (pem_tup (pam_cons (pem_ix (pem_var 0 (pv 0)) (pem_int)) (pam_nil))))) (psm_nil)) (psm_one (psm_ret (pem_tup (pam_nil))))))
/-! free_names -/
theorem sc_free_names : FnScope ["block", "found", "waiting", "node", "bound", "parts", "number"] ["block"] (defScope s_free_names) := ⟨rfl, rfl, rfl, by decide +kernel, rfl, by decide +kernel, by decide +kernel⟩
noncomputable def body_free_names (m_frozen : List W → FR) (m_parts_of : List W → FR) (m_bound_in_part : List W → FR) : Rho → ML.R Fl := mSeq (mSet [] 1 (mLst [] [])) (mSeq (mSet [] 2 (mLst [] [mTup [] [mCall [] [] m_frozen [mVar 0], mTup [] []]])) (mSeq (mWhile (mTru (mVar 2)) (mSeq (mAsgT [] (gTup [gSet [] 3, gSet [] 4]) (mPop 2)) (mSeq (mIf (mAnd (mTest (mOp (gIn false) (mOp gIx (mVar 3) (mC (.int 0))) (mC w_USES_blocks))) (mAnd (mTest (mOp (gIn true) (mOp gIx (mVar 3) (mC (.int 1))) (mVar 4))) (mTest (mOp (gIn true) (mOp gIx (mVar 3) (mC (.int 1))) (mVar 1))))) (mDrop (mAppend 1 [] (mOp gIx (mVar 3) (mC (.int 1))))) (mNext)) (mSeq (mSet [] 5 (mCall [] [] m_parts_of [mVar 3])) (mFor (mRange1 [mCB gLen [mVar 5]]) (gSet [] 6) (mDrop (mAppend 2 [] (mTup [] [mOp gIx (mVar 5) (mVar 6), mOp gAdd (mVar 4) (mCall [] [] m_bound_in_part [mVar 3, mVar 6])])))))))) (mRet [] (mCB gTupC [mCB gSorted [mVar 1]]))))
noncomputable def fun_free_names (m_frozen : List W → FR) (m_parts_of : List W → FR) (m_bound_in_part : List W → FR) : List W → FR := mFun [] 7 (body_free_names m_frozen m_parts_of m_bound_in_part)
theorem def_free_names (T : Txt w K mg) {m_frozen : List W → FR} (D_frozen : Def P w K mg base ct k "frozen" ["value"] [] m_frozen) {m_parts_of : List W → FR} (D_parts_of : Def P w K mg base ct k "parts_of" ["node"] [] m_parts_of) {m_bound_in_part : List W → FR} (D_bound_in_part : Def P w K mg base ct k "bound_in_part" ["node", "number"] [] m_bound_in_part) : Def P w K mg base ct (k + 1) "free_names" ["block"] [] (fun_free_names m_frozen m_parts_of m_bound_in_part) :=
  def_mk (N := ["block", "found", "waiting", "node", "bound", "parts", "number"]) (g := body_free_names m_frozen m_parts_of m_bound_in_part) T.s_free_names sc_free_names (by decide) (fun _ _ _ _ _ _ us hl => match us, hl with | [_], _ => rfl) fun f cdv A outer s H E Y hr hct tk =>
    (psm_cons (psm_set (i := 1) sc_free_names.nd rfl (Or.inl rfl) (pem_lst (pam_nil))) (psm_cons (psm_set (i := 2) sc_free_names.nd rfl (Or.inl rfl) (pem_lst (pam_cons (pem_tup (pam_cons (pem_callD D_frozen hct hr tk rfl (pam_cons (pem_var 0 (pv 0)) (pam_nil)) rfl) (pam_cons (pem_tup (pam_nil)) (pam_nil)))) (pam_nil)))) (psm_cons (psm_while (passes_of rfl) (ptm_tru (pem_var 2 (pv 2))) (psm_cons (psm_asgT (ps_asg (pem_pop (pv 2)) (pgm_tup (pg_tup rfl (pgms_cons (pgm_name (pg_name (i := 3) sc_free_names.nd rfl (Or.inl rfl))) (pgms_cons (pgm_name (pg_name (i := 4) sc_free_names.nd rfl (Or.inl rfl))) (pgms_nil)))) rfl))) (psm_cons (psm_if (PW.pt (pwm_and (ptm_cmp o_in g_in (pem_ix (pem_var 3 (pv 3)) (pem_int)) (pg_USES_blocks T) rfl) (pwm_and (ptm_cmp o_notin g_in (pem_ix (pem_var 3 (pv 3)) (pem_int)) (pem_var 4 (pv 4)) rfl) (pwm_and1 (ptm_cmp o_notin g_in (pem_ix (pem_var 3 (pv 3)) (pem_int)) (pem_var 1 (pv 1)) rfl))))) (psm_one (psm_expr (pem_append (pv 1) (pem_ix (pem_var 3 (pv 3)) (pem_int))))) (psm_nil)) (psm_cons (psm_set (i := 5) sc_free_names.nd rfl (Or.inl rfl) (pem_callD D_parts_of hct hr tk rfl (pam_cons (pem_var 3 (pv 3)) (pam_nil)) rfl)) (psm_one (psm_for (passes_of rfl) rfl (pim_range1 rfl T.b_range (pam_cons (pem_callB (call_len) rfl T.b_len (by rfl) g_len (pam_cons (pem_var 5 (pv 5)) (pam_nil))) (pam_nil))) (pgm_name (pg_name (i := 6) sc_free_names.nd rfl (Or.inl rfl))) (psm_one (psm_expr (pem_append (pv 2) (pem_tup (pam_cons (pem_ix (pem_var 5 (pv 5)) (pem_var 6 (pv 6))) (pam_cons (pem_op o_add g_add (pem_var 4 (pv 4)) (pem_callD D_bound_in_part hct hr tk rfl (pam_cons (pem_var 3 (pv 3)) (pam_cons (pem_var 6 (pv 6)) (pam_nil))) rfl)) (pam_nil))))))))))))) (psm_one (psm_ret (pem_callTy call_tuple_of rfl T.b_tuple (by rfl) g_tupC (pam_cons (pem_callB (cr_sortedS) rfl T.b_sorted (by rfl) g_sorted (pam_cons (pem_var 1 (pv 1)) (pam_nil))) (pam_nil))))))))
/-! binding_count -/
theorem sc_binding_count : FnScope ["block", "part"] ["block"] (defScope s_binding_count) := ⟨rfl, rfl, rfl, by decide +kernel, rfl, by decide +kernel, by decide +kernel⟩
def body_binding_count (m_bound_names : List W → FR) (m_parts_of : List W → FR) (m_binding_count : List W → FR) : Rho → ML.R Fl := mRet [] (mOp gAdd (mCB gLen [mCall [] [] m_bound_names [mVar 0]]) (mCB gSum [mLc [] (mItems [] (mCall [] [] m_parts_of [mVar 0])) (.nm 1) (mYes) (mCall [] [] m_binding_count [mVar 1])]))
def fun_binding_count (m_bound_names : List W → FR) (m_parts_of : List W → FR) (m_binding_count : List W → FR) : List W → FR := mFun [] 2 (body_binding_count m_bound_names m_parts_of m_binding_count)
theorem def_binding_count (T : Txt w K mg) {m_bound_names : List W → FR} (D_bound_names : Def P w K mg base ct k "bound_names" ["block"] [] m_bound_names) {m_parts_of : List W → FR} (D_parts_of : Def P w K mg base ct k "parts_of" ["node"] [] m_parts_of) {m_binding_count : List W → FR} (D_binding_count : Def P w K mg base ct k "binding_count" ["block"] [] m_binding_count) : Def P w K mg base ct (k + 1) "binding_count" ["block"] [] (fun_binding_count m_bound_names m_parts_of m_binding_count) :=
  def_mk (N := ["block", "part"]) (g := body_binding_count m_bound_names m_parts_of m_binding_count) T.s_binding_count sc_binding_count (by decide) (fun _ _ _ _ _ _ us hl => match us, hl with | [_], _ => rfl) fun f cdv A outer s H E Y hr hct tk =>
    (psm_one (psm_ret (pem_op o_add g_add (pem_callB (call_len) rfl T.b_len (by rfl) g_len (pam_cons (pem_callD D_bound_names hct hr tk rfl (pam_cons (pem_var 0 (pv 0)) (pam_nil)) rfl) (pam_nil))) (pem_callB (cr_sum rfl) rfl T.b_sum (by rfl) g_sum (pam_cons (pem_lc (own := [("part", 1)]) (t := .nm 1) rfl sc_binding_count.nd (pim_seq (pem_callD D_parts_of hct hr tk rfl (pam_cons (pem_var 0 (pv 0)) (pam_nil)) rfl)) (blkOk_by (N := ["block", "part"]) (sc := defScope s_binding_count) (by decide +kernel)) rfl (fun _ _ _ _ _ => pg_name (i := 1) sc_binding_count.nd rfl (by first | exact Or.inl rfl | exact Or.inr rfl) (by first | exact .inl rfl | exact .inr rfl)) (fun _ _ _ _ _ => pcs_nil) (fun _ _ _ _ _ Y1 hY1 wY1 => (pem_callD D_binding_count (hY1.trans hct) hr (takesF wY1) rfl (pam_cons (pem_var 1 (pv 1)) (pam_nil)) rfl))) (pam_nil))))))
/-! new_names -/
theorem sc_new_names : FnScope ["left_out", "many", "names", "number", "name"] ["left_out", "many"] (defScope s_new_names) := ⟨rfl, rfl, rfl, by decide +kernel, rfl, by decide +kernel, by decide +kernel⟩
noncomputable def body_new_names : Rho → ML.R Fl := mSeq (mSet [] 2 (mLst [] [])) (mSeq (mSet [] 3 (mC (.int 0))) (mSeq (mWhile (mTest (mOp (gCmp (fun i j => decide (i < j))) (mCB gLen [mVar 2]) (mVar 1))) (mSeq (mSet [] 4 (mOp gAdd (mC (.str "n")) (mCB gStr [mVar 3]))) (mSeq (mIf (mTest (mOp (gIn true) (mVar 4) (mVar 0))) (mDrop (mAppend 2 [] (mVar 4))) (mNext)) (mAugI (fun i j => i + j) 3 [] (mC (.int 1)))))) (mRet [] (mVar 2))))
noncomputable def fun_new_names : List W → FR := mFun [] 5 (body_new_names)
theorem def_new_names (T : Txt w K mg) : Def P w K mg base ct (k + 1) "new_names" ["left_out", "many"] [] (fun_new_names) :=
  def_mk (N := ["left_out", "many", "names", "number", "name"]) (g := body_new_names) T.s_new_names sc_new_names (by decide) (fun _ _ _ _ _ _ us hl => match us, hl with | [_, _], _ => rfl) fun f cdv A outer s H E Y hr hct tk =>
    (psm_cons (psm_set (i := 2) sc_new_names.nd rfl (Or.inl rfl) (pem_lst (pam_nil))) (psm_cons (psm_set (i := 3) sc_new_names.nd rfl (Or.inl rfl) (pem_int)) (psm_cons (psm_while (passes_of rfl) (ptm_cmp op_lt g_cmp (pem_callB (call_len) rfl T.b_len (by rfl) g_len (pam_cons (pem_var 2 (pv 2)) (pam_nil))) (pem_var 1 (pv 1)) (nomark _)) (psm_cons (psm_set (i := 4) sc_new_names.nd rfl (Or.inl rfl) (pem_op o_add g_add (pem_str) (pem_callTy c_str rfl T.b_str (by rfl) g_str (pam_cons (pem_var 3 (pv 3)) (pam_nil))))) (psm_cons (psm_if (ptm_cmp o_notin g_in (pem_var 4 (pv 4)) (pem_var 0 (pv 0)) rfl) (psm_one (psm_expr (pem_append (pv 2) (pem_var 4 (pv 4))))) (psm_nil)) (psm_one (psm_augI (ps_aug (i := 3) sc_new_names.nd rfl (Or.inl rfl) (pem_int) ip_add)))))) (psm_one (psm_ret (pem_var 2 (pv 2)))))))
/-! renamed_let -/
theorem sc_renamed_let : FnScope ["block", "scope", "names", "at", "parameters", "inner", "after", "name", "kind", "body", "rest"] ["block", "scope", "names", "at"] (defScope s_renamed_let) := ⟨rfl, rfl, rfl, by decide +kernel, rfl, by decide +kernel, by decide +kernel⟩
def body_renamed_let (m_renamed_within : List W → FR) : Rho → ML.R Fl := mSeq (mSet [] 4 (mLst [] [])) (mSeq (mSet [] 5 (mCB gDctC [mVar 1])) (mSeq (mSet [] 6 (mOp gAdd (mVar 3) (mC (.int 1)))) (mSeq (mFor (mItems [] (mOp gIx (mVar 0) (mC (.int 2)))) (gTup [gSet [] 7, gSet [] 8]) (mSeq (mDrop (mAppend 4 [] (mTup [] [mOp gIx (mVar 2) (mVar 6), mVar 8]))) (mSeq (mStoreD 5 [] (mVar 7) (mOp gIx (mVar 2) (mVar 6))) (mAugI (fun i j => i + j) 6 [] (mC (.int 1)))))) (mSeq (mAsgT [] (gTup [gSet [] 9, gSet [] 6]) (mCall [] [] m_renamed_within [mOp gIx (mVar 0) (mC (.int 3)), mVar 5, mVar 2, mVar 6])) (mSeq (mAsgT [] (gTup [gSet [] 10, gSet [] 6]) (mCall [] [] m_renamed_within [mOp gIx (mVar 0) (mC (.int 4)), mDspl [] (mVar 1) (mOp gIx (mVar 0) (mC (.int 1))) (mOp gIx (mVar 2) (mVar 3)), mVar 2, mVar 6])) (mRet [] (mTup [] [mTup [] [mC (.str "let"), mOp gIx (mVar 2) (mVar 3), mCB gTupC [mVar 4], mVar 9, mVar 10], mVar 6])))))))
def fun_renamed_let (m_renamed_within : List W → FR) : List W → FR := mFun [] 11 (body_renamed_let m_renamed_within)
theorem def_renamed_let (T : Txt w K mg) {m_renamed_within : List W → FR} (D_renamed_within : Def P w K mg base ct k "renamed_within" ["block", "scope", "names", "at"] [] m_renamed_within) : Def P w K mg base ct (k + 1) "renamed_let" ["block", "scope", "names", "at"] [] (fun_renamed_let m_renamed_within) :=
  def_mk (N := ["block", "scope", "names", "at", "parameters", "inner", "after", "name", "kind", "body", "rest"]) (g := body_renamed_let m_renamed_within) T.s_renamed_let sc_renamed_let (by decide) (fun _ _ _ _ _ _ us hl => match us, hl with | [_, _, _, _], _ => rfl) fun f cdv A outer s H E Y hr hct tk =>
    (psm_cons (psm_set (i := 4) sc_renamed_let.nd rfl (Or.inl rfl) (pem_lst (pam_nil))) (psm_cons (psm_set (i := 5) sc_renamed_let.nd rfl (Or.inl rfl) (pem_callTy call_dictD rfl T.b_dict (by rfl) g_dctC (pam_cons (pem_var 1 (pv 1)) (pam_nil)))) (psm_cons (psm_set (i := 6) sc_renamed_let.nd rfl (Or.inl rfl) (pem_op o_add g_add (pem_var 3 (pv 3)) (pem_int))) (psm_cons (psm_for (passes_of rfl) rfl (pim_seq (pem_ix (pem_var 0 (pv 0)) (pem_int))) (pgm_tup (pg_tup rfl (pgms_cons (pgm_name (pg_name (i := 7) sc_renamed_let.nd rfl (Or.inl rfl))) (pgms_cons (pgm_name (pg_name (i := 8) sc_renamed_let.nd rfl (Or.inl rfl))) (pgms_nil)))) rfl) (psm_cons (psm_expr (pem_append (pv 4) (pem_tup (pam_cons (pem_ix (pem_var 2 (pv 2)) (pem_var 6 (pv 6))) (pam_cons (pem_var 8 (pv 8)) (pam_nil)))))) (psm_cons (psm_storeD (ps_asg (pem_ix (pem_var 2 (pv 2)) (pem_var 6 (pv 6))) (pg_sub (pv 5) (pem_var 7 (pv 7)) (set_dict (hu1 hr))))) (psm_one (psm_augI (ps_aug (i := 6) sc_renamed_let.nd rfl (Or.inl rfl) (pem_int) ip_add)))))) (psm_cons (psm_asgT (ps_asg (pem_callD D_renamed_within hct hr tk rfl (pam_cons (pem_ix (pem_var 0 (pv 0)) (pem_int)) (pam_cons (pem_var 5 (pv 5)) (pam_cons (pem_var 2 (pv 2)) (pam_cons (pem_var 6 (pv 6)) (pam_nil))))) rfl) (pgm_tup (pg_tup rfl (pgms_cons (pgm_name (pg_name (i := 9) sc_renamed_let.nd rfl (Or.inl rfl))) (pgms_cons (pgm_name (pg_name (i := 6) sc_renamed_let.nd rfl (Or.inl rfl))) (pgms_nil)))) rfl))) (psm_cons (psm_asgT (ps_asg (pem_callD D_renamed_within hct hr tk rfl (pam_cons (pem_ix (pem_var 0 (pv 0)) (pem_int)) (pam_cons (pem_dspl (pem_var 1 (pv 1)) (pem_ix (pem_var 0 (pv 0)) (pem_int)) (pem_ix (pem_var 2 (pv 2)) (pem_var 3 (pv 3)))) (pam_cons (pem_var 2 (pv 2)) (pam_cons (pem_var 6 (pv 6)) (pam_nil))))) rfl) (pgm_tup (pg_tup rfl (pgms_cons (pgm_name (pg_name (i := 10) sc_renamed_let.nd rfl (Or.inl rfl))) (pgms_cons (pgm_name (pg_name (i := 6) sc_renamed_let.nd rfl (Or.inl rfl))) (pgms_nil)))) rfl))) (psm_one (psm_ret (pem_tup (pam_cons (pem_tup (pam_cons (pem_str) (pam_cons (pem_ix (pem_var 2 (pv 2)) (pem_var 3 (pv 3))) (pam_cons (pem_callTy call_tuple_of rfl T.b_tuple (by rfl) g_tupC (pam_cons (pem_var 4 (pv 4)) (pam_nil))) (pam_cons (pem_var 9 (pv 9)) (pam_cons (pem_var 10 (pv 10)) (pam_nil))))))) (pam_cons (pem_var 6 (pv 6)) (pam_nil))))))))))))
/-! renamed_within -/
theorem sc_renamed_within : FnScope ["block", "scope", "names", "at", "word", "inner", "after", "parts", "part", "new_part", "node"] ["block", "scope", "names", "at"] (defScope s_renamed_within) := ⟨rfl, rfl, rfl, by decide +kernel, rfl, by decide +kernel, by decide +kernel⟩
def body_renamed_within (m_renamed_let : List W → FR) (m_renamed_within : List W → FR) (m_parts_of : List W → FR) (m_with_sub_blocks : List W → FR) : Rho → ML.R Fl := mSeq (mSet [] 4 (mOp gIx (mVar 0) (mC (.int 0)))) (mSeq (mIf (mTest (mOp gEq (mVar 4) (mC (.str "let")))) (mRet [] (mCall [] [] m_renamed_let [mVar 0, mVar 1, mVar 2, mVar 3])) (mNext)) (mSeq (mIf (mTest (mOp gEq (mVar 4) (mC (.str "new")))) (mSeq (mAsgT [] (gTup [gSet [] 5, gSet [] 6]) (mCall [] [] m_renamed_within [mOp gIx (mVar 0) (mC (.int 3)), mDspl [] (mVar 1) (mOp gIx (mVar 0) (mC (.int 1))) (mOp gIx (mVar 2) (mVar 3)), mVar 2, mOp gAdd (mVar 3) (mC (.int 1))])) (mRet [] (mTup [] [mTup [] [mC (.str "new"), mOp gIx (mVar 2) (mVar 3), mOp gIx (mVar 0) (mC (.int 2)), mVar 5], mVar 6]))) (mNext)) (mSeq (mSet [] 7 (mLst [] [])) (mSeq (mSet [] 6 (mVar 3)) (mSeq (mFor (mItems [] (mCall [] [] m_parts_of [mVar 0])) (gSet [] 8) (mSeq (mAsgT [] (gTup [gSet [] 9, gSet [] 6]) (mCall [] [] m_renamed_within [mVar 8, mVar 1, mVar 2, mVar 6])) (mDrop (mAppend 7 [] (mVar 9))))) (mSeq (mSet [] 10 (mCall [] [] m_with_sub_blocks [mVar 0, mCB gTupC [mVar 7]])) (mSeq (mIf (mTest (mOp (gIn false) (mVar 4) (mC w_USES_renaming))) (mSet [] 10 (mOp gAdd (mTup [] [mVar 4, mDget [] (mVar 1) (mOp gIx (mVar 10) (mC (.int 1))) (mOp gIx (mVar 10) (mC (.int 1)))]) (mSl (mVar 10) (some (mC (.int 2))) none))) (mNext)) (mRet [] (mTup [] [mVar 10, mVar 6])))))))))
def fun_renamed_within (m_renamed_let : List W → FR) (m_renamed_within : List W → FR) (m_parts_of : List W → FR) (m_with_sub_blocks : List W → FR) : List W → FR := mFun [] 11 (body_renamed_within m_renamed_let m_renamed_within m_parts_of m_with_sub_blocks)
theorem def_renamed_within (T : Txt w K mg) {m_renamed_let : List W → FR} (D_renamed_let : Def P w K mg base ct k "renamed_let" ["block", "scope", "names", "at"] [] m_renamed_let) {m_renamed_within : List W → FR} (D_renamed_within : Def P w K mg base ct k "renamed_within" ["block", "scope", "names", "at"] [] m_renamed_within) {m_parts_of : List W → FR} (D_parts_of : Def P w K mg base ct k "parts_of" ["node"] [] m_parts_of) {m_with_sub_blocks : List W → FR} (D_with_sub_blocks : Def P w K mg base ct k "with_sub_blocks" ["block", "parts"] [] m_with_sub_blocks) : Def P w K mg base ct (k + 1) "renamed_within" ["block", "scope", "names", "at"] [] (fun_renamed_within m_renamed_let m_renamed_within m_parts_of m_with_sub_blocks) :=
  def_mk (N := ["block", "scope", "names", "at", "word", "inner", "after", "parts", "part", "new_part", "node"]) (g := body_renamed_within m_renamed_let m_renamed_within m_parts_of m_with_sub_blocks) T.s_renamed_within sc_renamed_within (by decide) (fun _ _ _ _ _ _ us hl => match us, hl with | [_, _, _, _], _ => rfl) fun f cdv A outer s H E Y hr hct tk =>
    (psm_cons (psm_set (i := 4) sc_renamed_within.nd rfl (Or.inl rfl) (pem_ix (pem_var 0 (pv 0)) (pem_int))) (psm_cons (psm_if (ptm_cmp (o_eq (hu200 hr)) g_eq (pem_var 4 (pv 4)) (pem_str) (nomark _)) (psm_one (psm_ret (pem_callD D_renamed_let hct hr tk rfl (pam_cons (pem_var 0 (pv 0)) (pam_cons (pem_var 1 (pv 1)) (pam_cons (pem_var 2 (pv 2)) (pam_cons (pem_var 3 (pv 3)) (pam_nil))))) rfl))) (psm_nil)) (psm_cons (psm_if (ptm_cmp (o_eq (hu200 hr)) g_eq (pem_var 4 (pv 4)) (pem_str) (nomark _)) (psm_cons (psm_asgT (ps_asg (pem_callD D_renamed_within hct hr tk rfl (pam_cons (pem_ix (pem_var 0 (pv 0)) (pem_int)) (pam_cons (pem_dspl (pem_var 1 (pv 1)) (pem_ix (pem_var 0 (pv 0)) (pem_int)) (pem_ix (pem_var 2 (pv 2)) (pem_var 3 (pv 3)))) (pam_cons (pem_var 2 (pv 2)) (pam_cons (pem_op o_add g_add (pem_var 3 (pv 3)) (pem_int)) (pam_nil))))) rfl) (pgm_tup (pg_tup rfl (pgms_cons (pgm_name (pg_name (i := 5) sc_renamed_within.nd rfl (Or.inl rfl))) (pgms_cons (pgm_name (pg_name (i := 6) sc_renamed_within.nd rfl (Or.inl rfl))) (pgms_nil)))) rfl))) (psm_one (psm_ret (pem_tup (pam_cons (pem_tup (pam_cons (pem_str) (pam_cons (pem_ix (pem_var 2 (pv 2)) (pem_var 3 (pv 3))) (pam_cons (pem_ix (pem_var 0 (pv 0)) (pem_int)) (pam_cons (pem_var 5 (pv 5)) (pam_nil)))))) (pam_cons (pem_var 6 (pv 6)) (pam_nil))))))) (psm_nil)) (psm_cons (psm_set (i := 7) sc_renamed_within.nd rfl (Or.inl rfl) (pem_lst (pam_nil))) (psm_cons (psm_set (i := 6) sc_renamed_within.nd rfl (Or.inl rfl) (pem_var 3 (pv 3))) (psm_cons (psm_for (passes_of rfl) rfl (pim_seq (pem_callD D_parts_of hct hr tk rfl (pam_cons (pem_var 0 (pv 0)) (pam_nil)) rfl)) (pgm_name (pg_name (i := 8) sc_renamed_within.nd rfl (Or.inl rfl))) (psm_cons (psm_asgT (ps_asg (pem_callD D_renamed_within hct hr tk rfl (pam_cons (pem_var 8 (pv 8)) (pam_cons (pem_var 1 (pv 1)) (pam_cons (pem_var 2 (pv 2)) (pam_cons (pem_var 6 (pv 6)) (pam_nil))))) rfl) (pgm_tup (pg_tup rfl (pgms_cons (pgm_name (pg_name (i := 9) sc_renamed_within.nd rfl (Or.inl rfl))) (pgms_cons (pgm_name (pg_name (i := 6) sc_renamed_within.nd rfl (Or.inl rfl))) (pgms_nil)))) rfl))) (psm_one (psm_expr (pem_append (pv 7) (pem_var 9 (pv 9))))))) (psm_cons (psm_set (i := 10) sc_renamed_within.nd rfl (Or.inl rfl) (pem_callD D_with_sub_blocks hct hr tk rfl (pam_cons (pem_var 0 (pv 0)) (pam_cons (pem_callTy call_tuple_of rfl T.b_tuple (by rfl) g_tupC (pam_cons (pem_var 7 (pv 7)) (pam_nil))) (pam_nil))) rfl)) (psm_cons (psm_if (ptm_cmp o_in g_in (pem_var 4 (pv 4)) (pg_USES_renaming T) rfl) (psm_one (psm_set (i := 10) sc_renamed_within.nd rfl (Or.inl rfl) (pem_op o_add g_add (pem_tup (pam_cons (pem_var 4 (pv 4)) (pam_cons (pem_dget (hu1 hr) (pem_var 1 (pv 1)) (pem_ix (pem_var 10 (pv 10)) (pem_int)) (pem_ix (pem_var 10 (pv 10)) (pem_int))) (pam_nil)))) (pem_slice (pem_var 10 (pv 10)) (pom_some (pem_int)) pom_none)))) (psm_nil)) (psm_one (psm_ret (pem_tup (pam_cons (pem_var 10 (pv 10)) (pam_cons (pem_var 6 (pv 6)) (pam_nil))))))))))))))
/-! renamed -/
theorem sc_renamed : FnScope ["block", "avoid", "whole", "left_out", "names"] ["block", "avoid"] (defScope s_renamed) := ⟨rfl, rfl, rfl, by decide +kernel, rfl, by decide +kernel, by decide +kernel⟩
def body_renamed (m_frozen : List W → FR) (m_free_names : List W → FR) (m_binding_count : List W → FR) (m_new_names : List W → FR) (m_renamed_within : List W → FR) : Rho → ML.R Fl := mSeq (mSet [] 2 (mCall [] [] m_frozen [mVar 0])) (mSeq (mSet [] 3 (mOp gAdd (mCall [] [] m_free_names [mVar 2]) (mCall [] [] m_frozen [mVar 1]))) (mSeq (mSet [] 4 (mCall [] [] m_new_names [mVar 3, mCall [] [] m_binding_count [mVar 2]])) (mRet [] (mOp gIx (mCall [] [] m_renamed_within [mVar 2, mDnew, mVar 4, mC (.int 0)]) (mC (.int 0))))))
def fun_renamed (m_frozen : List W → FR) (m_free_names : List W → FR) (m_binding_count : List W → FR) (m_new_names : List W → FR) (m_renamed_within : List W → FR) : List W → FR := mFun [] 5 (body_renamed m_frozen m_free_names m_binding_count m_new_names m_renamed_within)
theorem def_renamed (T : Txt w K mg) {m_frozen : List W → FR} (D_frozen : Def P w K mg base ct k "frozen" ["value"] [] m_frozen) {m_free_names : List W → FR} (D_free_names : Def P w K mg base ct k "free_names" ["block"] [] m_free_names) {m_binding_count : List W → FR} (D_binding_count : Def P w K mg base ct k "binding_count" ["block"] [] m_binding_count) {m_new_names : List W → FR} (D_new_names : Def P w K mg base ct k "new_names" ["left_out", "many"] [] m_new_names) {m_renamed_within : List W → FR} (D_renamed_within : Def P w K mg base ct k "renamed_within" ["block", "scope", "names", "at"] [] m_renamed_within) : DefK P w K mg base ct (k + 1) "renamed" "block" "avoid" (fun_renamed m_frozen m_free_names m_binding_count m_new_names m_renamed_within) :=
  defK_mk (N := ["block", "avoid", "whole", "left_out", "names"]) (g := body_renamed m_frozen m_free_names m_binding_count m_new_names m_renamed_within) T.s_renamed sc_renamed (by decide) (fun _ _ _ _ _ _ us ks h1 h2 => match us, ks, h1, h2 with | [_], [_], _, _ => ⟨_, _, _, _, _, _, rfl, rfl, rfl⟩) (fun _ _ _ _ _ _ us ws h1 h2 => match us, ws, h1, h2 with | [_], [_], _, _ => rfl) fun f cdv A outer s H E Y hr hct tk =>
    (psm_cons (psm_set (i := 2) sc_renamed.nd rfl (Or.inl rfl) (pem_callD D_frozen hct hr tk rfl (pam_cons (pem_var 0 (pv 0)) (pam_nil)) rfl)) (psm_cons (psm_set (i := 3) sc_renamed.nd rfl (Or.inl rfl) (pem_op o_add g_add (pem_callD D_free_names hct hr tk rfl (pam_cons (pem_var 2 (pv 2)) (pam_nil)) rfl) (pem_callD D_frozen hct hr tk rfl (pam_cons (pem_var 1 (pv 1)) (pam_nil)) rfl))) (psm_cons (psm_set (i := 4) sc_renamed.nd rfl (Or.inl rfl) (pem_callD D_new_names hct hr tk rfl (pam_cons (pem_var 3 (pv 3)) (pam_cons (pem_callD D_binding_count hct hr tk rfl (pam_cons (pem_var 2 (pv 2)) (pam_nil)) rfl) (pam_nil))) rfl)) (psm_one (psm_ret (pem_ix (pem_callD D_renamed_within hct hr tk rfl (pam_cons (pem_var 2 (pv 2)) (pam_cons (pem_dnew) (pam_cons (pem_var 4 (pv 4)) (pam_cons (pem_int) (pam_nil))))) rfl) (pem_int)))))))
/-! _law_whole -/
theorem sc__law_whole : FnScope ["_law_value"] ["_law_value"] (defScope s__law_whole) := ⟨rfl, rfl, rfl, by decide +kernel, rfl, by decide +kernel, by decide +kernel⟩
def body__law_whole : Rho → ML.R Fl := mRet [] (mAndV (mCB gIsi [mVar 0, mC (.ty "int")]) (mNotV (mCB gIsi [mVar 0, mC (.ty "bool")])))
def fun__law_whole : List W → FR := mFun [] 1 (body__law_whole)
theorem def__law_whole (T : Txt w K mg) : Def P w K mg base ct (k + 1) "_law_whole" ["_law_value"] [] (fun__law_whole) :=
  def_mk (N := ["_law_value"]) (g := body__law_whole) T.s__law_whole sc__law_whole (by decide) (fun _ _ _ _ _ _ us hl => match us, hl with | [_], _ => rfl) fun f cdv A outer s H E Y hr hct tk =>
    (psm_one (psm_ret (pem_and (pem_callB (c_isi) rfl T.b_isinstance (by rfl) g_isi (pam_cons (pem_var 0 (pv 0)) (pam_cons (pem_ty rfl T.b_int (by rfl)) (pam_nil)))) (pem_one (pem_not (pem_callB (c_isi) rfl T.b_isinstance (by rfl) g_isi (pam_cons (pem_var 0 (pv 0)) (pam_cons (pem_ty rfl T.b_bool (by rfl)) (pam_nil)))))))))
/-! _law_cell -/
theorem sc__law_cell : FnScope ["_law_script", "_law_k", "_law_seed", "_law_cell_here"] ["_law_script", "_law_k"] (defScope s__law_cell) := ⟨rfl, rfl, rfl, by decide +kernel, rfl, by decide +kernel, by decide +kernel⟩
def body__law_cell : Rho → ML.R Fl := mSeq (mIf (mTest (mOp (gCmp (fun i j => decide (i < j))) (mVar 1) (mCB gLen [mVar 0]))) (mRet [] (mOp gIx (mVar 0) (mVar 1))) (mNext)) (mSeq (mSet [] 2 (mC (.int 17))) (mSeq (mFor (mItems [] (mVar 0)) (gSet [] 3) (mSet [] 2 (mOp gMod (mCB gInt [mOp gAdd (mOp gMul (mVar 2) (mC (.int 31))) (mOp gMod (mCB gInt [mVar 3]) (mC (.int 1000003)))]) (mC (.int 1000003))))) (mRet [] (mOp gMod (mCB gInt [mOp gMul (mOp gMul (mOp gAdd (mVar 2) (mC (.int 7))) (mOp gAdd (mVar 1) (mC (.int 3)))) (mC (.int 69621))]) (mC (.int 2147483647))))))
def fun__law_cell : List W → FR := mFun [] 4 (body__law_cell)
theorem def__law_cell (T : Txt w K mg) : Def P w K mg base ct (k + 1) "_law_cell" ["_law_script", "_law_k"] [] (fun__law_cell) :=
  def_mk (N := ["_law_script", "_law_k", "_law_seed", "_law_cell_here"]) (g := body__law_cell) T.s__law_cell sc__law_cell (by decide) (fun _ _ _ _ _ _ us hl => match us, hl with | [_, _], _ => rfl) fun f cdv A outer s H E Y hr hct tk =>
    (psm_cons (psm_if (ptm_cmp op_lt g_cmp (pem_var 1 (pv 1)) (pem_callB (call_len) rfl T.b_len (by rfl) g_len (pam_cons (pem_var 0 (pv 0)) (pam_nil))) (nomark _)) (psm_one (psm_ret (pem_ix (pem_var 0 (pv 0)) (pem_var 1 (pv 1))))) (psm_nil)) (psm_cons (psm_set (i := 2) sc__law_cell.nd rfl (Or.inl rfl) (pem_int)) (psm_cons (psm_for (passes_of rfl) rfl (pim_seq (pem_var 0 (pv 0))) (pgm_name (pg_name (i := 3) sc__law_cell.nd rfl (Or.inl rfl))) (psm_one (psm_set (i := 2) sc__law_cell.nd rfl (Or.inl rfl) (pem_op op_mod g_mod (pem_callTy c_int rfl T.b_int (by rfl) g_int (pam_cons (pem_op o_add g_add (pem_op o_mul g_mul (pem_var 2 (pv 2)) (pem_int)) (pem_op op_mod g_mod (pem_callTy c_int rfl T.b_int (by rfl) g_int (pam_cons (pem_var 3 (pv 3)) (pam_nil))) (pem_int))) (pam_nil))) (pem_int))))) (psm_one (psm_ret (pem_op op_mod g_mod (pem_callTy c_int rfl T.b_int (by rfl) g_int (pam_cons (pem_op o_mul g_mul (pem_op o_mul g_mul (pem_op o_add g_add (pem_var 2 (pv 2)) (pem_int)) (pem_op o_add g_add (pem_var 1 (pv 1)) (pem_int))) (pem_int)) (pam_nil))) (pem_int)))))))
/-! _law_digits -/
theorem sc__law_digits : FnScope ["_law_cell_here", "_law_sizes", "_law_row", "_law_rest", "_law_great", "_law_seed", "_law_k", "_law_twice"] ["_law_cell_here", "_law_sizes"] (defScope s__law_digits) := ⟨rfl, rfl, rfl, by decide +kernel, rfl, by decide +kernel, by decide +kernel⟩
def body__law_digits : Rho → ML.R Fl := mSeq (mSet [] 2 (mLst [] [])) (mSeq (mSet [] 3 (mCB gInt [mVar 0])) (mSeq (mSet [] 4 (mOp (gCmp (fun i j => decide (j ≤ i))) (mVar 3) (mOp gPow (mC (.int 10)) (mC (.int 18))))) (mSeq (mSet [] 5 (mOp gMod (mCB gInt [mVar 3]) (mC (.int 2147483629)))) (mSeq (mIf (mTest (mVar 4)) (mSet [] 3 (mOp gSub (mVar 3) (mOp gPow (mC (.int 10)) (mC (.int 18))))) (mNext)) (mSeq (mFor (mRange1 [mCB gLen [mVar 1]]) (gSet [] 6) (mSeq (mSet [] 5 (mOp gMod (mCB gInt [mOp gAdd (mOp gAdd (mOp gMul (mVar 5) (mC (.int 48271))) (mOp gMul (mC (.int 974711)) (mVar 6))) (mC (.int 12345))]) (mC (.int 2147483647)))) (mSeq (mSet [] 7 (mOp gMod (mCB gInt [mOp gMul (mVar 5) (mOp gAdd (mOp gFdiv (mVar 5) (mC (.int 65537))) (mC (.int 3)))]) (mC (.int 2147483629)))) (mIf (mAnd (mTest (mVar 4)) (mTest (mOp (gCmp (fun i j => decide (j < i))) (mVar 3) (mC (.int 0))))) (mSeq (mDrop (mAppend 2 [] (mOp gMod (mCB gInt [mVar 3]) (mOp gIx (mVar 1) (mVar 6))))) (mSet [] 3 (mOp gFdiv (mCB gInt [mVar 3]) (mOp gIx (mVar 1) (mVar 6))))) (mDrop (mAppend 2 [] (mOp gMod (mCB gInt [mOp gFdiv (mVar 7) (mC (.int 19))]) (mOp gIx (mVar 1) (mVar 6))))))))) (mRet [] (mVar 2)))))))
def fun__law_digits : List W → FR := mFun [] 8 (body__law_digits)
theorem def__law_digits (T : Txt w K mg) : Def P w K mg base ct (k + 1) "_law_digits" ["_law_cell_here", "_law_sizes"] [] (fun__law_digits) :=
  def_mk (N := ["_law_cell_here", "_law_sizes", "_law_row", "_law_rest", "_law_great", "_law_seed", "_law_k", "_law_twice"]) (g := body__law_digits) T.s__law_digits sc__law_digits (by decide) (fun _ _ _ _ _ _ us hl => match us, hl with | [_, _], _ => rfl) fun f cdv A outer s H E Y hr hct tk =>
    (psm_cons (psm_set (i := 2) sc__law_digits.nd rfl (Or.inl rfl) (pem_lst (pam_nil))) (psm_cons (psm_set (i := 3) sc__law_digits.nd rfl (Or.inl rfl) (pem_callTy c_int rfl T.b_int (by rfl) g_int (pam_cons (pem_var 0 (pv 0)) (pam_nil)))) (psm_cons (psm_set (i := 4) sc__law_digits.nd rfl (Or.inl rfl) (pem_cmp op_ge g_cmp (pem_var 3 (pv 3)) (pem_op op_pow g_pow (pem_int) (pem_int)) (nomark _))) (psm_cons (psm_set (i := 5) sc__law_digits.nd rfl (Or.inl rfl) (pem_op op_mod g_mod (pem_callTy c_int rfl T.b_int (by rfl) g_int (pam_cons (pem_var 3 (pv 3)) (pam_nil))) (pem_int))) (psm_cons (psm_if (ptm_val (pem_var 4 (pv 4))) (psm_one (psm_set (i := 3) sc__law_digits.nd rfl (Or.inl rfl) (pem_op o_sub g_sub (pem_var 3 (pv 3)) (pem_op op_pow g_pow (pem_int) (pem_int))))) (psm_nil)) (psm_cons (psm_for (passes_of rfl) rfl (pim_range1 rfl T.b_range (pam_cons (pem_callB (call_len) rfl T.b_len (by rfl) g_len (pam_cons (pem_var 1 (pv 1)) (pam_nil))) (pam_nil))) (pgm_name (pg_name (i := 6) sc__law_digits.nd rfl (Or.inl rfl))) (psm_cons (psm_set (i := 5) sc__law_digits.nd rfl (Or.inl rfl) (pem_op op_mod g_mod (pem_callTy c_int rfl T.b_int (by rfl) g_int (pam_cons (pem_op o_add g_add (pem_op o_add g_add (pem_op o_mul g_mul (pem_var 5 (pv 5)) (pem_int)) (pem_op o_mul g_mul (pem_int) (pem_var 6 (pv 6)))) (pem_int)) (pam_nil))) (pem_int))) (psm_cons (psm_set (i := 7) sc__law_digits.nd rfl (Or.inl rfl) (pem_op op_mod g_mod (pem_callTy c_int rfl T.b_int (by rfl) g_int (pam_cons (pem_op o_mul g_mul (pem_var 5 (pv 5)) (pem_op o_add g_add (pem_op op_fdiv g_fdiv (pem_var 5 (pv 5)) (pem_int)) (pem_int))) (pam_nil))) (pem_int))) (psm_one (psm_if (PW.pt (pwm_and (ptm_val (pem_var 4 (pv 4))) (pwm_and1 (ptm_cmp op_gt g_cmp (pem_var 3 (pv 3)) (pem_int) (nomark _))))) (psm_cons (psm_expr (pem_append (pv 2) (pem_op op_mod g_mod (pem_callTy c_int rfl T.b_int (by rfl) g_int (pam_cons (pem_var 3 (pv 3)) (pam_nil))) (pem_ix (pem_var 1 (pv 1)) (pem_var 6 (pv 6)))))) (psm_one (psm_set (i := 3) sc__law_digits.nd rfl (Or.inl rfl) (pem_op op_fdiv g_fdiv (pem_callTy c_int rfl T.b_int (by rfl) g_int (pam_cons (pem_var 3 (pv 3)) (pam_nil))) (pem_ix (pem_var 1 (pv 1)) (pem_var 6 (pv 6))))))) (psm_one (psm_expr (pem_append (pv 2) (pem_op op_mod g_mod (pem_callTy c_int rfl T.b_int (by rfl) g_int (pam_cons (pem_op op_fdiv g_fdiv (pem_var 7 (pv 7)) (pem_int)) (pam_nil))) (pem_ix (pem_var 1 (pv 1)) (pem_var 6 (pv 6)))))))))))) (psm_one (psm_ret (pem_var 2 (pv 2))))))))))
/-! _law_reader -/
theorem sc__law_reader : FnScope ["_law_script", "_law_first", "_law_row", "_law_k"] ["_law_script", "_law_first"] (defScope s__law_reader) := ⟨rfl, rfl, rfl, by decide +kernel, rfl, by decide +kernel, by decide +kernel⟩
def body__law_reader (m__law_cell : List W → FR) (m__law_digits : List W → FR) : Rho → ML.R Fl := mSeq (mSet [] 2 (mLst [] [])) (mSeq (mFor (mRange1 [mC (.int 3)]) (gSet [] 3) (mSet [] 2 (mOp gAdd (mVar 2) (mCall [] [] m__law_digits [mCall [] [] m__law_cell [mVar 0, mOp gAdd (mVar 1) (mVar 3)], mOp gMul (mLst [] [mC (.int 5040)]) (mC (.int 70))])))) (mRet [] (mLst [] [mVar 2, mC (.int 0)])))
def fun__law_reader (m__law_cell : List W → FR) (m__law_digits : List W → FR) : List W → FR := mFun [] 4 (body__law_reader m__law_cell m__law_digits)
theorem def__law_reader (T : Txt w K mg) {m__law_cell : List W → FR} (D__law_cell : Def P w K mg base ct k "_law_cell" ["_law_script", "_law_k"] [] m__law_cell) {m__law_digits : List W → FR} (D__law_digits : Def P w K mg base ct k "_law_digits" ["_law_cell_here", "_law_sizes"] [] m__law_digits) : Def P w K mg base ct (k + 1) "_law_reader" ["_law_script", "_law_first"] [] (fun__law_reader m__law_cell m__law_digits) :=
  def_mk (N := ["_law_script", "_law_first", "_law_row", "_law_k"]) (g := body__law_reader m__law_cell m__law_digits) T.s__law_reader sc__law_reader (by decide) (fun _ _ _ _ _ _ us hl => match us, hl with | [_, _], _ => rfl) fun f cdv A outer s H E Y hr hct tk =>
    (psm_cons (psm_set (i := 2) sc__law_reader.nd rfl (Or.inl rfl) (pem_lst (pam_nil))) (psm_cons (psm_for (passes_of rfl) rfl (pim_range1 rfl T.b_range (pam_cons (pem_int) (pam_nil))) (pgm_name (pg_name (i := 3) sc__law_reader.nd rfl (Or.inl rfl))) (psm_one (psm_set (i := 2) sc__law_reader.nd rfl (Or.inl rfl) (pem_op o_add g_add (pem_var 2 (pv 2)) (pem_callD D__law_digits hct hr tk rfl (pam_cons (pem_callD D__law_cell hct hr tk rfl (pam_cons (pem_var 0 (pv 0)) (pam_cons (pem_op o_add g_add (pem_var 1 (pv 1)) (pem_var 3 (pv 3))) (pam_nil))) rfl) (pam_cons (pem_op o_mul g_mul (pem_lst (pam_cons (pem_int) (pam_nil))) (pem_int)) (pam_nil))) rfl))))) (psm_one (psm_ret (pem_lst (pam_cons (pem_var 2 (pv 2)) (pam_cons (pem_int) (pam_nil))))))))
/-! _law_next -/
theorem sc__law_next : FnScope ["_law_reader_here", "_law_many", "_law_digit"] ["_law_reader_here", "_law_many"] (defScope s__law_next) := ⟨rfl, rfl, rfl, by decide +kernel, rfl, by decide +kernel, by decide +kernel⟩
def body__law_next : Rho → ML.R Fl := mSeq (mSet [0] 2 (mOp gAdd (mOp gIx (mOp gIx (mVar 0) (mC (.int 0))) (mOp gMod (mOp gIx (mVar 0) (mC (.int 1))) (mC (.int 210)))) (mOp gMul (mC (.int 13)) (mOp gFdiv (mOp gIx (mVar 0) (mC (.int 1))) (mC (.int 210)))))) (mSeq (mStoreAt 0 [0] (mC (.int 1)) (mOp gAdd (mOp gIx (mVar 0) (mC (.int 1))) (mC (.int 1)))) (mRet [0] (mOp gMod (mCB gInt [mVar 2]) (mVar 1))))
def fun__law_next : List W → FR := mFun [0] 3 (body__law_next)
theorem def__law_next (T : Txt w K mg) : Def P w K mg base ct (k + 1) "_law_next" ["_law_reader_here", "_law_many"] [0] (fun__law_next) :=
  def_mk (N := ["_law_reader_here", "_law_many", "_law_digit"]) (g := body__law_next) T.s__law_next sc__law_next (by decide) (fun _ _ _ _ _ _ us hl => match us, hl with | [_, _], _ => rfl) fun f cdv A outer s H E Y hr hct tk =>
    (psm_cons (psm_set (i := 2) sc__law_next.nd rfl (Or.inl rfl) (pem_op o_add g_add (pem_ix (pem_ix (pem_var 0 (pv 0)) (pem_int)) (pem_op op_mod g_mod (pem_ix (pem_var 0 (pv 0)) (pem_int)) (pem_int))) (pem_op o_mul g_mul (pem_int) (pem_op op_fdiv g_fdiv (pem_ix (pem_var 0 (pv 0)) (pem_int)) (pem_int))))) (psm_cons (psm_storeAt (ps_asg (pem_op o_add g_add (pem_ix (pem_var 0 (pv 0)) (pem_int)) (pem_int)) (pg_sub (pv 0) (pem_int) set_list))) (psm_one (psm_ret (pem_op op_mod g_mod (pem_callTy c_int rfl T.b_int (by rfl) g_int (pam_cons (pem_var 2 (pv 2)) (pam_nil))) (pem_var 1 (pv 1)))))))
/-! _law_reserved -/
theorem sc__law_reserved : FnScope ["_law_row"] [] (defScope s__law_reserved) := ⟨rfl, rfl, rfl, by decide +kernel, rfl, by decide +kernel, by decide +kernel⟩
def body__law_reserved : Rho → ML.R Fl := mSeq (mSet [] 0 (mLst [] [mC (.str "skip"), mC (.str "quit"), mC (.str "if"), mC (.str "then"), mC (.str "else"), mC (.str "fi"), mC (.str "while"), mC (.str "do"), mC (.str "od"), mC (.str "new"), mC (.str "in"), mC (.str "end"), mC (.str "let"), mC (.str "be")])) (mRet [] (mOp gAdd (mVar 0) (mLst [] [mC (.str "command"), mC (.str "number")])))
def fun__law_reserved : List W → FR := mFun [] 1 (body__law_reserved)
theorem def__law_reserved (T : Txt w K mg) : Def P w K mg base ct (k + 1) "_law_reserved" [] [] (fun__law_reserved) :=
  def_mk (N := ["_law_row"]) (g := body__law_reserved) T.s__law_reserved sc__law_reserved (by decide) (fun _ _ _ _ _ _ us hl => match us, hl with | [], _ => rfl) fun f cdv A outer s H E Y hr hct tk =>
    (psm_cons (psm_set (i := 0) sc__law_reserved.nd rfl (Or.inl rfl) (pem_lst (pam_cons (pem_str) (pam_cons (pem_str) (pam_cons (pem_str) (pam_cons (pem_str) (pam_cons (pem_str) (pam_cons (pem_str) (pam_cons (pem_str) (pam_cons (pem_str) (pam_cons (pem_str) (pam_cons (pem_str) (pam_cons (pem_str) (pam_cons (pem_str) (pam_cons (pem_str) (pam_cons (pem_str) (pam_nil))))))))))))))))) (psm_one (psm_ret (pem_op o_add g_add (pem_var 0 (pv 0)) (pem_lst (pam_cons (pem_str) (pam_cons (pem_str) (pam_nil))))))))
/-! _law_name -/
theorem sc__law_name : FnScope ["_law_reader_here", "_law_row", "_law_pick", "_law_name_here", "_law_k"] ["_law_reader_here"] (defScope s__law_name) := ⟨rfl, rfl, rfl, by decide +kernel, rfl, by decide +kernel, by decide +kernel⟩
def body__law_name (m__law_next : List W → FR) (m__law_reserved : List W → FR) : Rho → ML.R Fl := mSeq (mSet [0] 1 (mLst [0] [mC (.str "n0"), mC (.str "n1"), mC (.str "n2"), mC (.str "n3"), mC (.str "n10"), mC (.str "n01"), mC (.str "n"), mC (.str "x"), mC (.str "iff"), mC (.str "do1"), mC (.str "inner"), mC (.str "new2"), mC (.str "lets"), mC (.str "number1")])) (mSeq (mSet [0] 1 (mOp gAdd (mVar 1) (mLst [0] [mC (.str "commands"), mC (.str "p")]))) (mSeq (mSet [0] 2 (mCall [0] [0] m__law_next [mVar 0, mC (.int 24)])) (mSeq (mIf (mTest (mOp (gCmp (fun i j => decide (i < j))) (mVar 2) (mC (.int 16)))) (mRet [0] (mOp gIx (mVar 1) (mVar 2))) (mNext)) (mSeq (mSet [0] 3 (mC (.str ""))) (mSeq (mFor (mRange1 [mOp gAdd (mC (.int 1)) (mCall [0] [0] m__law_next [mVar 0, mC (.int 8)])]) (gSet [0] 4) (mSet [0] 3 (mOp gAdd (mVar 3) (mOp gIx (mC (.str "abcdefghijklmnopqrstuvwxyz0123456789")) (mCall [0] [0] m__law_next [mVar 0, mOp gAdd (mC (.int 26)) (mOp gMul (mC (.int 10)) (mCB gInt [mOp (gCmp (fun i j => decide (j < i))) (mVar 4) (mC (.int 0))]))]))))) (mSeq (mIf (mTest (mOp (gIn false) (mVar 3) (mCall [0] [] m__law_reserved []))) (mSet [0] 3 (mOp gAdd (mSl (mVar 3) none (some (mC (.int 7)))) (mC (.str "0")))) (mNext)) (mRet [0] (mVar 3))))))))
def fun__law_name (m__law_next : List W → FR) (m__law_reserved : List W → FR) : List W → FR := mFun [0] 5 (body__law_name m__law_next m__law_reserved)
theorem def__law_name (T : Txt w K mg) {m__law_next : List W → FR} (D__law_next : Def P w K mg base ct k "_law_next" ["_law_reader_here", "_law_many"] [0] m__law_next) {m__law_reserved : List W → FR} (D__law_reserved : Def P w K mg base ct k "_law_reserved" [] [] m__law_reserved) (hE__law_reserved : ∀ args, match m__law_reserved args with | .exc _ _ _ _ => False | _ => True) : Def P w K mg base ct (k + 1) "_law_name" ["_law_reader_here"] [0] (fun__law_name m__law_next m__law_reserved) :=
  def_mk (N := ["_law_reader_here", "_law_row", "_law_pick", "_law_name_here", "_law_k"]) (g := body__law_name m__law_next m__law_reserved) T.s__law_name sc__law_name (by decide) (fun _ _ _ _ _ _ us hl => match us, hl with | [_], _ => rfl) fun f cdv A outer s H E Y hr hct tk =>
    (psm_cons (psm_set (i := 1) sc__law_name.nd rfl (Or.inl rfl) (pem_lst (pam_cons (pem_str) (pam_cons (pem_str) (pam_cons (pem_str) (pam_cons (pem_str) (pam_cons (pem_str) (pam_cons (pem_str) (pam_cons (pem_str) (pam_cons (pem_str) (pam_cons (pem_str) (pam_cons (pem_str) (pam_cons (pem_str) (pam_cons (pem_str) (pam_cons (pem_str) (pam_cons (pem_str) (pam_nil))))))))))))))))) (psm_cons (psm_set (i := 1) sc__law_name.nd rfl (Or.inl rfl) (pem_op o_add g_add (pem_var 1 (pv 1)) (pem_lst (pam_cons (pem_str) (pam_cons (pem_str) (pam_nil)))))) (psm_cons (psm_set (i := 2) sc__law_name.nd rfl (Or.inl rfl) (pem_callD D__law_next hct hr tk rfl (pam_cons (pem_var 0 (pv 0)) (pam_cons (pem_int) (pam_nil))) rfl)) (psm_cons (psm_if (ptm_cmp op_lt g_cmp (pem_var 2 (pv 2)) (pem_int) (nomark _)) (psm_one (psm_ret (pem_ix (pem_var 1 (pv 1)) (pem_var 2 (pv 2))))) (psm_nil)) (psm_cons (psm_set (i := 3) sc__law_name.nd rfl (Or.inl rfl) (pem_str)) (psm_cons (psm_for (passes_of rfl) rfl (pim_range1 rfl T.b_range (pam_cons (pem_op o_add g_add (pem_int) (pem_callD D__law_next hct hr tk rfl (pam_cons (pem_var 0 (pv 0)) (pam_cons (pem_int) (pam_nil))) rfl)) (pam_nil))) (pgm_name (pg_name (i := 4) sc__law_name.nd rfl (Or.inl rfl))) (psm_one (psm_set (i := 3) sc__law_name.nd rfl (Or.inl rfl) (pem_op o_add g_add (pem_var 3 (pv 3)) (pem_ix (pem_str) (pem_callD D__law_next hct hr tk rfl (pam_cons (pem_var 0 (pv 0)) (pam_cons (pem_op o_add g_add (pem_int) (pem_op o_mul g_mul (pem_int) (pem_callTy c_int rfl T.b_int (by rfl) g_int (pam_cons (pem_cmp op_gt g_cmp (pem_var 4 (pv 4)) (pem_int) (nomark _)) (pam_nil))))) (pam_nil))) rfl)))))) (psm_cons (psm_if (ptm_cmp o_in g_in (pem_var 3 (pv 3)) (pem_callD0 D__law_reserved hE__law_reserved hct hr rfl) rfl) (psm_one (psm_set (i := 3) sc__law_name.nd rfl (Or.inl rfl) (pem_op o_add g_add (pem_slice (pem_var 3 (pv 3)) pom_none (pom_some (pem_int))) (pem_str)))) (psm_nil)) (psm_one (psm_ret (pem_var 3 (pv 3)))))))))))
/-! _law_names -/
theorem sc__law_names : FnScope ["_law_reader_here", "_law_many", "_law_names_here", "_law_k", "_law_name_here"] ["_law_reader_here", "_law_many"] (defScope s__law_names) := ⟨rfl, rfl, rfl, by decide +kernel, rfl, by decide +kernel, by decide +kernel⟩
def body__law_names (m__law_name : List W → FR) : Rho → ML.R Fl := mSeq (mSet [0] 2 (mLst [0] [])) (mSeq (mFor (mRange1 [mVar 1]) (gSet [0] 3) (mSeq (mSet [0] 4 (mCall [0] [0] m__law_name [mVar 0])) (mIf (mTest (mOp (gIn true) (mVar 4) (mVar 2))) (mDrop (mAppend 2 [0] (mVar 4))) (mNext)))) (mRet [0] (mVar 2)))
def fun__law_names (m__law_name : List W → FR) : List W → FR := mFun [0] 5 (body__law_names m__law_name)
theorem def__law_names (T : Txt w K mg) {m__law_name : List W → FR} (D__law_name : Def P w K mg base ct k "_law_name" ["_law_reader_here"] [0] m__law_name) : Def P w K mg base ct (k + 1) "_law_names" ["_law_reader_here", "_law_many"] [0] (fun__law_names m__law_name) :=
  def_mk (N := ["_law_reader_here", "_law_many", "_law_names_here", "_law_k", "_law_name_here"]) (g := body__law_names m__law_name) T.s__law_names sc__law_names (by decide) (fun _ _ _ _ _ _ us hl => match us, hl with | [_, _], _ => rfl) fun f cdv A outer s H E Y hr hct tk =>
    (psm_cons (psm_set (i := 2) sc__law_names.nd rfl (Or.inl rfl) (pem_lst (pam_nil))) (psm_cons (psm_for (passes_of rfl) rfl (pim_range1 rfl T.b_range (pam_cons (pem_var 1 (pv 1)) (pam_nil))) (pgm_name (pg_name (i := 3) sc__law_names.nd rfl (Or.inl rfl))) (psm_cons (psm_set (i := 4) sc__law_names.nd rfl (Or.inl rfl) (pem_callD D__law_name hct hr tk rfl (pam_cons (pem_var 0 (pv 0)) (pam_nil)) rfl)) (psm_one (psm_if (ptm_cmp o_notin g_in (pem_var 4 (pv 4)) (pem_var 2 (pv 2)) rfl) (psm_one (psm_expr (pem_append (pv 2) (pem_var 4 (pv 4))))) (psm_nil))))) (psm_one (psm_ret (pem_var 2 (pv 2))))))
/-! _law_kinds -/
theorem sc__law_kinds : FnScope ["_law_reader_here", "_law_many", "_law_k"] ["_law_reader_here", "_law_many"] (defScope s__law_kinds) := ⟨rfl, rfl, rfl, by decide +kernel, rfl, by decide +kernel, by decide +kernel⟩
def body__law_kinds (m__law_next : List W → FR) : Rho → ML.R Fl := mRet [0] (mCB gTupC [mLc [0] (mRange1 [mVar 1]) (.nm 2) (mYes) (mOp gIx (mLst [0] [mC (.str "command"), mC (.str "number")]) (mCall [0] [0] m__law_next [mVar 0, mC (.int 2)]))])
def fun__law_kinds (m__law_next : List W → FR) : List W → FR := mFun [0] 3 (body__law_kinds m__law_next)
theorem def__law_kinds (T : Txt w K mg) {m__law_next : List W → FR} (D__law_next : Def P w K mg base ct k "_law_next" ["_law_reader_here", "_law_many"] [0] m__law_next) : Def P w K mg base ct (k + 1) "_law_kinds" ["_law_reader_here", "_law_many"] [0] (fun__law_kinds m__law_next) :=
  def_mk (N := ["_law_reader_here", "_law_many", "_law_k"]) (g := body__law_kinds m__law_next) T.s__law_kinds sc__law_kinds (by decide) (fun _ _ _ _ _ _ us hl => match us, hl with | [_, _], _ => rfl) fun f cdv A outer s H E Y hr hct tk =>
    (psm_one (psm_ret (pem_callTy call_tuple_of rfl T.b_tuple (by rfl) g_tupC (pam_cons (pem_lc (own := [("_law_k", 2)]) (t := .nm 2) rfl sc__law_kinds.nd (pim_range1 rfl T.b_range (pam_cons (pem_var 1 (pv 1)) (pam_nil))) (blkOk_by (N := ["_law_reader_here", "_law_many", "_law_k"]) (sc := defScope s__law_kinds) (by decide +kernel)) rfl (fun _ _ _ _ _ => pg_name (i := 2) sc__law_kinds.nd rfl (by first | exact Or.inl rfl | exact Or.inr rfl) (by first | exact .inl rfl | exact .inr rfl)) (fun _ _ _ _ _ => pcs_nil) (fun _ _ _ _ _ Y1 hY1 wY1 => (pem_ix (pem_lst (pam_cons (pem_str) (pam_cons (pem_str) (pam_nil)))) (pem_callD D__law_next (hY1.trans hct) hr (takesF wY1) rfl (pam_cons (pem_var 0 (pv 0)) (pam_cons (pem_int) (pam_nil))) rfl)))) (pam_nil)))))
/-! _law_outside -/
theorem sc__law_outside : FnScope ["_law_reader_here", "_law_names_here", "_law_scope", "_law_name_here", "_law_pick", "_law_cells", "_law_kinds_here", "_law_entry"] ["_law_reader_here", "_law_names_here"] (defScope s__law_outside) := ⟨rfl, rfl, rfl, by decide +kernel, rfl, by decide +kernel, by decide +kernel⟩
def body__law_outside (m__law_next : List W → FR) (m__law_kinds : List W → FR) : Rho → ML.R Fl := mSeq (mSet [0] 2 (mLst [0] [])) (mSeq (mFor (mItems [0] (mVar 1)) (gSet [0] 3) (mSeq (mSet [0] 4 (mCall [0] [0] m__law_next [mVar 0, mC (.int 5)])) (mSeq (mSet [0] 5 (mLcO [0] 2 (.nm 7) (mTest (mOp gEq (mOp gIx (mVar 7) (mC (.int 2))) (mC (.str "cell")))) (mVar 7))) (mSeq (mIf (mAnd (mTest (mOp (gCmp (fun i j => decide (i < j))) (mVar 4) (mC (.int 2)))) (mTest (mOp (gCmp (fun i j => decide (i < j))) (mCB gLen [mVar 5]) (mC (.int 4))))) (mDrop (mAppend 2 [0] (mTup [0] [mVar 3, mTup [0] [], mC (.str "cell")]))) (mNext)) (mIf (mAnd (mTest (mOp (gIn false) (mVar 4) (mTup [0] [mC (.int 2), mC (.int 3)]))) (mTest (mOp (gCmp (fun i j => decide (i < j))) (mOp gSub (mCB gLen [mVar 2]) (mCB gLen [mVar 5])) (mC (.int 6))))) (mSeq (mSet [0] 6 (mCall [0] [0] m__law_kinds [mVar 0, mOp gIx (mLst [0] [mC (.int 0), mC (.int 1), mC (.int 1), mC (.int 2), mC (.int 3)]) (mCall [0] [0] m__law_next [mVar 0, mC (.int 5)])])) (mDrop (mAppend 2 [0] (mTup [0] [mVar 3, mVar 6, mOp gIx (mLst [0] [mC (.str "command"), mC (.str "number")]) (mCall [0] [0] m__law_next [mVar 0, mC (.int 2)])])))) (mNext)))))) (mRet [0] (mVar 2)))
def fun__law_outside (m__law_next : List W → FR) (m__law_kinds : List W → FR) : List W → FR := mFun [0] 8 (body__law_outside m__law_next m__law_kinds)
theorem def__law_outside (T : Txt w K mg) {m__law_next : List W → FR} (D__law_next : Def P w K mg base ct k "_law_next" ["_law_reader_here", "_law_many"] [0] m__law_next) {m__law_kinds : List W → FR} (D__law_kinds : Def P w K mg base ct k "_law_kinds" ["_law_reader_here", "_law_many"] [0] m__law_kinds) : Def P w K mg base ct (k + 1) "_law_outside" ["_law_reader_here", "_law_names_here"] [0] (fun__law_outside m__law_next m__law_kinds) :=
  def_mk (N := ["_law_reader_here", "_law_names_here", "_law_scope", "_law_name_here", "_law_pick", "_law_cells", "_law_kinds_here", "_law_entry"]) (g := body__law_outside m__law_next m__law_kinds) T.s__law_outside sc__law_outside (by decide) (fun _ _ _ _ _ _ us hl => match us, hl with | [_, _], _ => rfl) fun f cdv A outer s H E Y hr hct tk =>
    (psm_cons (psm_set (i := 2) sc__law_outside.nd rfl (Or.inl rfl) (pem_lst (pam_nil))) (psm_cons (psm_for (passes_of rfl) rfl (pim_seq (pem_var 1 (pv 1))) (pgm_name (pg_name (i := 3) sc__law_outside.nd rfl (Or.inl rfl))) (psm_cons (psm_set (i := 4) sc__law_outside.nd rfl (Or.inl rfl) (pem_callD D__law_next hct hr tk rfl (pam_cons (pem_var 0 (pv 0)) (pam_cons (pem_int) (pam_nil))) rfl)) (psm_cons (psm_setLcO (i := 5) (own := [("_law_entry", 7)]) (t := .nm 7) rfl sc__law_outside.nd rfl rfl (sw_true rfl rfl rfl (by decide +kernel)) (pv 2) (blkOk_by (N := ["_law_reader_here", "_law_names_here", "_law_scope", "_law_name_here", "_law_pick", "_law_cells", "_law_kinds_here", "_law_entry"]) (sc := defScope s__law_outside) (by decide +kernel)) rfl (fun _ _ _ _ _ => pg_name (i := 7) sc__law_outside.nd rfl (by first | exact Or.inl rfl | exact Or.inr rfl) (by first | exact .inl rfl | exact .inr rfl)) (fun _ _ _ _ _ => pcs_one fun Y1 hY1 wY1 => (ptm_cmp (o_eq (hu200 hr)) g_eq (pem_ix (pem_var 7 (pv 7)) (pem_int)) (pem_str) (nomark _))) (fun _ _ _ _ _ Y1 hY1 wY1 => (pem_var 7 (pv 7)))) (psm_cons (psm_if (PW.pt (pwm_and (ptm_cmp op_lt g_cmp (pem_var 4 (pv 4)) (pem_int) (nomark _)) (pwm_and1 (ptm_cmp op_lt g_cmp (pem_callB (call_len) rfl T.b_len (by rfl) g_len (pam_cons (pem_var 5 (pv 5)) (pam_nil))) (pem_int) (nomark _))))) (psm_one (psm_expr (pem_append (pv 2) (pem_tup (pam_cons (pem_var 3 (pv 3)) (pam_cons (pem_tup (pam_nil)) (pam_cons (pem_str) (pam_nil)))))))) (psm_nil)) (psm_one (psm_if (PW.pt (pwm_and (ptm_cmp o_in g_in (pem_var 4 (pv 4)) (pem_tup (pam_cons (pem_int) (pam_cons (pem_int) (pam_nil)))) rfl) (pwm_and1 (ptm_cmp op_lt g_cmp (pem_op o_sub g_sub (pem_callB (call_len) rfl T.b_len (by rfl) g_len (pam_cons (pem_var 2 (pv 2)) (pam_nil))) (pem_callB (call_len) rfl T.b_len (by rfl) g_len (pam_cons (pem_var 5 (pv 5)) (pam_nil)))) (pem_int) (nomark _))))) (psm_cons (psm_set (i := 6) sc__law_outside.nd rfl (Or.inl rfl) (pem_callD D__law_kinds hct hr tk rfl (pam_cons (pem_var 0 (pv 0)) (pam_cons (pem_ix (pem_lst (pam_cons (pem_int) (pam_cons (pem_int) (pam_cons (pem_int) (pam_cons (pem_int) (pam_cons (pem_int) (pam_nil))))))) (pem_callD D__law_next hct hr tk rfl (pam_cons (pem_var 0 (pv 0)) (pam_cons (pem_int) (pam_nil))) rfl)) (pam_nil))) rfl)) (psm_one (psm_expr (pem_append (pv 2) (pem_tup (pam_cons (pem_var 3 (pv 3)) (pam_cons (pem_var 6 (pv 6)) (pam_cons (pem_ix (pem_lst (pam_cons (pem_str) (pam_cons (pem_str) (pam_nil)))) (pem_callD D__law_next hct hr tk rfl (pam_cons (pem_var 0 (pv 0)) (pam_cons (pem_int) (pam_nil))) rfl)) (pam_nil))))))))) (psm_nil))))))) (psm_one (psm_ret (pem_var 2 (pv 2))))))
/-! _law_seen -/
theorem sc__law_seen : FnScope ["_law_scope", "_law_rows", "_law_entry", "_law_row"] ["_law_scope"] (defScope s__law_seen) := ⟨rfl, rfl, rfl, by decide +kernel, rfl, by decide +kernel, by decide +kernel⟩
def body__law_seen : Rho → ML.R Fl := mSeq (mSet [] 1 (mLst [] [])) (mSeq (mFor (mItems [] (mVar 0)) (gSet [] 2) (mIf (mTest (mOp (gIn true) (mOp gIx (mVar 2) (mC (.int 0))) (mLcO [] 1 (.nm 3) (mYes) (mOp gIx (mVar 3) (mC (.int 0)))))) (mDrop (mAppend 1 [] (mVar 2))) (mNext))) (mRet [] (mVar 1)))
def fun__law_seen : List W → FR := mFun [] 4 (body__law_seen)
theorem def__law_seen (T : Txt w K mg) : Def P w K mg base ct (k + 1) "_law_seen" ["_law_scope"] [] (fun__law_seen) :=
  def_mk (N := ["_law_scope", "_law_rows", "_law_entry", "_law_row"]) (g := body__law_seen) T.s__law_seen sc__law_seen (by decide) (fun _ _ _ _ _ _ us hl => match us, hl with | [_], _ => rfl) fun f cdv A outer s H E Y hr hct tk =>
    (psm_cons (psm_set (i := 1) sc__law_seen.nd rfl (Or.inl rfl) (pem_lst (pam_nil))) (psm_cons (psm_for (passes_of rfl) rfl (pim_seq (pem_var 0 (pv 0))) (pgm_name (pg_name (i := 2) sc__law_seen.nd rfl (Or.inl rfl))) (psm_one (psm_if (ptm_cmp o_notin g_in (pem_ix (pem_var 2 (pv 2)) (pem_int)) (pem_lcO (own := [("_law_row", 3)]) (t := .nm 3) rfl sc__law_seen.nd (pv 1) (blkOk_by (N := ["_law_scope", "_law_rows", "_law_entry", "_law_row"]) (sc := defScope s__law_seen) (by decide +kernel)) rfl (fun _ _ _ _ _ => pg_name (i := 3) sc__law_seen.nd rfl (by first | exact Or.inl rfl | exact Or.inr rfl) (by first | exact .inl rfl | exact .inr rfl)) (fun _ _ _ _ _ => pcs_nil) (fun _ _ _ _ _ Y1 hY1 wY1 => (pem_ix (pem_var 3 (pv 3)) (pem_int)))) rfl) (psm_one (psm_expr (pem_append (pv 1) (pem_var 2 (pv 2))))) (psm_nil)))) (psm_one (psm_ret (pem_var 1 (pv 1))))))
/-! _law_split -/
theorem sc__law_split : FnScope ["_law_reader_here", "_law_rest", "_law_many", "_law_parts_here", "_law_left", "_law_k", "_law_part"] ["_law_reader_here", "_law_rest", "_law_many"] (defScope s__law_split) := ⟨rfl, rfl, rfl, by decide +kernel, rfl, by decide +kernel, by decide +kernel⟩
def body__law_split (m__law_next : List W → FR) : Rho → ML.R Fl := mSeq (mSet [0] 3 (mLst [0] [])) (mSeq (mSet [0] 4 (mVar 1)) (mSeq (mFor (mRange1 [mOp gSub (mVar 2) (mC (.int 1))]) (gSet [0] 5) (mSeq (mSet [0] 6 (mOp gAdd (mC (.int 1)) (mCall [0] [0] m__law_next [mVar 0, mOp gSub (mVar 4) (mOp gSub (mOp gSub (mVar 2) (mC (.int 1))) (mVar 5))]))) (mSeq (mDrop (mAppend 3 [0] (mVar 6))) (mSet [0] 4 (mOp gSub (mVar 4) (mVar 6)))))) (mSeq (mDrop (mAppend 3 [0] (mVar 4))) (mRet [0] (mVar 3)))))
def fun__law_split (m__law_next : List W → FR) : List W → FR := mFun [0] 7 (body__law_split m__law_next)
theorem def__law_split (T : Txt w K mg) {m__law_next : List W → FR} (D__law_next : Def P w K mg base ct k "_law_next" ["_law_reader_here", "_law_many"] [0] m__law_next) : Def P w K mg base ct (k + 1) "_law_split" ["_law_reader_here", "_law_rest", "_law_many"] [0] (fun__law_split m__law_next) :=
  def_mk (N := ["_law_reader_here", "_law_rest", "_law_many", "_law_parts_here", "_law_left", "_law_k", "_law_part"]) (g := body__law_split m__law_next) T.s__law_split sc__law_split (by decide) (fun _ _ _ _ _ _ us hl => match us, hl with | [_, _, _], _ => rfl) fun f cdv A outer s H E Y hr hct tk =>
    (psm_cons (psm_set (i := 3) sc__law_split.nd rfl (Or.inl rfl) (pem_lst (pam_nil))) (psm_cons (psm_set (i := 4) sc__law_split.nd rfl (Or.inl rfl) (pem_var 1 (pv 1))) (psm_cons (psm_for (passes_of rfl) rfl (pim_range1 rfl T.b_range (pam_cons (pem_op o_sub g_sub (pem_var 2 (pv 2)) (pem_int)) (pam_nil))) (pgm_name (pg_name (i := 5) sc__law_split.nd rfl (Or.inl rfl))) (psm_cons (psm_set (i := 6) sc__law_split.nd rfl (Or.inl rfl) (pem_op o_add g_add (pem_int) (pem_callD D__law_next hct hr tk rfl (pam_cons (pem_var 0 (pv 0)) (pam_cons (pem_op o_sub g_sub (pem_var 4 (pv 4)) (pem_op o_sub g_sub (pem_op o_sub g_sub (pem_var 2 (pv 2)) (pem_int)) (pem_var 5 (pv 5)))) (pam_nil))) rfl))) (psm_cons (psm_expr (pem_append (pv 3) (pem_var 6 (pv 6)))) (psm_one (psm_set (i := 4) sc__law_split.nd rfl (Or.inl rfl) (pem_op o_sub g_sub (pem_var 4 (pv 4)) (pem_var 6 (pv 6)))))))) (psm_cons (psm_expr (pem_append (pv 3) (pem_var 4 (pv 4)))) (psm_one (psm_ret (pem_var 3 (pv 3))))))))
/-! _law_leaf -/
theorem sc__law_leaf : FnScope ["_law_reader_here", "_law_kind", "_law_scope", "_law_world", "_law_pick", "_law_seen_here", "_law_cells", "_law_calls", "_law_entry"] ["_law_reader_here", "_law_kind", "_law_scope", "_law_world"] (defScope s__law_leaf) := ⟨rfl, rfl, rfl, by decide +kernel, rfl, by decide +kernel, by decide +kernel⟩
def body__law_leaf (m__law_next : List W → FR) (m__law_seen : List W → FR) : Rho → ML.R Fl := mSeq (mSet [0] 4 (mCall [0] [0] m__law_next [mVar 0, mC (.int 8)])) (mSeq (mSet [0] 5 (mCall [0] [] m__law_seen [mVar 2])) (mSeq (mSet [0] 6 (mLc [0] (mItems [0] (mVar 5)) (.nm 8) (mTest (mOp gEq (mOp gIx (mVar 8) (mC (.int 2))) (mC (.str "cell")))) (mOp gIx (mVar 8) (mC (.int 0))))) (mSeq (mSet [0] 7 (mLc [0] (mItems [0] (mVar 5)) (.nm 8) (mAnd (mTest (mOp gEq (mOp gIx (mVar 8) (mC (.int 2))) (mVar 1))) (mTest (mOp gEq (mCB gLen [mOp gIx (mVar 8) (mC (.int 1))]) (mC (.int 0))))) (mOp gIx (mVar 8) (mC (.int 0))))) (mSeq (mIf (mAnd (mTest (mOp (gCmp (fun i j => decide (i < j))) (mVar 4) (mC (.int 5)))) (mTest (mOp (gCmp (fun i j => decide (j < i))) (mCB gLen [mVar 7]) (mC (.int 0))))) (mRet [0] (mTup [0] [mC (.str "call"), mOp gIx (mVar 7) (mCB gMin [mCall [0] [0] m__law_next [mVar 0, mCB gLen [mVar 7]], mCall [0] [0] m__law_next [mVar 0, mCB gLen [mVar 7]]]), mTup [0] []])) (mNext)) (mSeq (mIf (mAnd (mTest (mOp gEq (mVar 4) (mC (.int 5)))) (mTest (mOp gEq (mOp gIx (mVar 3) (mC (.int 2))) (mVar 1)))) (mRet [0] (mTup [0] [mC (.str "hole")])) (mNext)) (mSeq (mIf (mTest (mOp gEq (mVar 1) (mC (.str "command")))) (mRet [0] (mOp gIx (mLst [0] [mTup [0] [mC (.str "skip")], mTup [0] [mC (.str "quit")]]) (mCB gInt [mOp gEq (mVar 4) (mC (.int 7))]))) (mNext)) (mSeq (mIf (mAnd (mTest (mOp (gCmp (fun i j => decide (j < i))) (mCB gLen [mVar 6]) (mC (.int 0)))) (mTest (mOp (gCmp (fun i j => decide (i < j))) (mVar 4) (mC (.int 7))))) (mRet [0] (mTup [0] [mC (.str "get"), mOp gIx (mVar 6) (mCB gMin [mCall [0] [0] m__law_next [mVar 0, mCB gLen [mVar 6]], mCall [0] [0] m__law_next [mVar 0, mCB gLen [mVar 6]]])])) (mNext)) (mRet [0] (mTup [0] [mC (.str "number"), mCall [0] [0] m__law_next [mVar 0, mOp gIx (mVar 3) (mC (.int 1))]])))))))))
def fun__law_leaf (m__law_next : List W → FR) (m__law_seen : List W → FR) : List W → FR := mFun [0] 9 (body__law_leaf m__law_next m__law_seen)
theorem def__law_leaf (T : Txt w K mg) {m__law_next : List W → FR} (D__law_next : Def P w K mg base ct k "_law_next" ["_law_reader_here", "_law_many"] [0] m__law_next) {m__law_seen : List W → FR} (D__law_seen : Def P w K mg base ct k "_law_seen" ["_law_scope"] [] m__law_seen) : Def P w K mg base ct (k + 1) "_law_leaf" ["_law_reader_here", "_law_kind", "_law_scope", "_law_world"] [0] (fun__law_leaf m__law_next m__law_seen) :=
  def_mk (N := ["_law_reader_here", "_law_kind", "_law_scope", "_law_world", "_law_pick", "_law_seen_here", "_law_cells", "_law_calls", "_law_entry"]) (g := body__law_leaf m__law_next m__law_seen) T.s__law_leaf sc__law_leaf (by decide) (fun _ _ _ _ _ _ us hl => match us, hl with | [_, _, _, _], _ => rfl) fun f cdv A outer s H E Y hr hct tk =>
    (psm_cons (psm_set (i := 4) sc__law_leaf.nd rfl (Or.inl rfl) (pem_callD D__law_next hct hr tk rfl (pam_cons (pem_var 0 (pv 0)) (pam_cons (pem_int) (pam_nil))) rfl)) (psm_cons (psm_set (i := 5) sc__law_leaf.nd rfl (Or.inl rfl) (pem_callD D__law_seen hct hr tk rfl (pam_cons (pem_var 2 (pv 2)) (pam_nil)) rfl)) (psm_cons (psm_setLc (i := 6) (own := [("_law_entry", 8)]) (t := .nm 8) rfl sc__law_leaf.nd rfl rfl (sw_true rfl rfl rfl (by decide +kernel)) (pim_seq (pem_var 5 (pv 5))) (blkOk_by (N := ["_law_reader_here", "_law_kind", "_law_scope", "_law_world", "_law_pick", "_law_seen_here", "_law_cells", "_law_calls", "_law_entry"]) (sc := defScope s__law_leaf) (by decide +kernel)) rfl (fun _ _ _ _ _ => pg_name (i := 8) sc__law_leaf.nd rfl (by first | exact Or.inl rfl | exact Or.inr rfl) (by first | exact .inl rfl | exact .inr rfl)) (fun _ _ _ _ _ => pcs_one fun Y1 hY1 wY1 => (ptm_cmp (o_eq (hu200 hr)) g_eq (pem_ix (pem_var 8 (pv 8)) (pem_int)) (pem_str) (nomark _))) (fun _ _ _ _ _ Y1 hY1 wY1 => (pem_ix (pem_var 8 (pv 8)) (pem_int)))) (psm_cons (psm_setLc (i := 7) (own := [("_law_entry", 8)]) (t := .nm 8) rfl sc__law_leaf.nd rfl rfl (sw_true rfl rfl rfl (by decide +kernel)) (pim_seq (pem_var 5 (pv 5))) (blkOk_by (N := ["_law_reader_here", "_law_kind", "_law_scope", "_law_world", "_law_pick", "_law_seen_here", "_law_cells", "_law_calls", "_law_entry"]) (sc := defScope s__law_leaf) (by decide +kernel)) rfl (fun _ _ _ _ _ => pg_name (i := 8) sc__law_leaf.nd rfl (by first | exact Or.inl rfl | exact Or.inr rfl) (by first | exact .inl rfl | exact .inr rfl)) (fun _ _ _ _ _ => pcs_one fun Y1 hY1 wY1 => (PW.pt (pwm_and (ptm_cmp (o_eq (hu200 hr)) g_eq (pem_ix (pem_var 8 (pv 8)) (pem_int)) (pem_var 1 (pv 1)) (nomark _)) (pwm_and1 (ptm_cmp (o_eq (hu200 hr)) g_eq (pem_callB (call_len) rfl T.b_len (by rfl) g_len (pam_cons (pem_ix (pem_var 8 (pv 8)) (pem_int)) (pam_nil))) (pem_int) (nomark _)))))) (fun _ _ _ _ _ Y1 hY1 wY1 => (pem_ix (pem_var 8 (pv 8)) (pem_int)))) (psm_cons (psm_if (PW.pt (pwm_and (ptm_cmp op_lt g_cmp (pem_var 4 (pv 4)) (pem_int) (nomark _)) (pwm_and1 (ptm_cmp op_gt g_cmp (pem_callB (call_len) rfl T.b_len (by rfl) g_len (pam_cons (pem_var 7 (pv 7)) (pam_nil))) (pem_int) (nomark _))))) (psm_one (psm_ret (pem_tup (pam_cons (pem_str) (pam_cons (pem_ix (pem_var 7 (pv 7)) (pem_callB (call_min2 rfl) rfl T.b_min (by rfl) g_min (pam_cons (pem_callD D__law_next hct hr tk rfl (pam_cons (pem_var 0 (pv 0)) (pam_cons (pem_callB (call_len) rfl T.b_len (by rfl) g_len (pam_cons (pem_var 7 (pv 7)) (pam_nil))) (pam_nil))) rfl) (pam_cons (pem_callD D__law_next hct hr tk rfl (pam_cons (pem_var 0 (pv 0)) (pam_cons (pem_callB (call_len) rfl T.b_len (by rfl) g_len (pam_cons (pem_var 7 (pv 7)) (pam_nil))) (pam_nil))) rfl) (pam_nil))))) (pam_cons (pem_tup (pam_nil)) (pam_nil))))))) (psm_nil)) (psm_cons (psm_if (PW.pt (pwm_and (ptm_cmp (o_eq (hu200 hr)) g_eq (pem_var 4 (pv 4)) (pem_int) (nomark _)) (pwm_and1 (ptm_cmp (o_eq (hu200 hr)) g_eq (pem_ix (pem_var 3 (pv 3)) (pem_int)) (pem_var 1 (pv 1)) (nomark _))))) (psm_one (psm_ret (pem_tup (pam_cons (pem_str) (pam_nil))))) (psm_nil)) (psm_cons (psm_if (ptm_cmp (o_eq (hu200 hr)) g_eq (pem_var 1 (pv 1)) (pem_str) (nomark _)) (psm_one (psm_ret (pem_ix (pem_lst (pam_cons (pem_tup (pam_cons (pem_str) (pam_nil))) (pam_cons (pem_tup (pam_cons (pem_str) (pam_nil))) (pam_nil)))) (pem_callTy c_int rfl T.b_int (by rfl) g_int (pam_cons (pem_cmp (o_eq (hu200 hr)) g_eq (pem_var 4 (pv 4)) (pem_int) (nomark _)) (pam_nil)))))) (psm_nil)) (psm_cons (psm_if (PW.pt (pwm_and (ptm_cmp op_gt g_cmp (pem_callB (call_len) rfl T.b_len (by rfl) g_len (pam_cons (pem_var 6 (pv 6)) (pam_nil))) (pem_int) (nomark _)) (pwm_and1 (ptm_cmp op_lt g_cmp (pem_var 4 (pv 4)) (pem_int) (nomark _))))) (psm_one (psm_ret (pem_tup (pam_cons (pem_str) (pam_cons (pem_ix (pem_var 6 (pv 6)) (pem_callB (call_min2 rfl) rfl T.b_min (by rfl) g_min (pam_cons (pem_callD D__law_next hct hr tk rfl (pam_cons (pem_var 0 (pv 0)) (pam_cons (pem_callB (call_len) rfl T.b_len (by rfl) g_len (pam_cons (pem_var 6 (pv 6)) (pam_nil))) (pam_nil))) rfl) (pam_cons (pem_callD D__law_next hct hr tk rfl (pam_cons (pem_var 0 (pv 0)) (pam_cons (pem_callB (call_len) rfl T.b_len (by rfl) g_len (pam_cons (pem_var 6 (pv 6)) (pam_nil))) (pam_nil))) rfl) (pam_nil))))) (pam_nil)))))) (psm_nil)) (psm_one (psm_ret (pem_tup (pam_cons (pem_str) (pam_cons (pem_callD D__law_next hct hr tk rfl (pam_cons (pem_var 0 (pv 0)) (pam_cons (pem_ix (pem_var 3 (pv 3)) (pem_int)) (pam_nil))) rfl) (pam_nil))))))))))))))
/-! _law_draw_call -/
theorem sc__law_draw_call : FnScope ["_law_reader_here", "_law_budget", "_law_depth", "_law_scope", "_law_world", "_law_entry", "_law_sizes", "_law_parts_here", "_law_k"] ["_law_reader_here", "_law_budget", "_law_depth", "_law_scope", "_law_world", "_law_entry"] (defScope s__law_draw_call) := ⟨rfl, rfl, rfl, by decide +kernel, rfl, by decide +kernel, by decide +kernel⟩
def body__law_draw_call (m__law_split : List W → FR) (m__law_draw : List W → FR) : Rho → ML.R Fl := mSeq (mSet [0] 6 (mCall [0] [0] m__law_split [mVar 0, mOp gSub (mVar 1) (mC (.int 1)), mCB gLen [mOp gIx (mVar 5) (mC (.int 1))]])) (mSeq (mSet [0] 7 (mLc [0] (mRange1 [mCB gLen [mVar 6]]) (.nm 8) (mYes) (mCall [0] [0] m__law_draw [mVar 0, mOp gIx (mOp gIx (mVar 5) (mC (.int 1))) (mVar 8), mOp gIx (mVar 6) (mVar 8), mOp gSub (mVar 2) (mC (.int 1)), mVar 3, mVar 4]))) (mRet [0] (mTup [0] [mC (.str "call"), mOp gIx (mVar 5) (mC (.int 0)), mCB gTupC [mVar 7]])))
def fun__law_draw_call (m__law_split : List W → FR) (m__law_draw : List W → FR) : List W → FR := mFun [0] 9 (body__law_draw_call m__law_split m__law_draw)
theorem def__law_draw_call (T : Txt w K mg) {m__law_split : List W → FR} (D__law_split : Def P w K mg base ct k "_law_split" ["_law_reader_here", "_law_rest", "_law_many"] [0] m__law_split) {m__law_draw : List W → FR} (D__law_draw : Def P w K mg base ct k "_law_draw" ["_law_reader_here", "_law_kind", "_law_budget", "_law_depth", "_law_scope", "_law_world"] [0] m__law_draw) : Def P w K mg base ct (k + 1) "_law_draw_call" ["_law_reader_here", "_law_budget", "_law_depth", "_law_scope", "_law_world", "_law_entry"] [0] (fun__law_draw_call m__law_split m__law_draw) :=
  def_mk (N := ["_law_reader_here", "_law_budget", "_law_depth", "_law_scope", "_law_world", "_law_entry", "_law_sizes", "_law_parts_here", "_law_k"]) (g := body__law_draw_call m__law_split m__law_draw) T.s__law_draw_call sc__law_draw_call (by decide) (fun _ _ _ _ _ _ us hl => match us, hl with | [_, _, _, _, _, _], _ => rfl) fun f cdv A outer s H E Y hr hct tk =>
    (psm_cons (psm_set (i := 6) sc__law_draw_call.nd rfl (Or.inr rfl) (pem_callD D__law_split hct hr tk rfl (pam_cons (pem_var 0 (pv 0)) (pam_cons (pem_op o_sub g_sub (pem_var 1 (pv 1)) (pem_int)) (pam_cons (pem_callB (call_len) rfl T.b_len (by rfl) g_len (pam_cons (pem_ix (pem_var 5 (pv 5)) (pem_int)) (pam_nil))) (pam_nil)))) rfl)) (psm_cons (psm_setLc (i := 7) (own := [("_law_k", 8)]) (t := .nm 8) rfl sc__law_draw_call.nd rfl rfl (sw_true rfl rfl rfl (by decide +kernel)) (pim_range1 rfl T.b_range (pam_cons (pem_callB (call_len) rfl T.b_len (by rfl) g_len (pam_cons (pem_var 6 (pv 6)) (pam_nil))) (pam_nil))) (blkOk_by (N := ["_law_reader_here", "_law_budget", "_law_depth", "_law_scope", "_law_world", "_law_entry", "_law_sizes", "_law_parts_here", "_law_k"]) (sc := defScope s__law_draw_call) (by decide +kernel)) rfl (fun _ _ _ _ _ => pg_name (i := 8) sc__law_draw_call.nd rfl (by first | exact Or.inl rfl | exact Or.inr rfl) (by first | exact .inl rfl | exact .inr rfl)) (fun _ _ _ _ _ => pcs_nil) (fun _ _ _ _ _ Y1 hY1 wY1 => (pem_callD D__law_draw (hY1.trans hct) hr (takesF wY1) rfl (pam_cons (pem_var 0 (pv 0)) (pam_cons (pem_ix (pem_ix (pem_var 5 (pv 5)) (pem_int)) (pem_var 8 (pv 8))) (pam_cons (pem_ix (pem_var 6 (pv 6)) (pem_var 8 (pv 8))) (pam_cons (pem_op o_sub g_sub (pem_var 2 (pv 2)) (pem_int)) (pam_cons (pem_var 3 (pv 3)) (pam_cons (pem_var 4 (pv 4)) (pam_nil))))))) rfl))) (psm_one (psm_ret (pem_tup (pam_cons (pem_str) (pam_cons (pem_ix (pem_var 5 (pv 5)) (pem_int)) (pam_cons (pem_callTy call_tuple_of rfl T.b_tuple (by rfl) g_tupC (pam_cons (pem_var 7 (pv 7)) (pam_nil))) (pam_nil)))))))))
/-! _law_draw_let -/
theorem sc__law_draw_let : FnScope ["_law_reader_here", "_law_kind", "_law_budget", "_law_depth", "_law_scope", "_law_world", "_law_names_here", "_law_name_here", "_law_parameters", "_law_k", "_law_other", "_law_result", "_law_sizes", "_law_inner", "_law_body", "_law_outer", "_law_rest", "_law_pair"] ["_law_reader_here", "_law_kind", "_law_budget", "_law_depth", "_law_scope", "_law_world"] (defScope s__law_draw_let) := ⟨rfl, rfl, rfl, by decide +kernel, rfl, by decide +kernel, by decide +kernel⟩
def body__law_draw_let (m__law_next : List W → FR) (m__law_split : List W → FR) (m__law_draw : List W → FR) : Rho → ML.R Fl := mSeq (mSet [0] 6 (mOp gIx (mVar 5) (mC (.int 0)))) (mSeq (mSet [0] 7 (mOp gIx (mVar 6) (mCall [0] [0] m__law_next [mVar 0, mCB gLen [mVar 6]]))) (mSeq (mSet [0] 8 (mLst [0] [])) (mSeq (mFor (mRange1 [mOp gIx (mLst [0] [mC (.int 0), mC (.int 1), mC (.int 1), mC (.int 2), mC (.int 3)]) (mCall [0] [0] m__law_next [mVar 0, mC (.int 5)])]) (gSet [0] 9) (mSeq (mSet [0] 10 (mOp gIx (mVar 6) (mCall [0] [0] m__law_next [mVar 0, mCB gLen [mVar 6]]))) (mIf (mTest (mOp (gIn true) (mVar 10) (mLcO [0] 8 (.nm 17) (mYes) (mOp gIx (mVar 17) (mC (.int 0)))))) (mDrop (mAppend 8 [0] (mTup [0] [mVar 10, mOp gIx (mLst [0] [mC (.str "command"), mC (.str "number")]) (mCall [0] [0] m__law_next [mVar 0, mC (.int 2)])]))) (mNext)))) (mSeq (mSet [0] 11 (mOp gIx (mLst [0] [mC (.str "command"), mC (.str "number")]) (mCall [0] [0] m__law_next [mVar 0, mC (.int 2)]))) (mSeq (mSet [0] 12 (mCall [0] [0] m__law_split [mVar 0, mOp gSub (mVar 2) (mC (.int 1)), mC (.int 2)])) (mSeq (mSet [0] 13 (mOp gAdd (mLcO [0] 8 (.nm 17) (mYes) (mTup [0] [mOp gIx (mVar 17) (mC (.int 0)), mTup [0] [], mOp gIx (mVar 17) (mC (.int 1))])) (mVar 4))) (mSeq (mSet [0] 14 (mCall [0] [0] m__law_draw [mVar 0, mVar 11, mOp gIx (mVar 12) (mC (.int 0)), mOp gSub (mVar 3) (mC (.int 1)), mVar 13, mVar 5])) (mSeq (mSet [0] 15 (mOp gAdd (mLst [0] [mTup [0] [mVar 7, mCB gTupC [mLcO [0] 8 (.nm 17) (mYes) (mOp gIx (mVar 17) (mC (.int 1)))], mVar 11]]) (mVar 4))) (mSeq (mSet [0] 16 (mCall [0] [0] m__law_draw [mVar 0, mVar 1, mOp gIx (mVar 12) (mC (.int 1)), mOp gSub (mVar 3) (mC (.int 1)), mVar 15, mVar 5])) (mRet [0] (mTup [0] [mC (.str "let"), mVar 7, mCB gTupC [mVar 8], mVar 14, mVar 16])))))))))))
def fun__law_draw_let (m__law_next : List W → FR) (m__law_split : List W → FR) (m__law_draw : List W → FR) : List W → FR := mFun [0] 18 (body__law_draw_let m__law_next m__law_split m__law_draw)
theorem def__law_draw_let (T : Txt w K mg) {m__law_next : List W → FR} (D__law_next : Def P w K mg base ct k "_law_next" ["_law_reader_here", "_law_many"] [0] m__law_next) {m__law_split : List W → FR} (D__law_split : Def P w K mg base ct k "_law_split" ["_law_reader_here", "_law_rest", "_law_many"] [0] m__law_split) {m__law_draw : List W → FR} (D__law_draw : Def P w K mg base ct k "_law_draw" ["_law_reader_here", "_law_kind", "_law_budget", "_law_depth", "_law_scope", "_law_world"] [0] m__law_draw) : Def P w K mg base ct (k + 1) "_law_draw_let" ["_law_reader_here", "_law_kind", "_law_budget", "_law_depth", "_law_scope", "_law_world"] [0] (fun__law_draw_let m__law_next m__law_split m__law_draw) :=
  def_mk (N := ["_law_reader_here", "_law_kind", "_law_budget", "_law_depth", "_law_scope", "_law_world", "_law_names_here", "_law_name_here", "_law_parameters", "_law_k", "_law_other", "_law_result", "_law_sizes", "_law_inner", "_law_body", "_law_outer", "_law_rest", "_law_pair"]) (g := body__law_draw_let m__law_next m__law_split m__law_draw) T.s__law_draw_let sc__law_draw_let (by decide) (fun _ _ _ _ _ _ us hl => match us, hl with | [_, _, _, _, _, _], _ => rfl) fun f cdv A outer s H E Y hr hct tk =>
    (psm_cons (psm_set (i := 6) sc__law_draw_let.nd rfl (Or.inl rfl) (pem_ix (pem_var 5 (pv 5)) (pem_int))) (psm_cons (psm_set (i := 7) sc__law_draw_let.nd rfl (Or.inl rfl) (pem_ix (pem_var 6 (pv 6)) (pem_callD D__law_next hct hr tk rfl (pam_cons (pem_var 0 (pv 0)) (pam_cons (pem_callB (call_len) rfl T.b_len (by rfl) g_len (pam_cons (pem_var 6 (pv 6)) (pam_nil))) (pam_nil))) rfl))) (psm_cons (psm_set (i := 8) sc__law_draw_let.nd rfl (Or.inl rfl) (pem_lst (pam_nil))) (psm_cons (psm_for (passes_of rfl) rfl (pim_range1 rfl T.b_range (pam_cons (pem_ix (pem_lst (pam_cons (pem_int) (pam_cons (pem_int) (pam_cons (pem_int) (pam_cons (pem_int) (pam_cons (pem_int) (pam_nil))))))) (pem_callD D__law_next hct hr tk rfl (pam_cons (pem_var 0 (pv 0)) (pam_cons (pem_int) (pam_nil))) rfl)) (pam_nil))) (pgm_name (pg_name (i := 9) sc__law_draw_let.nd rfl (Or.inl rfl))) (psm_cons (psm_set (i := 10) sc__law_draw_let.nd rfl (Or.inl rfl) (pem_ix (pem_var 6 (pv 6)) (pem_callD D__law_next hct hr tk rfl (pam_cons (pem_var 0 (pv 0)) (pam_cons (pem_callB (call_len) rfl T.b_len (by rfl) g_len (pam_cons (pem_var 6 (pv 6)) (pam_nil))) (pam_nil))) rfl))) (psm_one (psm_if (ptm_cmp o_notin g_in (pem_var 10 (pv 10)) (pem_lcO (own := [("_law_pair", 17)]) (t := .nm 17) rfl sc__law_draw_let.nd (pv 8) (blkOk_by (N := ["_law_reader_here", "_law_kind", "_law_budget", "_law_depth", "_law_scope", "_law_world", "_law_names_here", "_law_name_here", "_law_parameters", "_law_k", "_law_other", "_law_result", "_law_sizes", "_law_inner", "_law_body", "_law_outer", "_law_rest", "_law_pair"]) (sc := defScope s__law_draw_let) (by decide +kernel)) rfl (fun _ _ _ _ _ => pg_name (i := 17) sc__law_draw_let.nd rfl (by first | exact Or.inl rfl | exact Or.inr rfl) (by first | exact .inl rfl | exact .inr rfl)) (fun _ _ _ _ _ => pcs_nil) (fun _ _ _ _ _ Y1 hY1 wY1 => (pem_ix (pem_var 17 (pv 17)) (pem_int)))) rfl) (psm_one (psm_expr (pem_append (pv 8) (pem_tup (pam_cons (pem_var 10 (pv 10)) (pam_cons (pem_ix (pem_lst (pam_cons (pem_str) (pam_cons (pem_str) (pam_nil)))) (pem_callD D__law_next hct hr tk rfl (pam_cons (pem_var 0 (pv 0)) (pam_cons (pem_int) (pam_nil))) rfl)) (pam_nil))))))) (psm_nil))))) (psm_cons (psm_set (i := 11) sc__law_draw_let.nd rfl (Or.inl rfl) (pem_ix (pem_lst (pam_cons (pem_str) (pam_cons (pem_str) (pam_nil)))) (pem_callD D__law_next hct hr tk rfl (pam_cons (pem_var 0 (pv 0)) (pam_cons (pem_int) (pam_nil))) rfl))) (psm_cons (psm_set (i := 12) sc__law_draw_let.nd rfl (Or.inl rfl) (pem_callD D__law_split hct hr tk rfl (pam_cons (pem_var 0 (pv 0)) (pam_cons (pem_op o_sub g_sub (pem_var 2 (pv 2)) (pem_int)) (pam_cons (pem_int) (pam_nil)))) rfl)) (psm_cons (psm_set (i := 13) sc__law_draw_let.nd rfl (Or.inl rfl) (pem_op o_add g_add (pem_lcO (own := [("_law_pair", 17)]) (t := .nm 17) rfl sc__law_draw_let.nd (pv 8) (blkOk_by (N := ["_law_reader_here", "_law_kind", "_law_budget", "_law_depth", "_law_scope", "_law_world", "_law_names_here", "_law_name_here", "_law_parameters", "_law_k", "_law_other", "_law_result", "_law_sizes", "_law_inner", "_law_body", "_law_outer", "_law_rest", "_law_pair"]) (sc := defScope s__law_draw_let) (by decide +kernel)) rfl (fun _ _ _ _ _ => pg_name (i := 17) sc__law_draw_let.nd rfl (by first | exact Or.inl rfl | exact Or.inr rfl) (by first | exact .inl rfl | exact .inr rfl)) (fun _ _ _ _ _ => pcs_nil) (fun _ _ _ _ _ Y1 hY1 wY1 => (pem_tup (pam_cons (pem_ix (pem_var 17 (pv 17)) (pem_int)) (pam_cons (pem_tup (pam_nil)) (pam_cons (pem_ix (pem_var 17 (pv 17)) (pem_int)) (pam_nil))))))) (pem_var 4 (pv 4)))) (psm_cons (psm_set (i := 14) sc__law_draw_let.nd rfl (Or.inl rfl) (pem_callD D__law_draw hct hr tk rfl (pam_cons (pem_var 0 (pv 0)) (pam_cons (pem_var 11 (pv 11)) (pam_cons (pem_ix (pem_var 12 (pv 12)) (pem_int)) (pam_cons (pem_op o_sub g_sub (pem_var 3 (pv 3)) (pem_int)) (pam_cons (pem_var 13 (pv 13)) (pam_cons (pem_var 5 (pv 5)) (pam_nil))))))) rfl)) (psm_cons (psm_set (i := 15) sc__law_draw_let.nd rfl (Or.inl rfl) (pem_op o_add g_add (pem_lst (pam_cons (pem_tup (pam_cons (pem_var 7 (pv 7)) (pam_cons (pem_callTy call_tuple_of rfl T.b_tuple (by rfl) g_tupC (pam_cons (pem_lcO (own := [("_law_pair", 17)]) (t := .nm 17) rfl sc__law_draw_let.nd (pv 8) (blkOk_by (N := ["_law_reader_here", "_law_kind", "_law_budget", "_law_depth", "_law_scope", "_law_world", "_law_names_here", "_law_name_here", "_law_parameters", "_law_k", "_law_other", "_law_result", "_law_sizes", "_law_inner", "_law_body", "_law_outer", "_law_rest", "_law_pair"]) (sc := defScope s__law_draw_let) (by decide +kernel)) rfl (fun _ _ _ _ _ => pg_name (i := 17) sc__law_draw_let.nd rfl (by first | exact Or.inl rfl | exact Or.inr rfl) (by first | exact .inl rfl | exact .inr rfl)) (fun _ _ _ _ _ => pcs_nil) (fun _ _ _ _ _ Y1 hY1 wY1 => (pem_ix (pem_var 17 (pv 17)) (pem_int)))) (pam_nil))) (pam_cons (pem_var 11 (pv 11)) (pam_nil))))) (pam_nil))) (pem_var 4 (pv 4)))) (psm_cons (psm_set (i := 16) sc__law_draw_let.nd rfl (Or.inl rfl) (pem_callD D__law_draw hct hr tk rfl (pam_cons (pem_var 0 (pv 0)) (pam_cons (pem_var 1 (pv 1)) (pam_cons (pem_ix (pem_var 12 (pv 12)) (pem_int)) (pam_cons (pem_op o_sub g_sub (pem_var 3 (pv 3)) (pem_int)) (pam_cons (pem_var 15 (pv 15)) (pam_cons (pem_var 5 (pv 5)) (pam_nil))))))) rfl)) (psm_one (psm_ret (pem_tup (pam_cons (pem_str) (pam_cons (pem_var 7 (pv 7)) (pam_cons (pem_callTy call_tuple_of rfl T.b_tuple (by rfl) g_tupC (pam_cons (pem_var 8 (pv 8)) (pam_nil))) (pam_cons (pem_var 14 (pv 14)) (pam_cons (pem_var 16 (pv 16)) (pam_nil)))))))))))))))))))
/-! _law_draw_set -/
theorem sc__law_draw_set : FnScope ["_law_reader_here", "_law_budget", "_law_depth", "_law_scope", "_law_world", "_law_cells", "_law_cell_here"] ["_law_reader_here", "_law_budget", "_law_depth", "_law_scope", "_law_world", "_law_cells"] (defScope s__law_draw_set) := ⟨rfl, rfl, rfl, by decide +kernel, rfl, by decide +kernel, by decide +kernel⟩
def body__law_draw_set (m__law_next : List W → FR) (m__law_draw : List W → FR) : Rho → ML.R Fl := mSeq (mSet [0] 6 (mOp gIx (mVar 5) (mCB gMin [mCall [0] [0] m__law_next [mVar 0, mCB gLen [mVar 5]], mCall [0] [0] m__law_next [mVar 0, mCB gLen [mVar 5]]]))) (mRet [0] (mTup [0] [mC (.str "set"), mVar 6, mCall [0] [0] m__law_draw [mVar 0, mC (.str "number"), mOp gSub (mVar 1) (mC (.int 1)), mOp gSub (mVar 2) (mC (.int 1)), mVar 3, mVar 4]]))
def fun__law_draw_set (m__law_next : List W → FR) (m__law_draw : List W → FR) : List W → FR := mFun [0] 7 (body__law_draw_set m__law_next m__law_draw)
theorem def__law_draw_set (T : Txt w K mg) {m__law_next : List W → FR} (D__law_next : Def P w K mg base ct k "_law_next" ["_law_reader_here", "_law_many"] [0] m__law_next) {m__law_draw : List W → FR} (D__law_draw : Def P w K mg base ct k "_law_draw" ["_law_reader_here", "_law_kind", "_law_budget", "_law_depth", "_law_scope", "_law_world"] [0] m__law_draw) : Def P w K mg base ct (k + 1) "_law_draw_set" ["_law_reader_here", "_law_budget", "_law_depth", "_law_scope", "_law_world", "_law_cells"] [0] (fun__law_draw_set m__law_next m__law_draw) :=
  def_mk (N := ["_law_reader_here", "_law_budget", "_law_depth", "_law_scope", "_law_world", "_law_cells", "_law_cell_here"]) (g := body__law_draw_set m__law_next m__law_draw) T.s__law_draw_set sc__law_draw_set (by decide) (fun _ _ _ _ _ _ us hl => match us, hl with | [_, _, _, _, _, _], _ => rfl) fun f cdv A outer s H E Y hr hct tk =>
    (psm_cons (psm_set (i := 6) sc__law_draw_set.nd rfl (Or.inl rfl) (pem_ix (pem_var 5 (pv 5)) (pem_callB (call_min2 rfl) rfl T.b_min (by rfl) g_min (pam_cons (pem_callD D__law_next hct hr tk rfl (pam_cons (pem_var 0 (pv 0)) (pam_cons (pem_callB (call_len) rfl T.b_len (by rfl) g_len (pam_cons (pem_var 5 (pv 5)) (pam_nil))) (pam_nil))) rfl) (pam_cons (pem_callD D__law_next hct hr tk rfl (pam_cons (pem_var 0 (pv 0)) (pam_cons (pem_callB (call_len) rfl T.b_len (by rfl) g_len (pam_cons (pem_var 5 (pv 5)) (pam_nil))) (pam_nil))) rfl) (pam_nil)))))) (psm_one (psm_ret (pem_tup (pam_cons (pem_str) (pam_cons (pem_var 6 (pv 6)) (pam_cons (pem_callD D__law_draw hct hr tk rfl (pam_cons (pem_var 0 (pv 0)) (pam_cons (pem_str) (pam_cons (pem_op o_sub g_sub (pem_var 1 (pv 1)) (pem_int)) (pam_cons (pem_op o_sub g_sub (pem_var 2 (pv 2)) (pem_int)) (pam_cons (pem_var 3 (pv 3)) (pam_cons (pem_var 4 (pv 4)) (pam_nil))))))) rfl) (pam_nil))))))))
/-! _law_draw_two -/
theorem sc__law_draw_two : FnScope ["_law_reader_here", "_law_kind", "_law_budget", "_law_depth", "_law_scope", "_law_world", "_law_sizes", "_law_pick", "_law_first", "_law_second"] ["_law_reader_here", "_law_kind", "_law_budget", "_law_depth", "_law_scope", "_law_world"] (defScope s__law_draw_two) := ⟨rfl, rfl, rfl, by decide +kernel, rfl, by decide +kernel, by decide +kernel⟩
def body__law_draw_two (m__law_split : List W → FR) (m__law_next : List W → FR) (m__law_draw : List W → FR) : Rho → ML.R Fl := mSeq (mSet [0] 6 (mCall [0] [0] m__law_split [mVar 0, mOp gSub (mVar 2) (mC (.int 1)), mC (.int 2)])) (mSeq (mSet [0] 7 (mCall [0] [0] m__law_next [mVar 0, mC (.int 6)])) (mSeq (mIf (mTest (mOp (gCmp (fun i j => decide (i < j))) (mVar 7) (mC (.int 3)))) (mSeq (mSet [0] 8 (mCall [0] [0] m__law_draw [mVar 0, mC (.str "command"), mOp gIx (mVar 6) (mC (.int 0)), mOp gSub (mVar 3) (mC (.int 1)), mVar 4, mVar 5])) (mRet [0] (mTup [0] [mC (.str "then"), mVar 8, mCall [0] [0] m__law_draw [mVar 0, mVar 1, mOp gIx (mVar 6) (mC (.int 1)), mOp gSub (mVar 3) (mC (.int 1)), mVar 4, mVar 5]]))) (mNext)) (mSeq (mSet [0] 8 (mCall [0] [0] m__law_draw [mVar 0, mC (.str "number"), mOp gIx (mVar 6) (mC (.int 0)), mOp gSub (mVar 3) (mC (.int 1)), mVar 4, mVar 5])) (mSeq (mSet [0] 9 (mCall [0] [0] m__law_draw [mVar 0, mVar 1, mOp gIx (mVar 6) (mC (.int 1)), mOp gSub (mVar 3) (mC (.int 1)), mVar 4, mVar 5])) (mSeq (mIf (mTest (mOp gEq (mVar 1) (mC (.str "command")))) (mRet [0] (mTup [0] [mC (.str "while"), mVar 8, mVar 9])) (mNext)) (mRet [0] (mTup [0] [mOp gIx (mLst [0] [mC (.str "plus"), mC (.str "equal"), mC (.str "less")]) (mOp gSub (mVar 7) (mC (.int 3))), mVar 8, mVar 9])))))))
def fun__law_draw_two (m__law_split : List W → FR) (m__law_next : List W → FR) (m__law_draw : List W → FR) : List W → FR := mFun [0] 10 (body__law_draw_two m__law_split m__law_next m__law_draw)
theorem def__law_draw_two (T : Txt w K mg) {m__law_split : List W → FR} (D__law_split : Def P w K mg base ct k "_law_split" ["_law_reader_here", "_law_rest", "_law_many"] [0] m__law_split) {m__law_next : List W → FR} (D__law_next : Def P w K mg base ct k "_law_next" ["_law_reader_here", "_law_many"] [0] m__law_next) {m__law_draw : List W → FR} (D__law_draw : Def P w K mg base ct k "_law_draw" ["_law_reader_here", "_law_kind", "_law_budget", "_law_depth", "_law_scope", "_law_world"] [0] m__law_draw) : Def P w K mg base ct (k + 1) "_law_draw_two" ["_law_reader_here", "_law_kind", "_law_budget", "_law_depth", "_law_scope", "_law_world"] [0] (fun__law_draw_two m__law_split m__law_next m__law_draw) :=
  def_mk (N := ["_law_reader_here", "_law_kind", "_law_budget", "_law_depth", "_law_scope", "_law_world", "_law_sizes", "_law_pick", "_law_first", "_law_second"]) (g := body__law_draw_two m__law_split m__law_next m__law_draw) T.s__law_draw_two sc__law_draw_two (by decide) (fun _ _ _ _ _ _ us hl => match us, hl with | [_, _, _, _, _, _], _ => rfl) fun f cdv A outer s H E Y hr hct tk =>
    (psm_cons (psm_set (i := 6) sc__law_draw_two.nd rfl (Or.inl rfl) (pem_callD D__law_split hct hr tk rfl (pam_cons (pem_var 0 (pv 0)) (pam_cons (pem_op o_sub g_sub (pem_var 2 (pv 2)) (pem_int)) (pam_cons (pem_int) (pam_nil)))) rfl)) (psm_cons (psm_set (i := 7) sc__law_draw_two.nd rfl (Or.inl rfl) (pem_callD D__law_next hct hr tk rfl (pam_cons (pem_var 0 (pv 0)) (pam_cons (pem_int) (pam_nil))) rfl)) (psm_cons (psm_if (ptm_cmp op_lt g_cmp (pem_var 7 (pv 7)) (pem_int) (nomark _)) (psm_cons (psm_set (i := 8) sc__law_draw_two.nd rfl (Or.inl rfl) (pem_callD D__law_draw hct hr tk rfl (pam_cons (pem_var 0 (pv 0)) (pam_cons (pem_str) (pam_cons (pem_ix (pem_var 6 (pv 6)) (pem_int)) (pam_cons (pem_op o_sub g_sub (pem_var 3 (pv 3)) (pem_int)) (pam_cons (pem_var 4 (pv 4)) (pam_cons (pem_var 5 (pv 5)) (pam_nil))))))) rfl)) (psm_one (psm_ret (pem_tup (pam_cons (pem_str) (pam_cons (pem_var 8 (pv 8)) (pam_cons (pem_callD D__law_draw hct hr tk rfl (pam_cons (pem_var 0 (pv 0)) (pam_cons (pem_var 1 (pv 1)) (pam_cons (pem_ix (pem_var 6 (pv 6)) (pem_int)) (pam_cons (pem_op o_sub g_sub (pem_var 3 (pv 3)) (pem_int)) (pam_cons (pem_var 4 (pv 4)) (pam_cons (pem_var 5 (pv 5)) (pam_nil))))))) rfl) (pam_nil)))))))) (psm_nil)) (psm_cons (psm_set (i := 8) sc__law_draw_two.nd rfl (Or.inl rfl) (pem_callD D__law_draw hct hr tk rfl (pam_cons (pem_var 0 (pv 0)) (pam_cons (pem_str) (pam_cons (pem_ix (pem_var 6 (pv 6)) (pem_int)) (pam_cons (pem_op o_sub g_sub (pem_var 3 (pv 3)) (pem_int)) (pam_cons (pem_var 4 (pv 4)) (pam_cons (pem_var 5 (pv 5)) (pam_nil))))))) rfl)) (psm_cons (psm_set (i := 9) sc__law_draw_two.nd rfl (Or.inl rfl) (pem_callD D__law_draw hct hr tk rfl (pam_cons (pem_var 0 (pv 0)) (pam_cons (pem_var 1 (pv 1)) (pam_cons (pem_ix (pem_var 6 (pv 6)) (pem_int)) (pam_cons (pem_op o_sub g_sub (pem_var 3 (pv 3)) (pem_int)) (pam_cons (pem_var 4 (pv 4)) (pam_cons (pem_var 5 (pv 5)) (pam_nil))))))) rfl)) (psm_cons (psm_if (ptm_cmp (o_eq (hu200 hr)) g_eq (pem_var 1 (pv 1)) (pem_str) (nomark _)) (psm_one (psm_ret (pem_tup (pam_cons (pem_str) (pam_cons (pem_var 8 (pv 8)) (pam_cons (pem_var 9 (pv 9)) (pam_nil))))))) (psm_nil)) (psm_one (psm_ret (pem_tup (pam_cons (pem_ix (pem_lst (pam_cons (pem_str) (pam_cons (pem_str) (pam_cons (pem_str) (pam_nil))))) (pem_op o_sub g_sub (pem_var 7 (pv 7)) (pem_int))) (pam_cons (pem_var 8 (pv 8)) (pam_cons (pem_var 9 (pv 9)) (pam_nil)))))))))))))
/-! _law_draw -/
theorem sc__law_draw : FnScope ["_law_reader_here", "_law_kind", "_law_budget", "_law_depth", "_law_scope", "_law_world", "_law_seen_here", "_law_cells", "_law_calls", "_law_pick", "_law_entry", "_law_name_here", "_law_number", "_law_sizes", "_law_test", "_law_yes"] ["_law_reader_here", "_law_kind", "_law_budget", "_law_depth", "_law_scope", "_law_world"] (defScope s__law_draw) := ⟨rfl, rfl, rfl, by decide +kernel, rfl, by decide +kernel, by decide +kernel⟩
def body__law_draw (m__law_leaf : List W → FR) (m__law_seen : List W → FR) (m__law_next : List W → FR) (m__law_draw_call : List W → FR) (m__law_draw_let : List W → FR) (m__law_draw_set : List W → FR) (m__law_draw : List W → FR) (m__law_split : List W → FR) (m__law_draw_two : List W → FR) : Rho → ML.R Fl := mSeq (mIf (mOr (mTest (mOp (gCmp (fun i j => decide (i ≤ j))) (mVar 2) (mC (.int 1)))) (mTest (mOp (gCmp (fun i j => decide (i ≤ j))) (mVar 3) (mC (.int 0))))) (mRet [0] (mCall [0] [0] m__law_leaf [mVar 0, mVar 1, mVar 4, mVar 5])) (mNext)) (mSeq (mSet [0] 6 (mCall [0] [] m__law_seen [mVar 4])) (mSeq (mSet [0] 7 (mLc [0] (mItems [0] (mVar 6)) (.nm 10) (mTest (mOp gEq (mOp gIx (mVar 10) (mC (.int 2))) (mC (.str "cell")))) (mOp gIx (mVar 10) (mC (.int 0))))) (mSeq (mSet [0] 8 (mLc [0] (mItems [0] (mVar 6)) (.nm 10) (mAnd (mTest (mOp gEq (mOp gIx (mVar 10) (mC (.int 2))) (mVar 1))) (mAnd (mTest (mOp (gCmp (fun i j => decide (i < j))) (mCB gLen [mOp gIx (mVar 10) (mC (.int 1))]) (mVar 2))) (mTest (mOp (gCmp (fun i j => decide (j < i))) (mCB gLen [mOp gIx (mVar 10) (mC (.int 1))]) (mC (.int 0)))))) (mVar 10))) (mSeq (mSet [0] 9 (mCall [0] [0] m__law_next [mVar 0, mC (.int 18)])) (mSeq (mIf (mAnd (mTest (mOp (gCmp (fun i j => decide (i < j))) (mVar 9) (mC (.int 5)))) (mTest (mOp (gCmp (fun i j => decide (j < i))) (mCB gLen [mVar 8]) (mC (.int 0))))) (mSeq (mSet [0] 10 (mOp gIx (mVar 8) (mCB gMin [mCall [0] [0] m__law_next [mVar 0, mCB gLen [mVar 8]], mCall [0] [0] m__law_next [mVar 0, mCB gLen [mVar 8]]]))) (mRet [0] (mCall [0] [0] m__law_draw_call [mVar 0, mVar 2, mVar 3, mVar 4, mVar 5, mVar 10]))) (mNext)) (mSeq (mIf (mAnd (mTest (mOp (gCmp (fun i j => decide (i < j))) (mVar 9) (mC (.int 8)))) (mTest (mOp (gCmp (fun i j => decide (j < i))) (mVar 2) (mC (.int 2))))) (mRet [0] (mCall [0] [0] m__law_draw_let [mVar 0, mVar 1, mVar 2, mVar 3, mVar 4, mVar 5])) (mNext)) (mSeq (mIf (mAnd (mTest (mOp gEq (mVar 1) (mC (.str "command")))) (mAnd (mTest (mOp (gCmp (fun i j => decide (j < i))) (mCB gLen [mVar 7]) (mC (.int 0)))) (mOr (mTest (mOp (gCmp (fun i j => decide (i < j))) (mVar 9) (mC (.int 10)))) (mTest (mOp gEq (mVar 2) (mC (.int 2))))))) (mRet [0] (mCall [0] [0] m__law_draw_set [mVar 0, mVar 2, mVar 3, mVar 4, mVar 5, mVar 7])) (mNext)) (mSeq (mIf (mOr (mTest (mOp (gCmp (fun i j => decide (i < j))) (mVar 9) (mC (.int 12)))) (mTest (mOp gEq (mVar 2) (mC (.int 2))))) (mSeq (mSet [0] 11 (mOp gIx (mOp gIx (mVar 5) (mC (.int 0))) (mCall [0] [0] m__law_next [mVar 0, mCB gLen [mOp gIx (mVar 5) (mC (.int 0))]]))) (mSeq (mSet [0] 12 (mCall [0] [0] m__law_next [mVar 0, mOp gIx (mVar 5) (mC (.int 1))])) (mRet [0] (mTup [0] [mC (.str "new"), mVar 11, mVar 12, mCall [0] [0] m__law_draw [mVar 0, mVar 1, mOp gSub (mVar 2) (mC (.int 1)), mOp gSub (mVar 3) (mC (.int 1)), mOp gAdd (mLst [0] [mTup [0] [mVar 11, mTup [0] [], mC (.str "cell")]]) (mVar 4), mVar 5]])))) (mNext)) (mSeq (mIf (mAnd (mTest (mOp (gCmp (fun i j => decide (i < j))) (mVar 9) (mC (.int 14)))) (mTest (mOp (gCmp (fun i j => decide (j < i))) (mVar 2) (mC (.int 3))))) (mSeq (mSet [0] 13 (mCall [0] [0] m__law_split [mVar 0, mOp gSub (mVar 2) (mC (.int 1)), mC (.int 3)])) (mSeq (mSet [0] 14 (mCall [0] [0] m__law_draw [mVar 0, mC (.str "number"), mOp gIx (mVar 13) (mC (.int 0)), mOp gSub (mVar 3) (mC (.int 1)), mVar 4, mVar 5])) (mSeq (mSet [0] 15 (mCall [0] [0] m__law_draw [mVar 0, mVar 1, mOp gIx (mVar 13) (mC (.int 1)), mOp gSub (mVar 3) (mC (.int 1)), mVar 4, mVar 5])) (mRet [0] (mTup [0] [mC (.str "if"), mVar 14, mVar 15, mCall [0] [0] m__law_draw [mVar 0, mVar 1, mOp gIx (mVar 13) (mC (.int 2)), mOp gSub (mVar 3) (mC (.int 1)), mVar 4, mVar 5]]))))) (mNext)) (mRet [0] (mCall [0] [0] m__law_draw_two [mVar 0, mVar 1, mVar 2, mVar 3, mVar 4, mVar 5])))))))))))
def fun__law_draw (m__law_leaf : List W → FR) (m__law_seen : List W → FR) (m__law_next : List W → FR) (m__law_draw_call : List W → FR) (m__law_draw_let : List W → FR) (m__law_draw_set : List W → FR) (m__law_draw : List W → FR) (m__law_split : List W → FR) (m__law_draw_two : List W → FR) : List W → FR := mFun [0] 16 (body__law_draw m__law_leaf m__law_seen m__law_next m__law_draw_call m__law_draw_let m__law_draw_set m__law_draw m__law_split m__law_draw_two)
theorem def__law_draw (T : Txt w K mg) {m__law_leaf : List W → FR} (D__law_leaf : Def P w K mg base ct k "_law_leaf" ["_law_reader_here", "_law_kind", "_law_scope", "_law_world"] [0] m__law_leaf) {m__law_seen : List W → FR} (D__law_seen : Def P w K mg base ct k "_law_seen" ["_law_scope"] [] m__law_seen) {m__law_next : List W → FR} (D__law_next : Def P w K mg base ct k "_law_next" ["_law_reader_here", "_law_many"] [0] m__law_next) {m__law_draw_call : List W → FR} (D__law_draw_call : Def P w K mg base ct k "_law_draw_call" ["_law_reader_here", "_law_budget", "_law_depth", "_law_scope", "_law_world", "_law_entry"] [0] m__law_draw_call) {m__law_draw_let : List W → FR} (D__law_draw_let : Def P w K mg base ct k "_law_draw_let" ["_law_reader_here", "_law_kind", "_law_budget", "_law_depth", "_law_scope", "_law_world"] [0] m__law_draw_let) {m__law_draw_set : List W → FR} (D__law_draw_set : Def P w K mg base ct k "_law_draw_set" ["_law_reader_here", "_law_budget", "_law_depth", "_law_scope", "_law_world", "_law_cells"] [0] m__law_draw_set) {m__law_draw : List W → FR} (D__law_draw : Def P w K mg base ct k "_law_draw" ["_law_reader_here", "_law_kind", "_law_budget", "_law_depth", "_law_scope", "_law_world"] [0] m__law_draw) {m__law_split : List W → FR} (D__law_split : Def P w K mg base ct k "_law_split" ["_law_reader_here", "_law_rest", "_law_many"] [0] m__law_split) {m__law_draw_two : List W → FR} (D__law_draw_two : Def P w K mg base ct k "_law_draw_two" ["_law_reader_here", "_law_kind", "_law_budget", "_law_depth", "_law_scope", "_law_world"] [0] m__law_draw_two) : Def P w K mg base ct (k + 1) "_law_draw" ["_law_reader_here", "_law_kind", "_law_budget", "_law_depth", "_law_scope", "_law_world"] [0] (fun__law_draw m__law_leaf m__law_seen m__law_next m__law_draw_call m__law_draw_let m__law_draw_set m__law_draw m__law_split m__law_draw_two) :=
  def_mk (N := ["_law_reader_here", "_law_kind", "_law_budget", "_law_depth", "_law_scope", "_law_world", "_law_seen_here", "_law_cells", "_law_calls", "_law_pick", "_law_entry", "_law_name_here", "_law_number", "_law_sizes", "_law_test", "_law_yes"]) (g := body__law_draw m__law_leaf m__law_seen m__law_next m__law_draw_call m__law_draw_let m__law_draw_set m__law_draw m__law_split m__law_draw_two) T.s__law_draw sc__law_draw (by decide) (fun _ _ _ _ _ _ us hl => match us, hl with | [_, _, _, _, _, _], _ => rfl) fun f cdv A outer s H E Y hr hct tk =>
    (psm_cons (psm_if (PW.pt (pwm_or (ptm_cmp op_le g_cmp (pem_var 2 (pv 2)) (pem_int) (nomark _)) (pwm_or1 (ptm_cmp op_le g_cmp (pem_var 3 (pv 3)) (pem_int) (nomark _))))) (psm_one (psm_ret (pem_callD D__law_leaf hct hr tk rfl (pam_cons (pem_var 0 (pv 0)) (pam_cons (pem_var 1 (pv 1)) (pam_cons (pem_var 4 (pv 4)) (pam_cons (pem_var 5 (pv 5)) (pam_nil))))) rfl))) (psm_nil)) (psm_cons (psm_set (i := 6) sc__law_draw.nd rfl (Or.inl rfl) (pem_callD D__law_seen hct hr tk rfl (pam_cons (pem_var 4 (pv 4)) (pam_nil)) rfl)) (psm_cons (psm_setLc (i := 7) (own := [("_law_entry", 10)]) (t := .nm 10) rfl sc__law_draw.nd rfl rfl (sw_true rfl rfl rfl (by decide +kernel)) (pim_seq (pem_var 6 (pv 6))) (blkOk_by (N := ["_law_reader_here", "_law_kind", "_law_budget", "_law_depth", "_law_scope", "_law_world", "_law_seen_here", "_law_cells", "_law_calls", "_law_pick", "_law_entry", "_law_name_here", "_law_number", "_law_sizes", "_law_test", "_law_yes"]) (sc := defScope s__law_draw) (by decide +kernel)) rfl (fun _ _ _ _ _ => pg_name (i := 10) sc__law_draw.nd rfl (by first | exact Or.inl rfl | exact Or.inr rfl) (by first | exact .inl rfl | exact .inr rfl)) (fun _ _ _ _ _ => pcs_one fun Y1 hY1 wY1 => (ptm_cmp (o_eq (hu200 hr)) g_eq (pem_ix (pem_var 10 (pv 10)) (pem_int)) (pem_str) (nomark _))) (fun _ _ _ _ _ Y1 hY1 wY1 => (pem_ix (pem_var 10 (pv 10)) (pem_int)))) (psm_cons (psm_setLc (i := 8) (own := [("_law_entry", 10)]) (t := .nm 10) rfl sc__law_draw.nd rfl rfl (sw_true rfl rfl rfl (by decide +kernel)) (pim_seq (pem_var 6 (pv 6))) (blkOk_by (N := ["_law_reader_here", "_law_kind", "_law_budget", "_law_depth", "_law_scope", "_law_world", "_law_seen_here", "_law_cells", "_law_calls", "_law_pick", "_law_entry", "_law_name_here", "_law_number", "_law_sizes", "_law_test", "_law_yes"]) (sc := defScope s__law_draw) (by decide +kernel)) rfl (fun _ _ _ _ _ => pg_name (i := 10) sc__law_draw.nd rfl (by first | exact Or.inl rfl | exact Or.inr rfl) (by first | exact .inl rfl | exact .inr rfl)) (fun _ _ _ _ _ => pcs_one fun Y1 hY1 wY1 => (PW.pt (pwm_and (ptm_cmp (o_eq (hu200 hr)) g_eq (pem_ix (pem_var 10 (pv 10)) (pem_int)) (pem_var 1 (pv 1)) (nomark _)) (pwm_and (ptm_cmp op_lt g_cmp (pem_callB (call_len) rfl T.b_len (by rfl) g_len (pam_cons (pem_ix (pem_var 10 (pv 10)) (pem_int)) (pam_nil))) (pem_var 2 (pv 2)) (nomark _)) (pwm_and1 (ptm_cmp op_gt g_cmp (pem_callB (call_len) rfl T.b_len (by rfl) g_len (pam_cons (pem_ix (pem_var 10 (pv 10)) (pem_int)) (pam_nil))) (pem_int) (nomark _))))))) (fun _ _ _ _ _ Y1 hY1 wY1 => (pem_var 10 (pv 10)))) (psm_cons (psm_set (i := 9) sc__law_draw.nd rfl (Or.inl rfl) (pem_callD D__law_next hct hr tk rfl (pam_cons (pem_var 0 (pv 0)) (pam_cons (pem_int) (pam_nil))) rfl)) (psm_cons (psm_if (PW.pt (pwm_and (ptm_cmp op_lt g_cmp (pem_var 9 (pv 9)) (pem_int) (nomark _)) (pwm_and1 (ptm_cmp op_gt g_cmp (pem_callB (call_len) rfl T.b_len (by rfl) g_len (pam_cons (pem_var 8 (pv 8)) (pam_nil))) (pem_int) (nomark _))))) (psm_cons (psm_set (i := 10) sc__law_draw.nd rfl (Or.inl rfl) (pem_ix (pem_var 8 (pv 8)) (pem_callB (call_min2 rfl) rfl T.b_min (by rfl) g_min (pam_cons (pem_callD D__law_next hct hr tk rfl (pam_cons (pem_var 0 (pv 0)) (pam_cons (pem_callB (call_len) rfl T.b_len (by rfl) g_len (pam_cons (pem_var 8 (pv 8)) (pam_nil))) (pam_nil))) rfl) (pam_cons (pem_callD D__law_next hct hr tk rfl (pam_cons (pem_var 0 (pv 0)) (pam_cons (pem_callB (call_len) rfl T.b_len (by rfl) g_len (pam_cons (pem_var 8 (pv 8)) (pam_nil))) (pam_nil))) rfl) (pam_nil)))))) (psm_one (psm_ret (pem_callD D__law_draw_call hct hr tk rfl (pam_cons (pem_var 0 (pv 0)) (pam_cons (pem_var 2 (pv 2)) (pam_cons (pem_var 3 (pv 3)) (pam_cons (pem_var 4 (pv 4)) (pam_cons (pem_var 5 (pv 5)) (pam_cons (pem_var 10 (pv 10)) (pam_nil))))))) rfl)))) (psm_nil)) (psm_cons (psm_if (PW.pt (pwm_and (ptm_cmp op_lt g_cmp (pem_var 9 (pv 9)) (pem_int) (nomark _)) (pwm_and1 (ptm_cmp op_gt g_cmp (pem_var 2 (pv 2)) (pem_int) (nomark _))))) (psm_one (psm_ret (pem_callD D__law_draw_let hct hr tk rfl (pam_cons (pem_var 0 (pv 0)) (pam_cons (pem_var 1 (pv 1)) (pam_cons (pem_var 2 (pv 2)) (pam_cons (pem_var 3 (pv 3)) (pam_cons (pem_var 4 (pv 4)) (pam_cons (pem_var 5 (pv 5)) (pam_nil))))))) rfl))) (psm_nil)) (psm_cons (psm_if (PW.pt (pwm_and (ptm_cmp (o_eq (hu200 hr)) g_eq (pem_var 1 (pv 1)) (pem_str) (nomark _)) (pwm_and (ptm_cmp op_gt g_cmp (pem_callB (call_len) rfl T.b_len (by rfl) g_len (pam_cons (pem_var 7 (pv 7)) (pam_nil))) (pem_int) (nomark _)) (pwm_and1 (PW.pt (pwm_or (ptm_cmp op_lt g_cmp (pem_var 9 (pv 9)) (pem_int) (nomark _)) (pwm_or1 (ptm_cmp (o_eq (hu200 hr)) g_eq (pem_var 2 (pv 2)) (pem_int) (nomark _))))))))) (psm_one (psm_ret (pem_callD D__law_draw_set hct hr tk rfl (pam_cons (pem_var 0 (pv 0)) (pam_cons (pem_var 2 (pv 2)) (pam_cons (pem_var 3 (pv 3)) (pam_cons (pem_var 4 (pv 4)) (pam_cons (pem_var 5 (pv 5)) (pam_cons (pem_var 7 (pv 7)) (pam_nil))))))) rfl))) (psm_nil)) (psm_cons (psm_if (PW.pt (pwm_or (ptm_cmp op_lt g_cmp (pem_var 9 (pv 9)) (pem_int) (nomark _)) (pwm_or1 (ptm_cmp (o_eq (hu200 hr)) g_eq (pem_var 2 (pv 2)) (pem_int) (nomark _))))) (psm_cons (psm_set (i := 11) sc__law_draw.nd rfl (Or.inl rfl) (pem_ix (pem_ix (pem_var 5 (pv 5)) (pem_int)) (pem_callD D__law_next hct hr tk rfl (pam_cons (pem_var 0 (pv 0)) (pam_cons (pem_callB (call_len) rfl T.b_len (by rfl) g_len (pam_cons (pem_ix (pem_var 5 (pv 5)) (pem_int)) (pam_nil))) (pam_nil))) rfl))) (psm_cons (psm_set (i := 12) sc__law_draw.nd rfl (Or.inl rfl) (pem_callD D__law_next hct hr tk rfl (pam_cons (pem_var 0 (pv 0)) (pam_cons (pem_ix (pem_var 5 (pv 5)) (pem_int)) (pam_nil))) rfl)) (psm_one (psm_ret (pem_tup (pam_cons (pem_str) (pam_cons (pem_var 11 (pv 11)) (pam_cons (pem_var 12 (pv 12)) (pam_cons (pem_callD D__law_draw hct hr tk rfl (pam_cons (pem_var 0 (pv 0)) (pam_cons (pem_var 1 (pv 1)) (pam_cons (pem_op o_sub g_sub (pem_var 2 (pv 2)) (pem_int)) (pam_cons (pem_op o_sub g_sub (pem_var 3 (pv 3)) (pem_int)) (pam_cons (pem_op o_add g_add (pem_lst (pam_cons (pem_tup (pam_cons (pem_var 11 (pv 11)) (pam_cons (pem_tup (pam_nil)) (pam_cons (pem_str) (pam_nil))))) (pam_nil))) (pem_var 4 (pv 4))) (pam_cons (pem_var 5 (pv 5)) (pam_nil))))))) rfl) (pam_nil)))))))))) (psm_nil)) (psm_cons (psm_if (PW.pt (pwm_and (ptm_cmp op_lt g_cmp (pem_var 9 (pv 9)) (pem_int) (nomark _)) (pwm_and1 (ptm_cmp op_gt g_cmp (pem_var 2 (pv 2)) (pem_int) (nomark _))))) (psm_cons (psm_set (i := 13) sc__law_draw.nd rfl (Or.inl rfl) (pem_callD D__law_split hct hr tk rfl (pam_cons (pem_var 0 (pv 0)) (pam_cons (pem_op o_sub g_sub (pem_var 2 (pv 2)) (pem_int)) (pam_cons (pem_int) (pam_nil)))) rfl)) (psm_cons (psm_set (i := 14) sc__law_draw.nd rfl (Or.inl rfl) (pem_callD D__law_draw hct hr tk rfl (pam_cons (pem_var 0 (pv 0)) (pam_cons (pem_str) (pam_cons (pem_ix (pem_var 13 (pv 13)) (pem_int)) (pam_cons (pem_op o_sub g_sub (pem_var 3 (pv 3)) (pem_int)) (pam_cons (pem_var 4 (pv 4)) (pam_cons (pem_var 5 (pv 5)) (pam_nil))))))) rfl)) (psm_cons (psm_set (i := 15) sc__law_draw.nd rfl (Or.inl rfl) (pem_callD D__law_draw hct hr tk rfl (pam_cons (pem_var 0 (pv 0)) (pam_cons (pem_var 1 (pv 1)) (pam_cons (pem_ix (pem_var 13 (pv 13)) (pem_int)) (pam_cons (pem_op o_sub g_sub (pem_var 3 (pv 3)) (pem_int)) (pam_cons (pem_var 4 (pv 4)) (pam_cons (pem_var 5 (pv 5)) (pam_nil))))))) rfl)) (psm_one (psm_ret (pem_tup (pam_cons (pem_str) (pam_cons (pem_var 14 (pv 14)) (pam_cons (pem_var 15 (pv 15)) (pam_cons (pem_callD D__law_draw hct hr tk rfl (pam_cons (pem_var 0 (pv 0)) (pam_cons (pem_var 1 (pv 1)) (pam_cons (pem_ix (pem_var 13 (pv 13)) (pem_int)) (pam_cons (pem_op o_sub g_sub (pem_var 3 (pv 3)) (pem_int)) (pam_cons (pem_var 4 (pv 4)) (pam_cons (pem_var 5 (pv 5)) (pam_nil))))))) rfl) (pam_nil))))))))))) (psm_nil)) (psm_one (psm_ret (pem_callD D__law_draw_two hct hr tk rfl (pam_cons (pem_var 0 (pv 0)) (pam_cons (pem_var 1 (pv 1)) (pam_cons (pem_var 2 (pv 2)) (pam_cons (pem_var 3 (pv 3)) (pam_cons (pem_var 4 (pv 4)) (pam_cons (pem_var 5 (pv 5)) (pam_nil))))))) rfl)))))))))))))
/-! _law_draw_deep -/
theorem sc__law_draw_deep : FnScope ["_law_reader_here", "_law_kind", "_law_many", "_law_budget", "_law_scope", "_law_world", "_law_names_here", "_law_layers", "_law_here", "_law_k", "_law_name_here", "_law_result", "_law_body", "_law_whole_here"] ["_law_reader_here", "_law_kind", "_law_many", "_law_budget", "_law_scope", "_law_world"] (defScope s__law_draw_deep) := ⟨rfl, rfl, rfl, by decide +kernel, rfl, by decide +kernel, by decide +kernel⟩
def body__law_draw_deep (m__law_next : List W → FR) (m__law_draw : List W → FR) : Rho → ML.R Fl := mSeq (mSet [0] 6 (mOp gIx (mVar 5) (mC (.int 0)))) (mSeq (mSet [0] 7 (mLst [0] [])) (mSeq (mSet [0] 8 (mCB gLstC [mVar 4])) (mSeq (mFor (mRange1 [mVar 2]) (gSet [0] 9) (mSeq (mSet [0] 10 (mOp gIx (mVar 6) (mCall [0] [0] m__law_next [mVar 0, mCB gLen [mVar 6]]))) (mIf (mTest (mOp gEq (mCall [0] [0] m__law_next [mVar 0, mC (.int 3)]) (mC (.int 0)))) (mSeq (mSet [0] 11 (mOp gIx (mLst [0] [mC (.str "command"), mC (.str "number")]) (mCall [0] [0] m__law_next [mVar 0, mC (.int 2)]))) (mSeq (mSet [0] 12 (mCall [0] [0] m__law_draw [mVar 0, mVar 11, mOp gAdd (mC (.int 1)) (mCall [0] [0] m__law_next [mVar 0, mC (.int 3)]), mC (.int 2), mVar 8, mVar 5])) (mSeq (mDrop (mAppend 7 [0] (mTup [0] [mC (.str "let"), mVar 10, mTup [0] [], mVar 12]))) (mSet [0] 8 (mOp gAdd (mLst [0] [mTup [0] [mVar 10, mTup [0] [], mVar 11]]) (mVar 8)))))) (mSeq (mDrop (mAppend 7 [0] (mTup [0] [mC (.str "new"), mVar 10, mCall [0] [0] m__law_next [mVar 0, mOp gIx (mVar 5) (mC (.int 1))]]))) (mSet [0] 8 (mOp gAdd (mLst [0] [mTup [0] [mVar 10, mTup [0] [], mC (.str "cell")]]) (mVar 8))))))) (mSeq (mSet [0] 13 (mCall [0] [0] m__law_draw [mVar 0, mVar 1, mVar 3, mC (.int 12), mVar 8, mVar 5])) (mSeq (mFor (mRange1 [mVar 2]) (gSet [0] 9) (mSet [0] 13 (mOp gAdd (mOp gIx (mVar 7) (mOp gSub (mOp gSub (mVar 2) (mC (.int 1))) (mVar 9))) (mTup [0] [mVar 13])))) (mRet [0] (mVar 13)))))))
def fun__law_draw_deep (m__law_next : List W → FR) (m__law_draw : List W → FR) : List W → FR := mFun [0] 14 (body__law_draw_deep m__law_next m__law_draw)
theorem def__law_draw_deep (T : Txt w K mg) {m__law_next : List W → FR} (D__law_next : Def P w K mg base ct k "_law_next" ["_law_reader_here", "_law_many"] [0] m__law_next) {m__law_draw : List W → FR} (D__law_draw : Def P w K mg base ct k "_law_draw" ["_law_reader_here", "_law_kind", "_law_budget", "_law_depth", "_law_scope", "_law_world"] [0] m__law_draw) : Def P w K mg base ct (k + 1) "_law_draw_deep" ["_law_reader_here", "_law_kind", "_law_many", "_law_budget", "_law_scope", "_law_world"] [0] (fun__law_draw_deep m__law_next m__law_draw) :=
  def_mk (N := ["_law_reader_here", "_law_kind", "_law_many", "_law_budget", "_law_scope", "_law_world", "_law_names_here", "_law_layers", "_law_here", "_law_k", "_law_name_here", "_law_result", "_law_body", "_law_whole_here"]) (g := body__law_draw_deep m__law_next m__law_draw) T.s__law_draw_deep sc__law_draw_deep (by decide) (fun _ _ _ _ _ _ us hl => match us, hl with | [_, _, _, _, _, _], _ => rfl) fun f cdv A outer s H E Y hr hct tk =>
    (psm_cons (psm_set (i := 6) sc__law_draw_deep.nd rfl (Or.inl rfl) (pem_ix (pem_var 5 (pv 5)) (pem_int))) (psm_cons (psm_set (i := 7) sc__law_draw_deep.nd rfl (Or.inl rfl) (pem_lst (pam_nil))) (psm_cons (psm_set (i := 8) sc__law_draw_deep.nd rfl (Or.inl rfl) (pem_callTy call_list_of rfl T.b_list (by rfl) g_lstC (pam_cons (pem_var 4 (pv 4)) (pam_nil)))) (psm_cons (psm_for (passes_of rfl) rfl (pim_range1 rfl T.b_range (pam_cons (pem_var 2 (pv 2)) (pam_nil))) (pgm_name (pg_name (i := 9) sc__law_draw_deep.nd rfl (Or.inl rfl))) (psm_cons (psm_set (i := 10) sc__law_draw_deep.nd rfl (Or.inl rfl) (pem_ix (pem_var 6 (pv 6)) (pem_callD D__law_next hct hr tk rfl (pam_cons (pem_var 0 (pv 0)) (pam_cons (pem_callB (call_len) rfl T.b_len (by rfl) g_len (pam_cons (pem_var 6 (pv 6)) (pam_nil))) (pam_nil))) rfl))) (psm_one (psm_if (ptm_cmp (o_eq (hu200 hr)) g_eq (pem_callD D__law_next hct hr tk rfl (pam_cons (pem_var 0 (pv 0)) (pam_cons (pem_int) (pam_nil))) rfl) (pem_int) (nomark _)) (psm_cons (psm_set (i := 11) sc__law_draw_deep.nd rfl (Or.inl rfl) (pem_ix (pem_lst (pam_cons (pem_str) (pam_cons (pem_str) (pam_nil)))) (pem_callD D__law_next hct hr tk rfl (pam_cons (pem_var 0 (pv 0)) (pam_cons (pem_int) (pam_nil))) rfl))) (psm_cons (psm_set (i := 12) sc__law_draw_deep.nd rfl (Or.inl rfl) (pem_callD D__law_draw hct hr tk rfl (pam_cons (pem_var 0 (pv 0)) (pam_cons (pem_var 11 (pv 11)) (pam_cons (pem_op o_add g_add (pem_int) (pem_callD D__law_next hct hr tk rfl (pam_cons (pem_var 0 (pv 0)) (pam_cons (pem_int) (pam_nil))) rfl)) (pam_cons (pem_int) (pam_cons (pem_var 8 (pv 8)) (pam_cons (pem_var 5 (pv 5)) (pam_nil))))))) rfl)) (psm_cons (psm_expr (pem_append (pv 7) (pem_tup (pam_cons (pem_str) (pam_cons (pem_var 10 (pv 10)) (pam_cons (pem_tup (pam_nil)) (pam_cons (pem_var 12 (pv 12)) (pam_nil)))))))) (psm_one (psm_set (i := 8) sc__law_draw_deep.nd rfl (Or.inl rfl) (pem_op o_add g_add (pem_lst (pam_cons (pem_tup (pam_cons (pem_var 10 (pv 10)) (pam_cons (pem_tup (pam_nil)) (pam_cons (pem_var 11 (pv 11)) (pam_nil))))) (pam_nil))) (pem_var 8 (pv 8)))))))) (psm_cons (psm_expr (pem_append (pv 7) (pem_tup (pam_cons (pem_str) (pam_cons (pem_var 10 (pv 10)) (pam_cons (pem_callD D__law_next hct hr tk rfl (pam_cons (pem_var 0 (pv 0)) (pam_cons (pem_ix (pem_var 5 (pv 5)) (pem_int)) (pam_nil))) rfl) (pam_nil))))))) (psm_one (psm_set (i := 8) sc__law_draw_deep.nd rfl (Or.inl rfl) (pem_op o_add g_add (pem_lst (pam_cons (pem_tup (pam_cons (pem_var 10 (pv 10)) (pam_cons (pem_tup (pam_nil)) (pam_cons (pem_str) (pam_nil))))) (pam_nil))) (pem_var 8 (pv 8)))))))))) (psm_cons (psm_set (i := 13) sc__law_draw_deep.nd rfl (Or.inl rfl) (pem_callD D__law_draw hct hr tk rfl (pam_cons (pem_var 0 (pv 0)) (pam_cons (pem_var 1 (pv 1)) (pam_cons (pem_var 3 (pv 3)) (pam_cons (pem_int) (pam_cons (pem_var 8 (pv 8)) (pam_cons (pem_var 5 (pv 5)) (pam_nil))))))) rfl)) (psm_cons (psm_for (passes_of rfl) rfl (pim_range1 rfl T.b_range (pam_cons (pem_var 2 (pv 2)) (pam_nil))) (pgm_name (pg_name (i := 9) sc__law_draw_deep.nd rfl (Or.inl rfl))) (psm_one (psm_set (i := 13) sc__law_draw_deep.nd rfl (Or.inl rfl) (pem_op o_add g_add (pem_ix (pem_var 7 (pv 7)) (pem_op o_sub g_sub (pem_op o_sub g_sub (pem_var 2 (pv 2)) (pem_int)) (pem_var 9 (pv 9)))) (pem_tup (pam_cons (pem_var 13 (pv 13)) (pam_nil))))))) (psm_one (psm_ret (pem_var 13 (pv 13))))))))))
/-! _law_parts -/
theorem sc__law_parts : FnScope ["_law_node"] ["_law_node"] (defScope s__law_parts) := ⟨rfl, rfl, rfl, by decide +kernel, rfl, by decide +kernel, by decide +kernel⟩
def body__law_parts : Rho → ML.R Fl := mSeq (mIf (mTest (mOp (gIn false) (mOp gIx (mVar 0) (mC (.int 0))) (mTup [] [mC (.str "skip"), mC (.str "quit"), mC (.str "number"), mC (.str "get")]))) (mRet [] (mLst [] [])) (mNext)) (mSeq (mIf (mTest (mOp gEq (mOp gIx (mVar 0) (mC (.int 0))) (mC (.str "call")))) (mRet [] (mCB gLstC [mOp gIx (mVar 0) (mC (.int 2))])) (mNext)) (mSeq (mIf (mTest (mOp gEq (mOp gIx (mVar 0) (mC (.int 0))) (mC (.str "set")))) (mRet [] (mLst [] [mOp gIx (mVar 0) (mC (.int 2))])) (mNext)) (mSeq (mIf (mOr (mTest (mOp gEq (mOp gIx (mVar 0) (mC (.int 0))) (mC (.str "new")))) (mTest (mOp gEq (mOp gIx (mVar 0) (mC (.int 0))) (mC (.str "let"))))) (mRet [] (mCB gLstC [mSl (mVar 0) (some (mC (.int 3))) none])) (mNext)) (mRet [] (mCB gLstC [mSl (mVar 0) (some (mC (.int 1))) none])))))
def fun__law_parts : List W → FR := mFun [] 1 (body__law_parts)
theorem def__law_parts (T : Txt w K mg) : Def P w K mg base ct (k + 1) "_law_parts" ["_law_node"] [] (fun__law_parts) :=
  def_mk (N := ["_law_node"]) (g := body__law_parts) T.s__law_parts sc__law_parts (by decide) (fun _ _ _ _ _ _ us hl => match us, hl with | [_], _ => rfl) fun f cdv A outer s H E Y hr hct tk =>
    (psm_cons (psm_if (ptm_cmp o_in g_in (pem_ix (pem_var 0 (pv 0)) (pem_int)) (pem_tup (pam_cons (pem_str) (pam_cons (pem_str) (pam_cons (pem_str) (pam_cons (pem_str) (pam_nil)))))) rfl) (psm_one (psm_ret (pem_lst (pam_nil)))) (psm_nil)) (psm_cons (psm_if (ptm_cmp (o_eq (hu200 hr)) g_eq (pem_ix (pem_var 0 (pv 0)) (pem_int)) (pem_str) (nomark _)) (psm_one (psm_ret (pem_callTy call_list_of rfl T.b_list (by rfl) g_lstC (pam_cons (pem_ix (pem_var 0 (pv 0)) (pem_int)) (pam_nil))))) (psm_nil)) (psm_cons (psm_if (ptm_cmp (o_eq (hu200 hr)) g_eq (pem_ix (pem_var 0 (pv 0)) (pem_int)) (pem_str) (nomark _)) (psm_one (psm_ret (pem_lst (pam_cons (pem_ix (pem_var 0 (pv 0)) (pem_int)) (pam_nil))))) (psm_nil)) (psm_cons (psm_if (PW.pt (pwm_or (ptm_cmp (o_eq (hu200 hr)) g_eq (pem_ix (pem_var 0 (pv 0)) (pem_int)) (pem_str) (nomark _)) (pwm_or1 (ptm_cmp (o_eq (hu200 hr)) g_eq (pem_ix (pem_var 0 (pv 0)) (pem_int)) (pem_str) (nomark _))))) (psm_one (psm_ret (pem_callTy call_list_of rfl T.b_list (by rfl) g_lstC (pam_cons (pem_slice (pem_var 0 (pv 0)) (pom_some (pem_int)) pom_none) (pam_nil))))) (psm_nil)) (psm_one (psm_ret (pem_callTy call_list_of rfl T.b_list (by rfl) g_lstC (pam_cons (pem_slice (pem_var 0 (pv 0)) (pom_some (pem_int)) pom_none) (pam_nil)))))))))
/-! _law_free -/
theorem sc__law_free : FnScope ["_law_node", "_law_bound", "_law_inner", "_law_found_here", "_law_part", "_law_pair"] ["_law_node", "_law_bound"] (defScope s__law_free) := ⟨rfl, rfl, rfl, by decide +kernel, rfl, by decide +kernel, by decide +kernel⟩
def body__law_free (m__law_free : List W → FR) (m__law_parts : List W → FR) : Rho → ML.R Fl := mSeq (mIf (mTest (mOp gEq (mOp gIx (mVar 0) (mC (.int 0))) (mC (.str "new")))) (mRet [] (mCall [] [] m__law_free [mOp gIx (mVar 0) (mC (.int 3)), mOp gAdd (mVar 1) (mLst [] [mOp gIx (mVar 0) (mC (.int 1))])])) (mNext)) (mSeq (mIf (mTest (mOp gEq (mOp gIx (mVar 0) (mC (.int 0))) (mC (.str "let")))) (mSeq (mSet [] 2 (mOp gAdd (mVar 1) (mLc [] (mItems [] (mOp gIx (mVar 0) (mC (.int 2)))) (.nm 5) (mYes) (mOp gIx (mVar 5) (mC (.int 0)))))) (mRet [] (mOp gAdd (mCall [] [] m__law_free [mOp gIx (mVar 0) (mC (.int 3)), mVar 2]) (mCall [] [] m__law_free [mOp gIx (mVar 0) (mC (.int 4)), mOp gAdd (mVar 1) (mLst [] [mOp gIx (mVar 0) (mC (.int 1))])])))) (mNext)) (mSeq (mSet [] 3 (mLst [] [])) (mSeq (mIf (mAnd (mTest (mOp (gIn false) (mOp gIx (mVar 0) (mC (.int 0))) (mTup [] [mC (.str "get"), mC (.str "set"), mC (.str "call")]))) (mTest (mOp (gIn true) (mOp gIx (mVar 0) (mC (.int 1))) (mVar 1)))) (mSet [] 3 (mLst [] [mOp gIx (mVar 0) (mC (.int 1))])) (mNext)) (mSeq (mFor (mItems [] (mCall [] [] m__law_parts [mVar 0])) (gSet [] 4) (mSet [] 3 (mOp gAdd (mVar 3) (mCall [] [] m__law_free [mVar 4, mVar 1])))) (mRet [] (mVar 3))))))
def fun__law_free (m__law_free : List W → FR) (m__law_parts : List W → FR) : List W → FR := mFun [] 6 (body__law_free m__law_free m__law_parts)
theorem def__law_free (T : Txt w K mg) {m__law_free : List W → FR} (D__law_free : Def P w K mg base ct k "_law_free" ["_law_node", "_law_bound"] [] m__law_free) {m__law_parts : List W → FR} (D__law_parts : Def P w K mg base ct k "_law_parts" ["_law_node"] [] m__law_parts) : Def P w K mg base ct (k + 1) "_law_free" ["_law_node", "_law_bound"] [] (fun__law_free m__law_free m__law_parts) :=
  def_mk (N := ["_law_node", "_law_bound", "_law_inner", "_law_found_here", "_law_part", "_law_pair"]) (g := body__law_free m__law_free m__law_parts) T.s__law_free sc__law_free (by decide) (fun _ _ _ _ _ _ us hl => match us, hl with | [_, _], _ => rfl) fun f cdv A outer s H E Y hr hct tk =>
    (psm_cons (psm_if (ptm_cmp (o_eq (hu200 hr)) g_eq (pem_ix (pem_var 0 (pv 0)) (pem_int)) (pem_str) (nomark _)) (psm_one (psm_ret (pem_callD D__law_free hct hr tk rfl (pam_cons (pem_ix (pem_var 0 (pv 0)) (pem_int)) (pam_cons (pem_op o_add g_add (pem_var 1 (pv 1)) (pem_lst (pam_cons (pem_ix (pem_var 0 (pv 0)) (pem_int)) (pam_nil)))) (pam_nil))) rfl))) (psm_nil)) (psm_cons (psm_if (ptm_cmp (o_eq (hu200 hr)) g_eq (pem_ix (pem_var 0 (pv 0)) (pem_int)) (pem_str) (nomark _)) (psm_cons (psm_set (i := 2) sc__law_free.nd rfl (Or.inl rfl) (pem_op o_add g_add (pem_var 1 (pv 1)) (pem_lc (own := [("_law_pair", 5)]) (t := .nm 5) rfl sc__law_free.nd (pim_seq (pem_ix (pem_var 0 (pv 0)) (pem_int))) (blkOk_by (N := ["_law_node", "_law_bound", "_law_inner", "_law_found_here", "_law_part", "_law_pair"]) (sc := defScope s__law_free) (by decide +kernel)) rfl (fun _ _ _ _ _ => pg_name (i := 5) sc__law_free.nd rfl (by first | exact Or.inl rfl | exact Or.inr rfl) (by first | exact .inl rfl | exact .inr rfl)) (fun _ _ _ _ _ => pcs_nil) (fun _ _ _ _ _ Y1 hY1 wY1 => (pem_ix (pem_var 5 (pv 5)) (pem_int)))))) (psm_one (psm_ret (pem_op o_add g_add (pem_callD D__law_free hct hr tk rfl (pam_cons (pem_ix (pem_var 0 (pv 0)) (pem_int)) (pam_cons (pem_var 2 (pv 2)) (pam_nil))) rfl) (pem_callD D__law_free hct hr tk rfl (pam_cons (pem_ix (pem_var 0 (pv 0)) (pem_int)) (pam_cons (pem_op o_add g_add (pem_var 1 (pv 1)) (pem_lst (pam_cons (pem_ix (pem_var 0 (pv 0)) (pem_int)) (pam_nil)))) (pam_nil))) rfl))))) (psm_nil)) (psm_cons (psm_set (i := 3) sc__law_free.nd rfl (Or.inl rfl) (pem_lst (pam_nil))) (psm_cons (psm_if (PW.pt (pwm_and (ptm_cmp o_in g_in (pem_ix (pem_var 0 (pv 0)) (pem_int)) (pem_tup (pam_cons (pem_str) (pam_cons (pem_str) (pam_cons (pem_str) (pam_nil))))) rfl) (pwm_and1 (ptm_cmp o_notin g_in (pem_ix (pem_var 0 (pv 0)) (pem_int)) (pem_var 1 (pv 1)) rfl)))) (psm_one (psm_set (i := 3) sc__law_free.nd rfl (Or.inl rfl) (pem_lst (pam_cons (pem_ix (pem_var 0 (pv 0)) (pem_int)) (pam_nil))))) (psm_nil)) (psm_cons (psm_for (passes_of rfl) rfl (pim_seq (pem_callD D__law_parts hct hr tk rfl (pam_cons (pem_var 0 (pv 0)) (pam_nil)) rfl)) (pgm_name (pg_name (i := 4) sc__law_free.nd rfl (Or.inl rfl))) (psm_one (psm_set (i := 3) sc__law_free.nd rfl (Or.inl rfl) (pem_op o_add g_add (pem_var 3 (pv 3)) (pem_callD D__law_free hct hr tk rfl (pam_cons (pem_var 4 (pv 4)) (pam_cons (pem_var 1 (pv 1)) (pam_nil))) rfl))))) (psm_one (psm_ret (pem_var 3 (pv 3)))))))))
/-! _law_found -/
theorem sc__law_found : FnScope ["_law_scope", "_law_name_here", "_law_pair"] ["_law_scope", "_law_name_here"] (defScope s__law_found) := ⟨rfl, rfl, rfl, by decide +kernel, rfl, by decide +kernel, by decide +kernel⟩
def body__law_found : Rho → ML.R Fl := mSeq (mFor (mItems [] (mVar 0)) (gSet [] 2) (mIf (mTest (mOp gEq (mOp gIx (mVar 2) (mC (.int 0))) (mVar 1))) (mRet [] (mOp gIx (mVar 2) (mC (.int 1)))) (mNext))) (mRet [] (mVar 1))
def fun__law_found : List W → FR := mFun [] 3 (body__law_found)
theorem def__law_found (T : Txt w K mg) : Def P w K mg base ct (k + 1) "_law_found" ["_law_scope", "_law_name_here"] [] (fun__law_found) :=
  def_mk (N := ["_law_scope", "_law_name_here", "_law_pair"]) (g := body__law_found) T.s__law_found sc__law_found (by decide) (fun _ _ _ _ _ _ us hl => match us, hl with | [_, _], _ => rfl) fun f cdv A outer s H E Y hr hct tk =>
    (psm_cons (psm_for (passes_of rfl) rfl (pim_seq (pem_var 0 (pv 0))) (pgm_name (pg_name (i := 2) sc__law_found.nd rfl (Or.inl rfl))) (psm_one (psm_if (ptm_cmp (o_eq (hu200 hr)) g_eq (pem_ix (pem_var 2 (pv 2)) (pem_int)) (pem_var 1 (pv 1)) (nomark _)) (psm_one (psm_ret (pem_ix (pem_var 2 (pv 2)) (pem_int)))) (psm_nil)))) (psm_one (psm_ret (pem_var 1 (pv 1)))))
/-! _law_renamed -/
theorem sc__law_renamed : FnScope ["_law_node", "_law_scope", "_law_fresh", "_law_word", "_law_name_here", "_law_pairs", "_law_pair", "_law_kinds_here", "_law_body", "_law_parts_here", "_law_k", "_law_part"] ["_law_node", "_law_scope", "_law_fresh"] (defScope s__law_renamed) := ⟨rfl, rfl, rfl, by decide +kernel, rfl, by decide +kernel, by decide +kernel⟩
def body__law_renamed (m__law_renamed : List W → FR) (m__law_parts : List W → FR) (m__law_found : List W → FR) : Rho → ML.R Fl := mSeq (mSet [2] 3 (mOp gIx (mVar 0) (mC (.int 0)))) (mSeq (mIf (mTest (mOp gEq (mVar 3) (mC (.str "new")))) (mSeq (mSet [2] 4 (mPopAt 2 0)) (mRet [2] (mTup [2] [mC (.str "new"), mVar 4, mOp gIx (mVar 0) (mC (.int 2)), mCall [2] [2] m__law_renamed [mOp gIx (mVar 0) (mC (.int 3)), mOp gAdd (mLst [2] [mTup [2] [mOp gIx (mVar 0) (mC (.int 1)), mVar 4]]) (mVar 1), mVar 2]]))) (mNext)) (mSeq (mIf (mTest (mOp gEq (mVar 3) (mC (.str "let")))) (mSeq (mSet [2] 4 (mPopAt 2 0)) (mSeq (mSet [2] 5 (mLst [2] [])) (mSeq (mFor (mItems [2] (mOp gIx (mVar 0) (mC (.int 2)))) (gSet [2] 6) (mDrop (mAppend 5 [2] (mTup [2] [mOp gIx (mVar 6) (mC (.int 0)), mPopAt 2 0])))) (mSeq (mSet [2] 7 (mLc [2] (mRange1 [mCB gLen [mVar 5]]) (.nm 10) (mYes) (mTup [2] [mOp gIx (mOp gIx (mVar 5) (mVar 10)) (mC (.int 1)), mOp gIx (mOp gIx (mOp gIx (mVar 0) (mC (.int 2))) (mVar 10)) (mC (.int 1))]))) (mSeq (mSet [2] 8 (mCall [2] [2] m__law_renamed [mOp gIx (mVar 0) (mC (.int 3)), mOp gAdd (mVar 5) (mVar 1), mVar 2])) (mRet [2] (mTup [2] [mC (.str "let"), mVar 4, mCB gTupC [mVar 7], mVar 8, mCall [2] [2] m__law_renamed [mOp gIx (mVar 0) (mC (.int 4)), mOp gAdd (mLst [2] [mTup [2] [mOp gIx (mVar 0) (mC (.int 1)), mVar 4]]) (mVar 1), mVar 2]]))))))) (mNext)) (mSeq (mSet [2] 9 (mCB gTupC [mLc [2] (mItems [2] (mCall [2] [] m__law_parts [mVar 0])) (.nm 11) (mYes) (mCall [2] [2] m__law_renamed [mVar 11, mVar 1, mVar 2])])) (mSeq (mIf (mTest (mOp gEq (mVar 3) (mC (.str "get")))) (mRet [2] (mTup [2] [mC (.str "get"), mCall [2] [] m__law_found [mVar 1, mOp gIx (mVar 0) (mC (.int 1))]])) (mNext)) (mSeq (mIf (mTest (mOp gEq (mVar 3) (mC (.str "set")))) (mRet [2] (mTup [2] [mC (.str "set"), mCall [2] [] m__law_found [mVar 1, mOp gIx (mVar 0) (mC (.int 1))], mOp gIx (mVar 9) (mC (.int 0))])) (mNext)) (mSeq (mIf (mTest (mOp gEq (mVar 3) (mC (.str "call")))) (mRet [2] (mTup [2] [mC (.str "call"), mCall [2] [] m__law_found [mVar 1, mOp gIx (mVar 0) (mC (.int 1))], mVar 9])) (mNext)) (mSeq (mIf (mTest (mOp gEq (mVar 3) (mC (.str "number")))) (mRet [2] (mVar 0)) (mNext)) (mRet [2] (mOp gAdd (mTup [2] [mVar 3]) (mVar 9))))))))))
def fun__law_renamed (m__law_renamed : List W → FR) (m__law_parts : List W → FR) (m__law_found : List W → FR) : List W → FR := mFun [2] 12 (body__law_renamed m__law_renamed m__law_parts m__law_found)
theorem def__law_renamed (T : Txt w K mg) {m__law_renamed : List W → FR} (D__law_renamed : Def P w K mg base ct k "_law_renamed" ["_law_node", "_law_scope", "_law_fresh"] [2] m__law_renamed) {m__law_parts : List W → FR} (D__law_parts : Def P w K mg base ct k "_law_parts" ["_law_node"] [] m__law_parts) {m__law_found : List W → FR} (D__law_found : Def P w K mg base ct k "_law_found" ["_law_scope", "_law_name_here"] [] m__law_found) : Def P w K mg base ct (k + 1) "_law_renamed" ["_law_node", "_law_scope", "_law_fresh"] [2] (fun__law_renamed m__law_renamed m__law_parts m__law_found) :=
  def_mk (N := ["_law_node", "_law_scope", "_law_fresh", "_law_word", "_law_name_here", "_law_pairs", "_law_pair", "_law_kinds_here", "_law_body", "_law_parts_here", "_law_k", "_law_part"]) (g := body__law_renamed m__law_renamed m__law_parts m__law_found) T.s__law_renamed sc__law_renamed (by decide) (fun _ _ _ _ _ _ us hl => match us, hl with | [_, _, _], _ => rfl) fun f cdv A outer s H E Y hr hct tk =>
    (psm_cons (psm_set (i := 3) sc__law_renamed.nd rfl (Or.inl rfl) (pem_ix (pem_var 0 (pv 0)) (pem_int))) (psm_cons (psm_if (ptm_cmp (o_eq (hu200 hr)) g_eq (pem_var 3 (pv 3)) (pem_str) (nomark _)) (psm_cons (psm_set (i := 4) sc__law_renamed.nd rfl (Or.inl rfl) (pem_popAt (pv 2))) (psm_one (psm_ret (pem_tup (pam_cons (pem_str) (pam_cons (pem_var 4 (pv 4)) (pam_cons (pem_ix (pem_var 0 (pv 0)) (pem_int)) (pam_cons (pem_callD D__law_renamed hct hr tk rfl (pam_cons (pem_ix (pem_var 0 (pv 0)) (pem_int)) (pam_cons (pem_op o_add g_add (pem_lst (pam_cons (pem_tup (pam_cons (pem_ix (pem_var 0 (pv 0)) (pem_int)) (pam_cons (pem_var 4 (pv 4)) (pam_nil)))) (pam_nil))) (pem_var 1 (pv 1))) (pam_cons (pem_var 2 (pv 2)) (pam_nil)))) rfl) (pam_nil))))))))) (psm_nil)) (psm_cons (psm_if (ptm_cmp (o_eq (hu200 hr)) g_eq (pem_var 3 (pv 3)) (pem_str) (nomark _)) (psm_cons (psm_set (i := 4) sc__law_renamed.nd rfl (Or.inl rfl) (pem_popAt (pv 2))) (psm_cons (psm_set (i := 5) sc__law_renamed.nd rfl (Or.inr rfl) (pem_lst (pam_nil))) (psm_cons (psm_for (passes_of rfl) rfl (pim_seq (pem_ix (pem_var 0 (pv 0)) (pem_int))) (pgm_name (pg_name (i := 6) sc__law_renamed.nd rfl (Or.inl rfl))) (psm_one (psm_expr (pem_append (pv 5) (pem_tup (pam_cons (pem_ix (pem_var 6 (pv 6)) (pem_int)) (pam_cons (pem_popAt (pv 2)) (pam_nil)))))))) (psm_cons (psm_setLc (i := 7) (own := [("_law_k", 10)]) (t := .nm 10) rfl sc__law_renamed.nd rfl rfl (sw_true rfl rfl rfl (by decide +kernel)) (pim_range1 rfl T.b_range (pam_cons (pem_callB (call_len) rfl T.b_len (by rfl) g_len (pam_cons (pem_var 5 (pv 5)) (pam_nil))) (pam_nil))) (blkOk_by (N := ["_law_node", "_law_scope", "_law_fresh", "_law_word", "_law_name_here", "_law_pairs", "_law_pair", "_law_kinds_here", "_law_body", "_law_parts_here", "_law_k", "_law_part"]) (sc := defScope s__law_renamed) (by decide +kernel)) rfl (fun _ _ _ _ _ => pg_name (i := 10) sc__law_renamed.nd rfl (by first | exact Or.inl rfl | exact Or.inr rfl) (by first | exact .inl rfl | exact .inr rfl)) (fun _ _ _ _ _ => pcs_nil) (fun _ _ _ _ _ Y1 hY1 wY1 => (pem_tup (pam_cons (pem_ix (pem_ix (pem_var 5 (pv 5)) (pem_var 10 (pv 10))) (pem_int)) (pam_cons (pem_ix (pem_ix (pem_ix (pem_var 0 (pv 0)) (pem_int)) (pem_var 10 (pv 10))) (pem_int)) (pam_nil)))))) (psm_cons (psm_set (i := 8) sc__law_renamed.nd rfl (Or.inl rfl) (pem_callD D__law_renamed hct hr tk rfl (pam_cons (pem_ix (pem_var 0 (pv 0)) (pem_int)) (pam_cons (pem_op o_add g_add (pem_var 5 (pv 5)) (pem_var 1 (pv 1))) (pam_cons (pem_var 2 (pv 2)) (pam_nil)))) rfl)) (psm_one (psm_ret (pem_tup (pam_cons (pem_str) (pam_cons (pem_var 4 (pv 4)) (pam_cons (pem_callTy call_tuple_of rfl T.b_tuple (by rfl) g_tupC (pam_cons (pem_var 7 (pv 7)) (pam_nil))) (pam_cons (pem_var 8 (pv 8)) (pam_cons (pem_callD D__law_renamed hct hr tk rfl (pam_cons (pem_ix (pem_var 0 (pv 0)) (pem_int)) (pam_cons (pem_op o_add g_add (pem_lst (pam_cons (pem_tup (pam_cons (pem_ix (pem_var 0 (pv 0)) (pem_int)) (pam_cons (pem_var 4 (pv 4)) (pam_nil)))) (pam_nil))) (pem_var 1 (pv 1))) (pam_cons (pem_var 2 (pv 2)) (pam_nil)))) rfl) (pam_nil)))))))))))))) (psm_nil)) (psm_cons (psm_set (i := 9) sc__law_renamed.nd rfl (Or.inl rfl) (pem_callTy call_tuple_of rfl T.b_tuple (by rfl) g_tupC (pam_cons (pem_lc (own := [("_law_part", 11)]) (t := .nm 11) rfl sc__law_renamed.nd (pim_seq (pem_callD D__law_parts hct hr tk rfl (pam_cons (pem_var 0 (pv 0)) (pam_nil)) rfl)) (blkOk_by (N := ["_law_node", "_law_scope", "_law_fresh", "_law_word", "_law_name_here", "_law_pairs", "_law_pair", "_law_kinds_here", "_law_body", "_law_parts_here", "_law_k", "_law_part"]) (sc := defScope s__law_renamed) (by decide +kernel)) rfl (fun _ _ _ _ _ => pg_name (i := 11) sc__law_renamed.nd rfl (by first | exact Or.inl rfl | exact Or.inr rfl) (by first | exact .inl rfl | exact .inr rfl)) (fun _ _ _ _ _ => pcs_nil) (fun _ _ _ _ _ Y1 hY1 wY1 => (pem_callD D__law_renamed (hY1.trans hct) hr (takesF wY1) rfl (pam_cons (pem_var 11 (pv 11)) (pam_cons (pem_var 1 (pv 1)) (pam_cons (pem_var 2 (pv 2)) (pam_nil)))) rfl))) (pam_nil)))) (psm_cons (psm_if (ptm_cmp (o_eq (hu200 hr)) g_eq (pem_var 3 (pv 3)) (pem_str) (nomark _)) (psm_one (psm_ret (pem_tup (pam_cons (pem_str) (pam_cons (pem_callD D__law_found hct hr tk rfl (pam_cons (pem_var 1 (pv 1)) (pam_cons (pem_ix (pem_var 0 (pv 0)) (pem_int)) (pam_nil))) rfl) (pam_nil)))))) (psm_nil)) (psm_cons (psm_if (ptm_cmp (o_eq (hu200 hr)) g_eq (pem_var 3 (pv 3)) (pem_str) (nomark _)) (psm_one (psm_ret (pem_tup (pam_cons (pem_str) (pam_cons (pem_callD D__law_found hct hr tk rfl (pam_cons (pem_var 1 (pv 1)) (pam_cons (pem_ix (pem_var 0 (pv 0)) (pem_int)) (pam_nil))) rfl) (pam_cons (pem_ix (pem_var 9 (pv 9)) (pem_int)) (pam_nil))))))) (psm_nil)) (psm_cons (psm_if (ptm_cmp (o_eq (hu200 hr)) g_eq (pem_var 3 (pv 3)) (pem_str) (nomark _)) (psm_one (psm_ret (pem_tup (pam_cons (pem_str) (pam_cons (pem_callD D__law_found hct hr tk rfl (pam_cons (pem_var 1 (pv 1)) (pam_cons (pem_ix (pem_var 0 (pv 0)) (pem_int)) (pam_nil))) rfl) (pam_cons (pem_var 9 (pv 9)) (pam_nil))))))) (psm_nil)) (psm_cons (psm_if (ptm_cmp (o_eq (hu200 hr)) g_eq (pem_var 3 (pv 3)) (pem_str) (nomark _)) (psm_one (psm_ret (pem_var 0 (pv 0)))) (psm_nil)) (psm_one (psm_ret (pem_op o_add g_add (pem_tup (pam_cons (pem_var 3 (pv 3)) (pam_nil))) (pem_var 9 (pv 9)))))))))))))
/-! _law_renamed_due -/
theorem sc__law_renamed_due : FnScope ["_law_block", "_law_left", "_law_out", "_law_fresh", "_law_k"] ["_law_block", "_law_left"] (defScope s__law_renamed_due) := ⟨rfl, rfl, rfl, by decide +kernel, rfl, by decide +kernel, by decide +kernel⟩
def body__law_renamed_due (m__law_free : List W → FR) (m__law_renamed : List W → FR) : Rho → ML.R Fl := mSeq (mSet [] 2 (mOp gAdd (mCall [] [] m__law_free [mVar 0, mLst [] []]) (mCB gLstC [mVar 1]))) (mSeq (mSet [] 3 (mLst [] [])) (mSeq (mFor (mRange1 [mC (.int 700)]) (gSet [] 4) (mIf (mTest (mOp (gIn true) (mOp gAdd (mC (.str "n")) (mCB gStr [mVar 4])) (mVar 2))) (mDrop (mAppend 3 [] (mOp gAdd (mC (.str "n")) (mCB gStr [mVar 4])))) (mNext))) (mRet [] (mCall [] [2] m__law_renamed [mVar 0, mLst [] [], mVar 3]))))
def fun__law_renamed_due (m__law_free : List W → FR) (m__law_renamed : List W → FR) : List W → FR := mFun [] 5 (body__law_renamed_due m__law_free m__law_renamed)
theorem def__law_renamed_due (T : Txt w K mg) {m__law_free : List W → FR} (D__law_free : Def P w K mg base ct k "_law_free" ["_law_node", "_law_bound"] [] m__law_free) {m__law_renamed : List W → FR} (D__law_renamed : Def P w K mg base ct k "_law_renamed" ["_law_node", "_law_scope", "_law_fresh"] [2] m__law_renamed) : Def P w K mg base ct (k + 1) "_law_renamed_due" ["_law_block", "_law_left"] [] (fun__law_renamed_due m__law_free m__law_renamed) :=
  def_mk (N := ["_law_block", "_law_left", "_law_out", "_law_fresh", "_law_k"]) (g := body__law_renamed_due m__law_free m__law_renamed) T.s__law_renamed_due sc__law_renamed_due (by decide) (fun _ _ _ _ _ _ us hl => match us, hl with | [_, _], _ => rfl) fun f cdv A outer s H E Y hr hct tk =>
    (psm_cons (psm_set (i := 2) sc__law_renamed_due.nd rfl (Or.inl rfl) (pem_op o_add g_add (pem_callD D__law_free hct hr tk rfl (pam_cons (pem_var 0 (pv 0)) (pam_cons (pem_lst (pam_nil)) (pam_nil))) rfl) (pem_callTy call_list_of rfl T.b_list (by rfl) g_lstC (pam_cons (pem_var 1 (pv 1)) (pam_nil))))) (psm_cons (psm_set (i := 3) sc__law_renamed_due.nd rfl (Or.inl rfl) (pem_lst (pam_nil))) (psm_cons (psm_for (passes_of rfl) rfl (pim_range1 rfl T.b_range (pam_cons (pem_int) (pam_nil))) (pgm_name (pg_name (i := 4) sc__law_renamed_due.nd rfl (Or.inl rfl))) (psm_one (psm_if (ptm_cmp o_notin g_in (pem_op o_add g_add (pem_str) (pem_callTy c_str rfl T.b_str (by rfl) g_str (pam_cons (pem_var 4 (pv 4)) (pam_nil)))) (pem_var 2 (pv 2)) rfl) (psm_one (psm_expr (pem_append (pv 3) (pem_op o_add g_add (pem_str) (pem_callTy c_str rfl T.b_str (by rfl) g_str (pam_cons (pem_var 4 (pv 4)) (pam_nil))))))) (psm_nil)))) (psm_one (psm_ret (pem_callD D__law_renamed hct hr tk rfl (pam_cons (pem_var 0 (pv 0)) (pam_cons (pem_lst (pam_nil)) (pam_cons (pem_var 3 (pv 3)) (pam_nil)))) rfl))))))
/-! _law_same -/
theorem sc__law_same : FnScope ["_law_actual", "_law_due", "_law_k"] ["_law_actual", "_law_due"] (defScope s__law_same) := ⟨rfl, rfl, rfl, by decide +kernel, rfl, by decide +kernel, by decide +kernel⟩
def body__law_same (m__law_same : List W → FR) (m__law_whole : List W → FR) : Rho → ML.R Fl := mSeq (mIf (mTest (mCB gIsi [mVar 1, mC (.ty "tuple")])) (mSeq (mIf (mOr (mNot (mTest (mCB gIsi [mVar 0, mC (.ty "tuple")]))) (mTest (mOp gNe (mCB gLen [mVar 0]) (mCB gLen [mVar 1])))) (mRet [] (mC (.bl false))) (mNext)) (mSeq (mFor (mRange1 [mCB gLen [mVar 1]]) (gSet [] 2) (mIf (mNot (mTest (mCall [] [] m__law_same [mOp gIx (mVar 0) (mVar 2), mOp gIx (mVar 1) (mVar 2)]))) (mRet [] (mC (.bl false))) (mNext))) (mRet [] (mC (.bl true))))) (mNext)) (mSeq (mIf (mTest (mCB gIsi [mVar 1, mC (.ty "str")])) (mRet [] (mAndV (mCB gIsi [mVar 0, mC (.ty "str")]) (mOp gEq (mVar 0) (mVar 1)))) (mNext)) (mRet [] (mAndV (mCall [] [] m__law_whole [mVar 0]) (mOp gEq (mVar 0) (mVar 1)))))
def fun__law_same (m__law_same : List W → FR) (m__law_whole : List W → FR) : List W → FR := mFun [] 3 (body__law_same m__law_same m__law_whole)
theorem def__law_same (T : Txt w K mg) {m__law_same : List W → FR} (D__law_same : Def P w K mg base ct k "_law_same" ["_law_actual", "_law_due"] [] m__law_same) {m__law_whole : List W → FR} (D__law_whole : Def P w K mg base ct k "_law_whole" ["_law_value"] [] m__law_whole) : Def P w K mg base ct (k + 1) "_law_same" ["_law_actual", "_law_due"] [] (fun__law_same m__law_same m__law_whole) :=
  def_mk (N := ["_law_actual", "_law_due", "_law_k"]) (g := body__law_same m__law_same m__law_whole) T.s__law_same sc__law_same (by decide) (fun _ _ _ _ _ _ us hl => match us, hl with | [_, _], _ => rfl) fun f cdv A outer s H E Y hr hct tk =>
    (psm_cons (psm_if (ptm_val (pem_callB (c_isi) rfl T.b_isinstance (by rfl) g_isi (pam_cons (pem_var 1 (pv 1)) (pam_cons (pem_ty rfl T.b_tuple (by rfl)) (pam_nil))))) (psm_cons (psm_if (PW.pt (pwm_or (ptm_not (ptm_val (pem_callB (c_isi) rfl T.b_isinstance (by rfl) g_isi (pam_cons (pem_var 0 (pv 0)) (pam_cons (pem_ty rfl T.b_tuple (by rfl)) (pam_nil)))))) (pwm_or1 (ptm_cmp (o_ne (hu200 hr)) g_ne (pem_callB (call_len) rfl T.b_len (by rfl) g_len (pam_cons (pem_var 0 (pv 0)) (pam_nil))) (pem_callB (call_len) rfl T.b_len (by rfl) g_len (pam_cons (pem_var 1 (pv 1)) (pam_nil))) (nomark _))))) (psm_one (psm_ret (pem_bl))) (psm_nil)) (psm_cons (psm_for (passes_of rfl) rfl (pim_range1 rfl T.b_range (pam_cons (pem_callB (call_len) rfl T.b_len (by rfl) g_len (pam_cons (pem_var 1 (pv 1)) (pam_nil))) (pam_nil))) (pgm_name (pg_name (i := 2) sc__law_same.nd rfl (Or.inl rfl))) (psm_one (psm_if (ptm_not (ptm_val (pem_callD D__law_same hct hr tk rfl (pam_cons (pem_ix (pem_var 0 (pv 0)) (pem_var 2 (pv 2))) (pam_cons (pem_ix (pem_var 1 (pv 1)) (pem_var 2 (pv 2))) (pam_nil))) rfl))) (psm_one (psm_ret (pem_bl))) (psm_nil)))) (psm_one (psm_ret (pem_bl))))) (psm_nil)) (psm_cons (psm_if (ptm_val (pem_callB (c_isi) rfl T.b_isinstance (by rfl) g_isi (pam_cons (pem_var 1 (pv 1)) (pam_cons (pem_ty rfl T.b_str (by rfl)) (pam_nil))))) (psm_one (psm_ret (pem_and (pem_callB (c_isi) rfl T.b_isinstance (by rfl) g_isi (pam_cons (pem_var 0 (pv 0)) (pam_cons (pem_ty rfl T.b_str (by rfl)) (pam_nil)))) (pem_one (pem_cmp (o_eq (hu200 hr)) g_eq (pem_var 0 (pv 0)) (pem_var 1 (pv 1)) (nomark _)))))) (psm_nil)) (psm_one (psm_ret (pem_and (pem_callD D__law_whole hct hr tk rfl (pam_cons (pem_var 0 (pv 0)) (pam_nil)) rfl) (pem_one (pem_cmp (o_eq (hu200 hr)) g_eq (pem_var 0 (pv 0)) (pem_var 1 (pv 1)) (nomark _))))))))
/-! _law_listed -/
theorem sc__law_listed : FnScope ["_law_value", "_law_way", "_law_parts_here", "_law_part"] ["_law_value", "_law_way"] (defScope s__law_listed) := ⟨rfl, rfl, rfl, by decide +kernel, rfl, by decide +kernel, by decide +kernel⟩
def body__law_listed (m__law_listed : List W → FR) : Rho → ML.R Fl := mSeq (mIf (mNot (mTest (mCB gIsi [mVar 0, mC (.ty "tuple")]))) (mRet [] (mVar 0)) (mNext)) (mSeq (mSet [] 2 (mLc [] (mItems [] (mVar 0)) (.nm 3) (mYes) (mCall [] [] m__law_listed [mVar 3, mOp gAdd (mOp gFdiv (mVar 1) (mC (.int 2))) (mOp gMul (mC (.int 4)) (mOp gMod (mCB gInt [mVar 1]) (mC (.int 2))))]))) (mSeq (mIf (mTest (mOp gEq (mOp gMod (mCB gInt [mVar 1]) (mC (.int 2))) (mC (.int 1)))) (mRet [] (mVar 2)) (mNext)) (mRet [] (mCB gTupC [mVar 2]))))
def fun__law_listed (m__law_listed : List W → FR) : List W → FR := mFun [] 4 (body__law_listed m__law_listed)
theorem def__law_listed (T : Txt w K mg) {m__law_listed : List W → FR} (D__law_listed : Def P w K mg base ct k "_law_listed" ["_law_value", "_law_way"] [] m__law_listed) : Def P w K mg base ct (k + 1) "_law_listed" ["_law_value", "_law_way"] [] (fun__law_listed m__law_listed) :=
  def_mk (N := ["_law_value", "_law_way", "_law_parts_here", "_law_part"]) (g := body__law_listed m__law_listed) T.s__law_listed sc__law_listed (by decide) (fun _ _ _ _ _ _ us hl => match us, hl with | [_, _], _ => rfl) fun f cdv A outer s H E Y hr hct tk =>
    (psm_cons (psm_if (ptm_not (ptm_val (pem_callB (c_isi) rfl T.b_isinstance (by rfl) g_isi (pam_cons (pem_var 0 (pv 0)) (pam_cons (pem_ty rfl T.b_tuple (by rfl)) (pam_nil)))))) (psm_one (psm_ret (pem_var 0 (pv 0)))) (psm_nil)) (psm_cons (psm_setLc (i := 2) (own := [("_law_part", 3)]) (t := .nm 3) rfl sc__law_listed.nd rfl rfl (sw_true rfl rfl rfl (by decide +kernel)) (pim_seq (pem_var 0 (pv 0))) (blkOk_by (N := ["_law_value", "_law_way", "_law_parts_here", "_law_part"]) (sc := defScope s__law_listed) (by decide +kernel)) rfl (fun _ _ _ _ _ => pg_name (i := 3) sc__law_listed.nd rfl (by first | exact Or.inl rfl | exact Or.inr rfl) (by first | exact .inl rfl | exact .inr rfl)) (fun _ _ _ _ _ => pcs_nil) (fun _ _ _ _ _ Y1 hY1 wY1 => (pem_callD D__law_listed (hY1.trans hct) hr (takesF wY1) rfl (pam_cons (pem_var 3 (pv 3)) (pam_cons (pem_op o_add g_add (pem_op op_fdiv g_fdiv (pem_var 1 (pv 1)) (pem_int)) (pem_op o_mul g_mul (pem_int) (pem_op op_mod g_mod (pem_callTy c_int rfl T.b_int (by rfl) g_int (pam_cons (pem_var 1 (pv 1)) (pam_nil))) (pem_int)))) (pam_nil))) rfl))) (psm_cons (psm_if (ptm_cmp (o_eq (hu200 hr)) g_eq (pem_op op_mod g_mod (pem_callTy c_int rfl T.b_int (by rfl) g_int (pam_cons (pem_var 1 (pv 1)) (pam_nil))) (pem_int)) (pem_int) (nomark _)) (psm_one (psm_ret (pem_var 2 (pv 2)))) (psm_nil)) (psm_one (psm_ret (pem_callTy call_tuple_of rfl T.b_tuple (by rfl) g_tupC (pam_cons (pem_var 2 (pv 2)) (pam_nil))))))))
/-! _law_built -/
theorem sc__law_built : FnScope ["_law_script", "_law_reader_here", "_law_names_here", "_law_scope", "_law_kind", "_law_many", "_law_world", "_law_block", "_law_whole_here", "_law_k"] ["_law_script"] (defScope s__law_built) := ⟨rfl, rfl, rfl, by decide +kernel, rfl, by decide +kernel, by decide +kernel⟩
def body__law_built (m__law_reader : List W → FR) (m__law_next : List W → FR) (m__law_names : List W → FR) (m__law_outside : List W → FR) (m__law_draw_deep : List W → FR) : Rho → ML.R Fl := mSeq (mSet [] 1 (mCall [] [] m__law_reader [mVar 0, mC (.int 0)])) (mSeq (mSet [] 2 (mCall [] [0] m__law_names [mVar 1, mOp gAdd (mC (.int 4)) (mCall [] [0] m__law_next [mVar 1, mC (.int 5)])])) (mSeq (mSet [] 3 (mCall [] [0] m__law_outside [mVar 1, mVar 2])) (mSeq (mSet [] 4 (mOp gIx (mLst [] [mC (.str "command"), mC (.str "number")]) (mCall [] [0] m__law_next [mVar 1, mC (.int 2)]))) (mSeq (mSet [] 5 (mOp gIx (mLst [] [mC (.int 0), mC (.int 0), mC (.int 0), mC (.int 0), mC (.int 1), mC (.int 2), mC (.int 3), mOp gAdd (mC (.int 1)) (mCall [] [0] m__law_next [mVar 1, mC (.int 40)])]) (mCall [] [0] m__law_next [mVar 1, mC (.int 8)]))) (mSeq (mSet [] 6 (mLst [] [mVar 2, mOp gAdd (mC (.int 2)) (mCall [] [0] m__law_next [mVar 1, mC (.int 3)]), mC (.str "")])) (mSeq (mSet [] 7 (mCall [] [0] m__law_draw_deep [mVar 1, mVar 4, mVar 5, mOp gAdd (mC (.int 8)) (mCall [] [0] m__law_next [mVar 1, mC (.int 33)]), mVar 3, mVar 6])) (mSeq (mSet [] 8 (mVar 7)) (mSeq (mIf (mAnd (mTest (mOp (gCmp (fun i j => decide (i < j))) (mVar 5) (mC (.int 4)))) (mTest (mOp gEq (mCall [] [0] m__law_next [mVar 1, mC (.int 5)]) (mC (.int 0))))) (mFor (mRange1 [mOp gAdd (mC (.int 1)) (mCall [] [0] m__law_next [mVar 1, mC (.int 5)])]) (gSet [] 9) (mSet [] 8 (mTup [] [mOp gIx (mLst [] [mC (.str "then"), mC (.str "plus")]) (mCB gInt [mOp gEq (mVar 4) (mC (.str "number"))]), mVar 7, mVar 8]))) (mNext)) (mRet [] (mLst [] [mVar 2, mVar 8]))))))))))
def fun__law_built (m__law_reader : List W → FR) (m__law_next : List W → FR) (m__law_names : List W → FR) (m__law_outside : List W → FR) (m__law_draw_deep : List W → FR) : List W → FR := mFun [] 10 (body__law_built m__law_reader m__law_next m__law_names m__law_outside m__law_draw_deep)
theorem def__law_built (T : Txt w K mg) {m__law_reader : List W → FR} (D__law_reader : Def P w K mg base ct k "_law_reader" ["_law_script", "_law_first"] [] m__law_reader) {m__law_next : List W → FR} (D__law_next : Def P w K mg base ct k "_law_next" ["_law_reader_here", "_law_many"] [0] m__law_next) {m__law_names : List W → FR} (D__law_names : Def P w K mg base ct k "_law_names" ["_law_reader_here", "_law_many"] [0] m__law_names) {m__law_outside : List W → FR} (D__law_outside : Def P w K mg base ct k "_law_outside" ["_law_reader_here", "_law_names_here"] [0] m__law_outside) {m__law_draw_deep : List W → FR} (D__law_draw_deep : Def P w K mg base ct k "_law_draw_deep" ["_law_reader_here", "_law_kind", "_law_many", "_law_budget", "_law_scope", "_law_world"] [0] m__law_draw_deep) : Def P w K mg base ct (k + 1) "_law_built" ["_law_script"] [] (fun__law_built m__law_reader m__law_next m__law_names m__law_outside m__law_draw_deep) :=
  def_mk (N := ["_law_script", "_law_reader_here", "_law_names_here", "_law_scope", "_law_kind", "_law_many", "_law_world", "_law_block", "_law_whole_here", "_law_k"]) (g := body__law_built m__law_reader m__law_next m__law_names m__law_outside m__law_draw_deep) T.s__law_built sc__law_built (by decide) (fun _ _ _ _ _ _ us hl => match us, hl with | [_], _ => rfl) fun f cdv A outer s H E Y hr hct tk =>
    (psm_cons (psm_set (i := 1) sc__law_built.nd rfl (Or.inl rfl) (pem_callD D__law_reader hct hr tk rfl (pam_cons (pem_var 0 (pv 0)) (pam_cons (pem_int) (pam_nil))) rfl)) (psm_cons (psm_set (i := 2) sc__law_built.nd rfl (Or.inl rfl) (pem_callD D__law_names hct hr tk rfl (pam_cons (pem_var 1 (pv 1)) (pam_cons (pem_op o_add g_add (pem_int) (pem_callD D__law_next hct hr tk rfl (pam_cons (pem_var 1 (pv 1)) (pam_cons (pem_int) (pam_nil))) rfl)) (pam_nil))) rfl)) (psm_cons (psm_set (i := 3) sc__law_built.nd rfl (Or.inl rfl) (pem_callD D__law_outside hct hr tk rfl (pam_cons (pem_var 1 (pv 1)) (pam_cons (pem_var 2 (pv 2)) (pam_nil))) rfl)) (psm_cons (psm_set (i := 4) sc__law_built.nd rfl (Or.inl rfl) (pem_ix (pem_lst (pam_cons (pem_str) (pam_cons (pem_str) (pam_nil)))) (pem_callD D__law_next hct hr tk rfl (pam_cons (pem_var 1 (pv 1)) (pam_cons (pem_int) (pam_nil))) rfl))) (psm_cons (psm_set (i := 5) sc__law_built.nd rfl (Or.inl rfl) (pem_ix (pem_lst (pam_cons (pem_int) (pam_cons (pem_int) (pam_cons (pem_int) (pam_cons (pem_int) (pam_cons (pem_int) (pam_cons (pem_int) (pam_cons (pem_int) (pam_cons (pem_op o_add g_add (pem_int) (pem_callD D__law_next hct hr tk rfl (pam_cons (pem_var 1 (pv 1)) (pam_cons (pem_int) (pam_nil))) rfl)) (pam_nil)))))))))) (pem_callD D__law_next hct hr tk rfl (pam_cons (pem_var 1 (pv 1)) (pam_cons (pem_int) (pam_nil))) rfl))) (psm_cons (psm_set (i := 6) sc__law_built.nd rfl (Or.inl rfl) (pem_lst (pam_cons (pem_var 2 (pv 2)) (pam_cons (pem_op o_add g_add (pem_int) (pem_callD D__law_next hct hr tk rfl (pam_cons (pem_var 1 (pv 1)) (pam_cons (pem_int) (pam_nil))) rfl)) (pam_cons (pem_str) (pam_nil)))))) (psm_cons (psm_set (i := 7) sc__law_built.nd rfl (Or.inl rfl) (pem_callD D__law_draw_deep hct hr tk rfl (pam_cons (pem_var 1 (pv 1)) (pam_cons (pem_var 4 (pv 4)) (pam_cons (pem_var 5 (pv 5)) (pam_cons (pem_op o_add g_add (pem_int) (pem_callD D__law_next hct hr tk rfl (pam_cons (pem_var 1 (pv 1)) (pam_cons (pem_int) (pam_nil))) rfl)) (pam_cons (pem_var 3 (pv 3)) (pam_cons (pem_var 6 (pv 6)) (pam_nil))))))) rfl)) (psm_cons (psm_set (i := 8) sc__law_built.nd rfl (Or.inl rfl) (pem_var 7 (pv 7))) (psm_cons (psm_if (PW.pt (pwm_and (ptm_cmp op_lt g_cmp (pem_var 5 (pv 5)) (pem_int) (nomark _)) (pwm_and1 (ptm_cmp (o_eq (hu200 hr)) g_eq (pem_callD D__law_next hct hr tk rfl (pam_cons (pem_var 1 (pv 1)) (pam_cons (pem_int) (pam_nil))) rfl) (pem_int) (nomark _))))) (psm_one (psm_for (passes_of rfl) rfl (pim_range1 rfl T.b_range (pam_cons (pem_op o_add g_add (pem_int) (pem_callD D__law_next hct hr tk rfl (pam_cons (pem_var 1 (pv 1)) (pam_cons (pem_int) (pam_nil))) rfl)) (pam_nil))) (pgm_name (pg_name (i := 9) sc__law_built.nd rfl (Or.inl rfl))) (psm_one (psm_set (i := 8) sc__law_built.nd rfl (Or.inl rfl) (pem_tup (pam_cons (pem_ix (pem_lst (pam_cons (pem_str) (pam_cons (pem_str) (pam_nil)))) (pem_callTy c_int rfl T.b_int (by rfl) g_int (pam_cons (pem_cmp (o_eq (hu200 hr)) g_eq (pem_var 4 (pv 4)) (pem_str) (nomark _)) (pam_nil)))) (pam_cons (pem_var 7 (pv 7)) (pam_cons (pem_var 8 (pv 8)) (pam_nil))))))))) (psm_nil)) (psm_one (psm_ret (pem_lst (pam_cons (pem_var 2 (pv 2)) (pam_cons (pem_var 8 (pv 8)) (pam_nil)))))))))))))))
/-! _law_left_out -/
theorem sc__law_left_out : FnScope ["_law_reader_here", "_law_names_here", "_law_left", "_law_k", "_law_pick"] ["_law_reader_here", "_law_names_here"] (defScope s__law_left_out) := ⟨rfl, rfl, rfl, by decide +kernel, rfl, by decide +kernel, by decide +kernel⟩
def body__law_left_out (m__law_next : List W → FR) : Rho → ML.R Fl := mSeq (mSet [0] 2 (mLst [0] [])) (mSeq (mFor (mRange1 [mCall [0] [0] m__law_next [mVar 0, mC (.int 13)]]) (gSet [0] 3) (mSeq (mSet [0] 4 (mCall [0] [0] m__law_next [mVar 0, mC (.int 20)])) (mIf (mTest (mOp (gCmp (fun i j => decide (i < j))) (mVar 4) (mC (.int 14)))) (mDrop (mAppend 2 [0] (mOp gAdd (mC (.str "n")) (mCB gStr [mVar 4])))) (mDrop (mAppend 2 [0] (mOp gIx (mVar 1) (mCall [0] [0] m__law_next [mVar 0, mCB gLen [mVar 1]]))))))) (mRet [0] (mVar 2)))
def fun__law_left_out (m__law_next : List W → FR) : List W → FR := mFun [0] 5 (body__law_left_out m__law_next)
theorem def__law_left_out (T : Txt w K mg) {m__law_next : List W → FR} (D__law_next : Def P w K mg base ct k "_law_next" ["_law_reader_here", "_law_many"] [0] m__law_next) : Def P w K mg base ct (k + 1) "_law_left_out" ["_law_reader_here", "_law_names_here"] [0] (fun__law_left_out m__law_next) :=
  def_mk (N := ["_law_reader_here", "_law_names_here", "_law_left", "_law_k", "_law_pick"]) (g := body__law_left_out m__law_next) T.s__law_left_out sc__law_left_out (by decide) (fun _ _ _ _ _ _ us hl => match us, hl with | [_, _], _ => rfl) fun f cdv A outer s H E Y hr hct tk =>
    (psm_cons (psm_set (i := 2) sc__law_left_out.nd rfl (Or.inl rfl) (pem_lst (pam_nil))) (psm_cons (psm_for (passes_of rfl) rfl (pim_range1 rfl T.b_range (pam_cons (pem_callD D__law_next hct hr tk rfl (pam_cons (pem_var 0 (pv 0)) (pam_cons (pem_int) (pam_nil))) rfl) (pam_nil))) (pgm_name (pg_name (i := 3) sc__law_left_out.nd rfl (Or.inl rfl))) (psm_cons (psm_set (i := 4) sc__law_left_out.nd rfl (Or.inl rfl) (pem_callD D__law_next hct hr tk rfl (pam_cons (pem_var 0 (pv 0)) (pam_cons (pem_int) (pam_nil))) rfl)) (psm_one (psm_if (ptm_cmp op_lt g_cmp (pem_var 4 (pv 4)) (pem_int) (nomark _)) (psm_one (psm_expr (pem_append (pv 2) (pem_op o_add g_add (pem_str) (pem_callTy c_str rfl T.b_str (by rfl) g_str (pam_cons (pem_var 4 (pv 4)) (pam_nil))))))) (psm_one (psm_expr (pem_append (pv 2) (pem_ix (pem_var 1 (pv 1)) (pem_callD D__law_next hct hr tk rfl (pam_cons (pem_var 0 (pv 0)) (pam_cons (pem_callB (call_len) rfl T.b_len (by rfl) g_len (pam_cons (pem_var 1 (pv 1)) (pam_nil))) (pam_nil))) rfl))))))))) (psm_one (psm_ret (pem_var 2 (pv 2))))))
/-! law -/
theorem sc_law : FnScope ["_law_script", "_law_built_here", "_law_block", "_law_reader_here", "_law_left", "_law_way", "_law_given", "_law_row", "_law_due", "_law_names_here"] ["_law_script"] (defScope s_law) := ⟨rfl, rfl, rfl, by decide +kernel, rfl, by decide +kernel, by decide +kernel⟩
def body_law (m__law_built : List W → FR) (m__law_reader : List W → FR) (m__law_left_out : List W → FR) (m__law_next : List W → FR) (m__law_listed : List W → FR) (m__law_renamed_due : List W → FR) (m_renamed : List W → FR) (m__law_same : List W → FR) : Rho → ML.R Fl := mSeq (mSet [] 1 (mCall [] [] m__law_built [mVar 0])) (mSeq (mSet [] 2 (mOp gIx (mVar 1) (mC (.int 1)))) (mSeq (mSet [] 3 (mCall [] [] m__law_reader [mVar 0, mC (.int 3)])) (mSeq (mSet [] 4 (mCall [] [0] m__law_left_out [mVar 3, mOp gIx (mVar 1) (mC (.int 0))])) (mSeq (mSet [] 5 (mCall [] [0] m__law_next [mVar 3, mC (.int 8)])) (mSeq (mSet [] 6 (mCall [] [] m__law_listed [mVar 2, mVar 5])) (mSeq (mSet [] 7 (mCB gLstC [mVar 4])) (mSeq (mIf (mTest (mOp gEq (mCall [] [0] m__law_next [mVar 3, mC (.int 2)]) (mC (.int 0)))) (mSet [] 7 (mCB gTupC [mVar 4])) (mNext)) (mSeq (mSet [] 8 (mCall [] [] m__law_renamed_due [mVar 2, mVar 4])) (mSeq (mIf (mNot (mTest (mCall [] [] m__law_same [mCall [] [] (nox m_renamed) [mVar 6, mVar 7], mVar 8]))) (mRet [] (mC (.bl false))) (mNext)) (mSeq (mIf (mOr (mTest (mOp gNe (mVar 6) (mCall [] [] m__law_listed [mVar 2, mVar 5]))) (mTest (mOp gNe (mCB gLstC [mVar 7]) (mVar 4)))) (mRet [] (mC (.bl false))) (mNext)) (mSeq (mIf (mNot (mTest (mCall [] [] m__law_same [mCall [] [] m_renamed [mVar 2, mC (.tup [])], mCall [] [] m__law_renamed_due [mVar 2, mLst [] []]]))) (mRet [] (mC (.bl false))) (mNext)) (mSeq (mIf (mNot (mTest (mCall [] [] m__law_same [mCall [] [] (nox m_renamed) [mVar 6, mVar 4], mVar 8]))) (mRet [] (mC (.bl false))) (mNext)) (mSeq (mSet [] 9 (mCB gLstC [mOp gIx (mVar 1) (mC (.int 0))])) (mSeq (mIf (mNot (mTest (mCall [] [] m__law_same [mCall [] [] (nox m_renamed) [mVar 8, mVar 9], mCall [] [] m__law_renamed_due [mVar 8, mVar 9]]))) (mRet [] (mC (.bl false))) (mNext)) (mRet [] (mOp gEq (mVar 9) (mOp gIx (mVar 1) (mC (.int 0)))))))))))))))))))
def fun_law (m__law_built : List W → FR) (m__law_reader : List W → FR) (m__law_left_out : List W → FR) (m__law_next : List W → FR) (m__law_listed : List W → FR) (m__law_renamed_due : List W → FR) (m_renamed : List W → FR) (m__law_same : List W → FR) : List W → FR := mFun [] 10 (body_law m__law_built m__law_reader m__law_left_out m__law_next m__law_listed m__law_renamed_due m_renamed m__law_same)
theorem def_law (T : Txt w K mg) {m__law_built : List W → FR} (D__law_built : Def P w K mg base ct k "_law_built" ["_law_script"] [] m__law_built) {m__law_reader : List W → FR} (D__law_reader : Def P w K mg base ct k "_law_reader" ["_law_script", "_law_first"] [] m__law_reader) {m__law_left_out : List W → FR} (D__law_left_out : Def P w K mg base ct k "_law_left_out" ["_law_reader_here", "_law_names_here"] [0] m__law_left_out) {m__law_next : List W → FR} (D__law_next : Def P w K mg base ct k "_law_next" ["_law_reader_here", "_law_many"] [0] m__law_next) {m__law_listed : List W → FR} (D__law_listed : Def P w K mg base ct k "_law_listed" ["_law_value", "_law_way"] [] m__law_listed) {m__law_renamed_due : List W → FR} (D__law_renamed_due : Def P w K mg base ct k "_law_renamed_due" ["_law_block", "_law_left"] [] m__law_renamed_due) {m_renamed : List W → FR} (D_renamed : DefK P w K mg base ct k "renamed" "block" "avoid" m_renamed) {m__law_same : List W → FR} (D__law_same : Def P w K mg base ct k "_law_same" ["_law_actual", "_law_due"] [] m__law_same) : Def P w K mg base ct (k + 1) "law" ["_law_script"] [] (fun_law m__law_built m__law_reader m__law_left_out m__law_next m__law_listed m__law_renamed_due m_renamed m__law_same) :=
  def_mk (N := ["_law_script", "_law_built_here", "_law_block", "_law_reader_here", "_law_left", "_law_way", "_law_given", "_law_row", "_law_due", "_law_names_here"]) (g := body_law m__law_built m__law_reader m__law_left_out m__law_next m__law_listed m__law_renamed_due m_renamed m__law_same) T.s_law sc_law (by decide) (fun _ _ _ _ _ _ us hl => match us, hl with | [_], _ => rfl) fun f cdv A outer s H E Y hr hct tk =>
    (psm_cons (psm_set (i := 1) sc_law.nd rfl (Or.inl rfl) (pem_callD D__law_built hct hr tk rfl (pam_cons (pem_var 0 (pv 0)) (pam_nil)) rfl)) (psm_cons (psm_set (i := 2) sc_law.nd rfl (Or.inl rfl) (pem_ix (pem_var 1 (pv 1)) (pem_int))) (psm_cons (psm_set (i := 3) sc_law.nd rfl (Or.inl rfl) (pem_callD D__law_reader hct hr tk rfl (pam_cons (pem_var 0 (pv 0)) (pam_cons (pem_int) (pam_nil))) rfl)) (psm_cons (psm_set (i := 4) sc_law.nd rfl (Or.inl rfl) (pem_callD D__law_left_out hct hr tk rfl (pam_cons (pem_var 3 (pv 3)) (pam_cons (pem_ix (pem_var 1 (pv 1)) (pem_int)) (pam_nil))) rfl)) (psm_cons (psm_set (i := 5) sc_law.nd rfl (Or.inl rfl) (pem_callD D__law_next hct hr tk rfl (pam_cons (pem_var 3 (pv 3)) (pam_cons (pem_int) (pam_nil))) rfl)) (psm_cons (psm_set (i := 6) sc_law.nd rfl (Or.inl rfl) (pem_callD D__law_listed hct hr tk rfl (pam_cons (pem_var 2 (pv 2)) (pam_cons (pem_var 5 (pv 5)) (pam_nil))) rfl)) (psm_cons (psm_set (i := 7) sc_law.nd rfl (Or.inl rfl) (pem_callTy call_list_of rfl T.b_list (by rfl) g_lstC (pam_cons (pem_var 4 (pv 4)) (pam_nil)))) (psm_cons (psm_if (ptm_cmp (o_eq (hu200 hr)) g_eq (pem_callD D__law_next hct hr tk rfl (pam_cons (pem_var 3 (pv 3)) (pam_cons (pem_int) (pam_nil))) rfl) (pem_int) (nomark _)) (psm_one (psm_set (i := 7) sc_law.nd rfl (Or.inl rfl) (pem_callTy call_tuple_of rfl T.b_tuple (by rfl) g_tupC (pam_cons (pem_var 4 (pv 4)) (pam_nil))))) (psm_nil)) (psm_cons (psm_set (i := 8) sc_law.nd rfl (Or.inl rfl) (pem_callD D__law_renamed_due hct hr tk rfl (pam_cons (pem_var 2 (pv 2)) (pam_cons (pem_var 4 (pv 4)) (pam_nil))) rfl)) (psm_cons (psm_if (ptm_not (ptm_val (pem_callD D__law_same hct hr tk rfl (pam_cons (pem_callK D_renamed hct hr rfl (pem_var 6 (pv 6)) (pem_var 7 (pv 7))) (pam_cons (pem_var 8 (pv 8)) (pam_nil))) rfl))) (psm_one (psm_ret (pem_bl))) (psm_nil)) (psm_cons (psm_if (PW.pt (pwm_or (ptm_cmp (o_ne (hu200 hr)) g_ne (pem_var 6 (pv 6)) (pem_callD D__law_listed hct hr tk rfl (pam_cons (pem_var 2 (pv 2)) (pam_cons (pem_var 5 (pv 5)) (pam_nil))) rfl) (nomark _)) (pwm_or1 (ptm_cmp (o_ne (hu200 hr)) g_ne (pem_callTy call_list_of rfl T.b_list (by rfl) g_lstC (pam_cons (pem_var 7 (pv 7)) (pam_nil))) (pem_var 4 (pv 4)) (nomark _))))) (psm_one (psm_ret (pem_bl))) (psm_nil)) (psm_cons (psm_if (ptm_not (ptm_val (pem_callD D__law_same hct hr tk rfl (pam_cons (pem_callK0 D_renamed hct hr tk rfl (pem_var 2 (pv 2))) (pam_cons (pem_callD D__law_renamed_due hct hr tk rfl (pam_cons (pem_var 2 (pv 2)) (pam_cons (pem_lst (pam_nil)) (pam_nil))) rfl) (pam_nil))) rfl))) (psm_one (psm_ret (pem_bl))) (psm_nil)) (psm_cons (psm_if (ptm_not (ptm_val (pem_callD D__law_same hct hr tk rfl (pam_cons (pem_callK D_renamed hct hr rfl (pem_var 6 (pv 6)) (pem_var 4 (pv 4))) (pam_cons (pem_var 8 (pv 8)) (pam_nil))) rfl))) (psm_one (psm_ret (pem_bl))) (psm_nil)) (psm_cons (psm_set (i := 9) sc_law.nd rfl (Or.inl rfl) (pem_callTy call_list_of rfl T.b_list (by rfl) g_lstC (pam_cons (pem_ix (pem_var 1 (pv 1)) (pem_int)) (pam_nil)))) (psm_cons (psm_if (ptm_not (ptm_val (pem_callD D__law_same hct hr tk rfl (pam_cons (pem_callK D_renamed hct hr rfl (pem_var 8 (pv 8)) (pem_var 9 (pv 9))) (pam_cons (pem_callD D__law_renamed_due hct hr tk rfl (pam_cons (pem_var 8 (pv 8)) (pam_cons (pem_var 9 (pv 9)) (pam_nil))) rfl) (pam_nil))) rfl))) (psm_one (psm_ret (pem_bl))) (psm_nil)) (psm_one (psm_ret (pem_cmp (o_eq (hu200 hr)) g_eq (pem_var 9 (pv 9)) (pem_ix (pem_var 1 (pv 1)) (pem_int)) (nomark _)))))))))))))))))))
end
end K03

namespace K03
open PySem PySem.Spec PyProof.Rows L2 ML
@[simp] theorem lit0 : Str.ofString "heardsaid.freezing" = S [104, 101, 97, 114, 100, 115, 97, 105, 100, 46, 102, 114, 101, 101, 122, 105, 110, 103] := by decide +kernel
@[simp] theorem lit1 : Str.ofString "heardsaid.blocks" = S [104, 101, 97, 114, 100, 115, 97, 105, 100, 46, 98, 108, 111, 99, 107, 115] := by decide +kernel
@[simp] theorem lit2 : Str.ofString "heardsaid.renaming" = S [104, 101, 97, 114, 100, 115, 97, 105, 100, 46, 114, 101, 110, 97, 109, 105, 110, 103] := by decide +kernel
@[simp] theorem lit3 : Str.ofString "law_heardsaid_k03_renamed_apart" = S [108, 97, 119, 95, 104, 101, 97, 114, 100, 115, 97, 105, 100, 95, 107, 48, 51, 95, 114, 101, 110, 97, 109, 101, 100, 95, 97, 112, 97, 114, 116] := by decide +kernel
@[simp] theorem lit4 : Str.ofString "skip" = S [115, 107, 105, 112] := by decide +kernel
@[simp] theorem lit5 : Str.ofString "quit" = S [113, 117, 105, 116] := by decide +kernel
@[simp] theorem lit6 : Str.ofString "number" = S [110, 117, 109, 98, 101, 114] := by decide +kernel
@[simp] theorem lit7 : Str.ofString "get" = S [103, 101, 116] := by decide +kernel
@[simp] theorem lit8 : Str.ofString "hole" = S [104, 111, 108, 101] := by decide +kernel
@[simp] theorem lit9 : Str.ofString "set" = S [115, 101, 116] := by decide +kernel
@[simp] theorem lit10 : Str.ofString "call" = S [99, 97, 108, 108] := by decide +kernel
@[simp] theorem lit11 : Str.ofString "" = S [] := by decide +kernel
@[simp] theorem lit12 : Str.ofString "new" = S [110, 101, 119] := by decide +kernel
@[simp] theorem lit13 : Str.ofString "let" = S [108, 101, 116] := by decide +kernel
@[simp] theorem lit14 : Str.ofString "if" = S [105, 102] := by decide +kernel
@[simp] theorem lit15 : Str.ofString "then" = S [116, 104, 101, 110] := by decide +kernel
@[simp] theorem lit16 : Str.ofString "else" = S [101, 108, 115, 101] := by decide +kernel
@[simp] theorem lit17 : Str.ofString "fi" = S [102, 105] := by decide +kernel
@[simp] theorem lit18 : Str.ofString "while" = S [119, 104, 105, 108, 101] := by decide +kernel
@[simp] theorem lit19 : Str.ofString "do" = S [100, 111] := by decide +kernel
@[simp] theorem lit20 : Str.ofString "od" = S [111, 100] := by decide +kernel
@[simp] theorem lit21 : Str.ofString "in" = S [105, 110] := by decide +kernel
@[simp] theorem lit22 : Str.ofString "end" = S [101, 110, 100] := by decide +kernel
@[simp] theorem lit23 : Str.ofString "be" = S [98, 101] := by decide +kernel
@[simp] theorem lit24 : Str.ofString "n0" = S [110, 48] := by decide +kernel
@[simp] theorem lit25 : Str.ofString "n1" = S [110, 49] := by decide +kernel
@[simp] theorem lit26 : Str.ofString "n2" = S [110, 50] := by decide +kernel
@[simp] theorem lit27 : Str.ofString "n3" = S [110, 51] := by decide +kernel
@[simp] theorem lit28 : Str.ofString "n10" = S [110, 49, 48] := by decide +kernel
@[simp] theorem lit29 : Str.ofString "n01" = S [110, 48, 49] := by decide +kernel
@[simp] theorem lit30 : Str.ofString "n" = S [110] := by decide +kernel
@[simp] theorem lit31 : Str.ofString "x" = S [120] := by decide +kernel
@[simp] theorem lit32 : Str.ofString "iff" = S [105, 102, 102] := by decide +kernel
@[simp] theorem lit33 : Str.ofString "do1" = S [100, 111, 49] := by decide +kernel
@[simp] theorem lit34 : Str.ofString "inner" = S [105, 110, 110, 101, 114] := by decide +kernel
@[simp] theorem lit35 : Str.ofString "new2" = S [110, 101, 119, 50] := by decide +kernel
@[simp] theorem lit36 : Str.ofString "lets" = S [108, 101, 116, 115] := by decide +kernel
@[simp] theorem lit37 : Str.ofString "number1" = S [110, 117, 109, 98, 101, 114, 49] := by decide +kernel
@[simp] theorem lit38 : Str.ofString "command" = S [99, 111, 109, 109, 97, 110, 100] := by decide +kernel
@[simp] theorem lit39 : Str.ofString "commands" = S [99, 111, 109, 109, 97, 110, 100, 115] := by decide +kernel
@[simp] theorem lit40 : Str.ofString "p" = S [112] := by decide +kernel
@[simp] theorem lit41 : Str.ofString "0" = S [48] := by decide +kernel
@[simp] theorem lit42 : Str.ofString "abcdefghijklmnopqrstuvwxyz0123456789" = S [97, 98, 99, 100, 101, 102, 103, 104, 105, 106, 107, 108, 109, 110, 111, 112, 113, 114, 115, 116, 117, 118, 119, 120, 121, 122, 48, 49, 50, 51, 52, 53, 54, 55, 56, 57] := by decide +kernel
@[simp] theorem lit43 : Str.ofString "cell" = S [99, 101, 108, 108] := by decide +kernel
@[simp] theorem lit44 : Str.ofString "plus" = S [112, 108, 117, 115] := by decide +kernel
@[simp] theorem lit45 : Str.ofString "equal" = S [101, 113, 117, 97, 108] := by decide +kernel
@[simp] theorem lit46 : Str.ofString "less" = S [108, 101, 115, 115] := by decide +kernel
@[simp] theorem in_w_LEAVES (neg : Bool) (x : List Nat) : gIn neg (.str (S x)) w_LEAVES = some (.val, .bl (if neg then !decide (x ∈ ([[115, 107, 105, 112], [113, 117, 105, 116], [110, 117, 109, 98, 101, 114], [103, 101, 116], [104, 111, 108, 101]] : List (List Nat))) else decide (x ∈ ([[115, 107, 105, 112], [113, 117, 105, 116], [110, 117, 109, 98, 101, 114], [103, 101, 116], [104, 111, 108, 101]] : List (List Nat))))) := in_ST neg x _ _ (by simp) (by simp)
@[simp] theorem in_w_USES_blocks (neg : Bool) (x : List Nat) : gIn neg (.str (S x)) w_USES_blocks = some (.val, .bl (if neg then !decide (x ∈ ([[103, 101, 116], [115, 101, 116], [99, 97, 108, 108]] : List (List Nat))) else decide (x ∈ ([[103, 101, 116], [115, 101, 116], [99, 97, 108, 108]] : List (List Nat))))) := in_ST neg x _ _ (by simp) (by simp)
@[simp] theorem in_w_USES_renaming (neg : Bool) (x : List Nat) : gIn neg (.str (S x)) w_USES_renaming = some (.val, .bl (if neg then !decide (x ∈ ([[103, 101, 116], [115, 101, 116], [99, 97, 108, 108]] : List (List Nat))) else decide (x ∈ ([[103, 101, 116], [115, 101, 116], [99, 97, 108, 108]] : List (List Nat))))) := in_ST neg x _ _ (by simp) (by simp)
@[simp] theorem in_t1 (neg : Bool) (x a0 : List Nat) : gIn neg (.str (S x)) (.tup [.str (S a0)]) = some (.val, .bl (if neg then !decide (x ∈ [a0]) else decide (x ∈ [a0]))) := in_ST neg x [a0] _ rfl (by simp)
@[simp] theorem in_t2 (neg : Bool) (x a0 a1 : List Nat) : gIn neg (.str (S x)) (.tup [.str (S a0), .str (S a1)]) = some (.val, .bl (if neg then !decide (x ∈ [a0, a1]) else decide (x ∈ [a0, a1]))) := in_ST neg x [a0, a1] _ rfl (by simp)
@[simp] theorem in_t3 (neg : Bool) (x a0 a1 a2 : List Nat) : gIn neg (.str (S x)) (.tup [.str (S a0), .str (S a1), .str (S a2)]) = some (.val, .bl (if neg then !decide (x ∈ [a0, a1, a2]) else decide (x ∈ [a0, a1, a2]))) := in_ST neg x [a0, a1, a2] _ rfl (by simp)
@[simp] theorem in_t4 (neg : Bool) (x a0 a1 a2 a3 : List Nat) : gIn neg (.str (S x)) (.tup [.str (S a0), .str (S a1), .str (S a2), .str (S a3)]) = some (.val, .bl (if neg then !decide (x ∈ [a0, a1, a2, a3]) else decide (x ∈ [a0, a1, a2, a3]))) := in_ST neg x [a0, a1, a2, a3] _ rfl (by simp)
@[simp] theorem in_t5 (neg : Bool) (x a0 a1 a2 a3 a4 : List Nat) : gIn neg (.str (S x)) (.tup [.str (S a0), .str (S a1), .str (S a2), .str (S a3), .str (S a4)]) = some (.val, .bl (if neg then !decide (x ∈ [a0, a1, a2, a3, a4]) else decide (x ∈ [a0, a1, a2, a3, a4]))) := in_ST neg x [a0, a1, a2, a3, a4] _ rfl (by simp)
@[simp] theorem in_t6 (neg : Bool) (x a0 a1 a2 a3 a4 a5 : List Nat) : gIn neg (.str (S x)) (.tup [.str (S a0), .str (S a1), .str (S a2), .str (S a3), .str (S a4), .str (S a5)]) = some (.val, .bl (if neg then !decide (x ∈ [a0, a1, a2, a3, a4, a5]) else decide (x ∈ [a0, a1, a2, a3, a4, a5]))) := in_ST neg x [a0, a1, a2, a3, a4, a5] _ rfl (by simp)
@[simp] theorem in_t7 (neg : Bool) (x a0 a1 a2 a3 a4 a5 a6 : List Nat) : gIn neg (.str (S x)) (.tup [.str (S a0), .str (S a1), .str (S a2), .str (S a3), .str (S a4), .str (S a5), .str (S a6)]) = some (.val, .bl (if neg then !decide (x ∈ [a0, a1, a2, a3, a4, a5, a6]) else decide (x ∈ [a0, a1, a2, a3, a4, a5, a6]))) := in_ST neg x [a0, a1, a2, a3, a4, a5, a6] _ rfl (by simp)
@[simp] theorem in_t8 (neg : Bool) (x a0 a1 a2 a3 a4 a5 a6 a7 : List Nat) : gIn neg (.str (S x)) (.tup [.str (S a0), .str (S a1), .str (S a2), .str (S a3), .str (S a4), .str (S a5), .str (S a6), .str (S a7)]) = some (.val, .bl (if neg then !decide (x ∈ [a0, a1, a2, a3, a4, a5, a6, a7]) else decide (x ∈ [a0, a1, a2, a3, a4, a5, a6, a7]))) := in_ST neg x [a0, a1, a2, a3, a4, a5, a6, a7] _ rfl (by simp)
end K03

namespace K03
open PySem PySem.Spec PyProof.Rows L2 ML
abbrev A : Type := List Nat
@[simp] theorem line0 : (0 ≤ sizeLine) = True := by simp
@[simp] theorem line1 : (1 ≤ sizeLine) = True := by simp [line_is]
@[simp] theorem line2 : (2 ≤ sizeLine) = True := by simp [line_is]
@[simp] theorem line3 : (3 ≤ sizeLine) = True := by simp [line_is]
@[simp] theorem line4 : (4 ≤ sizeLine) = True := by simp [line_is]
theorem l1 : (1 ≤ sizeLine) = True := by simp [line_is]
theorem l2 : (2 ≤ sizeLine) = True := by simp [line_is]
theorem l3 : (3 ≤ sizeLine) = True := by simp [line_is]
theorem l4 : (4 ≤ sizeLine) = True := by simp [line_is]
@[simp] theorem ev_neg (f : Rho → R (Md × W)) (ρ : Rho) : mNeg f ρ = (f ρ).bind fun x ρ1 => (match x.1, x.2 with
  | .val, .int i => .ok (.val, .int (-i)) ρ1
  | _, _ => .stk) := rfl
theorem all2_ints (n : Nat) : All2 (fun (w : W) (z : Nat) => w = .int z ∧ z < n) (intsW 0 n) (List.range n) := by
  have : ∀ l : List Nat, (∀ x ∈ l, x < n) → All2 (fun (w : W) (z : Nat) => w = .int z ∧ z < n) (l.map fun i => W.int (0 + (i : Nat))) l := by
    intro l
    induction l with
    | nil => exact fun _ => .nil
    | cons x l ihl => exact fun h => .cons ⟨by simp, h x (List.mem_cons_self ..)⟩ (ihl fun y hy => h y (List.mem_cons_of_mem _ hy))
  exact this _ fun x hx => List.mem_range.mp hx
theorem all2_rng (n : Nat) : All2 (fun (w : W) (z : Nat) => w = .int z ∧ z < n) (intsW 0 n) (List.range' 0 n) := by
  have := all2_ints n
  rwa [List.range_eq_range'] at this
theorem all2_w (ns : List Int) : All2 (fun (w : W) (n : Int) => w = .int n) (ns.map W.int) ns := by
  induction ns with
  | nil => exact .nil
  | cons y l ih => exact .cons rfl ih
theorem cell_ok (ns : List Int) (k : Nat) : ∃ v, fun__law_cell [.frl (ns.map W.int), .int k] = .ok false (.int v) [] := by
  by_cases hk : k < ns.length
  · have e : atI (ns.map W.int) (k : Int) = some (.int ns[k]) := by
      rw [ML.atI_nat, List.getElem?_map, List.getElem?_eq_getElem hk]
      rfl
    refine ⟨ns[k], ?_⟩
    unfold fun__law_cell body__law_cell
    simp -implicitDefEqProofs [ev_var, hk, e]
  · have e0 : gSet [] 3 = fun w ρ => some (ρ.set 3 (.val w)) := gset_is (by simp)
    obtain ⟨ρ1, e1, sd, s, rfl, b0, b1⟩ := for_inv (i := 3) (g := mSet [] 2 (mOp gMod (mCB gInt [mOp gAdd (mOp gMul (mVar 2) (mC (.int 31))) (mOp gMod (mCB gInt [mVar 3]) (mC (.int 1000003)))]) (mC (.int 1000003))))
      (ρ := [Sl.val (.frl (ns.map W.int)), Sl.val (.int k), Sl.val (.int 17), Sl.no])
      (P := fun zs ρ => ∃ (sd : Int) (s : Sl), ρ = [Sl.val (.frl (ns.map W.int)), Sl.val (.int k), Sl.val (.int sd), s] ∧ 0 ≤ sd ∧ sd < 1000003) (.inr trivial) (all2_w ns) (fun a z zs' ρ q ⟨sd, s, er, b0, b1⟩ => by
        subst er q
        have hm : okMul sd 31 = true := by simp [okMul]
        exact ⟨[Sl.val (.frl (ns.map W.int)), Sl.val (.int k), Sl.val (.int ((sd * 31 + z % 1000003) % 1000003)), Sl.val (.int z)], by simp -implicitDefEqProofs [ev_var, ev_own, ev_mod, hm], _, _, rfl, Int.emod_nonneg _ (by omega), Int.emod_lt_of_pos _ (by omega)⟩) ⟨17, Sl.no, rfl, by omega, by omega⟩
    have hm : ∀ a, okMul a 69621 = true := fun a => by simp [okMul]
    have hb : okMul (sd + 7) ((k : Int) + 3) = true := by
      have h1 : (-(2 ^ 64 : Int)) < sd + 7 := by omega
      have h2 : sd + 7 < (2 ^ 64 : Int) := by omega
      unfold okMul
      rw [decide_eq_true h1, decide_eq_true h2]
      rfl
    refine ⟨(sd + 7) * ((k : Int) + 3) * 69621 % 2147483647, ?_⟩
    unfold fun__law_cell body__law_cell
    simp -implicitDefEqProofs [ev_var, hk, e0, e1, ev_mod, hm, hb]
theorem pow18 : gPow (.int 10) (.int 18) = some (.val, .int (10 ^ 18)) := rfl
def bdD : Rho → ML.R Fl := mSeq (mSet [] 5 (mOp gMod (mCB gInt [mOp gAdd (mOp gAdd (mOp gMul (mVar 5) (mC (.int 48271))) (mOp gMul (mC (.int 974711)) (mVar 6))) (mC (.int 12345))]) (mC (.int 2147483647)))) (mSeq (mSet [] 7 (mOp gMod (mCB gInt [mOp gMul (mVar 5) (mOp gAdd (mOp gFdiv (mVar 5) (mC (.int 65537))) (mC (.int 3)))]) (mC (.int 2147483629)))) (mIf (mAnd (mTest (mVar 4)) (mTest (mOp (gCmp (fun i j => decide (j < i))) (mVar 3) (mC (.int 0))))) (mSeq (mDrop (mAppend 2 [] (mOp gMod (mCB gInt [mVar 3]) (mOp gIx (mVar 1) (mVar 6))))) (mSet [] 3 (mOp gFdiv (mCB gInt [mVar 3]) (mOp gIx (mVar 1) (mVar 6))))) (mDrop (mAppend 2 [] (mOp gMod (mCB gInt [mOp gFdiv (mVar 7) (mC (.int 19))]) (mOp gIx (mVar 1) (mVar 6)))))))
def frD (c : Int) (szs row : List W) (rest : Int) (g : Bool) (sd : Int) (s6 s7 : Sl) : Rho := [Sl.val (.int c), Sl.val (.lst szs), Sl.own (.lst row), Sl.val (.int rest), Sl.val (.bl g), Sl.val (.int sd), s6, s7]
theorem bd_ok {c rest sd z k : Int} {szs row : List W} {g : Bool} {s7 : Sl} (hz : atI szs k = some (.int z)) (z0 : 0 < z) (z1 : z < 1073741824) (hl : row.length ≤ 2000) : ∃ d rest' sd' s7', bdD (frD c szs row rest g sd (Sl.val (.int k)) s7) = .ok .nx (frD c szs (row ++ [.int d]) rest' g sd' (Sl.val (.int k)) s7') ∧ 0 ≤ d ∧ d < z := by
  have hsz : row.length < sizeLine := by rw [line_is]; omega
  have m1 : okMul sd 48271 = true := by simp [okMul]
  have m2 : okMul 974711 k = true := by simp [okMul]
  obtain ⟨sd', hsd⟩ : ∃ sd' : Int, sd' = (sd * 48271 + 974711 * k + 12345) % 2147483647 := ⟨_, rfl⟩
  have b0 : 0 ≤ sd' := by rw [hsd]; exact Int.emod_nonneg _ (by omega)
  have b1 : sd' < 2147483647 := by rw [hsd]; exact Int.emod_lt_of_pos _ (by omega)
  have m3 : okMul sd' (sd' / 65537 + 3) = true := by
    have h1 : (-(2 ^ 64 : Int)) < sd' := by omega
    have h2 : sd' < (2 ^ 64 : Int) := by omega
    unfold okMul
    rw [decide_eq_true h1, decide_eq_true h2]
    rfl
  obtain ⟨tw, htw⟩ : ∃ tw : Int, tw = sd' * (sd' / 65537 + 3) % 2147483629 := ⟨_, rfl⟩
  have s1 : mSet [] 5 (mOp gMod (mCB gInt [mOp gAdd (mOp gAdd (mOp gMul (mVar 5) (mC (.int 48271))) (mOp gMul (mC (.int 974711)) (mVar 6))) (mC (.int 12345))]) (mC (.int 2147483647))) (frD c szs row rest g sd (Sl.val (.int k)) s7) = .ok .nx (frD c szs row rest g sd' (Sl.val (.int k)) s7) := by
    unfold frD
    rw [hsd]
    simp -implicitDefEqProofs [ev_var, ev_own, ev_mod, m1, m2]
  have s2 : mSet [] 7 (mOp gMod (mCB gInt [mOp gMul (mVar 5) (mOp gAdd (mOp gFdiv (mVar 5) (mC (.int 65537))) (mC (.int 3)))]) (mC (.int 2147483629))) (frD c szs row rest g sd' (Sl.val (.int k)) s7) = .ok .nx (frD c szs row rest g sd' (Sl.val (.int k)) (Sl.val (.int tw))) := by
    unfold frD
    rw [htw]
    simp -implicitDefEqProofs [ev_var, ev_own, ev_mod, ev_div, m3]
  unfold bdD
  rw [ev_seq, s1, ev_tn, ev_seq, s2, ev_tn]
  by_cases hg : g = true ∧ 0 < rest
  · obtain ⟨rfl, h0⟩ := hg
    refine ⟨rest % z, rest / z, sd', Sl.val (.int tw), ?_, Int.emod_nonneg _ (by omega), Int.emod_lt_of_pos _ z0⟩
    unfold frD
    simp -implicitDefEqProofs [ev_var, ev_own, ev_mod, ev_div, hz, z0, z1, h0, hsz]
  · refine ⟨tw / 19 % z, rest, sd', Sl.val (.int tw), ?_, Int.emod_nonneg _ (by omega), Int.emod_lt_of_pos _ z0⟩
    unfold frD
    cases g with
    | false => simp -implicitDefEqProofs [ev_var, ev_own, ev_mod, ev_div, hz, z0, hsz]
    | true =>
      have h0 : ¬ 0 < rest := fun h => hg ⟨rfl, h⟩
      simp -implicitDefEqProofs [ev_var, ev_own, ev_mod, ev_div, hz, z0, hsz, h0]
theorem digits_ok (c : Int) (szs : List Int) (hl : szs.length ≤ 1000) (hs : ∀ z ∈ szs, 0 < z ∧ z < 1073741824) : ∃ ds : List Int, fun__law_digits [.int c, .lst (szs.map W.int)] = .ok true (.lst (ds.map W.int)) [] ∧ ds.length = szs.length ∧ ∀ (i : Nat) (d : Int), ds[i]? = some d → ∃ z, szs[i]? = some z ∧ 0 ≤ d ∧ d < z := by
  have e0 : gSet [] 6 = fun w ρ => some (ρ.set 6 (.val w)) := gset_is (by simp)
  have hok : okR (szs.length : Int) = true := by
    unfold okR
    simp
    omega
  have key : ∀ (rest : Int) (g : Bool) (sd : Int), ∃ (ds : List Int) (rest' sd' : Int) (s6 s7 : Sl), forL (fun w ρ => some (ρ.set 6 (.val w))) bdD (intsW 0 szs.length) (frD c (szs.map W.int) [] rest g sd Sl.no Sl.no) = .ok .nx (frD c (szs.map W.int) (ds.map W.int) rest' g sd' s6 s7) ∧ ds.length = szs.length ∧ ∀ (i : Nat) (d : Int), ds[i]? = some d → ∃ z, szs[i]? = some z ∧ 0 ≤ d ∧ d < z := by
    intro rest g sd
    obtain ⟨ρ1, e1, ds, rest', sd', s6, s7, rfl, h1, _, h2⟩ := for_inv (i := 6) (g := bdD) (ρ := frD c (szs.map W.int) [] rest g sd Sl.no Sl.no)
      (P := fun zs ρ => ∃ (ds : List Int) (rest' sd' : Int) (s6 s7 : Sl), ρ = frD c (szs.map W.int) (ds.map W.int) rest' g sd' s6 s7 ∧ ds.length + zs.length = szs.length ∧ zs = List.range' ds.length zs.length ∧ ∀ (i : Nat) (d : Int), ds[i]? = some d → ∃ z, szs[i]? = some z ∧ 0 ≤ d ∧ d < z) (.inr trivial) (all2_rng szs.length) (fun a k zs' ρ q ⟨ds, rest', sd', s6, s7, er, h1, hr, h2⟩ => by
        subst er
        obtain ⟨rfl, hk⟩ := q
        rw [List.length_cons, List.range'_succ] at hr
        obtain ⟨hkd, hr2⟩ := List.cons.inj hr
        have hz : atI (szs.map W.int) (k : Int) = some (.int szs[k]) := by
          rw [ML.atI_nat, List.getElem?_map, List.getElem?_eq_getElem hk]
          rfl
        obtain ⟨z0, z1⟩ := hs szs[k] (List.getElem_mem hk)
        obtain ⟨d, r2, sd2, s72, f1, f2, f3⟩ := bd_ok (c := c) (rest := rest') (sd := sd') (g := g) (s7 := s7) (row := ds.map W.int) hz z0 z1 (by simp at h1 ⊢; omega)
        refine ⟨_, f1, ds ++ [d], r2, sd2, Sl.val (.int (k : Int)), s72, by simp, by simp at h1 ⊢; omega, by rw [List.length_append]; exact hr2, fun i y hy => ?_⟩
        by_cases hi : i < ds.length
        · rw [List.getElem?_append_left hi] at hy
          exact h2 i y hy
        · have hi2 : i < (ds ++ [d]).length := (List.getElem?_eq_some_iff.mp hy).1
          have e : i = ds.length := by simp at hi2; omega
          subst e
          rw [List.getElem?_append_right (Nat.le_refl _), Nat.sub_self] at hy
          cases hy
          exact ⟨szs[k], by rw [← hkd]; exact List.getElem?_eq_getElem hk, f2, f3⟩) ⟨[], rest, sd, Sl.no, Sl.no, rfl, by simp, by simp, fun i d h => by simp at h⟩
    exact ⟨ds, rest', sd', s6, s7, e1, by simpa using h1, h2⟩
  have l0 : ([] : List W).length ≤ sizeLine := by simp
  by_cases hg : (10 ^ 18 : Int) ≤ c
  · obtain ⟨ds, rest', sd', s6, s7, e1, h1, h2⟩ := key (c - 10 ^ 18) true (c % 2147483629)
    refine ⟨ds, ?_, h1, h2⟩
    unfold bdD frD at e1
    have hg' : (1000000000000000000 : Int) ≤ c := hg
    unfold fun__law_digits body__law_digits
    simp at e1
    simp -implicitDefEqProofs [ev_var, ev_own, ev_mod, pow18, hg', e0, hok, e1]
  · obtain ⟨ds, rest', sd', s6, s7, e1, h1, h2⟩ := key c false (c % 2147483629)
    refine ⟨ds, ?_, h1, h2⟩
    unfold bdD frD at e1
    have hg' : ¬ (1000000000000000000 : Int) ≤ c := hg
    unfold fun__law_digits body__law_digits
    try simp at e1
    simp -implicitDefEqProofs [ev_var, ev_own, ev_mod, pow18, hg', e0, hok, e1]
end K03

namespace K03
open PySem PySem.Spec PyProof.Rows L2 ML
/-! ### names, values, drawing -/
def kd (b : Bool) : A := if b then [110, 117, 109, 98, 101, 114] else [99, 111, 109, 109, 97, 110, 100]
def prmW (x : A × Bool) : W := .tup [.str (S x.1), .str (S (kd x.2))]
def lowC (c : Nat) : Bool := decide (97 ≤ c) && decide (c ≤ 122)
def digC (c : Nat) : Bool := decide (48 ≤ c) && decide (c ≤ 57)
def resv : List A := [[115, 107, 105, 112], [113, 117, 105, 116], [105, 102], [116, 104, 101, 110], [101, 108, 115, 101], [102, 105], [119, 104, 105, 108, 101], [100, 111], [111, 100], [110, 101, 119], [105, 110], [101, 110, 100], [108, 101, 116], [98, 101], [99, 111, 109, 109, 97, 110, 100], [110, 117, 109, 98, 101, 114]]
structure IsName (x : A) : Prop where
  pos : 1 ≤ x.length
  len : x.length ≤ 8
  nres : x ∉ resv
  hd : ∃ c r, x = c :: r ∧ lowC c = true
  all : ∀ c ∈ x, lowC c = true ∨ digC c = true
abbrev tW (x : A) : W := .str (S x)
/-! ### nested values: v is w, some tuples made lists -/
def Lsd : Nat → W → W → Prop
  | 0, _, _ => False
  | d + 1, v, w => (∃ i, v = .int i ∧ w = .int i) ∨ (∃ s, v = .str s ∧ w = .str s ∧ PyData.strOk s = true) ∨ ∃ vs ws, (v = .tup vs ∨ v = .lst vs) ∧ w = .tup ws ∧ vs.length ≤ 1000 ∧ All2 (Lsd d) vs ws
theorem Lsd.mono : ∀ {d : Nat} {v w : W}, Lsd d v w → Lsd (d + 1) v w
  | 0, _, _, h => h.elim
  | d + 1, v, w, h => by
    rcases h with h | h | ⟨vs, ws, h1, h2, h3, h4⟩
    · exact .inl h
    · exact .inr (.inl h)
    · exact .inr (.inr ⟨vs, ws, h1, h2, h3, h4.imp fun a b h => Lsd.mono h⟩)
theorem Lsd.up {d e : Nat} {v w : W} (h : Lsd d v w) (l : d ≤ e) : Lsd e v w := by
  induction l with
  | refl => exact h
  | step _ ih => exact ih.mono
theorem toD_ok : ∀ {d : Nat} {v w : W}, Lsd d v w → ∃ x, toD v = some x ∧ x.canLay0 = true ∧ x.depth ≤ d
  | 0, _, _, h => h.elim
  | d + 1, v, w, h => by
    rcases h with ⟨i, rfl, rfl⟩ | ⟨s, rfl, rfl, hs⟩ | ⟨vs, ws, h1, rfl, h3, h4⟩
    · exact ⟨.int i, rfl, by simp [PyData.canLay0], by simp [PyData.depth]⟩
    · exact ⟨.str s, rfl, by simp [PyData.canLay0, hs], by simp [PyData.depth]⟩
    · have q : ∃ xs, toDL vs = some xs ∧ PyData.canLayAll0 xs = true ∧ PyData.depthAll xs ≤ d := by
        clear h1 h3
        induction h4 with
        | nil => exact ⟨[], rfl, by simp [PyData.canLayAll0], by simp [PyData.depthAll]⟩
        | cons h _ ih =>
          obtain ⟨x, e1, e2, e3⟩ := toD_ok h
          obtain ⟨xs, f1, f2, f3⟩ := ih
          exact ⟨x :: xs, by simp [toDL, e1, f1], by simp [PyData.canLayAll0, e2, f2], by simp [PyData.depthAll]; omega⟩
      obtain ⟨xs, f1, f2, f3⟩ := q
      rcases h1 with rfl | rfl
      · exact ⟨.tuple xs, by simp [toD, f1], by simp [PyData.canLay0, f2], by simp [PyData.depth]; omega⟩
      · exact ⟨.list xs, by simp [toD, f1], by simp [PyData.canLay0, f2], by simp [PyData.depth]; omega⟩
theorem ne_self {d : Nat} {v w : W} (h : Lsd d v w) (hd : d ≤ 150) : gNe v v = some (.val, .bl false) := by
  obtain ⟨x, e1, e2, e3⟩ := toD_ok h
  have e : eqW v v = some true := by
    unfold eqW
    split
    · simp
    · rw [e1]
      have := SeqAt.eqv_refl x e2
      have h5 : x.depth ≤ 150 := by omega
      simp [e2, this, h5]
  unfold gNe
  rw [e]
  rfl
theorem frozen_step {m : List W → FR} {d : Nat} {v w : W} (ih : ∀ {v w : W}, Lsd d v w → m [v] = .ok false w []) (h : Lsd (d + 1) v w) : fun_frozen m [v] = .ok false w [] := by
  unfold fun_frozen body_frozen
  rcases h with ⟨i, rfl, rfl⟩ | ⟨s, rfl, rfl, hs⟩ | ⟨vs, ws, h1, rfl, h3, h4⟩
  · simp -implicitDefEqProofs [ev_var, gIsi, tyN, isAny, isB]
  · simp -implicitDefEqProofs [ev_var, gIsi, tyN, isAny, isB]
  · obtain ⟨ρ1, e1, acc, s, rfl, ea, _⟩ := for_inv (i := 2) (g := mDrop (mAppend 1 [] (mCall [] [] m [mVar 2]))) (ρ := [Sl.val v, Sl.own (.lst []), Sl.no])
      (P := fun zs ρ => ∃ acc s, ρ = [Sl.val v, Sl.own (.lst acc), s] ∧ acc ++ zs = ws ∧ acc.length + zs.length ≤ 1000) (.inr trivial) h4 (fun a z zs' ρ q ⟨acc, s, er, ea, el⟩ => by
        subst er
        have h6 : acc.length < sizeLine := by rw [line_is]; simp at el; omega
        refine ⟨_, by simp -implicitDefEqProofs [ev_var, ev_own, ih q, h6], acc ++ [z], Sl.val a, rfl, by simp [← ea], by simp at el ⊢; omega⟩) ⟨[], Sl.no, rfl, rfl, by have := h4.len; simp; omega⟩
    simp at ea
    subst ea
    have e0 : gSet [] 2 = fun w ρ => some (ρ.set 2 (.val w)) := gset_is (by simp)
    rcases h1 with rfl | rfl
    · simp -implicitDefEqProofs [ev_var, gIsi, tyN, isAny, isB, e0, e1]
    · simp -implicitDefEqProofs [ev_var, gIsi, tyN, isAny, isB, e0, e1]
noncomputable def frF : Nat → List W → FR
  | 0 => fun _ => .stk
  | d + 1 => fun_frozen (frF d)
theorem frozen_ok : ∀ (d : Nat) {v w : W}, Lsd d v w → frF d [v] = .ok false w []
  | 0, _, _, h => h.elim
  | d + 1, _, _, h => frozen_step (fun h => frozen_ok d h) h
theorem listed_step {m : List W → FR} {d : Nat} {w : W} {i : Int} (ih : ∀ {w : W} {i : Int}, Lsd d w w → ∃ fr v, m [w, .int i] = .ok fr v [] ∧ Lsd d v w) (h : Lsd (d + 1) w w) : ∃ fr v, fun__law_listed m [w, .int i] = .ok fr v [] ∧ Lsd (d + 1) v w := by
  unfold fun__law_listed body__law_listed
  rcases h with ⟨j, rfl, _⟩ | ⟨s, rfl, _, hs⟩ | ⟨vs, ws, h1, rfl, h3, h4⟩
  · exact ⟨false, .int j, by simp -implicitDefEqProofs [ev_var, gIsi, tyN, isB], .inl ⟨j, rfl, rfl⟩⟩
  · exact ⟨false, .str s, by simp -implicitDefEqProofs [ev_var, gIsi, tyN, isB], .inr (.inl ⟨s, rfl, rfl, hs⟩)⟩
  · have h1' : vs = ws := by
      rcases h1 with h1 | h1
      · cases h1; rfl
      · cases h1
    subst h1'
    have q : ∃ zs, All2 (fun b z => ∃ fr, m [b, .int (i / 2 + 4 * (i % 2))] = .ok fr z []) vs zs ∧ All2 (Lsd d) zs vs := by
      have : ∀ l : List W, (∀ x ∈ l, Lsd d x x) → ∃ zs, All2 (fun b z => ∃ fr, m [b, .int (i / 2 + 4 * (i % 2))] = .ok fr z []) l zs ∧ All2 (Lsd d) zs l := by
        intro l
        induction l with
        | nil => exact fun _ => ⟨[], .nil, .nil⟩
        | cons x l ihl =>
          intro hx
          obtain ⟨fr, v, e1, e2⟩ := ih (i := i / 2 + 4 * (i % 2)) (hx x (List.mem_cons_self ..))
          obtain ⟨zs, f1, f2⟩ := ihl fun y hy => hx y (List.mem_cons_of_mem _ hy)
          exact ⟨v :: zs, .cons ⟨fr, e1⟩ f1, .cons e2 f2⟩
      refine this vs ?_
      clear h1 h3 this
      have : ∀ l : List W, All2 (Lsd d) l l → ∀ x ∈ l, Lsd d x x := by
        intro l
        induction l with
        | nil => exact fun _ x hx => nomatch hx
        | cons y l ihl =>
          intro h x hx
          cases h with
          | cons h1 h2 => cases hx with
            | head => exact h1
            | tail _ hx => exact ihl h2 x hx
      exact this vs h4
    obtain ⟨zs, q1, q2⟩ := q
    have hlen := q1.len
    have e : mLc [] (mItems [] (mVar 0)) (.nm 3) mYes (mCall [] [] m [mVar 3, mOp gAdd (mOp gFdiv (mVar 1) (mC (.int 2))) (mOp gMul (mC (.int 4)) (mOp gMod (mCB gInt [mVar 1]) (mC (.int 2))))]) [Sl.val (.tup vs), Sl.val (.int i), Sl.no, Sl.no] = .ok (.fre, .lst zs) [Sl.val (.tup vs), Sl.val (.int i), Sl.no, Sl.no] := by
      rw [ev_lc]
      simp -implicitDefEqProofs [ev_var, CT.ix]
      rw [comp2 (g := id) (zs := zs) (ρ := [Sl.val (.tup vs), Sl.val (.int i), Sl.no, Sl.no]) (fun w z q => by
        obtain ⟨fr, q⟩ := q
        have hm : okMul 4 (i % 2) = true := by
          unfold okMul
          simp
        cases fr <;> simp -implicitDefEqProofs [ev_var, ev_div, ev_mod, hm, q]) q1 (by rw [line_is]; simp; omega) rfl]
      simp
    by_cases hi : i % 2 = 1
    · refine ⟨true, .lst zs, by simp -implicitDefEqProofs [ev_var, gIsi, tyN, isB, e, ev_mod, hi], .inr (.inr ⟨zs, vs, .inr rfl, rfl, by omega, q2⟩)⟩
    · refine ⟨false, .tup zs, by simp -implicitDefEqProofs [ev_var, gIsi, tyN, isB, e, ev_mod, hi], .inr (.inr ⟨zs, vs, .inl rfl, rfl, by omega, q2⟩)⟩
noncomputable def liF : Nat → List W → FR
  | 0 => fun _ => .stk
  | d + 1 => fun__law_listed (liF d)
theorem listed_ok : ∀ (d : Nat) {w : W} {i : Int}, Lsd d w w → ∃ fr v, liF d [w, .int i] = .ok fr v [] ∧ Lsd d v w
  | 0, _, _, h => h.elim
  | d + 1, _, _, h => listed_step (fun h => listed_ok d h) h
theorem e_whole (i : Int) : fun__law_whole [.int i] = .ok false (.bl true) [] := by
  unfold fun__law_whole body__law_whole
  simp -implicitDefEqProofs [ev_var, gIsi, tyN, isB]
theorem same_step {m : List W → FR} {d : Nat} {w : W} (ih : ∀ {w : W}, Lsd d w w → m [w, w] = .ok false (.bl true) []) (h : Lsd (d + 1) w w) : fun__law_same m fun__law_whole [w, w] = .ok false (.bl true) [] := by
  unfold fun__law_same body__law_same
  rcases h with ⟨j, rfl, _⟩ | ⟨s, rfl, _, hs⟩ | ⟨vs, ws, h1, rfl, h3, h4⟩
  · simp -implicitDefEqProofs [ev_var, gIsi, tyN, isB, e_whole]
  · simp -implicitDefEqProofs [ev_var, gIsi, tyN, isB]
  · have h1' : vs = ws := by
      rcases h1 with h1 | h1
      · cases h1; rfl
      · cases h1
    subst h1'
    have hx : ∀ (l : List W), All2 (Lsd d) l l → ∀ x ∈ l, Lsd d x x := by
      intro l
      induction l with
      | nil => exact fun _ x hx => nomatch hx
      | cons y l ihl =>
        intro h x hx
        cases h with
        | cons h1 h2 => cases hx with
          | head => exact h1
          | tail _ hx => exact ihl h2 x hx
    have hq : All2 (fun (w : W) (z : Nat) => w = .int z ∧ z < vs.length) (intsW 0 vs.length) (List.range vs.length) := by
      have : ∀ l : List Nat, (∀ x ∈ l, x < vs.length) → All2 (fun (w : W) (z : Nat) => w = .int z ∧ z < vs.length) (l.map fun i => W.int (0 + (i : Nat))) l := by
        intro l
        induction l with
        | nil => exact fun _ => .nil
        | cons x l ihl => exact fun h => .cons ⟨by simp, h x (List.mem_cons_self ..)⟩ (ihl fun y hy => h y (List.mem_cons_of_mem _ hy))
      exact this _ fun x hx => List.mem_range.mp hx
    obtain ⟨ρ1, e1, s, rfl⟩ := for_inv (i := 2) (g := mIf (mNot (mTest (mCall [] [] m [mOp gIx (mVar 0) (mVar 2), mOp gIx (mVar 1) (mVar 2)]))) (mRet [] (mC (.bl false))) mNext) (ρ := [Sl.val (.tup vs), Sl.val (.tup vs), Sl.no])
      (P := fun zs ρ => ∃ s, ρ = [Sl.val (.tup vs), Sl.val (.tup vs), s]) (.inr trivial) hq (fun a z zs' ρ q ⟨s, er⟩ => by
        subst er
        obtain ⟨rfl, hz⟩ := q
        have e5 : vs[z]? = some vs[z] := List.getElem?_eq_getElem hz
        have e6 := ih (hx vs h4 vs[z] (List.getElem_mem hz))
        exact ⟨_, by simp -implicitDefEqProofs [ev_var, ML.atI_nat, e5, e6]; rfl, _, rfl⟩) ⟨Sl.no, rfl⟩
    have e0 : gSet [] 2 = fun w ρ => some (ρ.set 2 (.val w)) := gset_is (by simp)
    have e7 : okR (vs.length : Int) = true := by
      unfold okR
      simp
      omega
    simp -implicitDefEqProofs [ev_var, gIsi, tyN, isB, e0, e1, e7]
noncomputable def saF : Nat → List W → FR
  | 0 => fun _ => .stk
  | d + 1 => fun__law_same (saF d) fun__law_whole
theorem same_ok : ∀ (d : Nat) {w : W}, Lsd d w w → saF d [w, w] = .ok false (.bl true) []
  | 0, _, h => h.elim
  | d + 1, _, h => same_step (fun h => same_ok d h) h
theorem while_done {c : Rho → ML.R Bool} {g : Rho → ML.R Fl} {ρ ρ1 : Rho} (h : c ρ = .ok false ρ1) : mWhile c g ρ = .ok .nx ρ1 := mWhile_step (fun z => nomatch z) (by rw [h]; rfl)
theorem while_go {c : Rho → ML.R Bool} {g : Rho → ML.R Fl} {ρ ρ1 ρ2 ρ3 : Rho} (h : c ρ = .ok true ρ1) (h2 : g ρ1 = .ok .nx ρ2) (h3 : mWhile c g ρ2 = .ok .nx ρ3) : mWhile c g ρ = .ok .nx ρ3 := mWhile_step (fun z => nomatch z) (by rw [h, ev_bo, if_pos rfl, h2]; exact h3)
@[simp] theorem ev_aug (f : Int → Int → Int) (i : Nat) (I : List Nat) (fe : Rho → ML.R (Md × W)) (ρ : Rho) : mAugI f i I fe ρ = (match ρ[i]? with
  | some (.val (.int x)) => (fe ρ).bind fun b ρ1 => (match b.1, b.2 with
    | .val, .int y => if i ∈ I then .stk else .ok .nx (ρ1.set i (.val (.int (f x y))))
    | _, _ => .stk)
  | _ => .stk) := rfl
/-- a for with any ends -/
theorem for_run {α : Type} {tg : W → Rho → Option Rho} {g : Rho → R Fl} {Q : W → α → Prop} {P : List α → Rho → Prop} {Post : R Fl → Prop} (hn : ∀ ρ, P [] ρ → Post (.ok .nx ρ))
    (hs : ∀ w z zs ρ, Q w z → P (z :: zs) ρ → ∃ ρ0, tg w ρ = some ρ0 ∧ ((∃ ρ1, (g ρ0 = .ok .nx ρ1 ∨ g ρ0 = .ok .ct ρ1) ∧ P zs ρ1) ∨ (∃ ρ1, g ρ0 = .ok .bk ρ1 ∧ Post (.ok .nx ρ1)) ∨ (∃ m u ρ1, g ρ0 = .ok (.rt m u) ρ1 ∧ Post (.ok (.rt m u) ρ1)) ∨ (∃ c ns ws ρ1, g ρ0 = .exc c ns ws ρ1 ∧ Post (.exc c ns ws ρ1)))) :
    ∀ {ws : List W} {zs : List α} {ρ : Rho}, All2 Q ws zs → P zs ρ → Post (forL tg g ws ρ)
  | [], _, ρ, .nil, hp => hn ρ hp
  | w :: ws, z :: zs, ρ, .cons q qs, hp => by
    obtain ⟨ρ0, e0, h⟩ := hs w z zs ρ q hp
    rw [ev_forc, e0]
    show Post (loopF (g ρ0) (forL tg g ws))
    rcases h with ⟨ρ1, e, hp1⟩ | ⟨ρ1, e, hp1⟩ | ⟨m, u, ρ1, e, hp1⟩ | ⟨c, ns, vs, ρ1, e, hp1⟩
    · rcases e with e | e
      · rw [e, ev_lpn]; exact for_run hn hs qs hp1
      · rw [e, ev_lpc]; exact for_run hn hs qs hp1
    · rw [e, ev_lpb]; exact hp1
    · rw [e, ev_lpr]; exact hp1
    · rw [e]; exact hp1
theorem atL (l : List W) (x : W) : atI (l ++ [x]) (-1) = some x := by
  unfold atI ixN
  rw [if_neg (by omega), if_pos (by rw [List.length_append, List.length_singleton]; omega)]
  show (l ++ [x])[((l ++ [x]).length + (-1 : Int)).toNat]? = some x
  have e : ((l ++ [x]).length + (-1 : Int)).toNat = l.length := by rw [List.length_append, List.length_singleton]; omega
  rw [e, List.getElem?_append_right (Nat.le_refl _), Nat.sub_self]
  rfl
/-- a comprehension over one name -/
theorem lc_gen {α : Type} {I : List Nat} {it : Rho → ML.R (List W)} {i : Nat} {fe : Rho → ML.R (Md × W)} {g : α → W} {Q : W → α → Prop} {ws : List W} {zs : List α} {ρ : Rho} (hit : it ρ = .ok ws ρ) (hI : i ∉ I) (h : ∀ w z, Q w z → mEl I fe (ρ.set i (.val w)) = .ok (g z) (ρ.set i (.val w))) (qs : All2 Q ws zs) (hl : ws.length ≤ sizeLine) (hn : ρ.set i .no = ρ) :
    mLc I it (.nm i) mYes fe ρ = .ok (.fre, .lst (zs.map g)) ρ := by
  rw [ev_lc, hit, ev_bo]
  have e : CT.ix (.nm i) = [i] := rfl
  rw [e, if_pos (by simp [hI]), comp2 (g := g) (Q := Q) (ρ := ρ) h qs (by simpa using hl) hn]
  rfl
theorem okR_nat {n : Nat} (h : n ≤ 1000000) : okR (n : Int) = true := by
  unfold okR
  simp
  omega
theorem all2_len {n : Nat} : (intsW 0 n).length = n := by simp [intsW]
/-- [.. for k in range(n)] -/
theorem lc_rng {I : List Nat} {f : Rho → ML.R (Md × W)} {i n : Nat} {fe : Rho → ML.R (Md × W)} {g : Nat → W} {ρ : Rho} (hf : f ρ = .ok (.val, .int (n : Int)) ρ) (hI : i ∉ I) (hn : n ≤ 1000) (h : ∀ k : Nat, k < n → mEl I fe (ρ.set i (.val (.int (k : Int)))) = .ok (g k) (ρ.set i (.val (.int (k : Int))))) (hr : ρ.set i .no = ρ) :
    mLc I (mRange1 [f]) (.nm i) mYes fe ρ = .ok (.fre, .lst ((List.range n).map g)) ρ := by
  refine lc_gen (Q := fun (w : W) (z : Nat) => w = .int (z : Int) ∧ z < n) (ws := intsW 0 n) ?_ hI (fun w z q => by rw [q.1]; exact h z q.2) (all2_ints n) (by rw [all2_len, line_is]; omega) hr
  have ho := okR_nat (show n ≤ 1000000 by omega)
  simp -implicitDefEqProofs [ev_r1, hf, ho]

end K03

namespace K03
open PySem PySem.Spec PyProof.Rows L2 ML
/-! ### drawing -/
def IsR (w : W) : Prop := ∃ row p, w = .lst [.lst row, .int p] ∧ row.length = 210 ∧ ∀ x ∈ row, ∃ i, x = .int i
theorem e_next (row : List W) (p m d : Int) (hm : 0 < m) (hd : atI row (p % 210) = some (.int d)) :
    fun__law_next [.lst [.lst row, .int p], .int m] = .ok false (.int ((d + 13 * (p / 210)) % m)) [.lst [.lst row, .int (p+1)]] := by
  unfold fun__law_next body__law_next
  simp -implicitDefEqProofs [ev_var, ev_own, ev_mod, ev_div, hm, hd, okMul, ixN]
theorem next_ok {r : W} (h : IsR r) {m : Int} (hm : 0 < m) : ∃ v r', fun__law_next [r, .int m] = .ok false (.int v) [r'] ∧ 0 ≤ v ∧ v < m ∧ IsR r' := by
  obtain ⟨row, p, rfl, hl, hx⟩ := h
  have h0 : 0 ≤ p % 210 := Int.emod_nonneg _ (by omega)
  have h1 : p % 210 < 210 := Int.emod_lt_of_pos _ (by omega)
  obtain ⟨n, hn⟩ := Int.eq_ofNat_of_zero_le h0
  have hn2 : n < row.length := by omega
  obtain ⟨d, hd⟩ := hx row[n] (List.getElem_mem hn2)
  have e := e_next row p m d hm (by rw [hn, ML.atI_nat, List.getElem?_eq_getElem hn2, hd])
  exact ⟨_, _, e, Int.emod_nonneg _ (by omega), Int.emod_lt_of_pos _ hm, _, _, rfl, hl, hx⟩
/-- the drawn names -/
def NmL (w : W) : Prop := ∃ l : List A, w = .lst (l.map fun x => .str (S x)) ∧ l ≠ [] ∧ ∀ x ∈ l, IsName x
theorem nm_get {l : List A} {v : Int} (h0 : 0 ≤ v) (h1 : v < (l.length : Int)) : ∃ x ∈ l, atI (l.map fun x => W.str (S x)) v = some (.str (S x)) := by
  obtain ⟨n, rfl⟩ := Int.eq_ofNat_of_zero_le h0
  have hn : n < l.length := by omega
  exact ⟨l[n], List.getElem_mem hn, by rw [ML.atI_nat, List.getElem?_map, List.getElem?_eq_getElem hn]; rfl⟩
theorem two_get {v : Int} (h0 : 0 ≤ v) (h1 : v < 2) : ∃ b, atI [W.str (S [99, 111, 109, 109, 97, 110, 100]), W.str (S [110, 117, 109, 98, 101, 114])] v = some (.str (S (kd b))) := by
  have hv : v = 0 ∨ v = 1 := by omega
  rcases hv with rfl | rfl
  · exact ⟨false, by simp [kd]⟩
  · exact ⟨true, by simp [kd]⟩
/-! a name -/
def nmB (x : A) : Bool := decide (1 ≤ x.length) && decide (x.length ≤ 8) && !decide (x ∈ resv) && lowC (x.headD 0) && x.all (fun c => lowC c || digC c)
theorem nm_of {x : A} (h : nmB x = true) : IsName x := by
  unfold nmB at h
  simp at h
  obtain ⟨⟨⟨⟨h1, h2⟩, h3⟩, h4⟩, h5⟩ := h
  cases x with
  | nil => simp at h1
  | cons c r => exact ⟨by simp, h2, h3, ⟨c, r, rfl, by simpa using h4⟩, fun c hc => h5 c hc⟩
theorem e_reserved : fun__law_reserved [] = .ok true (.lst (resv.map fun z => .str (S z))) [] := by
  have l14 : (14 ≤ sizeLine) = True := by simp [line_is]
  have l16 : (16 ≤ sizeLine) = True := by simp [line_is]
  unfold fun__law_reserved body__law_reserved resv
  simp -implicitDefEqProofs [ev_var, l2, l14, l16]
def tbl : List A := [[110, 48], [110, 49], [110, 50], [110, 51], [110, 49, 48], [110, 48, 49], [110], [120], [105, 102, 102], [100, 111, 49], [105, 110, 110, 101, 114], [110, 101, 119, 50], [108, 101, 116, 115], [110, 117, 109, 98, 101, 114, 49], [99, 111, 109, 109, 97, 110, 100, 115], [112]]
theorem tbl_names : ∀ x ∈ tbl, IsName x := fun x hx => nm_of (List.all_eq_true.mp (show tbl.all nmB = true by decide) x hx)
def alph : A := [97, 98, 99, 100, 101, 102, 103, 104, 105, 106, 107, 108, 109, 110, 111, 112, 113, 114, 115, 116, 117, 118, 119, 120, 121, 122, 48, 49, 50, 51, 52, 53, 54, 55, 56, 57]
theorem alph_get : ∀ n, n < 36 → ∃ c, alph[n]? = some c ∧ (lowC c = true ∨ digC c = true) ∧ (n < 26 → lowC c = true) := by
  have : (List.range 36).all (fun n => match alph[n]? with
    | some c => (lowC c || digC c) && (decide (26 ≤ n) || lowC c)
    | none => false) = true := by decide
  intro n hn
  have h := List.all_eq_true.mp this n (List.mem_range.mpr hn)
  split at h
  · rename_i c ec
    simp at h
    exact ⟨c, ec, h.1, fun h2 => h.2.resolve_left (by omega)⟩
  · cases h
theorem res_short : ∀ x ∈ resv, x.length ≤ 7 ∧ x ≠ [] ∧ lowC (x.headD 0) = true ∧ x.all (fun c => lowC c || digC c) = true ∧ x ++ [48] ∉ resv := by decide
theorem ev_slS0 {l : List Nat} {b : Nat} (hl : l.length ≤ 16777216) : gSl (.str (S l)) none (some (b : Int)) = some (.val, .str (S (l.take b))) := by
  have e : gSl (.str (S l)) none (some (b : Int)) = if (S l).length ≤ sizeLine then some (.val, .str (cutS (S l) none (some (b : Int)))) else none := rfl
  rw [e, S_len, line_is, if_pos hl]
  unfold cutS
  rw [HT.sIx_none, HT.sIx_nat, S_len, S_cps, Nat.sub_zero, List.drop_zero]
  have e2 : l.take (min b l.length) = l.take b := by
    by_cases h : b ≤ l.length
    · rw [Nat.min_eq_left h]
    · rw [Nat.min_eq_right (by omega), List.take_of_length_le (Nat.le_refl _), List.take_of_length_le (by omega)]
  rw [e2]
  rfl
theorem tbl_get {v : Int} (h0 : 0 ≤ v) (h1 : v < 16) : ∃ x ∈ tbl, atI (tbl.map fun x => W.str (S x)) v = some (.str (S x)) := nm_get (l := tbl) h0 (by simpa [tbl] using h1)
theorem in_resv (x : A) : gIn false (.str (S x)) (.lst (resv.map fun z => .str (S z))) = some (.val, .bl (decide (x ∈ resv))) := in_ST false x resv _ rfl (by simp)
theorem name_ok {r : W} (h : IsR r) : ∃ x r', fun__law_name fun__law_next fun__law_reserved [r] = .ok false (.str (S x)) [r'] ∧ IsName x ∧ IsR r' := by
  have l14 : (14 ≤ sizeLine) = True := by simp [line_is]
  have l16 : (16 ≤ sizeLine) = True := by simp [line_is]
  obtain ⟨v, r1, e1, v0, v1, h1⟩ := next_ok h (m := 24) (by omega)
  by_cases c : v < 16
  · obtain ⟨x, hx, ex⟩ := tbl_get v0 c
    refine ⟨x, r1, ?_, tbl_names x hx, h1⟩
    simp [tbl] at ex
    unfold fun__law_name body__law_name
    simp -implicitDefEqProofs [ev_var, ev_own, l2, l14, l16, e1, c, ex]
  · obtain ⟨u, r2, e2, u0, u1, h2⟩ := next_ok h1 (m := 8) (by omega)
    obtain ⟨k, rfl⟩ := Int.eq_ofNat_of_zero_le u0
    have e0 : gSet [0] 4 = fun w ρ => some (ρ.set 4 (.val w)) := gset_is (by simp)
    have hok : okR (1 + (k : Int)) = true := by
      unfold okR
      simp
      omega
    have htn : (1 + (k : Int)).toNat = k + 1 := by omega
    have hab : Str.ofString "abcdefghijklmnopqrstuvwxyz0123456789" = S alph := by unfold alph; simp
    obtain ⟨ρ1, f1, r3, nm, s, rfl, hr3, hz, hle, hal, hlo⟩ := for_inv (i := 4) (g := mSet [0] 3 (mOp gAdd (mVar 3) (mOp gIx (mC (.str "abcdefghijklmnopqrstuvwxyz0123456789")) (mCall [0] [0] fun__law_next [mVar 0, mOp gAdd (mC (.int 26)) (mOp gMul (mC (.int 10)) (mCB gInt [mOp (gCmp (fun i j => decide (j < i))) (mVar 4) (mC (.int 0))]))]))))
      (ρ := [Sl.own r2, Sl.own (.lst (tbl.map fun x => .str (S x))), Sl.val (.int v), Sl.val (.str (S [])), Sl.no])
      (P := fun zs ρ => ∃ r1 nm s, ρ = [Sl.own r1, Sl.own (.lst (tbl.map fun x => .str (S x))), Sl.val (.int v), Sl.val (.str (S nm)), s] ∧ IsR r1 ∧ zs = List.range' nm.length (k + 1 - nm.length) ∧ nm.length ≤ k + 1 ∧ (∀ c ∈ nm, lowC c = true ∨ digC c = true) ∧ (nm = [] ∨ lowC (nm.headD 0) = true)) (.inr trivial) (all2_rng (k + 1)) (fun a z zs' ρ q ⟨r1, nm, s, er, hr1, hz, hle, hal, hlo⟩ => by
        subst er
        obtain ⟨rfl, hzk⟩ := q
        have hlt : nm.length < k + 1 := by
          rcases Nat.lt_or_ge nm.length (k + 1) with h | h
          · exact h
          · rw [Nat.sub_eq_zero_of_le h] at hz; cases hz
        rw [show k + 1 - nm.length = (k + 1 - (nm.length + 1)) + 1 by omega, List.range'_succ] at hz
        obtain ⟨hz1, hz2⟩ := List.cons.inj hz
        subst hz1
        have key : ∀ m : Int, 0 < m → m ≤ 36 → (nm = [] → m ≤ 26) → (26 + 10 * (if decide ((0 : Int) < (nm.length : Int)) then (1 : Int) else 0) = m) → ∃ ρ1, mSet [0] 3 (mOp gAdd (mVar 3) (mOp gIx (mC (.str "abcdefghijklmnopqrstuvwxyz0123456789")) (mCall [0] [0] fun__law_next [mVar 0, mOp gAdd (mC (.int 26)) (mOp gMul (mC (.int 10)) (mCB gInt [mOp (gCmp (fun i j => decide (j < i))) (mVar 4) (mC (.int 0))]))]))) [Sl.own r1, Sl.own (.lst (tbl.map fun x => .str (S x))), Sl.val (.int v), Sl.val (.str (S nm)), Sl.val (.int nm.length)] = .ok .nx ρ1 ∧ (∃ r1 nm' s, ρ1 = [Sl.own r1, Sl.own (.lst (tbl.map fun x => .str (S x))), Sl.val (.int v), Sl.val (.str (S nm')), s] ∧ IsR r1 ∧ zs' = List.range' nm'.length (k + 1 - nm'.length) ∧ nm'.length ≤ k + 1 ∧ (∀ c ∈ nm', lowC c = true ∨ digC c = true) ∧ (nm' = [] ∨ lowC (nm'.headD 0) = true)) := by
          intro m hm hm2 hm3 hm4
          obtain ⟨u, r2, g1, g2, g3, g4⟩ := next_ok hr1 hm
          obtain ⟨n, rfl⟩ := Int.eq_ofNat_of_zero_le g2
          obtain ⟨c, g5, g6, g7⟩ := alph_get n (by omega)
          have g8 : atI alph (n : Int) = some c := by rw [ML.atI_nat, g5]
          have hal2 : alph.length ≤ 16777216 := by decide
          refine ⟨_, ?_, r2, nm ++ [c], Sl.val (.int nm.length), rfl, g4, by rw [List.length_append, List.length_singleton]; exact hz2, by rw [List.length_append, List.length_singleton]; omega, fun y hy => ?_, .inr ?_⟩
          · have okm : okMul 10 (if decide ((0 : Int) < (nm.length : Int)) then (1 : Int) else 0) = true := by simp [okMul]
            have g9 := ev_ixSS (i := (n : Int)) hal2
            rw [g8] at g9
            rw [hab]
            simp only [ev_set, ev_op, ev_var, ev_c, ev_bo, ev_call, ev_hc, ev_hn, ev_cb, List.getElem?_cons_succ, List.getElem?_cons_zero, ev_pv, ev_cmp, ev_ls, ev_pc, ev_pn, ev_intB, ev_mulI, okm, if_true, ev_addI, hm4]
            simp -implicitDefEqProofs (disch := first | omega | (simp; done) | (simp <;> omega) | fail) [ev_var, ev_own, g1, g9, ev_addSS]
          · rcases List.mem_append.mp hy with hy | hy
            · exact hal y hy
            · simp at hy
              rw [hy]
              exact g6
          · cases nm with
            | nil => simpa using g7 (by have := hm3 rfl; omega)
            | cons y nm => simpa using hlo
        by_cases hn : nm = []
        · exact key 26 (by omega) (by omega) (fun _ => by omega) (by rw [hn]; rfl)
        · have hp : 0 < nm.length := List.length_pos_iff.mpr hn
          exact key 36 (by omega) (by omega) (fun z => absurd z hn) (by
            have : decide ((0 : Int) < (nm.length : Int)) = true := decide_eq_true (by omega)
            rw [this]; rfl)) ⟨r2, [], Sl.no, rfl, h2, by simp, by simp, (fun _ h => nomatch h), .inl rfl⟩
    have hlen : nm.length = k + 1 := by
      have := congrArg List.length hz
      simp at this
      omega
    have hlo2 : lowC (nm.headD 0) = true := by
      rcases hlo with h | h
      · rw [h] at hlen; simp at hlen
      · exact h
    simp [tbl] at f1
    have hlen8 : nm.length ≤ 8 := by omega
    have hdr : ∃ c r, nm = c :: r ∧ lowC c = true := by
      cases nm with
      | nil => simp at hlen
      | cons c r => exact ⟨c, r, rfl, by simpa using hlo2⟩
    have hin := in_resv nm
    by_cases hres : nm ∈ resv
    · obtain ⟨q1, q2, q3, q4, q5⟩ := res_short nm hres
      refine ⟨nm ++ [48], r3, ?_, ⟨by simp, by simp; omega, q5, ?_, fun c hc => ?_⟩, hr3⟩
      · have hs := ev_slS0 (l := nm) (b := 7) (by omega)
        rw [List.take_of_length_le q1] at hs
        replace hs : gSl (.str (S nm)) none (some (7 : Int)) = some (.val, .str (S nm)) := hs
        rw [decide_eq_true hres] at hin
        unfold fun__law_name body__law_name
        simp -implicitDefEqProofs (disch := first | omega | (simp; done) | (simp <;> omega) | fail) [ev_var, ev_own, ev_addSS, l2, l14, l16, e1, c, e2, e0, hok, htn, f1, e_reserved, hin, hs]
      · obtain ⟨c, r, hc, hc2⟩ := hdr
        exact ⟨c, r ++ [48], by rw [hc]; rfl, hc2⟩
      · rcases List.mem_append.mp hc with hc | hc
        · exact hal c hc
        · simp at hc
          rw [hc]
          exact .inr rfl
    · refine ⟨nm, r3, ?_, ⟨by omega, hlen8, hres, hdr, hal⟩, hr3⟩
      rw [decide_eq_false hres] at hin
      unfold fun__law_name body__law_name
      simp -implicitDefEqProofs (disch := first | omega | (simp; done) | (simp <;> omega) | fail) [ev_var, ev_own, l2, l14, l16, e1, c, e2, e0, hok, htn, f1, e_reserved, hin]
end K03

namespace K03
open PySem PySem.Spec PyProof.Rows L2 ML
theorem names_ok {r : W} (h : IsR r) (k : Nat) (hk : 1 ≤ k) (hk2 : k ≤ 100) : ∃ (l : List A) (r' : W), fun__law_names (fun__law_name fun__law_next fun__law_reserved) [r, .int k] = .ok true (.lst (l.map tW)) [r'] ∧ l ≠ [] ∧ (∀ x ∈ l, IsName x) ∧ l.length ≤ k ∧ IsR r' := by
  have e0 : gSet [0] 3 = fun w ρ => some (ρ.set 3 (.val w)) := gset_is (by simp)
  have hok : okR (k : Int) = true := by
    unfold okR
    simp
    omega
  obtain ⟨ρ1, e1, r1, l, s3, s4, rfl, hr1, hl, hx, hne⟩ := for_inv (i := 3) (g := mSeq (mSet [0] 4 (mCall [0] [0] (fun__law_name fun__law_next fun__law_reserved) [mVar 0])) (mIf (mTest (mOp (gIn true) (mVar 4) (mVar 2))) (mDrop (mAppend 2 [0] (mVar 4))) (mNext)))
    (ρ := [Sl.own r, Sl.val (.int k), Sl.own (.lst []), Sl.no, Sl.no])
    (P := fun zs ρ => ∃ r1 l s3 s4, ρ = [Sl.own r1, Sl.val (.int k), Sl.own (.lst (List.map (fun x : A => W.str (S x)) l)), s3, s4] ∧ IsR r1 ∧ l.length + zs.length ≤ k ∧ (∀ x ∈ l, IsName x) ∧ (zs.length < k → l ≠ [])) (.inr trivial) (all2_ints k) (fun a z zs' ρ q ⟨r1, l, s3, s4, er, hr1, hl, hx, hne⟩ => by
      subst er
      obtain ⟨x, r2, f1, f2, f3⟩ := name_ok hr1
      have hin : gIn true (.str (S x)) (.lst (List.map (fun x : A => W.str (S x)) l)) = some (.val, .bl (!decide (x ∈ l))) := in_ST true x l _ rfl (by simp)
      have hsz : l.length < sizeLine := by rw [line_is]; simp at hl; omega
      by_cases hm : x ∈ l
      · rw [decide_eq_true hm] at hin
        refine ⟨[Sl.own r2, Sl.val (.int k), Sl.own (.lst (List.map (fun x : A => W.str (S x)) l)), Sl.val a, Sl.val (.str (S x))], ?_, r2, l, _, _, rfl, f3, by simp at hl; omega, hx, fun _ => List.ne_nil_of_mem hm⟩
        simp -implicitDefEqProofs [ev_var, ev_own, f1, hin]
      · rw [decide_eq_false hm] at hin
        refine ⟨[Sl.own r2, Sl.val (.int k), Sl.own (.lst (List.map (fun x : A => W.str (S x)) (l ++ [x]))), Sl.val a, Sl.val (.str (S x))], ?_, r2, l ++ [x], _, _, rfl, f3, by simp at hl ⊢; omega, fun y hy => ?_, fun _ => by simp⟩
        · simp -implicitDefEqProofs [ev_var, ev_own, f1, hin, hsz]
        · rcases List.mem_append.mp hy with hy | hy
          · exact hx y hy
          · simp at hy
            rw [hy]
            exact f2) ⟨r, [], Sl.no, Sl.no, rfl, h, by simp, (fun _ h => nomatch h), fun z => by simp at z⟩
  refine ⟨l, r1, ?_, hne (by simp; omega), hx, by simpa using hl, hr1⟩
  unfold fun__law_names body__law_names
  try simp at e1
  simp -implicitDefEqProofs [ev_var, ev_own, e0, hok, e1]
theorem split_ok {r : W} (h : IsR r) (rest many : Nat) (h1 : 1 ≤ many) (h2 : many ≤ rest) (h3 : rest ≤ 1000) : ∃ (ps : List Nat) (r' : W), fun__law_split fun__law_next [r, .int rest, .int many] = .ok true (.lst (ps.map fun (n : Nat) => W.int n)) [r'] ∧ ps.length = many ∧ (∀ x ∈ ps, 1 ≤ x) ∧ ps.sum = rest ∧ IsR r' := by
  have e0 : gSet [0] 5 = fun w ρ => some (ρ.set 5 (.val w)) := gset_is (by simp)
  have hok : okR ((many : Int) - 1) = true := by
    unfold okR
    simp
    omega
  have htn : ((many : Int) - 1).toNat = many - 1 := by omega
  obtain ⟨ρ1, e1, r1, ps, left, s5, s6, rfl, hr1, hz, hle, hx, hs, hlf⟩ := for_inv (i := 5) (g := mSeq (mSet [0] 6 (mOp gAdd (mC (.int 1)) (mCall [0] [0] fun__law_next [mVar 0, mOp gSub (mVar 4) (mOp gSub (mOp gSub (mVar 2) (mC (.int 1))) (mVar 5))]))) (mSeq (mDrop (mAppend 3 [0] (mVar 6))) (mSet [0] 4 (mOp gSub (mVar 4) (mVar 6)))))
    (ρ := [Sl.own r, Sl.val (.int rest), Sl.val (.int many), Sl.own (.lst []), Sl.val (.int rest), Sl.no, Sl.no])
    (P := fun zs ρ => ∃ (r1 : W) (ps : List Nat) (left : Nat) (s5 s6 : Sl), ρ = [Sl.own r1, Sl.val (.int rest), Sl.val (.int many), Sl.own (.lst (ps.map fun (n : Nat) => W.int n)), Sl.val (.int left), s5, s6] ∧ IsR r1 ∧ zs = List.range' ps.length (many - 1 - ps.length) ∧ ps.length ≤ many - 1 ∧ (∀ x ∈ ps, 1 ≤ x) ∧ ps.sum + left = rest ∧ many - ps.length ≤ left) (.inr trivial) (all2_rng (many - 1)) (fun a z zs' ρ q ⟨r1, ps, left, s5, s6, er, hr1, hz, hle, hx, hs, hlf⟩ => by
      subst er
      obtain ⟨rfl, hzk⟩ := q
      have hlt : ps.length < many - 1 := by
        rcases Nat.lt_or_ge ps.length (many - 1) with h | h
        · exact h
        · rw [Nat.sub_eq_zero_of_le h] at hz; cases hz
      rw [show many - 1 - ps.length = (many - 1 - (ps.length + 1)) + 1 by omega, List.range'_succ] at hz
      obtain ⟨hz1, hz2⟩ := List.cons.inj hz
      subst hz1
      obtain ⟨u, r2, g1, g2, g3, g4⟩ := next_ok hr1 (m := (left : Int) - ((many : Int) - 1 - (ps.length : Int))) (by omega)
      obtain ⟨n, rfl⟩ := Int.eq_ofNat_of_zero_le g2
      have hsz : ps.length < sizeLine := by rw [line_is]; omega
      have hsub : (left : Int) - (1 + (n : Int)) = ((left - (1 + n) : Nat) : Int) := by omega
      have hadd : (1 + (n : Int)) = ((1 + n : Nat) : Int) := by omega
      refine ⟨[Sl.own r2, Sl.val (.int rest), Sl.val (.int many), Sl.own (.lst ((ps ++ [1 + n]).map fun (n : Nat) => W.int n)), Sl.val (.int ((left - (1 + n) : Nat) : Int)), Sl.val (.int ps.length), Sl.val (.int ((1 + n : Nat) : Int))], ?_, r2, ps ++ [1 + n], left - (1 + n), _, _, rfl, g4, by rw [List.length_append, List.length_singleton]; exact hz2, by simp; omega, fun y hy => ?_, by simp; omega, by simp; omega⟩
      · simp -implicitDefEqProofs [ev_var, ev_own, g1, hsz]
        rw [← hsub]
      · rcases List.mem_append.mp hy with hy | hy
        · exact hx y hy
        · simp at hy
          omega) ⟨r, [], rest, Sl.no, Sl.no, rfl, h, by simp, by simp, (fun _ h => nomatch h), by simp, by simp; omega⟩
  have hlen : ps.length = many - 1 := by
    have := congrArg List.length hz
    simp at this
    omega
  have hsz : ps.length < sizeLine := by rw [line_is]; omega
  refine ⟨ps ++ [left], r1, ?_, by simp; omega, fun y hy => ?_, by simp; omega, hr1⟩
  · unfold fun__law_split body__law_split
    try simp at e1
    simp -implicitDefEqProofs [ev_var, ev_own, e0, hok, htn, e1, hsz]
  · rcases List.mem_append.mp hy with hy | hy
    · exact hx y hy
    · simp at hy
      omega
/-- a comprehension over one name that changes the frame -/
theorem comp_st {σ α : Type} {i : Nat} {fe : Rho → ML.R W} {fr : σ → Rho} {Q : W → α → Prop} {P : List α → List W → σ → Prop}
    (h : ∀ w z zs acc s, Q w z → P (z :: zs) acc s → ∃ y s', fe ((fr s).set i (.val w)) = .ok y ((fr s').set i (.val w)) ∧ P zs (acc ++ [y]) s') (hno : ∀ s, (fr s).set i .no = fr s) :
    ∀ {ws : List W} {zs : List α} {acc : List W} {ρ : Rho} {s : σ}, All2 Q ws zs → P zs acc s → acc.length + ws.length ≤ sizeLine → ρ.set i .no = fr s → ∃ acc' s', compL [i] (CT.put (.nm i)) mYes fe acc ws ρ = .ok (.fre, .lst acc') (fr s') ∧ P [] acc' s'
  | [], _, acc, ρ, s, .nil, hp, hl, hr => by
    refine ⟨acc, s, ?_, hp⟩
    unfold compL
    rw [if_pos (show acc.length ≤ sizeLine from hl)]
    show ML.R.ok _ (wipeR ρ [i]) = _
    rw [show wipeR ρ [i] = ρ.set i .no from rfl, hr]
  | w :: ws, z :: zs, acc, ρ, s, .cons q qs, hp, hl, hr => by
    have hl' : acc.length + (ws.length + 1) ≤ sizeLine := hl
    obtain ⟨y, s', e, hp'⟩ := h w z zs acc s q hp
    obtain ⟨acc', s2, e2, hp2⟩ := comp_st h hno qs hp' (by rw [List.length_append, List.length_singleton]; omega) (ρ := (fr s').set i (.val w)) (s := s') (by rw [List.set_set, hno])
    refine ⟨acc', s2, ?_, hp2⟩
    unfold compL
    rw [show wipeR ρ [i] = ρ.set i .no from rfl, hr]
    show (ML.R.bind (mYes ((fr s).set i (.val w))) _) = _
    rw [ev_yes, ev_bo, if_pos rfl, e, ev_bo, if_pos (by omega), e2]
section
variable {sc : W}
theorem mul70 : gMul (.lst [W.int 5040]) (.int 70) = some (.fre, .lst ((List.replicate 70 (5040 : Int)).map W.int)) := by
  have e : gMul (.lst [W.int 5040]) (.int 70) = if -(2 ^ 63) ≤ (70 : Int) ∧ (70 : Int) < 2 ^ 63 ∧ [W.int 5040].length * (70 : Int).toNat ≤ sizeLine then some (.fre, .lst (List.replicate (70 : Int).toNat [W.int 5040]).flatten) else none := rfl
  rw [e, if_pos (by rw [line_is]; decide)]
  rfl
theorem reader_step {ce di : List W → FR} (HC : ∀ k : Nat, ∃ v, ce [sc, .int k] = .ok false (.int v) []) (HD : ∀ c : Int, ∃ ds : List Int, di [.int c, .lst ((List.replicate 70 (5040 : Int)).map W.int)] = .ok true (.lst (ds.map W.int)) [] ∧ ds.length = 70) (first : Nat) : ∃ r, fun__law_reader ce di [sc, .int first] = .ok true r [] ∧ IsR r := by
  have e0 : gSet [] 3 = fun w ρ => some (ρ.set 3 (.val w)) := gset_is (by simp)
  have hok : okR 3 = true := by decide
  obtain ⟨ρ1, e1, ds, s, rfl, h1⟩ := for_inv (i := 3) (g := mSet [] 2 (mOp gAdd (mVar 2) (mCall [] [] di [mCall [] [] ce [mVar 0, mOp gAdd (mVar 1) (mVar 3)], mOp gMul (mLst [] [mC (.int 5040)]) (mC (.int 70))])))
    (ρ := [Sl.val sc, Sl.val (.int first), Sl.own (.lst []), Sl.no])
    (P := fun zs ρ => ∃ (ds : List Int) (s : Sl), ρ = [Sl.val sc, Sl.val (.int first), Sl.own (.lst (ds.map W.int)), s] ∧ ds.length + 70 * zs.length = 210) (.inr trivial) (all2_ints 3) (fun a k zs' ρ q ⟨ds, s, er, h1⟩ => by
      subst er
      obtain ⟨rfl, hk⟩ := q
      obtain ⟨v, f1⟩ := HC (first + k)
      obtain ⟨es, f2, f3⟩ := HD v
      rw [Int.natCast_add] at f1
      have hsz : ds.length + es.length ≤ sizeLine := by rw [line_is]; simp at h1; omega
      have m7 := mul70
      refine ⟨[Sl.val sc, Sl.val (.int first), Sl.own (.lst ((ds ++ es).map W.int)), Sl.val (.int k)], ?_, ds ++ es, _, rfl, by simp at h1 ⊢; omega⟩
      generalize (List.replicate 70 (5040 : Int)).map W.int = S70 at *
      simp -implicitDefEqProofs [ev_var, ev_own, l1, f1, m7, f2, hsz]) ⟨[], Sl.no, rfl, rfl⟩
  refine ⟨.lst [.lst (ds.map W.int), .int 0], ?_, ds.map W.int, 0, rfl, by simp at h1 ⊢; omega, fun x hx => ?_⟩
  · unfold fun__law_reader body__law_reader
    try simp at e1
    simp -implicitDefEqProofs [ev_var, ev_own, l2, e0, hok, e1]
  · obtain ⟨i, _, rfl⟩ := List.mem_map.mp hx
    exact ⟨i, rfl⟩
end
end K03

namespace K03
open PySem PySem.Spec PyProof.Rows L2 ML
/-! ### blocks -/
inductive Hd where
  | lf (t : A) | num (k : Nat) | get (x : A) | set (x : A) | call (x : A) | op (t : A) | new (x : A) (k : Nat) | lett (x : A) (ms : List (A × Bool))
mutual
inductive Bk where
  | nd (h : Hd) (l : Bl)
inductive Bl where
  | nil
  | cons (b : Bk) (l : Bl)
end
def encH : Hd → List W → W
  | .lf t, _ => .tup [tW t]
  | .num k, _ => .tup [tW [110, 117, 109, 98, 101, 114], .int (k : Int)]
  | .get x, _ => .tup [tW [103, 101, 116], tW x]
  | .set x, ws => .tup (tW [115, 101, 116] :: tW x :: ws)
  | .call x, ws => .tup [tW [99, 97, 108, 108], tW x, .tup ws]
  | .op t, ws => .tup (tW t :: ws)
  | .new x k, ws => .tup (tW [110, 101, 119] :: tW x :: .int (k : Int) :: ws)
  | .lett x ms, ws => .tup (tW [108, 101, 116] :: tW x :: .tup (ms.map prmW) :: ws)
mutual
def enc : Bk → W
  | .nd h l => encH h (encL l)
def encL : Bl → List W
  | .nil => []
  | .cons b l => enc b :: encL l
end
def Bl.len : Bl → Nat
  | .nil => 0
  | .cons _ l => l.len + 1
theorem encL_len : ∀ l : Bl, (encL l).length = l.len
  | .nil => rfl
  | .cons b l => by rw [encL, List.length_cons, encL_len l]; rfl
def opsL : List A := [[116, 104, 101, 110], [119, 104, 105, 108, 101], [112, 108, 117, 115], [101, 113, 117, 97, 108], [108, 101, 115, 115]]
def wfH (N : A → Prop) : Hd → Nat → Prop
  | .lf t, n => (t = [115, 107, 105, 112] ∨ t = [113, 117, 105, 116]) ∧ n = 0
  | .num k, n => k < 10 ∧ n = 0
  | .get x, n => N x ∧ n = 0
  | .set x, n => N x ∧ n = 1
  | .call x, n => N x ∧ n ≤ 5
  | .op t, n => (t ∈ opsL ∧ n = 2) ∨ (t = [105, 102] ∧ n = 3)
  | .new x k, n => N x ∧ k < 10 ∧ n = 1
  | .lett x ms, n => N x ∧ (∀ m ∈ ms, N m.1) ∧ (ms.map (·.1)).Nodup ∧ ms.length ≤ 3 ∧ n = 2
mutual
def wf (N : A → Prop) : Bk → Prop
  | .nd h l => wfH N h l.len ∧ wfL N l
def wfL (N : A → Prop) : Bl → Prop
  | .nil => True
  | .cons b l => wf N b ∧ wfL N l
end
theorem wfH.mono {N M : A → Prop} (h : ∀ x, N x → M x) : ∀ {hd : Hd} {n : Nat}, wfH N hd n → wfH M hd n
  | .lf _, _, w => w
  | .num _, _, w => w
  | .get _, _, w => ⟨h _ w.1, w.2⟩
  | .set _, _, w => ⟨h _ w.1, w.2⟩
  | .call _, _, w => ⟨h _ w.1, w.2⟩
  | .op _, _, w => w
  | .new _ _, _, w => ⟨h _ w.1, w.2⟩
  | .lett _ _, _, w => ⟨h _ w.1, fun m hm => h _ (w.2.1 m hm), w.2.2⟩
mutual
theorem wf.mono {N M : A → Prop} (h : ∀ x, N x → M x) : ∀ (b : Bk), wf N b → wf M b
  | .nd hd l, w => ⟨w.1.mono h, wfL.mono h l w.2⟩
theorem wfL.mono {N M : A → Prop} (h : ∀ x, N x → M x) : ∀ (l : Bl), wfL N l → wfL M l
  | .nil, _ => trivial
  | .cons b l, w => ⟨wf.mono h b w.1, wfL.mono h l w.2⟩
end
mutual
def dp : Bk → Nat
  | .nd _ l => dpL l + 1
def dpL : Bl → Nat
  | .nil => 0
  | .cons b l => max (dp b) (dpL l)
end
/-- how many names a head binds -/
def hb : Hd → Nat
  | .new _ _ => 1
  | .lett _ ms => 1 + ms.length
  | _ => 0
mutual
def bc : Bk → Nat
  | .nd h l => hb h + bcL l
def bcL : Bl → Nat
  | .nil => 0
  | .cons b l => bc b + bcL l
end
/-! the parts of a block -/
theorem ev_cutTo (xs : List W) (n : Nat) : cutW xs none (some (n : Int)) = xs.take n := by
  unfold cutW
  rw [HT.sIx_none, HT.sIx_nat, Nat.sub_zero, List.drop_zero]
  by_cases h : n ≤ xs.length
  · rw [Nat.min_eq_left h]
  · rw [Nat.min_eq_right (by omega), List.take_of_length_le (Nat.le_refl _), List.take_of_length_le (by omega)]
theorem cutTo1 (xs : List W) : cutW xs none (some 1) = xs.take 1 := ev_cutTo xs 1
theorem cutTo2 (xs : List W) : cutW xs none (some 2) = xs.take 2 := ev_cutTo xs 2
theorem cutTo3 (xs : List W) : cutW xs none (some 3) = xs.take 3 := ev_cutTo xs 3
theorem op_cases {t : A} (h : t ∈ opsL) : t = [116, 104, 101, 110] ∨ t = [119, 104, 105, 108, 101] ∨ t = [112, 108, 117, 115] ∨ t = [101, 113, 117, 97, 108] ∨ t = [108, 101, 115, 115] := by simpa [opsL] using h
section
variable {N : A → Prop}
theorem nil_of {ws : List W} (h : ws.length = 0) : ws = [] := List.length_eq_zero_iff.mp h
theorem e_parts {h : Hd} {ws : List W} (w : wfH N h ws.length) : fun_parts_of [encH h ws] = .ok false (.tup ws) [] := by
  unfold fun_parts_of body_parts_of
  cases h with
  | lf t =>
    obtain ⟨h1, h2⟩ := w
    rw [nil_of h2]
    rcases h1 with rfl | rfl <;> simp -implicitDefEqProofs [ev_var, encH]
  | num k => rw [nil_of w.2]; simp -implicitDefEqProofs [ev_var, encH]
  | get x => rw [nil_of w.2]; simp -implicitDefEqProofs [ev_var, encH]
  | set x => simp -implicitDefEqProofs [ev_var, encH]
  | call x => simp -implicitDefEqProofs [ev_var, encH]
  | op t =>
    rcases w with ⟨h1, _⟩ | ⟨rfl, _⟩
    · rcases op_cases h1 with rfl | rfl | rfl | rfl | rfl <;> simp -implicitDefEqProofs [ev_var, encH]
    · simp -implicitDefEqProofs [ev_var, encH]
  | new x k => simp -implicitDefEqProofs [ev_var, encH]
  | lett x ms => simp -implicitDefEqProofs [ev_var, encH]
theorem e_with {h : Hd} {ws us : List W} (w : wfH N h ws.length) (hl : us.length = ws.length) : fun_with_sub_blocks [encH h ws, .tup us] = .ok false (encH h us) [] := by
  have hz : us.length + 3 ≤ sizeLine := by
    have : us.length ≤ 5 := by
      cases h with
      | lf t => have := w.2; omega
      | num k => have := w.2; omega
      | get x => have := w.2; omega
      | set x => have := w.2; omega
      | call x => have := w.2; omega
      | op t => rcases w with ⟨_, h2⟩ | ⟨_, h2⟩ <;> omega
      | new x k => have := w.2.2; omega
      | lett x ms => have := w.2.2.2.2; omega
    rw [line_is]
    omega
  have z1 : 1 + us.length ≤ sizeLine := by omega
  have z2 : 2 + us.length ≤ sizeLine := by omega
  have z3 : 3 + us.length ≤ sizeLine := by omega
  unfold fun_with_sub_blocks body_with_sub_blocks
  cases h with
  | lf t =>
    obtain ⟨h1, h2⟩ := w
    rcases h1 with rfl | rfl <;> simp -implicitDefEqProofs [ev_var, encH]
  | num k => simp -implicitDefEqProofs [ev_var, encH]
  | get x => simp -implicitDefEqProofs [ev_var, encH]
  | set x => simp -implicitDefEqProofs [ev_var, encH, cutTo2, z2]
  | call x => simp -implicitDefEqProofs [ev_var, encH]
  | op t =>
    rcases w with ⟨h1, _⟩ | ⟨rfl, _⟩
    · rcases op_cases h1 with rfl | rfl | rfl | rfl | rfl <;> simp -implicitDefEqProofs [ev_var, encH, cutTo1, z1]
    · simp -implicitDefEqProofs [ev_var, encH, cutTo1, z1]
  | new x k => simp -implicitDefEqProofs [ev_var, encH, cutTo3, z3]
  | lett x ms => simp -implicitDefEqProofs [ev_var, encH, cutTo3, z3]
@[simp] theorem ev_lstT (l : List W) : gLstC [.tup l] = some (.fre, .lst l) := rfl
@[simp] theorem ev_lstL (l : List W) : gLstC [.lst l] = some (.fre, .lst l) := rfl
theorem l_parts {h : Hd} {ws : List W} (w : wfH N h ws.length) : fun__law_parts [encH h ws] = .ok true (.lst ws) [] := by
  unfold fun__law_parts body__law_parts
  cases h with
  | lf t =>
    obtain ⟨h1, h2⟩ := w
    rw [nil_of h2]
    rcases h1 with rfl | rfl <;> simp -implicitDefEqProofs [ev_var, encH]
  | num k => rw [nil_of w.2]; simp -implicitDefEqProofs [ev_var, encH]
  | get x => rw [nil_of w.2]; simp -implicitDefEqProofs [ev_var, encH]
  | set x =>
    obtain ⟨b, rfl⟩ := List.length_eq_one_iff.mp w.2
    simp -implicitDefEqProofs [ev_var, encH]
  | call x => simp -implicitDefEqProofs [ev_var, encH]
  | op t =>
    rcases w with ⟨h1, _⟩ | ⟨rfl, _⟩
    · rcases op_cases h1 with rfl | rfl | rfl | rfl | rfl <;> simp -implicitDefEqProofs [ev_var, encH]
    · simp -implicitDefEqProofs [ev_var, encH]
  | new x k => simp -implicitDefEqProofs [ev_var, encH]
  | lett x ms => simp -implicitDefEqProofs [ev_var, encH]
end
end K03

namespace K03
open PySem PySem.Spec PyProof.Rows L2 ML
/-! ### free names, renaming: plain -/
def kids : Bl → List Bk
  | .nil => []
  | .cons b l => b :: kids l
theorem encL_kids : ∀ l : Bl, encL l = (kids l).map enc
  | .nil => rfl
  | .cons b l => by rw [encL, encL_kids l]; rfl
theorem kids_len : ∀ l : Bl, (kids l).length = l.len
  | .nil => rfl
  | .cons b l => by rw [kids, List.length_cons, kids_len l]; rfl
theorem wfL_mem {N : A → Prop} : ∀ {l : Bl}, wfL N l → ∀ b ∈ kids l, wf N b
  | .nil, _, b, h => nomatch h
  | .cons c l, w, b, h => by
    rcases List.mem_cons.mp h with rfl | h
    · exact w.1
    · exact wfL_mem w.2 b h
theorem dpL_mem : ∀ {l : Bl}, ∀ b ∈ kids l, dp b ≤ dpL l
  | .nil, b, h => nomatch h
  | .cons c l, b, h => by
    rw [dpL]
    rcases List.mem_cons.mp h with rfl | h
    · exact Nat.le_max_left _ _
    · exact Nat.le_trans (dpL_mem b h) (Nat.le_max_right _ _)
mutual
def sz : Bk → Nat
  | .nd _ l => szL l + 1
def szL : Bl → Nat
  | .nil => 0
  | .cons b l => sz b + szL l
end
def own (y : A) : Hd → Prop
  | .get x => y = x
  | .set x => y = x
  | .call x => y = x
  | _ => False
def bnd : Hd → Nat → List A
  | .new x _, _ => [x]
  | .lett _ ms, 0 => ms.map (·.1)
  | .lett x _, _ + 1 => [x]
  | _, _ => []
mutual
def fv (y : A) : Bk → Prop
  | .nd h l => own y h ∨ fvL y (bnd h) l
def fvL (y : A) : (Nat → List A) → Bl → Prop
  | _, .nil => False
  | B, .cons b l => (y ∉ B 0 ∧ fv y b) ∨ fvL y (fun i => B (i + 1)) l
end
theorem fvL_iff {y : A} : ∀ {B : Nat → List A} {l : Bl}, fvL y B l ↔ ∃ i b, (kids l)[i]? = some b ∧ y ∉ B i ∧ fv y b
  | B, .nil => ⟨fun h => h.elim, fun ⟨i, b, h, _⟩ => by simp [kids] at h⟩
  | B, .cons c l => by
    rw [fvL, fvL_iff (l := l)]
    constructor
    · rintro (⟨h1, h2⟩ | ⟨i, b, h1, h2, h3⟩)
      · exact ⟨0, c, rfl, h1, h2⟩
      · exact ⟨i + 1, b, h1, h2, h3⟩
    · rintro ⟨i, b, h1, h2, h3⟩
      cases i with
      | zero =>
        have e : c = b := Option.some.inj h1
        subst e
        exact .inl ⟨h2, h3⟩
      | succ i => exact .inr ⟨i, b, h1, h2, h3⟩
/-- the names of a block -/
theorem own_wf {N : A → Prop} {y : A} {h : Hd} {n : Nat} (w : wfH N h n) (o : own y h) : N y := by
  cases h with
  | get x => rw [show y = x from o]; exact w.1
  | set x => rw [show y = x from o]; exact w.1
  | call x => rw [show y = x from o]; exact w.1
  | _ => exact o.elim
mutual
theorem fv_wf {N : A → Prop} {y : A} : ∀ (b : Bk), wf N b → fv y b → N y
  | .nd h l, w, f => by
    rcases f with f | f
    · exact own_wf w.1 f
    · exact fvL_wf l w.2 f
theorem fvL_wf {N : A → Prop} {y : A} : ∀ {B : Nat → List A} (l : Bl), wfL N l → fvL y B l → N y
  | _, .nil, _, f => f.elim
  | _, .cons b l, w, f => by
    rcases f with f | f
    · exact fv_wf b w.1 f.2
    · exact fvL_wf l w.2 f
end
/-! renaming -/
def upd (f : A → A) (x y : A) : A → A := fun z => if z = x then y else f z
def updL (f : A → A) (g : Nat → A) : Nat → List (A × Bool) → A → A
  | _, [] => f
  | n, m :: ms => updL (upd f m.1 (g n)) g (n + 1) ms
def prn (g : Nat → A) : Nat → List (A × Bool) → List (A × Bool)
  | _, [] => []
  | n, m :: ms => (g n, m.2) :: prn g (n + 1) ms
def hrn (g : Nat → A) (f : A → A) (n : Nat) : Hd → Hd
  | .get x => .get (f x)
  | .set x => .set (f x)
  | .call x => .call (f x)
  | .new _ k => .new (g n) k
  | .lett _ ms => .lett (g n) (prn g (n + 1) ms)
  | .lf t => .lf t
  | .num k => .num k
  | .op t => .op t
def scs (g : Nat → A) (f : A → A) (n : Nat) : Hd → Nat → A → A
  | .new x _, _ => upd f x (g n)
  | .lett _ ms, 0 => updL f g (n + 1) ms
  | .lett x _, _ + 1 => upd f x (g n)
  | _, _ => f
mutual
def rn (g : Nat → A) (f : A → A) (n : Nat) : Bk → Bk
  | .nd h l => .nd (hrn g f n h) (rnL g (scs g f n h) (n + hb h) l)
def rnL (g : Nat → A) (F : Nat → A → A) (n : Nat) : Bl → Bl
  | .nil => .nil
  | .cons b l => .cons (rn g (F 0) n b) (rnL g (fun i => F (i + 1)) (n + bc b) l)
end
theorem prn_len (g : Nat → A) : ∀ (ms : List (A × Bool)) (n : Nat), (prn g n ms).length = ms.length
  | [], _ => rfl
  | m :: ms, n => by rw [prn, List.length_cons, prn_len g ms, List.length_cons]
theorem prn_mem {g : Nat → A} : ∀ {ms : List (A × Bool)} {n : Nat} {x : A}, x ∈ (prn g n ms).map (·.1) ↔ ∃ i, n ≤ i ∧ i < n + ms.length ∧ x = g i
  | [], n, x => by
    constructor
    · intro h; simp [prn] at h
    · rintro ⟨i, h1, h2, _⟩; simp at h2; omega
  | m :: ms, n, x => by
    rw [prn, List.map_cons, List.mem_cons, prn_mem]
    constructor
    · rintro (h | ⟨i, h1, h2, h3⟩)
      · exact ⟨n, Nat.le_refl _, by simp, h⟩
      · exact ⟨i, by omega, by simp; omega, h3⟩
    · rintro ⟨i, h1, h2, h3⟩
      by_cases e : i = n
      · left; rw [h3, e]
      · exact .inr ⟨i, by omega, by simp at h2; omega, h3⟩
theorem updL_in {g : Nat → A} : ∀ {ms : List (A × Bool)} {f : A → A} {n : Nat} {x : A}, (x ∈ ms.map (·.1) → updL f g n ms x ∈ (prn g n ms).map (·.1)) ∧ (x ∉ ms.map (·.1) → updL f g n ms x = f x)
  | [], f, n, x => ⟨fun h => by simp at h, fun _ => rfl⟩
  | m :: ms, f, n, x => by
    obtain ⟨a, b⟩ := updL_in (g := g) (ms := ms) (f := upd f m.1 (g n)) (n := n + 1) (x := x)
    rw [updL, prn, List.map_cons, List.map_cons]
    constructor
    · intro h
      by_cases hx : x ∈ ms.map (·.1)
      · exact List.mem_cons_of_mem _ (a hx)
      · rw [b hx]
        have e : x = m.1 := by
          rcases List.mem_cons.mp h with h | h
          · exact h
          · exact absurd h hx
        unfold upd
        rw [if_pos e]
        exact List.mem_cons_self ..
    · intro h
      rw [List.mem_cons, not_or] at h
      rw [b h.2]
      unfold upd
      rw [if_neg h.1]
theorem scs_in {g : Nat → A} {f : A → A} {n : Nat} {h : Hd} {i : Nat} {x : A} : (x ∈ bnd h i → scs g f n h i x ∈ bnd (hrn g f n h) i) ∧ (x ∉ bnd h i → scs g f n h i x = f x) := by
  cases h with
  | new y k =>
    refine ⟨fun hx => ?_, fun hx => ?_⟩
    · have e : x = y := by simpa [bnd] using hx
      simp [scs, upd, e, bnd, hrn]
    · have e : ¬ x = y := by simpa [bnd] using hx
      simp [scs, upd, e]
  | lett y ms =>
    cases i with
    | zero => exact updL_in
    | succ i =>
      refine ⟨fun hx => ?_, fun hx => ?_⟩
      · have e : x = y := by simpa [bnd] using hx
        simp [scs, upd, e, bnd, hrn]
      · have e : ¬ x = y := by simpa [bnd] using hx
        simp [scs, upd, e]
  | lf t => exact ⟨fun hx => by simp [bnd] at hx, fun _ => rfl⟩
  | num t => exact ⟨fun hx => by simp [bnd] at hx, fun _ => rfl⟩
  | get t => exact ⟨fun hx => by simp [bnd] at hx, fun _ => rfl⟩
  | set t => exact ⟨fun hx => by simp [bnd] at hx, fun _ => rfl⟩
  | call t => exact ⟨fun hx => by simp [bnd] at hx, fun _ => rfl⟩
  | op t => exact ⟨fun hx => by simp [bnd] at hx, fun _ => rfl⟩
mutual
theorem fv_rn {g : Nat → A} {y : A} : ∀ (b : Bk) {f : A → A} {n : Nat}, fv y (rn g f n b) → ∃ x, fv x b ∧ f x = y
  | .nd h l, f, n, hf => by
    rw [rn] at hf
    rcases hf with hf | hf
    · cases h with
      | get x => exact ⟨x, .inl rfl, (show y = f x from hf).symm⟩
      | set x => exact ⟨x, .inl rfl, (show y = f x from hf).symm⟩
      | call x => exact ⟨x, .inl rfl, (show y = f x from hf).symm⟩
      | _ => exact hf.elim
    · obtain ⟨i, x, b, h1, h2, h3⟩ := fvL_rn l hf
      by_cases hx : x ∈ bnd h i
      · have := (scs_in (g := g) (f := f) (n := n)).1 hx
        rw [h3.2] at this
        exact absurd this h2
      · refine ⟨x, .inr (fvL_iff.mpr ⟨i, b, h1, hx, h3.1⟩), ?_⟩
        rw [← h3.2]
        exact (scs_in.2 hx).symm
theorem fvL_rn {g : Nat → A} {y : A} : ∀ (l : Bl) {F : Nat → A → A} {n : Nat} {B : Nat → List A}, fvL y B (rnL g F n l) → ∃ i x b, (kids l)[i]? = some b ∧ y ∉ B i ∧ fv x b ∧ F i x = y
  | .nil, F, n, B, hf => by rw [rnL] at hf; exact hf.elim
  | .cons b l, F, n, B, hf => by
    rw [rnL] at hf
    rcases hf with ⟨h1, h2⟩ | hf
    · obtain ⟨x, q1, q2⟩ := fv_rn b h2
      exact ⟨0, x, b, rfl, h1, q1, q2⟩
    · obtain ⟨i, x, c, q1, q2, q3⟩ := fvL_rn l hf
      exact ⟨i + 1, x, c, q1, q2, q3⟩
end
theorem hb_hrn {g : Nat → A} {f : A → A} {n : Nat} : ∀ h : Hd, hb (hrn g f n h) = hb h
  | .lett _ ms => by rw [hrn, hb, hb, prn_len]
  | .lf _ => rfl
  | .num _ => rfl
  | .get _ => rfl
  | .set _ => rfl
  | .call _ => rfl
  | .op _ => rfl
  | .new _ _ => rfl
mutual
theorem rn_num {g : Nat → A} : ∀ (b : Bk) {f : A → A} {n : Nat}, dp (rn g f n b) = dp b ∧ bc (rn g f n b) = bc b ∧ sz (rn g f n b) = sz b
  | .nd h l, f, n => by
    obtain ⟨a, b, c, d⟩ := rnL_num (g := g) l (F := scs g f n h) (n := n + hb h)
    rw [rn, dp, dp, bc, bc, sz, sz, a, b, c, hb_hrn]
    exact ⟨rfl, rfl, rfl⟩
theorem rnL_num {g : Nat → A} : ∀ (l : Bl) {F : Nat → A → A} {n : Nat}, dpL (rnL g F n l) = dpL l ∧ bcL (rnL g F n l) = bcL l ∧ szL (rnL g F n l) = szL l ∧ (rnL g F n l).len = l.len
  | .nil, _, _ => ⟨rfl, rfl, rfl, rfl⟩
  | .cons b l, F, n => by
    obtain ⟨a1, a2, a3⟩ := rn_num (g := g) b (f := F 0) (n := n)
    obtain ⟨b1, b2, b3, b4⟩ := rnL_num (g := g) l (F := fun i => F (i + 1)) (n := n + bc b)
    rw [rnL, dpL, dpL, bcL, bcL, szL, szL, Bl.len, Bl.len, a1, a2, a3, b1, b2, b3, b4]
    exact ⟨rfl, rfl, rfl, rfl⟩
end
theorem prn_nodup {g : Nat → A} {L : Nat} (hi : ∀ i j, i < L → j < L → g i = g j → i = j) : ∀ (ms : List (A × Bool)) (n : Nat), n + ms.length ≤ L → ((prn g n ms).map (·.1)).Nodup
  | [], _, _ => List.nodup_nil
  | m :: ms, n, h => by
    rw [prn, List.map_cons]
    rw [List.length_cons] at h
    refine List.nodup_cons.mpr ⟨fun hm => ?_, prn_nodup hi ms (n + 1) (by omega)⟩
    obtain ⟨i, h1, h2, h3⟩ := prn_mem.mp hm
    have := hi n i (by omega) (by omega) h3
    omega
theorem updL_M {M : A → Prop} {g : Nat → A} {L : Nat} (hg : ∀ i, i < L → M (g i)) : ∀ {ms : List (A × Bool)} {f : A → A} {n : Nat}, (∀ x, M (f x) ∨ f x = x) → n + ms.length ≤ L → ∀ x, M (updL f g n ms x) ∨ updL f g n ms x = x
  | [], f, n, h, _ => h
  | m :: ms, f, n, h, hl => by
    rw [updL]
    rw [List.length_cons] at hl
    refine updL_M hg (fun x => ?_) (by omega)
    unfold upd
    by_cases e : x = m.1
    · rw [if_pos e]; exact .inl (hg n (by omega))
    · rw [if_neg e]; exact h x
theorem scs_M {M : A → Prop} {g : Nat → A} {L : Nat} (hg : ∀ i, i < L → M (g i)) {f : A → A} (hf : ∀ x, M (f x) ∨ f x = x) {n : Nat} {h : Hd} (hn : n + hb h ≤ L) (i : Nat) : ∀ x, M (scs g f n h i x) ∨ scs g f n h i x = x := by
  have key : ∀ (y : A), n < L → ∀ x, M (upd f y (g n) x) ∨ upd f y (g n) x = x := fun y hl x => by
    unfold upd
    by_cases e : x = y
    · rw [if_pos e]; exact .inl (hg n hl)
    · rw [if_neg e]; exact hf x
  cases h with
  | new y k => exact key y (by rw [hb] at hn; omega)
  | lett y ms =>
    rw [hb] at hn
    cases i with
    | zero => exact updL_M hg hf (by omega)
    | succ i => exact key y (by omega)
  | lf t => exact hf
  | num t => exact hf
  | get t => exact hf
  | set t => exact hf
  | call t => exact hf
  | op t => exact hf
mutual
theorem rn_wf {N : A → Prop} {g : Nat → A} {L : Nat} (hg : ∀ i, i < L → N (g i)) (hi : ∀ i j, i < L → j < L → g i = g j → i = j) : ∀ (b : Bk) {f : A → A} {n : Nat}, wf N b → (∀ x, N (f x) ∨ f x = x) → n + bc b ≤ L → wf N (rn g f n b)
  | .nd h l, f, n, w, hf, hn => by
    have hN : ∀ x, N x → N (f x) := fun x hx => by
      rcases hf x with q | q
      · exact q
      · rw [q]; exact hx
    rw [bc] at hn
    rw [rn]
    refine ⟨?_, rnL_wf hg hi l w.2 (fun i => scs_M hg hf (by omega) i) (by omega)⟩
    have w1 := w.1
    rw [(rnL_num l).2.2.2]
    cases h with
    | get x => exact ⟨hN x w1.1, w1.2⟩
    | set x => exact ⟨hN x w1.1, w1.2⟩
    | call x => exact ⟨hN x w1.1, w1.2⟩
    | new x k => exact ⟨hg n (by rw [hb] at hn; omega), w1.2⟩
    | lett x ms =>
      rw [hb] at hn
      refine ⟨hg n (by omega), fun m hm => ?_, prn_nodup hi ms (n + 1) (by omega), by rw [prn_len]; exact w1.2.2.2.1, w1.2.2.2.2⟩
      obtain ⟨i, h1, h2, h3⟩ := prn_mem.mp (List.mem_map_of_mem (f := (·.1)) hm)
      have h3' : m.1 = g i := h3
      rw [h3']
      exact hg i (by omega)
    | lf t => exact w1
    | num t => exact w1
    | op t => exact w1
theorem rnL_wf {N : A → Prop} {g : Nat → A} {L : Nat} (hg : ∀ i, i < L → N (g i)) (hi : ∀ i j, i < L → j < L → g i = g j → i = j) : ∀ (l : Bl) {F : Nat → A → A} {n : Nat}, wfL N l → (∀ i x, N (F i x) ∨ F i x = x) → n + bcL l ≤ L → wfL N (rnL g F n l)
  | .nil, _, _, _, _, _ => trivial
  | .cons b l, F, n, w, hf, hn => by
    rw [bcL] at hn
    rw [rnL]
    exact ⟨rn_wf hg hi b w.1 (hf 0) (by omega), rnL_wf hg hi l w.2 (fun i => hf (i + 1)) (by omega)⟩
end
end K03

namespace K03
open PySem PySem.Spec PyProof.Rows L2 ML
/-! ### dicts -/
section
variable {I : List Nat}
@[simp] theorem ev_dnew (ρ : Rho) : mDnew ρ = .ok (.fre, .dK [] []) ρ := rfl
@[simp] theorem ev_dspl (fe fk fv : Rho → ML.R (Md × W)) (ρ : Rho) : mDspl I fe fk fv ρ = (fe ρ).bind fun b ρ1 => (match peek b.1 b.2 ρ1 with
  | some (.dK ks l) => if ks.length + 1 ≤ sizeLine then (fk ρ1).bind fun kb ρ2 => (match kb.1, toK kb.2 with
    | .val, some key => (fv ρ2).bind fun vb ρ3 => (toVal I vb ρ3).bind fun w ρ4 => .ok (.fre, .dK (dPut ks l key w).1 (dPut ks l key w).2) ρ4
    | _, _ => .stk) else .stk
  | _ => .stk) := rfl
@[simp] theorem ev_dget (fo fa fb : Rho → ML.R (Md × W)) (ρ : Rho) : mDget I fo fa fb ρ = (fo ρ).bind fun b ρ1 => (match peek b.1 b.2 ρ1 with
  | some (.dK _ _) => (fa ρ1).bind fun kb ρ2 => (match kb.1, toK kb.2 with
    | .val, some key => (fb ρ2).bind fun vb ρ3 => (toVal I vb ρ3).bind fun w ρ4 => (match peek b.1 b.2 ρ4 with
      | some (.dK ks l) => .ok (.val, (dGet ks l key).getD w) ρ4
      | _ => .stk)
    | _, _ => .stk)
  | _ => .stk) := rfl
@[simp] theorem ev_storeD (i : Nat) (fk fe : Rho → ML.R (Md × W)) (ρ : Rho) : mStoreD i I fk fe ρ = (fe ρ).bind fun b ρ1 => (toVal I b ρ1).bind fun w ρ2 => (match ownAt ρ2 i with
  | some (.dK _ _) => (fk ρ2).bind fun kb ρ3 => (match kb.1, toK kb.2, ownAt ρ3 i with
    | .val, some key, some (.dK ks l) => if ks.length < sizeLine then .ok .nx (ρ3.set i (.own (.dK (dPut ks l key w).1 (dPut ks l key w).2))) else .stk
    | _, _, _ => .stk)
  | _ => .stk) := rfl
@[simp] theorem ev_tru (f : Rho → ML.R (Md × W)) (ρ : Rho) : mTru f ρ = (f ρ).bind fun b ρ1 => (match peek b.1 b.2 ρ1 with
  | some (.lst l) => .ok (!l.isEmpty) ρ1
  | _ => .stk) := rfl
@[simp] theorem tok_s (s : Str) : toK (.str s) = some (.inr s) := rfl
@[simp] theorem ev_dctC (ks : List Key) (l : List W) : gDctC [.dK ks l] = some (.fre, .dK ks l) := rfl
end
theorem vals_off : ∀ {ks : List Key} {l : List W} {k : Key} {w : W}, ks.length = l.length → kHas ks k = false → dVals ks l k w = l
  | [], [], _, _, _, _ => rfl
  | [], _ :: _, _, _, n, _ => by cases n
  | _ :: _, [], _, _, n, _ => by cases n
  | k0 :: ks, w0 :: l, k, w, n, h => by
    have h' : (decide (k0 = k) || kHas ks k) = false := h
    rw [Bool.or_eq_false_iff] at h'
    rw [dVals, if_neg (of_decide_eq_false h'.1), vals_off (Nat.succ.inj n) h'.2]
theorem get_off : ∀ {ks : List Key} {l : List W} {k k' : Key} {w : W}, ks.length = l.length → kHas ks k = false → dGet (ks ++ [k]) (l ++ [w]) k' = if k = k' then some w else dGet ks l k'
  | [], [], k, k', w, _, _ => by
    show dGet [k] [w] k' = _
    rw [dGet]
  | [], _ :: _, _, _, _, n, _ => by cases n
  | _ :: _, [], _, _, _, n, _ => by cases n
  | k0 :: ks, w0 :: l, k, k', w, n, h => by
    have h' : (decide (k0 = k) || kHas ks k) = false := h
    rw [Bool.or_eq_false_iff] at h'
    have h1 := of_decide_eq_false h'.1
    rw [List.cons_append, List.cons_append, dGet, get_off (Nat.succ.inj n) h'.2, dGet]
    by_cases e : k0 = k'
    · rw [if_pos e, if_pos e, if_neg (fun z => h1 (e.trans z.symm))]
    · rw [if_neg e, if_neg e]
theorem get_vals : ∀ {ks : List Key} {l : List W} {k k' : Key} {w : W}, ks.length = l.length → kHas ks k = true → dGet ks (dVals ks l k w) k' = if k = k' then some w else dGet ks l k'
  | [], _, _, _, _, _, h => by cases h
  | _ :: _, [], _, _, _, n, _ => by cases n
  | k0 :: ks, w0 :: l, k, k', w, n, h => by
    rw [dVals, dGet, dGet]
    have n' := Nat.succ.inj n
    cases h2 : kHas ks k with
    | true =>
      rw [get_vals n' h2]
      by_cases e : k0 = k'
      · rw [if_pos e, if_pos e]
        by_cases e2 : k0 = k
        · rw [if_pos e2, if_pos (e2.symm.trans e)]
        · rw [if_neg e2, if_neg fun z => e2 (e.trans z.symm)]
      · rw [if_neg e, if_neg e]
    | false =>
      rw [vals_off n' h2]
      have h' : (decide (k0 = k) || kHas ks k) = true := h
      rw [h2, Bool.or_false] at h'
      have e2 := of_decide_eq_true h'
      subst e2
      by_cases e : k0 = k'
      · rw [if_pos e, if_pos rfl, if_pos e]
      · rw [if_neg e, if_neg e, if_neg e]
theorem get_put {ks : List Key} {l : List W} {k k' : Key} {w : W} (n : ks.length = l.length) : dGet (dPut ks l k w).1 (dPut ks l k w).2 k' = if k = k' then some w else dGet ks l k' := by
  unfold dPut
  cases h : kHas ks k with
  | true => rw [if_pos rfl]; exact get_vals n h
  | false => rw [if_neg Bool.false_ne_true]; exact get_off n h
theorem vals_len : ∀ {ks : List Key} {l : List W} {k : Key} {w : W}, ks.length = l.length → (dVals ks l k w).length = ks.length
  | [], [], _, _, _ => rfl
  | [], _ :: _, _, _, n => by cases n
  | _ :: _, [], _, _, n => by cases n
  | k0 :: ks, w0 :: l, k, w, n => by rw [dVals, List.length_cons, vals_len (Nat.succ.inj n), List.length_cons]
theorem put_len {ks : List Key} {l : List W} {k : Key} {w : W} (n : ks.length = l.length) : (dPut ks l k w).1.length = (dPut ks l k w).2.length ∧ (dPut ks l k w).1.length ≤ ks.length + 1 := by
  unfold dPut
  cases h : kHas ks k with
  | true => rw [if_pos rfl]; exact ⟨(vals_len n).symm, Nat.le_succ _⟩
  | false =>
    rw [if_neg Bool.false_ne_true]
    refine ⟨?_, ?_⟩
    · rw [List.length_append, List.length_append, n]; rfl
    · rw [List.length_append]; exact Nat.le_refl _
/-- a dict is a scope -/
def DR (m : Nat) (ks : List Key) (l : List W) (f : A → A) : Prop := ks.length = l.length ∧ ks.length ≤ m ∧ ∀ x, (dGet ks l (.inr (S x))).getD (tW x) = tW (f x)
theorem DR.nil {m : Nat} : DR m [] [] id := ⟨rfl, Nat.zero_le _, fun _ => rfl⟩
theorem DR.mono {m k : Nat} {ks : List Key} {l : List W} {f : A → A} (h : DR m ks l f) (hm : m ≤ k) : DR k ks l f := ⟨h.1, Nat.le_trans h.2.1 hm, h.2.2⟩
theorem DR.put {m : Nat} {ks : List Key} {l : List W} {f : A → A} (h : DR m ks l f) (x y : A) : DR (m + 1) (dPut ks l (.inr (S x)) (tW y)).1 (dPut ks l (.inr (S x)) (tW y)).2 (upd f x y) := by
  obtain ⟨h1, h2, h3⟩ := h
  obtain ⟨a, b⟩ := put_len (k := .inr (S x)) (w := tW y) h1
  refine ⟨a, by omega, fun z => ?_⟩
  rw [get_put h1]
  unfold upd
  by_cases e : z = x
  · rw [if_pos e, if_pos (by rw [e]), Option.getD_some]
  · rw [if_neg e, if_neg (fun q => by
      have q2 : S x = S z := Sum.inr.inj q
      have q3 : x = z := by simpa using q2
      exact e q3.symm)]
    exact h3 z
end K03

namespace K03
open PySem PySem.Spec PyProof.Rows L2 ML
/-! ### bound names, counts -/
theorem lc_prm {i : Nat} {f : Rho → ML.R (Md × W)} {ms : List (A × Bool)} {ρ : Rho} (hf : f ρ = .ok (.val, .tup (ms.map prmW)) ρ) (hi : i < ρ.length) (hn : ρ.set i .no = ρ) (hl : ms.length ≤ 3) : mLc [] (mItems [] f) (.nm i) mYes (mOp gIx (mVar i) (mC (.int 0))) ρ = .ok (.fre, .lst ((ms.map (·.1)).map tW)) ρ := by
  have hq : All2 (fun (w : W) (m : A × Bool) => w = prmW m) (ms.map prmW) ms := by
    clear hf hl
    induction ms with
    | nil => exact .nil
    | cons m ms ih => exact .cons rfl ih
  have e := lc_gen (I := []) (it := mItems [] f) (i := i) (fe := mOp gIx (mVar i) (mC (.int 0))) (g := fun m : A × Bool => tW m.1) (ρ := ρ) (by simp -implicitDefEqProofs [ev_items, hf]) (by simp) (fun w m q => by
    subst q
    have e2 : (ρ.set i (.val (prmW m)))[i]? = some (.val (prmW m)) := by rw [List.getElem?_set_self hi]
    simp -implicitDefEqProofs [ev_var, e2]
    simp [prmW]) hq (by rw [List.length_map, line_is]; omega) hn
  rw [e, List.map_map]
  rfl
section
variable {N : A → Prop}
theorem len_tup (l : List W) : gLen [.tup l] = some (.val, .int (l.length : Int)) := rfl
theorem e_bound {h : Hd} {ws : List W} (w : wfH N h ws.length) : ∃ l : List W, fun_bound_names [encH h ws] = .ok false (.tup l) [] ∧ l.length = hb h := by
  have emp : fun_bound_names [encH h ws] = .ok false (.tup []) [] → hb h = 0 → ∃ l : List W, fun_bound_names [encH h ws] = .ok false (.tup l) [] ∧ l.length = hb h := fun a b => ⟨[], a, b.symm⟩
  cases h with
  | lf t =>
    refine emp ?_ rfl
    unfold fun_bound_names body_bound_names
    rcases w.1 with rfl | rfl <;> simp -implicitDefEqProofs [ev_var, encH]
  | num k => refine emp ?_ rfl; unfold fun_bound_names body_bound_names; simp -implicitDefEqProofs [ev_var, encH]
  | get x => refine emp ?_ rfl; unfold fun_bound_names body_bound_names; simp -implicitDefEqProofs [ev_var, encH]
  | set x => refine emp ?_ rfl; unfold fun_bound_names body_bound_names; simp -implicitDefEqProofs [ev_var, encH]
  | call x => refine emp ?_ rfl; unfold fun_bound_names body_bound_names; simp -implicitDefEqProofs [ev_var, encH]
  | op t =>
    refine emp ?_ rfl
    unfold fun_bound_names body_bound_names
    rcases w with ⟨h1, _⟩ | ⟨rfl, _⟩
    · rcases op_cases h1 with rfl | rfl | rfl | rfl | rfl <;> simp -implicitDefEqProofs [ev_var, encH]
    · simp -implicitDefEqProofs [ev_var, encH]
  | new x k =>
    refine ⟨[tW x], ?_, rfl⟩
    unfold fun_bound_names body_bound_names
    simp -implicitDefEqProofs [ev_var, encH]
  | lett x ms =>
    have hm : ms.length ≤ 3 := w.2.2.2.1
    refine ⟨tW x :: (ms.map (·.1)).map tW, ?_, by simp [hb]; omega⟩
    have e := lc_prm (i := 1) (f := mOp gIx (mVar 0) (mC (.int 2))) (ms := ms) (ρ := [Sl.val (.tup (tW [108, 101, 116] :: tW x :: .tup (ms.map prmW) :: ws)), Sl.no]) (by simp -implicitDefEqProofs [ev_var]) (by simp) rfl hm
    have z : 1 + ms.length ≤ sizeLine := by rw [line_is]; omega
    show fun_bound_names [.tup (tW [108, 101, 116] :: tW x :: .tup (ms.map prmW) :: ws)] = _
    unfold fun_bound_names body_bound_names
    simp -implicitDefEqProofs [ev_var, e, z]
theorem e_bip {h : Hd} {ws : List W} (w : wfH N h ws.length) (i : Nat) : fun_bound_in_part [encH h ws, .int (i : Int)] = .ok false (.tup ((bnd h i).map tW)) [] := by
  cases h with
  | lf t => unfold fun_bound_in_part body_bound_in_part; rcases w.1 with rfl | rfl <;> simp -implicitDefEqProofs [ev_var, encH, bnd]
  | num k => unfold fun_bound_in_part body_bound_in_part; simp -implicitDefEqProofs [ev_var, encH, bnd]
  | get x => unfold fun_bound_in_part body_bound_in_part; simp -implicitDefEqProofs [ev_var, encH, bnd]
  | set x => unfold fun_bound_in_part body_bound_in_part; simp -implicitDefEqProofs [ev_var, encH, bnd]
  | call x => unfold fun_bound_in_part body_bound_in_part; simp -implicitDefEqProofs [ev_var, encH, bnd]
  | op t =>
    unfold fun_bound_in_part body_bound_in_part
    rcases w with ⟨h1, _⟩ | ⟨rfl, _⟩
    · rcases op_cases h1 with rfl | rfl | rfl | rfl | rfl <;> simp -implicitDefEqProofs [ev_var, encH, bnd]
    · simp -implicitDefEqProofs [ev_var, encH, bnd]
  | new x k => unfold fun_bound_in_part body_bound_in_part; simp -implicitDefEqProofs [ev_var, encH, bnd]
  | lett x ms =>
    have hm : ms.length ≤ 3 := w.2.2.2.1
    cases i with
    | zero =>
      have e := lc_prm (i := 2) (f := mOp gIx (mVar 0) (mC (.int 2))) (ms := ms) (ρ := [Sl.val (.tup (tW [108, 101, 116] :: tW x :: .tup (ms.map prmW) :: ws)), Sl.val (.int 0), Sl.no]) (by simp -implicitDefEqProofs [ev_var]) (by simp) rfl hm
      show fun_bound_in_part [.tup (tW [108, 101, 116] :: tW x :: .tup (ms.map prmW) :: ws), .int 0] = _
      unfold fun_bound_in_part body_bound_in_part
      simp -implicitDefEqProofs [ev_var, e, bnd]
    | succ i =>
      have hi : ¬ ((i : Int) + 1 = 0) := by omega
      unfold fun_bound_in_part body_bound_in_part
      simp -implicitDefEqProofs [ev_var, encH, bnd, hi]
end
noncomputable def bcF : Nat → List W → FR
  | 0 => fun _ => .stk
  | d + 1 => fun_binding_count fun_bound_names fun_parts_of (bcF d)
theorem nums_map (l : List Int) : numsW (l.map W.int) = some l := by
  induction l with
  | nil => rfl
  | cons i l ih => rw [List.map_cons, numsW, ih]; rfl
theorem sum_map (l : List Nat) : gSum [.lst (l.map fun (n : Nat) => W.int (n : Int))] = some (.val, .int ((l.sum : Nat) : Int)) := by
  have e : l.map (fun (n : Nat) => W.int (n : Int)) = (l.map fun (n : Nat) => (n : Int)).map W.int := by rw [List.map_map]; rfl
  have e2 : (l.map fun (n : Nat) => (n : Int)).sum = ((l.sum : Nat) : Int) := by
    induction l with
    | nil => rfl
    | cons n l ih => simp [ih (by rw [List.map_map]; rfl)]
  show (numsW _).map _ = _
  rw [e, nums_map, Option.map_some, e2]
theorem bcL_sum : ∀ l : Bl, bcL l = ((kids l).map bc).sum
  | .nil => rfl
  | .cons b l => by rw [bcL, kids, List.map_cons, List.sum_cons, bcL_sum l]
theorem e_count {N : A → Prop} : ∀ (d : Nat) (b : Bk), wf N b → dp b ≤ d → bcF d [enc b] = .ok false (.int (bc b : Int)) []
  | 0, .nd h l, _, hd => by rw [dp] at hd; omega
  | d + 1, .nd h l, w, hd => by
    rw [dp] at hd
    have wh : wfH N h (encL l).length := by rw [encL_len]; exact w.1
    have e1 := e_parts wh
    obtain ⟨bl, e2, e3⟩ := e_bound wh
    have hk : All2 (fun (b : W) (z : Bk) => bcF d [b] = .ok false (.int ((bc z : Nat) : Int)) []) (encL l) (kids l) := by
      have : ∀ m : Bl, wfL N m → dpL m ≤ d → All2 (fun (b : W) (z : Bk) => bcF d [b] = .ok false (.int ((bc z : Nat) : Int)) []) (encL m) (kids m) := fun m => by
        intro hw hm
        rw [encL_kids]
        have : ∀ (k : List Bk), (∀ b ∈ k, wf N b ∧ dp b ≤ d) → All2 (fun (b : W) (z : Bk) => bcF d [b] = .ok false (.int ((bc z : Nat) : Int)) []) (k.map enc) k := fun k => by
          induction k with
          | nil => exact fun _ => .nil
          | cons c k ih => exact fun q => .cons (e_count d c (q c (List.mem_cons_self ..)).1 (q c (List.mem_cons_self ..)).2) (ih fun b hb => q b (List.mem_cons_of_mem _ hb))
        exact this _ fun b hb => ⟨wfL_mem hw b hb, Nat.le_trans (dpL_mem b hb) hm⟩
      exact this l w.2 (by omega)
    have hl5 : (encL l).length ≤ 1000 := by
      have := wh
      cases h with
      | lf t => have := wh.2; omega
      | num k => have := wh.2; omega
      | get x => have := wh.2; omega
      | set x => have := wh.2; omega
      | call x => have := wh.2; omega
      | op t => rcases wh with ⟨_, h2⟩ | ⟨_, h2⟩ <;> omega
      | new x k => have := wh.2.2; omega
      | lett x ms => have := wh.2.2.2.2; omega
    have e4 := e_lc1 (i := 1) (f := mCall [] [] fun_parts_of [mVar 0]) (g := fun z : Bk => W.int ((bc z : Nat) : Int)) (ρ := [Sl.val (encH h (encL l)), Sl.no]) hk (by simp -implicitDefEqProofs [ev_var, e1]) (by simp) rfl (by rw [line_is]; omega)
    have e5 : (kids l).map (fun z : Bk => W.int ((bc z : Nat) : Int)) = ((kids l).map bc).map fun (n : Nat) => W.int (n : Int) := by rw [List.map_map]; rfl
    rw [e5] at e4
    have e6 := sum_map ((kids l).map bc)
    rw [← bcL_sum] at e6
    show fun_binding_count fun_bound_names fun_parts_of (bcF d) [encH h (encL l)] = _
    unfold fun_binding_count body_binding_count
    generalize bcF d = m at *
    generalize fun_bound_names = bn at *
    generalize fun_parts_of = po at *
    generalize encH h (encL l) = E at *
    generalize ((kids l).map bc).map (fun (n : Nat) => W.int (n : Int)) = KS at *
    simp -implicitDefEqProofs [ev_var, e2, len_tup, e4, e6, e3, bc]
end K03

namespace K03
open PySem PySem.Spec PyProof.Rows L2 ML
/-! ### the program renames -/
def nlW (g : Nat → A) (L : Nat) : List W := (List.range L).map fun i => tW (g i)
theorem nl_at {g : Nat → A} {L n : Nat} (h : n < L) : atI (nlW g L) (n : Int) = some (tW (g n)) := by
  rw [ML.atI_nat, nlW, List.getElem?_map, List.getElem?_range h]
  rfl
def frL (blk sc : W) (nl : List W) (at_ : Int) (n : Nat) (ps : List (A × Bool)) (ks : List Key) (l : List W) (s7 s8 : Sl) : Rho := [Sl.val blk, Sl.val sc, Sl.val (.lst nl), Sl.val (.int at_), Sl.own (.lst (ps.map prmW)), Sl.own (.dK ks l), Sl.val (.int (n : Int)), s7, s8, Sl.no, Sl.no]
def ltB : Rho → ML.R Fl := mSeq (mDrop (mAppend 4 [] (mTup [] [mOp gIx (mVar 2) (mVar 6), mVar 8]))) (mSeq (mStoreD 5 [] (mVar 7) (mOp gIx (mVar 2) (mVar 6))) (mAugI (fun i j => i + j) 6 [] (mC (.int 1))))
theorem ltB_step {blk sc : W} {nl : List W} {at_ : Int} {n : Nat} {ps : List (A × Bool)} {ks : List Key} {l : List W} {m : A × Bool} {y : A} (h : atI nl (n : Int) = some (tW y)) (hp : ps.length ≤ 100) (hk : ks.length ≤ 10000) :
    ltB (frL blk sc nl at_ n ps ks l (Sl.val (tW m.1)) (Sl.val (tW (kd m.2)))) = .ok .nx (frL blk sc nl at_ (n + 1) (ps ++ [(y, m.2)]) (dPut ks l (.inr (S m.1)) (tW y)).1 (dPut ks l (.inr (S m.1)) (tW y)).2 (Sl.val (tW m.1)) (Sl.val (tW (kd m.2)))) := by
  have h1 : (ps.map prmW).length < sizeLine := by rw [List.length_map, line_is]; omega
  have h1' : ps.length < sizeLine := by rw [line_is]; omega
  have h2 : ks.length < sizeLine := by rw [line_is]; omega
  unfold ltB frL
  rw [List.map_append]
  simp -implicitDefEqProofs [ev_var, ev_own, h, h1', h2, l2, prmW]
theorem let_loop {blk sc : W} {g : Nat → A} {L : Nat} {at_ : Int} : ∀ (ms : List (A × Bool)) {ps : List (A × Bool)} {n k : Nat} {f : A → A} {ks : List Key} {l : List W} {s7 s8 : Sl}, DR k ks l f → n + ms.length ≤ L → ps.length + ms.length ≤ 100 → k + ms.length ≤ 10000 →
    ∃ ks' l' s7' s8', forL (gTup [gSet [] 7, gSet [] 8]) ltB (ms.map prmW) (frL blk sc (nlW g L) at_ n ps ks l s7 s8) = .ok .nx (frL blk sc (nlW g L) at_ (n + ms.length) (ps ++ prn g n ms) ks' l' s7' s8') ∧ DR (k + ms.length) ks' l' (updL f g n ms)
  | [], ps, n, k, f, ks, l, s7, s8, hd, _, _, _ => ⟨ks, l, s7, s8, by rw [prn, List.append_nil]; rfl, hd⟩
  | m :: ms, ps, n, k, f, ks, l, s7, s8, hd, hn, hp, hk => by
    rw [List.length_cons] at hn hp hk
    have e1 := ltB_step (blk := blk) (sc := sc) (at_ := at_) (n := n) (ps := ps) (ks := ks) (l := l) (m := m) (nl_at (g := g) (L := L) (n := n) (by omega)) (by omega) (by have := hd.2.1; omega)
    obtain ⟨ks', l', s7', s8', e2, e3⟩ := let_loop (blk := blk) (sc := sc) (at_ := at_) (g := g) (L := L) ms (ps := ps ++ [(g n, m.2)]) (n := n + 1) (k := k + 1) (s7 := Sl.val (tW m.1)) (s8 := Sl.val (tW (kd m.2))) (hd.put m.1 (g n)) (by omega) (by simp; omega) (by omega)
    refine ⟨ks', l', s7', s8', ?_, by rw [List.length_cons, updL]; exact (by rw [show k + (ms.length + 1) = k + 1 + ms.length by omega]; exact e3)⟩
    rw [List.map_cons, ev_forc]
    have e0 : gTup [gSet [] 7, gSet [] 8] (prmW m) (frL blk sc (nlW g L) at_ n ps ks l s7 s8) = some (frL blk sc (nlW g L) at_ n ps ks l (Sl.val (tW m.1)) (Sl.val (tW (kd m.2)))) := rfl
    rw [e0]
    show loopF (ltB _) _ = _
    rw [e1, ev_lpn, e2, prn, List.length_cons, List.append_assoc]
    rw [show n + 1 + ms.length = n + (ms.length + 1) by omega]
    rfl
theorem e_let {m : List W → FR} {g : Nat → A} {L n k n1 n2 : Nat} {x : A} {ms : List (A × Bool)} {b c u v : W} {f : A → A} {ks : List Key} {l : List W} (hd : DR k ks l f) (hn : n + 1 + ms.length ≤ L) (hm : ms.length ≤ 3) (hk : k ≤ 9000)
    (hB : ∀ ks1 l1, DR (k + ms.length) ks1 l1 (updL f g (n + 1) ms) → m [b, .dK ks1 l1, .lst (nlW g L), .int ((n + 1 + ms.length : Nat) : Int)] = .ok false (.tup [u, .int (n1 : Int)]) [])
    (hC : ∀ ks1 l1, DR (k + 1) ks1 l1 (upd f x (g n)) → m [c, .dK ks1 l1, .lst (nlW g L), .int (n1 : Int)] = .ok false (.tup [v, .int (n2 : Int)]) []) :
    fun_renamed_let m [.tup [tW [108, 101, 116], tW x, .tup (ms.map prmW), b, c], .dK ks l, .lst (nlW g L), .int (n : Int)] = .ok false (.tup [.tup [tW [108, 101, 116], tW (g n), .tup ((prn g (n + 1) ms).map prmW), u, v], .int (n2 : Int)]) [] := by
  obtain ⟨ks1, l1, s7, s8, e1, e2⟩ := let_loop (blk := .tup [tW [108, 101, 116], tW x, .tup (ms.map prmW), b, c]) (sc := .dK ks l) (at_ := (n : Int)) (g := g) (L := L) ms (ps := []) (n := n + 1) (k := k) (s7 := Sl.no) (s8 := Sl.no) hd hn (by simp; omega) (by omega)
  have eB := hB ks1 l1 e2
  have hz : ks.length + 1 ≤ sizeLine := by rw [line_is]; have := hd.2.1; omega
  have eC := hC _ _ (hd.put x (g n))
  have h2 := nl_at (g := g) (L := L) (n := n) (by omega)
  have l5 : (5 ≤ sizeLine) = True := by simp [line_is]
  rw [List.nil_append] at e1
  have hc1 : ((n + 1 : Nat) : Int) = (n : Int) + 1 := by omega
  have hc2 : ((n + 1 + ms.length : Nat) : Int) = (n : Int) + 1 + (ms.length : Int) := by omega
  unfold ltB frL at e1
  rw [hc1, hc2] at e1
  rw [hc2] at eB
  generalize nlW g L = NL at *
  generalize (prn g (n + 1) ms).map prmW = PS at *
  simp only [List.map_nil] at e1
  unfold fun_renamed_let body_renamed_let
  simp -implicitDefEqProofs [ev_var, ev_own, h2, e1, eB, eC, hz, l5, l2, ML.gTup, gTups, gSet]
end K03

namespace K03
open PySem PySem.Spec PyProof.Rows L2 ML
/-! ### renamed within -/
noncomputable def rwP : Nat → (List W → FR) × (List W → FR)
  | 0 => (fun _ => .stk, fun _ => .stk)
  | d + 1 => (fun_renamed_within (rwP d).2 (rwP d).1 fun_parts_of fun_with_sub_blocks, fun_renamed_let (rwP d).1)
section
variable {lt m po wi : List W → FR} {g : Nat → A} {f : A → A} {ks : List Key} {l : List W} {L k : Nat}
theorem w_new {n n1 kk : Nat} {x : A} {b u : W} (hd : DR k ks l f) (hn : n < L) (hk : k ≤ 9000)
    (hB : ∀ ks1 l1, DR (k + 1) ks1 l1 (upd f x (g n)) → m [b, .dK ks1 l1, .lst (nlW g L), .int ((n + 1 : Nat) : Int)] = .ok false (.tup [u, .int (n1 : Int)]) []) :
    fun_renamed_within lt m po wi [.tup [tW [110, 101, 119], tW x, .int (kk : Int), b], .dK ks l, .lst (nlW g L), .int (n : Int)] = .ok false (.tup [.tup [tW [110, 101, 119], tW (g n), .int (kk : Int), u], .int (n1 : Int)]) [] := by
  have eB := hB _ _ (hd.put x (g n))
  have hz : ks.length + 1 ≤ sizeLine := by rw [line_is]; have := hd.2.1; omega
  have h2 := nl_at (g := g) (L := L) (n := n) hn
  rw [show ((n + 1 : Nat) : Int) = (n : Int) + 1 by omega] at eB
  generalize nlW g L = NL at *
  unfold fun_renamed_within body_renamed_within
  simp -implicitDefEqProofs [ev_var, ev_own, h2, eB, hz, l4, l2, ML.gTup, gTups, gSet]
theorem w_let {n : Nat} {x : A} {ps b c r : W} {nl : W} (h : lt [.tup [tW [108, 101, 116], tW x, ps, b, c], .dK ks l, nl, .int (n : Int)] = .ok false r []) :
    fun_renamed_within lt m po wi [.tup [tW [108, 101, 116], tW x, ps, b, c], .dK ks l, nl, .int (n : Int)] = .ok false r [] := by
  unfold fun_renamed_within body_renamed_within
  simp -implicitDefEqProofs [ev_var, ev_own, h]
inductive Steps (m : List W → FR) (sc nl : W) : Nat → List W → List W → Nat → Prop
  | nil (n : Nat) : Steps m sc nl n [] [] n
  | cons {n p q : Nat} {w u : W} {ws us : List W} : m [w, sc, nl, .int (n : Int)] = .ok false (.tup [u, .int (p : Int)]) [] → Steps m sc nl p ws us q → Steps m sc nl n (w :: ws) (u :: us) q
theorem Steps.len {sc nl : W} {n p : Nat} {ws us : List W} (h : Steps m sc nl n ws us p) : us.length = ws.length := by
  induction h with
  | nil => rfl
  | cons _ _ ih => rw [List.length_cons, List.length_cons, ih]
def frO (blk sc nl wd : W) (at_ : Int) (n : Nat) (us : List W) (s8 s9 : Sl) : Rho := [Sl.val blk, Sl.val sc, Sl.val nl, Sl.val (.int at_), Sl.val wd, Sl.no, Sl.val (.int (n : Int)), Sl.own (.lst us), s8, s9, Sl.no]
def opB (m : List W → FR) : Rho → ML.R Fl := mSeq (mAsgT [] (ML.gTup [gSet [] 9, gSet [] 6]) (mCall [] [] m [mVar 8, mVar 1, mVar 2, mVar 6])) (mDrop (mAppend 7 [] (mVar 9)))
theorem op_loop {blk sc nl wd : W} {at_ : Int} {n p : Nat} {ws us : List W} (h : Steps m sc nl n ws us p) : ∀ {acc : List W} {s8 s9 : Sl}, acc.length + ws.length ≤ 1000 →
    ∃ s8' s9', forL (gSet [] 8) (opB m) ws (frO blk sc nl wd at_ n acc s8 s9) = .ok .nx (frO blk sc nl wd at_ p (acc ++ us) s8' s9') := by
  induction h with
  | nil n => exact fun {acc s8 s9} _ => ⟨s8, s9, by rw [List.append_nil]; rfl⟩
  | @cons n p q w u ws us e h ih =>
    intro acc s8 s9 hl
    rw [List.length_cons] at hl
    have hz : acc.length < sizeLine := by rw [line_is]; omega
    obtain ⟨s8', s9', e2⟩ := ih (acc := acc ++ [u]) (s8 := Sl.val w) (s9 := Sl.val u) (by simp; omega)
    refine ⟨s8', s9', ?_⟩
    rw [ev_forc]
    have e0 : gSet [] 8 w (frO blk sc nl wd at_ n acc s8 s9) = some (frO blk sc nl wd at_ n acc (Sl.val w) s9) := rfl
    rw [e0]
    show loopF (opB m _) _ = _
    have e1 : opB m (frO blk sc nl wd at_ n acc (Sl.val w) s9) = .ok .nx (frO blk sc nl wd at_ p (acc ++ [u]) (Sl.val w) (Sl.val u)) := by
      unfold opB frO
      simp -implicitDefEqProofs [ev_var, ev_own, e, hz, ML.gTup, gTups, gSet]
    rw [e1, ev_lpn, e2, List.append_assoc]
    rfl
def nb : Hd → Prop
  | .new _ _ => False
  | .lett _ _ => False
  | _ => True
theorem w_op {N : A → Prop} {h : Hd} {ws us : List W} {n p : Nat} {nl : W} (hd : DR k ks l f) (hh : nb h) (w : wfH N h ws.length) (hs : Steps m (.dK ks l) nl n ws us p) (n0 : Nat) :
    fun_renamed_within lt m fun_parts_of fun_with_sub_blocks [encH h ws, .dK ks l, nl, .int (n : Int)] = .ok false (.tup [encH (hrn g f n0 h) us, .int (p : Int)]) [] := by
  have e1 := e_parts w
  have hul := hs.len
  have e2 := e_with w hul
  have h5 : ws.length ≤ 5 := by
    cases h with
    | lf t => have := w.2; omega
    | num k => have := w.2; omega
    | get x => have := w.2; omega
    | set x => have := w.2; omega
    | call x => have := w.2; omega
    | op t => rcases w with ⟨_, h2⟩ | ⟨_, h2⟩ <;> omega
    | new x k => have := w.2.2; omega
    | lett x ms => have := w.2.2.2.2; omega
  have hg := fun x => hd.2.2 x
  have key : ∀ (wd : W), ∃ s8' s9', forL (gSet [] 8) (opB m) ws (frO (encH h ws) (.dK ks l) nl wd (n : Int) n [] Sl.no Sl.no) = .ok .nx (frO (encH h ws) (.dK ks l) nl wd (n : Int) p us s8' s9') := fun wd => by
    obtain ⟨a, b, e⟩ := op_loop (blk := encH h ws) (wd := wd) (at_ := (n : Int)) hs (acc := []) (s8 := Sl.no) (s9 := Sl.no) (by simp; omega)
    exact ⟨a, b, by simpa using e⟩
  have z1 : 2 + us.length ≤ sizeLine := by rw [line_is]; omega
  have z2 : (2 ≤ sizeLine) = True := by simp [line_is]
  have z3 : (3 ≤ sizeLine) = True := by simp [line_is]
  unfold opB frO at key
  generalize fun_parts_of = po at *
  generalize fun_with_sub_blocks = wi at *
  unfold fun_renamed_within body_renamed_within
  cases h with
  | new x k => exact hh.elim
  | lett x ms => exact hh.elim
  | lf t =>
    obtain ⟨s8, s9, e3⟩ := key (tW t)
    simp only [encH] at e1 e2 e3
    rcases w.1 with rfl | rfl <;> simp -implicitDefEqProofs [ev_var, ev_own, encH, hrn, e1, e2, e3]
  | num t =>
    obtain ⟨s8, s9, e3⟩ := key (tW [110, 117, 109, 98, 101, 114])
    simp only [encH] at e1 e2 e3
    simp -implicitDefEqProofs [ev_var, ev_own, encH, hrn, e1, e2, e3]
  | get x =>
    obtain ⟨s8, s9, e3⟩ := key (tW [103, 101, 116])
    simp only [encH] at e1 e2 e3
    simp -implicitDefEqProofs [ev_var, ev_own, encH, hrn, e1, e2, e3, hg, z2]
  | set x =>
    obtain ⟨s8, s9, e3⟩ := key (tW [115, 101, 116])
    simp only [encH] at e1 e2 e3
    simp -implicitDefEqProofs [ev_var, ev_own, encH, hrn, e1, e2, e3, hg, z1]
  | call x =>
    obtain ⟨s8, s9, e3⟩ := key (tW [99, 97, 108, 108])
    simp only [encH] at e1 e2 e3
    simp -implicitDefEqProofs [ev_var, ev_own, encH, hrn, e1, e2, e3, hg, z3]
  | op t =>
    obtain ⟨s8, s9, e3⟩ := key (tW t)
    simp only [encH] at e1 e2 e3
    rcases w with ⟨h1, _⟩ | ⟨rfl, _⟩
    · rcases op_cases h1 with rfl | rfl | rfl | rfl | rfl <;> simp -implicitDefEqProofs [ev_var, ev_own, encH, hrn, e1, e2, e3]
    · simp -implicitDefEqProofs [ev_var, ev_own, encH, hrn, e1, e2, e3]
end
end K03

namespace K03
open PySem PySem.Spec PyProof.Rows L2 ML
theorem scs_nb {g : Nat → A} {f : A → A} {n : Nat} {h : Hd} (hh : nb h) : scs g f n h = fun _ => f := by
  funext i
  cases h with
  | new x k => exact hh.elim
  | lett x ms => exact hh.elim
  | _ => rfl
theorem hb_nb {h : Hd} (hh : nb h) : hb h = 0 := by
  cases h with
  | new x k => exact hh.elim
  | lett x ms => exact hh.elim
  | _ => rfl
mutual
theorem rw_ok {N : A → Prop} {g : Nat → A} {L : Nat} : ∀ (b : Bk) {d k n : Nat} {f : A → A} {ks : List Key} {l : List W}, wf N b → 2 * dp b ≤ d → DR k ks l f → k + 3 * dp b ≤ 9000 → n + bc b ≤ L →
    (rwP d).1 [enc b, .dK ks l, .lst (nlW g L), .int (n : Int)] = .ok false (.tup [enc (rn g f n b), .int ((n + bc b : Nat) : Int)]) []
  | .nd h lb, d, k, n, f, ks, l, w, hd, hr, hk, hn => by
    rw [dp] at hd hk
    rw [bc] at hn
    obtain ⟨d, rfl⟩ : ∃ e, d = e + 2 := ⟨d - 2, by omega⟩
    by_cases hh : nb h
    · have st := rwL_ok lb (N := N) (g := g) (L := L) (d := d + 1) (k := k) (n := n) (f := f) w.2 (by omega) hr (by omega) (by omega)
      have e := w_op (lt := (rwP (d + 1)).2) (g := g) (N := N) (h := h) hr hh (by rw [encL_len]; exact w.1) st n
      rw [rn, scs_nb hh, hb_nb hh, bc, hb_nb hh, Nat.zero_add, Nat.add_zero]
      exact e
    · cases h with
      | lf t => exact absurd trivial hh
      | num t => exact absurd trivial hh
      | get t => exact absurd trivial hh
      | set t => exact absurd trivial hh
      | call t => exact absurd trivial hh
      | op t => exact absurd trivial hh
      | new x kk =>
        have hl : lb.len = 1 := w.1.2.2
        cases lb with
        | nil => cases hl
        | cons b lb =>
          cases lb with
          | cons c lb => simp [Bl.len] at hl
          | nil =>
            rw [dpL, dpL, Nat.max_zero] at hd hk
            rw [bcL, bcL, hb] at hn
            have e := w_new (lt := (rwP (d + 1)).2) (m := (rwP (d + 1)).1) (po := fun_parts_of) (wi := fun_with_sub_blocks) (kk := kk) (x := x) (b := enc b) (u := enc (rn g (upd f x (g n)) (n + 1) b)) (n1 := n + 1 + bc b) (g := g) (L := L) (n := n) hr (by omega) (by omega) fun ks1 l1 hr1 => rw_ok b (N := N) (d := d + 1) (k := k + 1) w.2.1 (by omega) hr1 (by omega) (by omega)
            rw [bc, bcL, bcL, hb, Nat.add_zero, ← Nat.add_assoc]
            exact e
      | lett x ms =>
        have hl : lb.len = 2 := w.1.2.2.2.2
        have hm : ms.length ≤ 3 := w.1.2.2.2.1
        cases lb with
        | nil => cases hl
        | cons b lb =>
          cases lb with
          | nil => simp [Bl.len] at hl
          | cons c lb =>
            cases lb with
            | cons c lb => simp [Bl.len] at hl
            | nil =>
              rw [dpL, dpL, dpL, Nat.max_zero] at hd hk
              rw [bcL, bcL, bcL, hb] at hn
              have hb1 : dp b ≤ max (dp b) (dp c) := Nat.le_max_left _ _
              have hc1 : dp c ≤ max (dp b) (dp c) := Nat.le_max_right _ _
              have e := e_let (m := (rwP d).1) (g := g) (L := L) (n := n) (k := k) (n1 := n + 1 + ms.length + bc b) (n2 := n + 1 + ms.length + bc b + bc c) (x := x) (ms := ms) (b := enc b) (c := enc c) (u := enc (rn g (updL f g (n + 1) ms) (n + 1 + ms.length) b)) (v := enc (rn g (upd f x (g n)) (n + 1 + ms.length + bc b) c)) hr (by omega) hm (by omega)
                (fun ks1 l1 hr1 => rw_ok b (N := N) (d := d) (k := k + ms.length) w.2.1 (by omega) hr1 (by omega) (by omega))
                (fun ks1 l1 hr1 => rw_ok c (N := N) (d := d) (k := k + 1) w.2.2.1 (by omega) hr1 (by omega) (by omega))
              have e2 := w_let (lt := fun_renamed_let (rwP d).1) (m := (rwP (d + 1)).1) (po := fun_parts_of) (wi := fun_with_sub_blocks) e
              have a1 : n + bc (.nd (.lett x ms) (.cons b (.cons c .nil))) = n + 1 + ms.length + bc b + bc c := by rw [bc, bcL, bcL, bcL, hb]; omega
              rw [a1, rn, rnL, rnL, rnL, hb, ← Nat.add_assoc]
              exact e2
theorem rwL_ok {N : A → Prop} {g : Nat → A} {L : Nat} : ∀ (lb : Bl) {d k n : Nat} {f : A → A} {ks : List Key} {l : List W}, wfL N lb → 2 * dpL lb ≤ d → DR k ks l f → k + 3 * dpL lb ≤ 9000 → n + bcL lb ≤ L →
    Steps (rwP d).1 (.dK ks l) (.lst (nlW g L)) n (encL lb) (encL (rnL g (fun _ => f) n lb)) (n + bcL lb)
  | .nil, _, _, n, _, _, _, _, _, _, _, _ => .nil n
  | .cons b lb, d, k, n, f, ks, l, w, hd, hr, hk, hn => by
    rw [dpL] at hd hk
    rw [bcL] at hn
    have hb1 : dp b ≤ max (dp b) (dpL lb) := Nat.le_max_left _ _
    have hc1 : dpL lb ≤ max (dp b) (dpL lb) := Nat.le_max_right _ _
    rw [bcL, ← Nat.add_assoc]
    exact .cons (rw_ok b (N := N) w.1 (by omega) hr (by omega) (by omega)) (rwL_ok lb (N := N) w.2 (by omega) hr (by omega) (by omega))
end
end K03

namespace K03
open PySem PySem.Spec PyProof.Rows L2 ML
/-! ### fresh names -/
def nk (k : Nat) : A := 110 :: TL.numL k
def valN (l : A) : Nat := l.foldl (fun a c => 10 * a + (c - 48)) 0
theorem num_val : ∀ k, k < 1000 → valN (TL.numL k) = k := by decide +kernel
theorem num_le : ∀ n, n < 1000 → (TL.numL n).length ≤ 3 := by decide +kernel
theorem num_low : ∀ n, n < 1000 → ∀ c ∈ TL.numL n, c < 128 := by decide +kernel
theorem nk_inj {i j : Nat} (hi : i < 1000) (hj : j < 1000) (h : nk i = nk j) : i = j := by
  have e : TL.numL i = TL.numL j := List.tail_eq_of_cons_eq h
  rw [← num_val i hi, ← num_val j hj, e]
def Fr (out : List A) (k : Nat) : List Nat := (List.range k).filter fun k => decide (nk k ∉ out)
theorem Fr_succ (out : List A) (k : Nat) : Fr out (k + 1) = Fr out k ++ (if nk k ∈ out then [] else [k]) := by
  unfold Fr
  rw [List.range_succ, List.filter_append]
  by_cases h : nk k ∈ out
  · rw [if_pos h]; simp [h]
  · rw [if_neg h]; simp [h]
theorem Fr_pre (out : List A) (k : Nat) : ∀ j, ∃ r, Fr out (k + j) = Fr out k ++ r
  | 0 => ⟨[], by simp⟩
  | j + 1 => by
    obtain ⟨r, e⟩ := Fr_pre out k j
    rw [← Nat.add_assoc, Fr_succ, e, List.append_assoc]
    exact ⟨_, rfl⟩
theorem Fr_congr {o1 o2 : List A} (h : ∀ x, x ∈ o1 ↔ x ∈ o2) (k : Nat) : Fr o1 k = Fr o2 k := by
  unfold Fr
  refine List.filter_congr fun i _ => ?_
  simp only [h]
theorem Fr_lt {out : List A} {k i : Nat} (h : i ∈ Fr out k) : i < k := List.mem_range.mp (List.mem_filter.mp h).1
theorem pigeon {α : Type} [BEq α] [LawfulBEq α] : ∀ {l m : List α}, l.Nodup → (∀ x ∈ l, x ∈ m) → l.length ≤ m.length
  | [], _, _, _ => by simp
  | x :: l, m, hn, hs => by
    have hx := hs x (List.mem_cons_self ..)
    obtain ⟨h1, h2⟩ := List.nodup_cons.mp hn
    have := pigeon (m := m.erase x) h2 fun y hy => (List.mem_erase_of_ne (fun e => h1 (by rw [← e]; exact hy))).mpr (hs y (List.mem_cons_of_mem _ hy))
    have hl := List.length_erase_of_mem hx
    have hp : 0 < m.length := List.length_pos_of_mem hx
    rw [List.length_cons]
    omega
theorem split_len {α : Type} (p : α → Bool) : ∀ l : List α, (l.filter p).length + (l.filter fun x => !p x).length = l.length
  | [] => rfl
  | x :: l => by
    have ih := split_len p l
    cases h : p x <;> simp [h] <;> omega
theorem Fr_len {out D : List A} (h : ∀ x ∈ out, x ∈ D) : 700 ≤ (Fr out 700).length + D.length := by
  have e := split_len (fun k => decide (nk k ∉ out)) (List.range 700)
  rw [List.length_range] at e
  have h2 : (((List.range 700).filter fun k => !decide (nk k ∉ out)).map nk).length ≤ D.length := by
    refine pigeon ?_ fun x hx => ?_
    · have hn : ((List.range 700).filter fun k => !decide (nk k ∉ out)).Nodup := List.nodup_range.filter _
      refine List.pairwise_map.mpr (List.Pairwise.imp_of_mem (fun {a b} ha hb hab e => ?_) hn)
      have h1 := List.mem_range.mp (List.mem_filter.mp ha).1
      have h2 := List.mem_range.mp (List.mem_filter.mp hb).1
      exact hab (nk_inj (by omega) (by omega) e)
    · obtain ⟨k, hk, rfl⟩ := List.mem_map.mp hx
      have := (List.mem_filter.mp hk).2
      simp at this
      exact h _ this
  rw [List.length_map] at h2
  unfold Fr
  omega
theorem take_get : ∀ {l : List Nat} {m : Nat}, m ≤ l.length → l.take m = (List.range m).map fun i => l.getD i 0 := fun {l m} h => by
  refine List.ext_getElem (by simp; omega) fun i h1 h2 => ?_
  have h3 : i < l.length := by simp at h1; omega
  simp [List.getD, h3]
/-- the i-th fresh name -/
def gN (out : List A) (i : Nat) : A := nk ((Fr out 700).getD i 0)
theorem gN_mem {out : List A} {i : Nat} (h : i < (Fr out 700).length) : (Fr out 700).getD i 0 ∈ Fr out 700 := by
  rw [List.getD_eq_getElem?_getD, List.getElem?_eq_getElem h]
  exact List.getElem_mem h
theorem gN_inj {out : List A} (i j : Nat) (hi : i < (Fr out 700).length) (hj : j < (Fr out 700).length) (h : gN out i = gN out j) : i = j := by
  have h1 := Fr_lt (gN_mem hi)
  have h2 := Fr_lt (gN_mem hj)
  have e := nk_inj (by omega) (by omega) h
  have hn : (Fr out 700).Nodup := List.nodup_range.filter _
  rw [List.getD_eq_getElem?_getD, List.getD_eq_getElem?_getD, List.getElem?_eq_getElem hi, List.getElem?_eq_getElem hj] at e
  exact (List.getElem_inj hn).mp e
theorem nl_take {out : List A} {m : Nat} (h : m ≤ (Fr out 700).length) : nlW (gN out) m = ((Fr out 700).take m).map fun k => tW (nk k) := by
  rw [take_get h, List.map_map]
  rfl
theorem nl_all (out : List A) : nlW (gN out) (Fr out 700).length = (Fr out 700).map fun k => tW (nk k) := by
  rw [nl_take (Nat.le_refl _), List.take_length]
/-! the program's new names -/
def nnC : Rho → ML.R Bool := mTest (mOp (gCmp (fun i j => decide (i < j))) (mCB gLen [mVar 2]) (mVar 1))
def nnB : Rho → ML.R Fl := mSeq (mSet [] 4 (mOp gAdd (mC (.str "n")) (mCB gStr [mVar 3]))) (mSeq (mIf (mTest (mOp (gIn true) (mVar 4) (mVar 0))) (mDrop (mAppend 2 [] (mVar 4))) (mNext)) (mAugI (fun i j => i + j) 3 [] (mC (.int 1))))
def frN (lo : List A) (many k : Nat) (s4 : Sl) : Rho := [Sl.val (.tup (lo.map tW)), Sl.val (.int (many : Int)), Sl.own (.lst ((Fr lo k).map fun k => tW (nk k))), Sl.val (.int (k : Int)), s4]
theorem ev_lenL (l : List W) : gLen [.lst l] = some (.val, .int (l.length : Int)) := rfl
theorem nnB_step {lo : List A} {many k : Nat} {s4 : Sl} (hk : k < 700) : nnB (frN lo many k s4) = .ok .nx (frN lo many (k + 1) (Sl.val (tW (nk k)))) := by
  have hs := ev_strI (n := k) (by omega)
  have hl := num_le k (by omega)
  have ha := ev_addSS (a := [110]) (b := TL.numL k) (by simp; omega)
  have hi : gIn true (.str (S (nk k))) (.tup (lo.map tW)) = some (.val, .bl (!decide (nk k ∈ lo))) := in_ST true (nk k) lo _ rfl (by simp)
  have hz : (Fr lo k).length < sizeLine := by
    have : (Fr lo k).length ≤ (List.range k).length := List.length_filter_le _ _
    rw [List.length_range] at this
    rw [line_is]; omega
  have hk1 : ((k + 1 : Nat) : Int) = (k : Int) + 1 := by omega
  unfold nnB frN
  rw [Fr_succ, hk1, List.map_append]
  replace ha : gAdd (.str (S [110])) (.str (S (TL.numL k))) = some (.val, .str (S (nk k))) := ha
  have hlm : ((Fr lo k).map fun k => tW (nk k)).length = (Fr lo k).length := by simp
  generalize (Fr lo k).map (fun k => tW (nk k)) = FW at *
  generalize (Fr lo k).length = fl at *
  generalize lo.map tW = LW at *
  by_cases h : nk k ∈ lo
  · rw [decide_eq_true h] at hi
    rw [if_pos h]
    simp -implicitDefEqProofs [ev_var, ev_own, hs, ha, hi]
  · rw [decide_eq_false h] at hi
    rw [if_neg h]
    simp -implicitDefEqProofs [ev_var, ev_own, hs, ha, hi, hlm, hz]
theorem nn_run {lo : List A} {many : Nat} (hm : many ≤ (Fr lo 700).length) : ∀ (j k : Nat) {s4 : Sl}, k + j = 700 → (Fr lo k).length ≤ many → ∃ k' s4', mWhile nnC nnB (frN lo many k s4) = .ok .nx (frN lo many k' s4') ∧ (Fr lo k').length = many ∧ k' ≤ 700
  | j, k, s4, hj, hc => by
    by_cases h : (Fr lo k).length < many
    · cases j with
      | zero =>
        have e : k = 700 := by omega
        rw [e] at h
        omega
      | succ j =>
        have e1 : nnC (frN lo many k s4) = .ok true (frN lo many k s4) := by
          unfold nnC frN
          simp -implicitDefEqProofs [ev_var, ev_own, ev_lenL, h]
        obtain ⟨k', s4', e2, e3⟩ := nn_run hm j (k + 1) (s4 := Sl.val (tW (nk k))) (by omega) (by
          rw [Fr_succ, List.length_append]
          split
          · simp; omega
          · simp; omega)
        exact ⟨k', s4', while_go e1 (nnB_step (by omega)) e2, e3⟩
    · have e1 : nnC (frN lo many k s4) = .ok false (frN lo many k s4) := by
        unfold nnC frN
        simp -implicitDefEqProofs [ev_var, ev_own, ev_lenL, h]
      exact ⟨k, s4, while_done e1, by omega, by omega⟩
theorem e_newnames {lo : List A} {many : Nat} (hm : many ≤ (Fr lo 700).length) : fun_new_names [.tup (lo.map tW), .int (many : Int)] = .ok true (.lst (nlW (gN lo) many)) [] := by
  obtain ⟨k', s4', e1, e2, e3⟩ := nn_run hm 700 0 (s4 := Sl.no) (by omega) (by simp [Fr])
  have e4 : (Fr lo k').map (fun k => tW (nk k)) = nlW (gN lo) many := by
    rw [nl_take hm]
    obtain ⟨r, er⟩ := Fr_pre lo k' (700 - k')
    rw [show k' + (700 - k') = 700 by omega] at er
    rw [er, ← e2, List.take_left]
  unfold nnC nnB frN at e1
  rw [e4] at e1
  have e5 : (Fr lo 0).map (fun k => tW (nk k)) = [] := rfl
  rw [e5] at e1
  generalize nlW (gN lo) many = NW at *
  generalize lo.map tW = LW at *
  unfold fun_new_names body_new_names
  simp at e1
  simp -implicitDefEqProofs [ev_var, ev_own, e1]
end K03

namespace K03
open PySem PySem.Spec PyProof.Rows L2 ML
/-! ### the program's free names -/
def entW (e : Bk × List A) : W := .tup [enc e.1, .tup (e.2.map tW)]
def fnC : Rho → ML.R Bool := mTru (mVar 2)
def fnI (bp : List W → FR) : Rho → ML.R Fl := mDrop (mAppend 2 [] (mTup [] [mOp gIx (mVar 5) (mVar 6), mOp gAdd (mVar 4) (mCall [] [] bp [mVar 3, mVar 6])]))
def fnB (po bp : List W → FR) : Rho → ML.R Fl := mSeq (mAsgT [] (ML.gTup [gSet [] 3, gSet [] 4]) (mPop 2)) (mSeq (mIf (mAnd (mTest (mOp (gIn false) (mOp gIx (mVar 3) (mC (.int 0))) (mC w_USES_blocks))) (mAnd (mTest (mOp (gIn true) (mOp gIx (mVar 3) (mC (.int 1))) (mVar 4))) (mTest (mOp (gIn true) (mOp gIx (mVar 3) (mC (.int 1))) (mVar 1))))) (mDrop (mAppend 1 [] (mOp gIx (mVar 3) (mC (.int 1))))) (mNext)) (mSeq (mSet [] 5 (mCall [] [] po [mVar 3])) (mFor (mRange1 [mCB gLen [mVar 5]]) (gSet [] 6) (fnI bp))))
def frF_ (blk : W) (fs : List A) (wt : List W) (s3 s4 s5 s6 : Sl) : Rho := [Sl.val blk, Sl.own (.lst (fs.map tW)), Sl.own (.lst wt), s3, s4, s5, s6]
/-- the entries of a node's parts -/
def entsK (h : Hd) (B : List A) : Nat → List Bk → List (Bk × List A)
  | _, [] => []
  | i, b :: l => (b, B ++ bnd h i) :: entsK h B (i + 1) l
theorem entsK_mem {h : Hd} {B : List A} {e : Bk × List A} : ∀ {l : List Bk} {i : Nat}, e ∈ entsK h B i l ↔ ∃ j b, l[j]? = some b ∧ e = (b, B ++ bnd h (i + j))
  | [], i => by simp [entsK]
  | c :: l, i => by
    rw [entsK, List.mem_cons, entsK_mem (l := l)]
    constructor
    · rintro (h | ⟨j, b, h1, h2⟩)
      · exact ⟨0, c, rfl, h⟩
      · exact ⟨j + 1, b, h1, by rw [h2]; congr 3; omega⟩
    · rintro ⟨j, b, h1, h2⟩
      cases j with
      | zero =>
        have e : c = b := Option.some.inj h1
        subst e
        exact .inl h2
      | succ j => exact .inr ⟨j, b, h1, by rw [h2]; congr 3; omega⟩
theorem entsK_len {h : Hd} {B : List A} : ∀ {l : List Bk} {i : Nat}, (entsK h B i l).length = l.length
  | [], _ => rfl
  | c :: l, i => by rw [entsK, List.length_cons, entsK_len, List.length_cons]
theorem entsK_sz {h : Hd} {B : List A} : ∀ {l : List Bk} {i : Nat}, ((entsK h B i l).map fun e => sz e.1).sum = (l.map sz).sum
  | [], _ => rfl
  | c :: l, i => by rw [entsK, List.map_cons, List.sum_cons, entsK_sz, List.map_cons, List.sum_cons]
theorem szL_sum : ∀ l : Bl, szL l = ((kids l).map sz).sum
  | .nil => rfl
  | .cons b l => by rw [szL, kids, List.map_cons, List.sum_cons, szL_sum l]
section
variable {N : A → Prop}
theorem bnd_len {h : Hd} {n : Nat} (w : wfH N h n) (i : Nat) : (bnd h i).length ≤ 3 := by
  cases h with
  | lett x ms =>
    cases i with
    | zero => rw [bnd, List.length_map]; exact w.2.2.2.1
    | succ i => simp [bnd]
  | new x k => simp [bnd]
  | _ => simp [bnd]
theorem kids5 {h : Hd} {n : Nat} (w : wfH N h n) : n ≤ 5 := by
  cases h with
  | lf t => have := w.2; omega
  | num k => have := w.2; omega
  | get x => have := w.2; omega
  | set x => have := w.2; omega
  | call x => have := w.2; omega
  | op t => rcases w with ⟨_, h2⟩ | ⟨_, h2⟩ <;> omega
  | new x k => have := w.2.2; omega
  | lett x ms => have := w.2.2.2.2; omega
theorem range_drop {n i : Nat} (h : i < n) : (intsW 0 n).drop i = .int (i : Int) :: (intsW 0 n).drop (i + 1) := by
  have hl : i < (intsW 0 n).length := by rw [all2_len]; exact h
  rw [List.drop_eq_getElem_cons hl]
  congr 1
  simp [intsW]
theorem fn_kids {blk : W} {fs : List A} {h : Hd} {ws : List W} {bs : List Bk} {bp : List W → FR} {B : List A} (he : ws = bs.map enc) (hb : ∀ i : Nat, bp [encH h ws, .int (i : Int)] = .ok false (.tup ((bnd h i).map tW)) []) (hl : ∀ i, (bnd h i).length ≤ 3) (hB : B.length ≤ 9000) :
    ∀ (r : List Bk) (i : Nat) {wt : List W} {s6 : Sl}, bs.drop i = r → i + r.length = bs.length → wt.length + r.length ≤ 100000 →
    ∃ s6', forL (gSet [] 6) (fnI bp) ((intsW 0 bs.length).drop i) (frF_ blk fs wt (Sl.val (encH h ws)) (Sl.val (.tup (B.map tW))) (Sl.val (.tup ws)) s6) = .ok .nx (frF_ blk fs (wt ++ (entsK h B i r).map entW) (Sl.val (encH h ws)) (Sl.val (.tup (B.map tW))) (Sl.val (.tup ws)) s6')
  | [], i, wt, s6, hd, hi, _ => by
    refine ⟨s6, ?_⟩
    rw [List.drop_eq_nil_of_le (by rw [all2_len]; simp at hi; omega)]
    simp [entsK]
  | c :: r, i, wt, s6, hd, hi, hw => by
    rw [List.length_cons] at hi hw
    have hlt : i < bs.length := by omega
    rw [range_drop hlt, ev_forc]
    have e0 : gSet [] 6 (.int (i : Int)) (frF_ blk fs wt (Sl.val (encH h ws)) (Sl.val (.tup (B.map tW))) (Sl.val (.tup ws)) s6) = some (frF_ blk fs wt (Sl.val (encH h ws)) (Sl.val (.tup (B.map tW))) (Sl.val (.tup ws)) (Sl.val (.int (i : Int)))) := rfl
    rw [e0]
    show ∃ s6', loopF (fnI bp _) _ = _
    have hc : bs[i]? = some c := by
      have : (bs.drop i)[0]? = some c := by rw [hd]; rfl
      rw [List.getElem?_drop, Nat.add_zero] at this
      exact this
    have hat : atI ws (i : Int) = some (enc c) := by rw [ML.atI_nat, he, List.getElem?_map, hc]; rfl
    have hbi := hb i
    have hli := hl i
    have hz : wt.length < sizeLine := by rw [line_is]; omega
    have hz2 : B.length + (bnd h i).length ≤ sizeLine := by rw [line_is]; omega
    have e1 : fnI bp (frF_ blk fs wt (Sl.val (encH h ws)) (Sl.val (.tup (B.map tW))) (Sl.val (.tup ws)) (Sl.val (.int (i : Int)))) = .ok .nx (frF_ blk fs (wt ++ [entW (c, B ++ bnd h i)]) (Sl.val (encH h ws)) (Sl.val (.tup (B.map tW))) (Sl.val (.tup ws)) (Sl.val (.int (i : Int)))) := by
      unfold fnI frF_ entW
      rw [List.map_append]
      generalize hbw : (bnd h i).map tW = BW at *
      have hbl : BW.length = (bnd h i).length := by rw [← hbw, List.length_map]
      generalize hBw : B.map tW = BB at *
      have hBl : BB.length = B.length := by rw [← hBw, List.length_map]
      generalize encH h ws = E at *
      generalize fs.map tW = FS at *
      simp -implicitDefEqProofs [ev_var, ev_own, hbi, hat, hz, hbl, hBl, hz2, l2]
    obtain ⟨s6', e2⟩ := fn_kids he hb hl hB r (i + 1) (wt := wt ++ [entW (c, B ++ bnd h i)]) (s6 := Sl.val (.int (i : Int))) (by rw [← List.drop_drop (i := 1) (j := i), hd]; rfl) (by omega) (by simp; omega)
    refine ⟨s6', ?_⟩
    rw [e1, ev_lpn, e2, entsK, List.map_cons, List.append_assoc]
    rfl
end
end K03

namespace K03
open PySem PySem.Spec PyProof.Rows L2 ML
def addX (x : A) (B fs : List A) : List A := if x ∈ B ∨ x ∈ fs then fs else fs ++ [x]
def addO : Hd → List A → List A → List A
  | .get x, B, fs => addX x B fs
  | .set x, B, fs => addX x B fs
  | .call x, B, fs => addX x B fs
  | _, _, fs => fs
theorem addX_mem {x y : A} {B fs : List A} : y ∈ addX x B fs ↔ y ∈ fs ∨ (y = x ∧ y ∉ B) := by
  unfold addX
  split
  · rename_i h
    constructor
    · exact .inl
    · rintro (h1 | ⟨rfl, h2⟩)
      · exact h1
      · exact h.resolve_left h2
  · rename_i h
    rw [not_or] at h
    rw [List.mem_append, List.mem_singleton]
    constructor
    · rintro (h1 | rfl)
      · exact .inl h1
      · exact .inr ⟨rfl, h.1⟩
    · rintro (h1 | ⟨rfl, _⟩)
      · exact .inl h1
      · exact .inr rfl
theorem addX_nd {x : A} {B fs : List A} (h : fs.Nodup) : (addX x B fs).Nodup := by
  unfold addX
  split
  · exact h
  · rename_i hx
    rw [not_or] at hx
    refine List.nodup_append.mpr ⟨h, by simp, fun a ha b hb e => ?_⟩
    rw [List.mem_singleton] at hb
    exact hx.2 (by rw [← hb, ← e]; exact ha)
theorem addO_mem {h : Hd} {y : A} {B fs : List A} : y ∈ addO h B fs ↔ y ∈ fs ∨ (own y h ∧ y ∉ B) := by
  cases h with
  | get x => exact addX_mem
  | set x => exact addX_mem
  | call x => exact addX_mem
  | _ => exact ⟨.inl, fun h => h.resolve_right fun q => q.1⟩
theorem addO_nd {h : Hd} {B fs : List A} (n : fs.Nodup) : (addO h B fs).Nodup := by
  cases h with
  | get x => exact addX_nd n
  | set x => exact addX_nd n
  | call x => exact addX_nd n
  | _ => exact n
theorem addO_len {h : Hd} {B fs : List A} : (addO h B fs).length ≤ fs.length + 1 := by
  have key : ∀ x, (addX x B fs).length ≤ fs.length + 1 := fun x => by
    unfold addX
    split
    · omega
    · simp
  cases h with
  | get x => exact key x
  | set x => exact key x
  | call x => exact key x
  | _ => exact Nat.le_succ _
def fnIf : Rho → ML.R Fl := mIf (mAnd (mTest (mOp (gIn false) (mOp gIx (mVar 3) (mC (.int 0))) (mC w_USES_blocks))) (mAnd (mTest (mOp (gIn true) (mOp gIx (mVar 3) (mC (.int 1))) (mVar 4))) (mTest (mOp (gIn true) (mOp gIx (mVar 3) (mC (.int 1))) (mVar 1))))) (mDrop (mAppend 1 [] (mOp gIx (mVar 3) (mC (.int 1))))) (mNext)
section
variable {N : A → Prop} {blk : W} {fs B : List A} {wt : List W} {s5 s6 : Sl}
theorem if_use {t x : A} {r : List W} (ht : t = [103, 101, 116] ∨ t = [115, 101, 116] ∨ t = [99, 97, 108, 108]) (hl : fs.length ≤ 20000) : fnIf (frF_ blk fs wt (Sl.val (.tup (tW t :: tW x :: r))) (Sl.val (.tup (B.map tW))) s5 s6) = .ok .nx (frF_ blk (addX x B fs) wt (Sl.val (.tup (tW t :: tW x :: r))) (Sl.val (.tup (B.map tW))) s5 s6) := by
  have h1 : gIn true (.str (S x)) (.tup (B.map tW)) = some (.val, .bl (!decide (x ∈ B))) := in_ST true x B _ rfl (by simp)
  have h2 : gIn true (.str (S x)) (.lst (fs.map tW)) = some (.val, .bl (!decide (x ∈ fs))) := in_ST true x fs _ rfl (by simp)
  have hz : fs.length < sizeLine := by rw [line_is]; omega
  have hlm : (fs.map tW).length = fs.length := List.length_map ..
  unfold fnIf frF_ addX
  by_cases c1 : x ∈ B
  · rw [decide_eq_true c1] at h1
    rw [if_pos (.inl c1)]
    generalize B.map tW = BB at *
    generalize fs.map tW = FF at *
    rcases ht with rfl | rfl | rfl <;> simp -implicitDefEqProofs [ev_var, ev_own, h1]
  · rw [decide_eq_false c1] at h1
    by_cases c2 : x ∈ fs
    · rw [decide_eq_true c2] at h2
      rw [if_pos (.inr c2)]
      generalize B.map tW = BB at *
      generalize fs.map tW = FF at *
      rcases ht with rfl | rfl | rfl <;> simp -implicitDefEqProofs [ev_var, ev_own, h1, h2]
    · rw [decide_eq_false c2] at h2
      rw [if_neg (by rw [not_or]; exact ⟨c1, c2⟩), List.map_append]
      generalize B.map tW = BB at *
      generalize fs.map tW = FF at *
      rcases ht with rfl | rfl | rfl <;> simp -implicitDefEqProofs [ev_var, ev_own, h1, h2, hlm, hz]
theorem if_other {t : A} {r : List W} (ht : t ∉ [[103, 101, 116], [115, 101, 116], [99, 97, 108, 108]]) : fnIf (frF_ blk fs wt (Sl.val (.tup (tW t :: r))) (Sl.val (.tup (B.map tW))) s5 s6) = .ok .nx (frF_ blk fs wt (Sl.val (.tup (tW t :: r))) (Sl.val (.tup (B.map tW))) s5 s6) := by
  unfold fnIf frF_
  generalize B.map tW = BB at *
  generalize fs.map tW = FF at *
  have e : gIn false (.str (S t)) w_USES_blocks = some (.val, .bl false) := by
    rw [in_w_USES_blocks]
    simp only [ht]
    rfl
  simp -implicitDefEqProofs [ev_var, ev_own, e]
theorem fn_if {h : Hd} {ws : List W} (w : wfH N h ws.length) (hl : fs.length ≤ 20000) : fnIf (frF_ blk fs wt (Sl.val (encH h ws)) (Sl.val (.tup (B.map tW))) s5 s6) = .ok .nx (frF_ blk (addO h B fs) wt (Sl.val (encH h ws)) (Sl.val (.tup (B.map tW))) s5 s6) := by
  cases h with
  | get x => exact if_use (.inl rfl) hl
  | set x => exact if_use (.inr (.inl rfl)) hl
  | call x => exact if_use (.inr (.inr rfl)) hl
  | lf t => exact if_other (by rcases w.1 with rfl | rfl <;> decide)
  | num k => exact if_other (by decide)
  | new x k => exact if_other (by decide)
  | lett x ms => exact if_other (by decide)
  | op t =>
    rcases w with ⟨h1, _⟩ | ⟨rfl, _⟩
    · exact if_other (by rcases op_cases h1 with rfl | rfl | rfl | rfl | rfl <;> decide)
    · exact if_other (by decide)
theorem fn_step {h : Hd} {l : Bl} {wt : List W} {s3 s4 : Sl} (w : wfH N h l.len) (hl : fs.length ≤ 20000) (hB : B.length ≤ 9000) (hw : wt.length ≤ 50000) :
    ∃ t3 t4 t5 t6, fnB fun_parts_of fun_bound_in_part (frF_ blk fs (wt ++ [entW (.nd h l, B)]) s3 s4 s5 s6) = .ok .nx (frF_ blk (addO h B fs) (wt ++ (entsK h B 0 (kids l)).map entW) t3 t4 t5 t6) := by
  have wl : wfH N h (encL l).length := by rw [encL_len]; exact w
  have e1 : mAsgT [] (ML.gTup [gSet [] 3, gSet [] 4]) (mPop 2) (frF_ blk fs (wt ++ [entW (.nd h l, B)]) s3 s4 s5 s6) = .ok .nx (frF_ blk fs wt (Sl.val (encH h (encL l))) (Sl.val (.tup (B.map tW))) s5 s6) := by
    have hp : mPop 2 (frF_ blk fs (wt ++ [entW (.nd h l, B)]) s3 s4 s5 s6) = .ok (.val, entW (.nd h l, B)) (frF_ blk fs wt s3 s4 s5 s6) := by
      unfold mPop
      have h0 : ownAt (frF_ blk fs (wt ++ [entW (.nd h l, B)]) s3 s4 s5 s6) 2 = some (.lst (wt ++ [entW (.nd h l, B)])) := rfl
      rw [h0]
      have h1 : (wt ++ [entW (.nd h l, B)])[(wt ++ [entW (.nd h l, B)]).length - 1]? = some (entW (.nd h l, B)) := by
        rw [List.length_append, List.length_singleton, Nat.add_sub_cancel, List.getElem?_append_right (Nat.le_refl _), Nat.sub_self]
        rfl
      dsimp only
      rw [h1]
      dsimp only
      rw [List.dropLast_concat]
      rfl
    unfold mAsgT
    rw [hp]
    rfl
  have e2 := fn_if (blk := blk) (B := B) (wt := wt) (s5 := s5) (s6 := s6) wl hl
  have e3 := e_parts wl
  have hk : l.len ≤ 5 := kids5 w
  have hkl := kids_len l
  obtain ⟨t6, e4⟩ := fn_kids (blk := blk) (fs := addO h B fs) (bs := kids l) (encL_kids l) (fun i => e_bip wl i) (fun i => bnd_len w i) hB (kids l) 0 (wt := wt) (s6 := s6) rfl (by simp) (by rw [hkl]; omega)
  have hok : okR ((kids l).length : Int) = true := okR_nat (by omega)
  have hel : ((encL l).length : Int) = ((kids l).length : Int) := by rw [encL_len, hkl]
  refine ⟨Sl.val (encH h (encL l)), Sl.val (.tup (B.map tW)), Sl.val (.tup (encL l)), t6, ?_⟩
  unfold fnB
  rw [ev_seq, e1, ev_tn, ev_seq]
  show thenF (fnIf _) _ = _
  rw [e2, ev_tn, ev_seq]
  have e5 : mSet [] 5 (mCall [] [] fun_parts_of [mVar 3]) (frF_ blk (addO h B fs) wt (Sl.val (encH h (encL l))) (Sl.val (.tup (B.map tW))) s5 s6) = .ok .nx (frF_ blk (addO h B fs) wt (Sl.val (encH h (encL l))) (Sl.val (.tup (B.map tW))) (Sl.val (.tup (encL l))) s6) := by
    unfold frF_
    generalize fun_parts_of = po at *
    generalize encH h (encL l) = E at *
    simp -implicitDefEqProofs [ev_var, ev_own, e3]
  rw [e5, ev_tn, ev_for]
  have e6 : mRange1 [mCB gLen [mVar 5]] (frF_ blk (addO h B fs) wt (Sl.val (encH h (encL l))) (Sl.val (.tup (B.map tW))) (Sl.val (.tup (encL l))) s6) = .ok (intsW 0 (kids l).length) (frF_ blk (addO h B fs) wt (Sl.val (encH h (encL l))) (Sl.val (.tup (B.map tW))) (Sl.val (.tup (encL l))) s6) := by
    unfold frF_
    generalize encH h (encL l) = E at *
    simp -implicitDefEqProofs [ev_var, ev_own, len_tup, hel, hok]
  rw [e6, ev_bo]
  rw [List.drop_zero] at e4
  exact e4
end
end K03

namespace K03
open PySem PySem.Spec PyProof.Rows L2 ML
theorem sz_pos : ∀ b : Bk, 1 ≤ sz b
  | .nd _ l => by rw [sz]; omega
theorem fn_loop {N : A → Prop} {blk : W} : ∀ (n : Nat) (wt : List (Bk × List A)) {fs : List A} {s3 s4 s5 s6 : Sl}, (∀ e ∈ wt, wf N e.1 ∧ e.2.length + 3 * dp e.1 ≤ 9000) → (wt.map fun e => sz e.1).sum ≤ n → fs.length + n ≤ 20000 → fs.Nodup →
    ∃ fs' t3 t4 t5 t6, mWhile fnC (fnB fun_parts_of fun_bound_in_part) (frF_ blk fs (wt.map entW) s3 s4 s5 s6) = .ok .nx (frF_ blk fs' [] t3 t4 t5 t6) ∧ fs'.Nodup ∧ ∀ y, y ∈ fs' ↔ y ∈ fs ∨ ∃ e ∈ wt, fv y e.1 ∧ y ∉ e.2 := by
  intro n
  induction n with
  | zero =>
    intro wt fs s3 s4 s5 s6 hw hn hl nd
    cases wt with
    | nil =>
      refine ⟨fs, s3, s4, s5, s6, while_done (by unfold fnC frF_; simp -implicitDefEqProofs [ev_var, ev_own]), nd, fun y => by simp⟩
    | cons e wt =>
      have := sz_pos e.1
      simp at hn
      omega
  | succ n ih =>
    intro wt fs s3 s4 s5 s6 hw hn hl nd
    rcases List.eq_nil_or_concat wt with rfl | ⟨w0, e, rfl⟩
    · refine ⟨fs, s3, s4, s5, s6, while_done (by unfold fnC frF_; simp -implicitDefEqProofs [ev_var, ev_own]), nd, fun y => by simp⟩
    · obtain ⟨⟨h, l⟩, B⟩ := e
      rw [List.concat_eq_append] at hw hn ⊢
      obtain ⟨w1, w2⟩ := hw (.nd h l, B) (by simp)
      have w1 : wfH N h l.len ∧ wfL N l := w1
      have w2 : B.length + 3 * dp (.nd h l) ≤ 9000 := w2
      rw [dp] at w2
      have hsum : (w0.map fun e => sz e.1).sum + (szL l + 1) ≤ n + 1 := by
        rw [List.map_append, List.sum_append] at hn
        simpa [sz] using hn
      have hlen : w0.length ≤ (w0.map fun e => sz e.1).sum := by
        have : ∀ l : List (Bk × List A), l.length ≤ (l.map fun e => sz e.1).sum := fun l => by
          induction l with
          | nil => simp
          | cons e l ih =>
            have := sz_pos e.1
            simp
            omega
        exact this w0
      obtain ⟨t3, t4, t5, t6, e1⟩ := fn_step (blk := blk) (fs := fs) (B := B) (h := h) (l := l) (wt := w0.map entW) (s3 := s3) (s4 := s4) (s5 := s5) (s6 := s6) w1.1 (by omega) (by omega) (by rw [List.length_map]; omega)
      rw [← List.map_append] at e1
      have hal := addO_len (h := h) (B := B) (fs := fs)
      obtain ⟨fs', u3, u4, u5, u6, e2, e3, e4⟩ := ih (w0 ++ entsK h B 0 (kids l)) (fs := addO h B fs) (s3 := t3) (s4 := t4) (s5 := t5) (s6 := t6) (fun e he => by
        rcases List.mem_append.mp he with he | he
        · exact hw e (List.mem_append_left _ he)
        · obtain ⟨j, b, h1, rfl⟩ := entsK_mem.mp he
          have hb := List.mem_of_getElem? h1
          have h2 := dpL_mem b hb
          have h3 := bnd_len w1.1 (0 + j)
          exact ⟨wfL_mem w1.2 b hb, by
            show (B ++ bnd h (0 + j)).length + 3 * dp b ≤ 9000
            rw [List.length_append]; omega⟩) (by
        rw [List.map_append, List.sum_append, entsK_sz, ← szL_sum]
        omega) (by omega) (addO_nd nd)
      have hc : fnC (frF_ blk fs ((w0 ++ [(Bk.nd h l, B)]).map entW) s3 s4 s5 s6) = .ok true (frF_ blk fs ((w0 ++ [(Bk.nd h l, B)]).map entW) s3 s4 s5 s6) := by
        unfold fnC frF_
        simp -implicitDefEqProofs [ev_var, ev_own]
      refine ⟨fs', u3, u4, u5, u6, while_go hc (by
        have q : (w0 ++ [(Bk.nd h l, B)]).map entW = w0.map entW ++ [entW (Bk.nd h l, B)] := by rw [List.map_append]; rfl
        rw [q]
        exact e1) e2, e3, fun y => ?_⟩
      rw [e4, addO_mem]
      constructor
      · rintro ((h1 | ⟨h1, h2⟩) | ⟨e, he, h1, h2⟩)
        · exact .inl h1
        · exact .inr ⟨(.nd h l, B), by simp, .inl h1, h2⟩
        · rcases List.mem_append.mp he with he | he
          · exact .inr ⟨e, List.mem_append_left _ he, h1, h2⟩
          · obtain ⟨j, b, h3, rfl⟩ := entsK_mem.mp he
            have h2' : y ∉ B ++ bnd h (0 + j) := h2
            rw [List.mem_append, not_or, Nat.zero_add] at h2'
            exact .inr ⟨(.nd h l, B), by simp, .inr (fvL_iff.mpr ⟨j, b, h3, h2'.2, h1⟩), h2'.1⟩
      · rintro (h1 | ⟨e, he, h1, h2⟩)
        · exact .inl (.inl h1)
        · rcases List.mem_append.mp he with he | he
          · exact .inr ⟨e, List.mem_append_left _ he, h1, h2⟩
          · rw [List.mem_singleton] at he
            subst he
            have h2' : y ∉ B := h2
            rcases h1 with h1 | h1
            · exact .inl (.inr ⟨h1, h2'⟩)
            · obtain ⟨j, b, h3, h4, h5⟩ := fvL_iff.mp h1
              exact .inr ⟨(b, B ++ bnd h (0 + j)), List.mem_append_right _ (entsK_mem.mpr ⟨j, b, h3, rfl⟩), h5, by
                show y ∉ B ++ bnd h (0 + j)
                rw [List.mem_append, not_or, Nat.zero_add]; exact ⟨h2', h4⟩⟩
theorem strs_map (l : List A) : strsW (l.map tW) = some (l.map S) := by
  induction l with
  | nil => rfl
  | cons x l ih =>
    rw [List.map_cons, List.map_cons]
    show (strsW _).map _ = _
    rw [ih]
    rfl
theorem sortW_txt (l : List A) : ∃ m : List A, sortW (l.map S) = m.map S ∧ (∀ x, x ∈ m ↔ x ∈ l) ∧ m.length = l.length := by
  refine ⟨(sortW (l.map S)).map (fun s => s.cps.toList), ?_, fun x => ?_, ?_⟩
  · rw [List.map_map]
    have : ∀ r : List Str, r.map (S ∘ fun s => s.cps.toList) = r := fun r => by
      induction r with
      | nil => rfl
      | cons a r ih => rw [List.map_cons, ih]; rfl
    exact (this _).symm
  · rw [List.mem_map]
    constructor
    · rintro ⟨s, h1, h2⟩
      obtain ⟨y, hy, rfl⟩ := List.mem_map.mp (sortW_mem.mp h1)
      have : y = x := by rw [← h2, S_cps]
      rw [← this]; exact hy
    · intro h
      exact ⟨S x, sortW_mem.mpr (List.mem_map_of_mem h), by rw [S_cps]⟩
  · rw [List.length_map]
    have := (List.mergeSort_perm (l.map S) leS).length_eq
    rw [List.length_map] at this
    exact this
/-- the program's free names -/
theorem e_free {N : A → Prop} {fz : List W → FR} {v : W} {b : Bk} {D : List A} (hf : fz [v] = .ok false (enc b) []) (w : wf N b) (hd : dp b ≤ 1000) (hs : sz b ≤ 10000) (hD : ∀ y, fv y b → y ∈ D) (h8 : D.length ≤ 60) :
    ∃ lo : List A, fun_free_names fz fun_parts_of fun_bound_in_part [v] = .ok false (.tup (lo.map tW)) [] ∧ lo.length ≤ 60 ∧ ∀ y, y ∈ lo ↔ fv y b := by
  obtain ⟨fs', t3, t4, t5, t6, e1, e2, e3⟩ := fn_loop (N := N) (blk := v) (sz b) [(b, [])] (fs := []) (s3 := Sl.no) (s4 := Sl.no) (s5 := Sl.no) (s6 := Sl.no) (fun e he => by
    rw [List.mem_singleton] at he
    subst he
    exact ⟨w, by show 0 + 3 * dp b ≤ 9000; omega⟩) (by simp) (by simp; omega) List.nodup_nil
  have hm : ∀ y, y ∈ fs' ↔ fv y b := fun y => by
    rw [e3]
    simp
  have hl : fs'.length ≤ D.length := pigeon e2 fun y hy => hD y ((hm y).mp hy)
  obtain ⟨lo, f1, f2, f3⟩ := sortW_txt fs'
  refine ⟨lo, ?_, by omega, fun y => by rw [f2, hm]⟩
  have hgs : gSorted [.lst (fs'.map tW)] = some (.fre, .lst (lo.map tW)) := by
    show (strsW (fs'.map tW)).bind _ = _
    rw [strs_map, Option.bind_some, if_pos (by rw [List.length_map]; omega), f1, List.map_map]
    rfl
  unfold fnC fnB fnI frF_ at e1
  have e4 : [((b, []) : Bk × List A)].map entW = [.tup [enc b, .tup []]] := rfl
  rw [e4] at e1
  unfold fun_free_names body_free_names
  generalize fs'.map tW = FS at *
  generalize lo.map tW = LO at *
  generalize fun_parts_of = po at *
  generalize fun_bound_in_part = bp at *
  simp only [List.map_nil] at e1
  simp -implicitDefEqProofs [ev_var, ev_own, hf, e1, hgs, l1, l2]
end K03

namespace K03
open PySem PySem.Spec PyProof.Rows L2 ML
/-! ### the law's free names -/
noncomputable def lfF : Nat → List W → FR
  | 0 => fun _ => .stk
  | d + 1 => fun__law_free (lfF d) fun__law_parts
inductive Cat (m : List W → FR) (bw : W) : List W → List A → Prop
  | nil : Cat m bw [] []
  | cons {w : W} {l r : List A} {ws : List W} : m [w, bw] = .ok true (.lst (l.map tW)) [] → Cat m bw ws r → Cat m bw (w :: ws) (l ++ r)
def frC (nd bw : W) (fs : List A) (s4 : Sl) : Rho := [Sl.val nd, Sl.val bw, Sl.no, Sl.own (.lst (fs.map tW)), s4, Sl.no]
def caB (m : List W → FR) : Rho → ML.R Fl := mSet [] 3 (mOp gAdd (mVar 3) (mCall [] [] m [mVar 4, mVar 1]))
section
variable {m : List W → FR} {N : A → Prop}
theorem cat_loop {nd bw : W} {ws : List W} {r : List A} (h : Cat m bw ws r) : ∀ {acc : List A} {s4 : Sl}, acc.length + r.length ≤ 100000 → ∃ s4', forL (gSet [] 4) (caB m) ws (frC nd bw acc s4) = .ok .nx (frC nd bw (acc ++ r) s4') := by
  induction h with
  | nil => exact fun {acc s4} _ => ⟨s4, by rw [List.append_nil]; rfl⟩
  | @cons w l r ws e h ih =>
    intro acc s4 hl
    rw [List.length_append] at hl
    obtain ⟨s4', e2⟩ := ih (acc := acc ++ l) (s4 := Sl.val w) (by rw [List.length_append]; omega)
    refine ⟨s4', ?_⟩
    rw [ev_forc]
    have e0 : gSet [] 4 w (frC nd bw acc s4) = some (frC nd bw acc (Sl.val w)) := rfl
    rw [e0]
    show loopF (caB m _) _ = _
    have e1 : caB m (frC nd bw acc (Sl.val w)) = .ok .nx (frC nd bw (acc ++ l) (Sl.val w)) := by
      have hz : (acc.map tW).length + (l.map tW).length ≤ sizeLine := by rw [List.length_map, List.length_map, line_is]; omega
      unfold caB frC
      rw [List.map_append]
      generalize acc.map tW = AW at *
      generalize l.map tW = LW at *
      simp -implicitDefEqProofs [ev_var, ev_own, e, hz]
    rw [e1, ev_lpn, e2, List.append_assoc]
theorem l_free_new {x : A} {k : Int} {b : W} {B l : List A} (hB : B.length ≤ 9000) (h : m [b, .lst ((B ++ [x]).map tW)] = .ok true (.lst (l.map tW)) []) : fun__law_free m fun__law_parts [.tup [tW [110, 101, 119], tW x, .int k, b], .lst (B.map tW)] = .ok true (.lst (l.map tW)) [] := by
  have hz : (B.map tW).length + 1 ≤ sizeLine := by rw [List.length_map, line_is]; omega
  rw [List.map_append] at h
  unfold fun__law_free body__law_free
  generalize B.map tW = BW at *
  generalize l.map tW = LW at *
  simp at h
  simp -implicitDefEqProofs [ev_var, ev_own, h, hz, l1]
theorem l_free_let {x : A} {ms : List (A × Bool)} {b c : W} {B l r : List A} (hB : B.length ≤ 9000) (hm : ms.length ≤ 3) (hl : l.length + r.length ≤ 100000) (h1 : m [b, .lst ((B ++ ms.map (·.1)).map tW)] = .ok true (.lst (l.map tW)) []) (h2 : m [c, .lst ((B ++ [x]).map tW)] = .ok true (.lst (r.map tW)) []) :
    fun__law_free m fun__law_parts [.tup [tW [108, 101, 116], tW x, .tup (ms.map prmW), b, c], .lst (B.map tW)] = .ok true (.lst ((l ++ r).map tW)) [] := by
  have hz : (B.map tW).length + 1 ≤ sizeLine := by rw [List.length_map, line_is]; omega
  have hz2 : (B.map tW).length + ms.length ≤ sizeLine := by rw [List.length_map, line_is]; omega
  have hz3 : (l.map tW).length + (r.map tW).length ≤ sizeLine := by rw [List.length_map, List.length_map, line_is]; omega
  have e := lc_prm (i := 5) (f := mOp gIx (mVar 0) (mC (.int 2))) (ms := ms) (ρ := [Sl.val (.tup [tW [108, 101, 116], tW x, .tup (ms.map prmW), b, c]), Sl.val (.lst (B.map tW)), Sl.no, Sl.no, Sl.no, Sl.no]) (by simp -implicitDefEqProofs [ev_var]) (by simp) rfl hm
  have hml : ((ms.map (·.1)).map tW).length = ms.length := by simp
  rw [List.map_append] at h1 h2
  rw [List.map_append]
  unfold fun__law_free body__law_free
  generalize B.map tW = BW at *
  generalize l.map tW = LW at *
  generalize r.map tW = RW at *
  generalize (ms.map (·.1)).map tW = MW at *
  simp at h2
  simp -implicitDefEqProofs [ev_var, ev_own, h1, h2, hz, hz2, hz3, l1, e, hml]
def ownL : Hd → List A → List A
  | .get x, B => if x ∈ B then [] else [x]
  | .set x, B => if x ∈ B then [] else [x]
  | .call x, B => if x ∈ B then [] else [x]
  | _, _ => []
theorem ownL_mem {h : Hd} {B : List A} {y : A} : y ∈ ownL h B ↔ own y h ∧ y ∉ B := by
  have key : ∀ x, y ∈ (if x ∈ B then [] else [x]) ↔ y = x ∧ y ∉ B := fun x => by
    split
    · rename_i hx
      exact ⟨(fun h => nomatch h), fun ⟨h1, h2⟩ => absurd hx (by rw [← h1]; exact h2)⟩
    · rename_i hx
      rw [List.mem_singleton]
      exact ⟨fun h => ⟨h, by rw [h]; exact hx⟩, fun h => h.1⟩
  cases h with
  | get x => exact key x
  | set x => exact key x
  | call x => exact key x
  | _ => exact ⟨(fun h => nomatch h), fun h => h.1.elim⟩
theorem ownL_len {h : Hd} {B : List A} : (ownL h B).length ≤ 1 := by
  have key : ∀ x : A, (if x ∈ B then [] else [x]).length ≤ 1 := fun x => by split <;> simp
  cases h with
  | get x => exact key x
  | set x => exact key x
  | call x => exact key x
  | _ => exact Nat.zero_le _
theorem l_free_op {h : Hd} {ws : List W} {B r : List A} (hh : nb h) (w : wfH N h ws.length) (hc : Cat m (.lst (B.map tW)) ws r) (hr : r.length ≤ 50000) : fun__law_free m fun__law_parts [encH h ws, .lst (B.map tW)] = .ok true (.lst ((ownL h B ++ r).map tW)) [] := by
  have e1 := l_parts w
  have hol := ownL_len (h := h) (B := B)
  obtain ⟨s4, e2⟩ := cat_loop (nd := encH h ws) hc (acc := ownL h B) (s4 := Sl.no) (by omega)
  unfold caB frC at e2
  generalize fun__law_parts = po at *
  have use : ∀ (t x : A) (rs : List W), (t = [103, 101, 116] ∨ t = [115, 101, 116] ∨ t = [99, 97, 108, 108]) → encH h ws = .tup (tW t :: tW x :: rs) → ownL h B = (if x ∈ B then [] else [x]) → fun__law_free m po [encH h ws, .lst (B.map tW)] = .ok true (.lst ((ownL h B ++ r).map tW)) [] := by
    intro t x rs ht he ho
    have hi : gIn true (.str (S x)) (.lst (B.map tW)) = some (.val, .bl (!decide (x ∈ B))) := in_ST true x B _ rfl (by simp)
    rw [he] at e1 e2 ⊢
    rw [ho] at e2 ⊢
    unfold fun__law_free body__law_free
    by_cases hx : x ∈ B
    · rw [decide_eq_true hx] at hi
      rw [if_pos hx] at e2 ⊢
      rw [List.nil_append] at e2 ⊢
      generalize r.map tW = RW at *
      generalize B.map tW = BW at *
      simp only [List.map_nil] at e2
      rcases ht with rfl | rfl | rfl <;> simp -implicitDefEqProofs [ev_var, ev_own, hi, e1, e2]
    · rw [decide_eq_false hx] at hi
      rw [if_neg hx] at e2 ⊢
      rw [List.map_append] at e2 ⊢
      generalize r.map tW = RW at *
      generalize B.map tW = BW at *
      simp only [List.map_cons, List.map_nil] at e2
      rcases ht with rfl | rfl | rfl <;> simp -implicitDefEqProofs [ev_var, ev_own, hi, e1, e2, l1] <;> simpa using e2
  have oth : ∀ (t : A) (rs : List W), t ∉ [[103, 101, 116], [115, 101, 116], [99, 97, 108, 108], [110, 101, 119], [108, 101, 116]] → encH h ws = .tup (tW t :: rs) → ownL h B = [] → fun__law_free m po [encH h ws, .lst (B.map tW)] = .ok true (.lst ((ownL h B ++ r).map tW)) [] := by
    intro t rs ht he ho
    rw [he] at e1 e2 ⊢
    rw [ho] at e2 ⊢
    rw [List.nil_append] at e2 ⊢
    unfold fun__law_free body__law_free
    generalize r.map tW = RW at *
    generalize B.map tW = BW at *
    simp only [List.map_nil] at e2
    simp only [List.mem_cons, not_or, List.not_mem_nil, not_false_eq_true, and_true] at ht
    obtain ⟨t1, t2, t3, t4, t5⟩ := ht
    simp -implicitDefEqProofs [ev_var, ev_own, t1, t2, t3, t4, t5, e1, e2]
  cases h with
  | new x k => exact hh.elim
  | lett x ms => exact hh.elim
  | get x => exact use _ x _ (.inl rfl) rfl rfl
  | set x => exact use _ x _ (.inr (.inl rfl)) rfl rfl
  | call x => exact use _ x _ (.inr (.inr rfl)) rfl rfl
  | num k => exact oth _ _ (by decide) rfl rfl
  | lf t => rcases w.1 with rfl | rfl <;> exact oth _ _ (by decide) rfl rfl
  | op t =>
    rcases w with ⟨h1, _⟩ | ⟨rfl, _⟩
    · rcases op_cases h1 with rfl | rfl | rfl | rfl | rfl <;> exact oth _ _ (by decide) rfl rfl
    · exact oth _ _ (by decide) rfl rfl
end
theorem bnd_nb {h : Hd} (hh : nb h) : bnd h = fun _ => [] := by
  funext i
  cases h with
  | new x k => exact hh.elim
  | lett x ms => exact hh.elim
  | _ => rfl
mutual
theorem lf_ok {N : A → Prop} : ∀ (b : Bk) {d : Nat} {B : List A}, wf N b → dp b ≤ d → B.length + 3 * dp b ≤ 9000 → sz b ≤ 20000 → ∃ l : List A, lfF d [enc b, .lst (B.map tW)] = .ok true (.lst (l.map tW)) [] ∧ l.length ≤ sz b ∧ ∀ y, y ∈ l ↔ fv y b ∧ y ∉ B
  | .nd h lb, d, B, w, hd, hB, hs => by
    rw [dp] at hd hB
    rw [sz] at hs
    obtain ⟨d, rfl⟩ : ∃ e, d = e + 1 := ⟨d - 1, by omega⟩
    by_cases hh : nb h
    · obtain ⟨r, e1, e2, e3⟩ := lfL_ok lb (N := N) (d := d) (B := B) w.2 (by omega) (by omega) (by omega)
      have e := l_free_op (N := N) (h := h) hh (by rw [encL_len]; exact w.1) e1 (by omega)
      have hol := ownL_len (h := h) (B := B)
      refine ⟨ownL h B ++ r, e, by rw [sz, List.length_append]; omega, fun y => ?_⟩
      rw [List.mem_append, ownL_mem, e3, fv, bnd_nb hh]
      constructor
      · rintro (⟨h1, h2⟩ | ⟨h1, h2⟩)
        · exact ⟨.inl h1, h2⟩
        · exact ⟨.inr h1, h2⟩
      · rintro ⟨h1 | h1, h2⟩
        · exact .inl ⟨h1, h2⟩
        · exact .inr ⟨h1, h2⟩
    · cases h with
      | lf t => exact absurd trivial hh
      | num t => exact absurd trivial hh
      | get t => exact absurd trivial hh
      | set t => exact absurd trivial hh
      | call t => exact absurd trivial hh
      | op t => exact absurd trivial hh
      | new x kk =>
        have hl : lb.len = 1 := w.1.2.2
        cases lb with
        | nil => cases hl
        | cons b lb =>
          cases lb with
          | cons c lb => simp [Bl.len] at hl
          | nil =>
            rw [dpL, dpL, Nat.max_zero] at hd hB
            rw [szL, szL] at hs
            obtain ⟨l, e1, e2, e3⟩ := lf_ok b (N := N) (d := d) (B := B ++ [x]) w.2.1 (by omega) (by rw [List.length_append, List.length_singleton]; omega) (by omega)
            refine ⟨l, l_free_new (by omega) e1, by rw [sz, szL, szL]; omega, fun y => ?_⟩
            rw [e3, List.mem_append, not_or, fv, fvL, fvL]
            constructor
            · rintro ⟨h1, h2, h3⟩; exact ⟨.inr (.inl ⟨h3, h1⟩), h2⟩
            · rintro ⟨h1 | ⟨h1, h2⟩ | h1, h3⟩
              · exact h1.elim
              · exact ⟨h2, h3, h1⟩
              · exact h1.elim
      | lett x ms =>
        have hl : lb.len = 2 := w.1.2.2.2.2
        have hm : ms.length ≤ 3 := w.1.2.2.2.1
        cases lb with
        | nil => cases hl
        | cons b lb =>
          cases lb with
          | nil => simp [Bl.len] at hl
          | cons c lb =>
            cases lb with
            | cons c lb => simp [Bl.len] at hl
            | nil =>
              rw [dpL, dpL, dpL, Nat.max_zero] at hd hB
              rw [szL, szL, szL] at hs
              have hb1 : dp b ≤ max (dp b) (dp c) := Nat.le_max_left _ _
              have hc1 : dp c ≤ max (dp b) (dp c) := Nat.le_max_right _ _
              obtain ⟨l, e1, e2, e3⟩ := lf_ok b (N := N) (d := d) (B := B ++ ms.map (·.1)) w.2.1 (by omega) (by rw [List.length_append, List.length_map]; omega) (by omega)
              obtain ⟨r, f1, f2, f3⟩ := lf_ok c (N := N) (d := d) (B := B ++ [x]) w.2.2.1 (by omega) (by rw [List.length_append, List.length_singleton]; omega) (by omega)
              refine ⟨l ++ r, l_free_let (by omega) hm (by omega) e1 f1, by rw [sz, szL, szL, szL, List.length_append]; omega, fun y => ?_⟩
              rw [List.mem_append, e3, f3, List.mem_append, not_or, List.mem_append, not_or, fv, fvL, fvL, fvL]
              constructor
              · rintro (⟨h1, h2, h3⟩ | ⟨h1, h2, h3⟩)
                · exact ⟨.inr (.inl ⟨h3, h1⟩), h2⟩
                · exact ⟨.inr (.inr (.inl ⟨h3, h1⟩)), h2⟩
              · rintro ⟨h1 | ⟨h1, h2⟩ | ⟨h1, h2⟩ | h1, h3⟩
                · exact h1.elim
                · exact .inl ⟨h2, h3, h1⟩
                · exact .inr ⟨h2, h3, h1⟩
                · exact h1.elim
theorem lfL_ok {N : A → Prop} : ∀ (lb : Bl) {d : Nat} {B : List A}, wfL N lb → dpL lb ≤ d → B.length + 3 * dpL lb ≤ 9000 → szL lb ≤ 20000 → ∃ r : List A, Cat (lfF d) (.lst (B.map tW)) (encL lb) r ∧ r.length ≤ szL lb ∧ ∀ y, y ∈ r ↔ fvL y (fun _ => []) lb ∧ y ∉ B
  | .nil, _, _, _, _, _, _ => ⟨[], .nil, Nat.zero_le _, fun y => ⟨(fun h => nomatch h), fun h => h.1.elim⟩⟩
  | .cons b lb, d, B, w, hd, hB, hs => by
    rw [dpL] at hd hB
    rw [szL] at hs
    have hb1 : dp b ≤ max (dp b) (dpL lb) := Nat.le_max_left _ _
    have hc1 : dpL lb ≤ max (dp b) (dpL lb) := Nat.le_max_right _ _
    obtain ⟨l, e1, e2, e3⟩ := lf_ok b (N := N) (d := d) (B := B) w.1 (by omega) (by omega) (by omega)
    obtain ⟨r, f1, f2, f3⟩ := lfL_ok lb (N := N) (d := d) (B := B) w.2 (by omega) (by omega) (by omega)
    refine ⟨l ++ r, .cons e1 f1, by rw [szL, List.length_append]; omega, fun y => ?_⟩
    rw [List.mem_append, e3, f3, fvL]
    constructor
    · rintro (⟨h1, h2⟩ | ⟨h1, h2⟩)
      · exact ⟨.inl ⟨(fun h => nomatch h), h1⟩, h2⟩
      · exact ⟨.inr h1, h2⟩
    · rintro ⟨⟨_, h1⟩ | h1, h2⟩
      · exact .inl ⟨h1, h2⟩
      · exact .inr ⟨h1, h2⟩
end
end K03

namespace K03
open PySem PySem.Spec PyProof.Rows L2 ML
/-! ### the law renames -/
@[simp] theorem ev_pop0 (i : Nat) (ρ : Rho) : mPopAt i 0 ρ = (match ownAt ρ i with
  | some (.lst (w :: l)) => .ok (.val, w) (ρ.set i (.own (.lst l)))
  | _ => .stk) := by
  unfold mPopAt
  cases h : ownAt ρ i with
  | none => rfl
  | some w =>
    cases w with
    | lst l =>
      cases l with
      | nil => rfl
      | cons w l =>
        dsimp only
        have e : seqIndex? 0 (w :: l).length = some 0 := by
          unfold seqIndex?
          simp
        rw [e]
        dsimp only [List.getElem?_cons_zero]
        rw [if_pos (by decide)]
        rfl
    | _ => rfl
def fqW (g : Nat → A) (L n : Nat) : List W := (List.range' n (L - n)).map fun i => tW (g i)
theorem fq_cons {g : Nat → A} {L n : Nat} (h : n < L) : fqW g L n = tW (g n) :: fqW g L (n + 1) := by
  unfold fqW
  rw [show L - n = (L - (n + 1)) + 1 by omega, List.range'_succ]
  rfl
theorem fq_zero (g : Nat → A) (L : Nat) : fqW g L 0 = nlW g L := by
  unfold fqW nlW
  rw [Nat.sub_zero, List.range_eq_range']
def pW (p : A × A) : W := .tup [tW p.1, tW p.2]
def alook : List (A × A) → A → A
  | [], x => x
  | p :: al, x => if p.1 = x then p.2 else alook al x
theorem found_loop {sc : W} {x : A} : ∀ (al : List (A × A)) {s2 : Sl}, ∃ s2', (forL (gSet [] 2) (mIf (mTest (mOp gEq (mOp gIx (mVar 2) (mC (.int 0))) (mVar 1))) (mRet [] (mOp gIx (mVar 2) (mC (.int 1)))) (mNext)) (al.map pW) [Sl.val sc, Sl.val (tW x), s2] = .ok (.rt .val (tW (alook al x))) [Sl.val sc, Sl.val (tW x), s2']) ∨ (forL (gSet [] 2) (mIf (mTest (mOp gEq (mOp gIx (mVar 2) (mC (.int 0))) (mVar 1))) (mRet [] (mOp gIx (mVar 2) (mC (.int 1)))) (mNext)) (al.map pW) [Sl.val sc, Sl.val (tW x), s2] = .ok .nx [Sl.val sc, Sl.val (tW x), s2'] ∧ alook al x = x)
  | [], s2 => ⟨s2, .inr ⟨rfl, rfl⟩⟩
  | p :: al, s2 => by
    obtain ⟨s2', h⟩ := found_loop (sc := sc) (x := x) al (s2 := Sl.val (pW p))
    rw [List.map_cons, ev_forc]
    have e0 : gSet [] 2 (pW p) [Sl.val sc, Sl.val (tW x), s2] = some [Sl.val sc, Sl.val (tW x), Sl.val (pW p)] := rfl
    rw [e0, alook]
    by_cases hp : p.1 = x
    · rw [if_pos hp]
      refine ⟨Sl.val (pW p), .inl ?_⟩
      simp -implicitDefEqProofs [ev_var, ev_own, pW, hp]
    · rw [if_neg hp]
      have e1 : mIf (mTest (mOp gEq (mOp gIx (mVar 2) (mC (.int 0))) (mVar 1))) (mRet [] (mOp gIx (mVar 2) (mC (.int 1)))) (mNext) [Sl.val sc, Sl.val (tW x), Sl.val (pW p)] = .ok .nx [Sl.val sc, Sl.val (tW x), Sl.val (pW p)] := by simp -implicitDefEqProofs [ev_var, ev_own, pW, hp]
      refine ⟨s2', ?_⟩
      dsimp only
      rw [e1, ev_lpn]
      exact h
theorem e_found (al : List (A × A)) (x : A) : fun__law_found [.lst (al.map pW), tW x] = .ok false (tW (alook al x)) [] := by
  obtain ⟨s2, h⟩ := found_loop (sc := .lst (al.map pW)) (x := x) al (s2 := Sl.no)
  unfold fun__law_found body__law_found
  generalize al.map pW = AL at *
  rcases h with h | ⟨h, h2⟩
  · simp -implicitDefEqProofs [ev_var, ev_own, h]
  · rw [h2]
    simp -implicitDefEqProofs [ev_var, ev_own, h]
def AR (al : List (A × A)) (f : A → A) : Prop := ∀ x, alook al x = f x
theorem AR.cons {al : List (A × A)} {f : A → A} (h : AR al f) (x y : A) : AR ((x, y) :: al) (upd f x y) := fun z => by
  rw [alook]
  unfold upd
  by_cases e : z = x
  · rw [if_pos e, if_pos e.symm]
  · rw [if_neg e, if_neg (Ne.symm e)]; exact h z
def lpr (g : Nat → A) : Nat → List (A × Bool) → List (A × A)
  | _, [] => []
  | n, m :: ms => (m.1, g n) :: lpr g (n + 1) ms
theorem updL_ext {g : Nat → A} : ∀ {ms : List (A × Bool)} {f f' : A → A} {n : Nat} {z : A}, f z = f' z → updL f g n ms z = updL f' g n ms z
  | [], _, _, _, _, h => h
  | m :: ms, f, f', n, z, h => by
    rw [updL, updL]
    refine updL_ext ?_
    unfold upd
    rw [h]
theorem AR.lett {g : Nat → A} {al : List (A × A)} {f : A → A} (h : AR al f) : ∀ {ms : List (A × Bool)} {n : Nat}, (ms.map (·.1)).Nodup → AR (lpr g n ms ++ al) (updL f g n ms)
  | [], _, _ => h
  | m :: ms, n, nd => fun z => by
    rw [List.map_cons, List.nodup_cons] at nd
    rw [lpr, List.cons_append, alook, updL]
    have ih := AR.lett (g := g) h (ms := ms) (n := n + 1) nd.2 z
    by_cases e : m.1 = z
    · rw [if_pos e]
      subst e
      rw [(updL_in (g := g)).2 nd.1]
      unfold upd
      rw [if_pos rfl]
    · rw [if_neg e, ih]
      refine updL_ext ?_
      unfold upd
      rw [if_neg (Ne.symm e)]
theorem lpr_len (g : Nat → A) : ∀ (ms : List (A × Bool)) (n : Nat), (lpr g n ms).length = ms.length
  | [], _ => rfl
  | m :: ms, n => by rw [lpr, List.length_cons, lpr_len g ms, List.length_cons]
theorem lpr_get {g : Nat → A} : ∀ {ms : List (A × Bool)} {n k : Nat} (h : k < ms.length), (lpr g n ms)[k]? = some (ms[k].1, g (n + k)) ∧ (prn g n ms)[k]? = some (g (n + k), ms[k].2)
  | [], _, _, h => by cases h
  | m :: ms, n, 0, _ => ⟨rfl, rfl⟩
  | m :: ms, n, k + 1, h => by
    have := lpr_get (g := g) (ms := ms) (n := n + 1) (k := k) (by rw [List.length_cons] at h; omega)
    rw [lpr, prn, List.getElem?_cons_succ, List.getElem?_cons_succ, List.getElem_cons_succ, this.1, this.2, show n + 1 + k = n + (k + 1) by omega]
    exact ⟨rfl, rfl⟩
def frR (nd sc : W) (fq : List W) (wd : W) (s4 : Sl) (ps : List W) (s6 s7 s8 : Sl) : Rho := [Sl.val nd, Sl.val sc, Sl.own (.lst fq), Sl.val wd, s4, Sl.own (.lst ps), s6, s7, s8, Sl.no, Sl.no, Sl.no]
def lrB : Rho → ML.R Fl := mDrop (mAppend 5 [2] (mTup [2] [mOp gIx (mVar 6) (mC (.int 0)), mPopAt 2 0]))
theorem lr_loop {nd sc wd : W} {s4 s7 s8 : Sl} {g : Nat → A} {L : Nat} : ∀ (ms : List (A × Bool)) {n : Nat} {acc : List W} {s6 : Sl}, n + ms.length ≤ L → acc.length + ms.length ≤ 1000 → ∃ s6', forL (gSet [2] 6) lrB (ms.map prmW) (frR nd sc (fqW g L n) wd s4 acc s6 s7 s8) = .ok .nx (frR nd sc (fqW g L (n + ms.length)) wd s4 (acc ++ (lpr g n ms).map pW) s6' s7 s8)
  | [], n, acc, s6, _, _ => ⟨s6, by simp only [lpr, List.map_nil, List.append_nil, List.length_nil, Nat.add_zero]; rfl⟩
  | m :: ms, n, acc, s6, hn, hl => by
    rw [List.length_cons] at hn hl
    obtain ⟨s6', e2⟩ := lr_loop (nd := nd) (sc := sc) (wd := wd) (s4 := s4) (s7 := s7) (s8 := s8) (g := g) (L := L) ms (n := n + 1) (acc := acc ++ [pW (m.1, g n)]) (s6 := Sl.val (prmW m)) (by omega) (by simp; omega)
    refine ⟨s6', ?_⟩
    rw [List.map_cons, ev_forc]
    have e0 : gSet [2] 6 (prmW m) (frR nd sc (fqW g L n) wd s4 acc s6 s7 s8) = some (frR nd sc (fqW g L n) wd s4 acc (Sl.val (prmW m)) s7 s8) := rfl
    rw [e0]
    show loopF (lrB _) _ = _
    have hz : acc.length < sizeLine := by rw [line_is]; omega
    have e1 : lrB (frR nd sc (fqW g L n) wd s4 acc (Sl.val (prmW m)) s7 s8) = .ok .nx (frR nd sc (fqW g L (n + 1)) wd s4 (acc ++ [pW (m.1, g n)]) (Sl.val (prmW m)) s7 s8) := by
      rw [fq_cons (show n < L by omega)]
      generalize fqW g L (n + 1) = FQ
      unfold lrB frR
      simp -implicitDefEqProofs [ev_var, ev_own, hz, prmW, pW, l2]
    rw [e1, ev_lpn, e2, lpr, List.map_cons, List.append_assoc, List.length_cons, show n + 1 + ms.length = n + (ms.length + 1) by omega]
    rfl
theorem lr_kinds {nd sc wd : W} {fq : List W} {s4 s6 s7 s8 : Sl} {g : Nat → A} {n : Nat} {ms : List (A × Bool)} (hm : ms.length ≤ 3) {x : A} {b c : W} (hnd : nd = .tup [tW [108, 101, 116], tW x, .tup (ms.map prmW), b, c]) :
    mLc [2] (mRange1 [mCB gLen [mVar 5]]) (.nm 10) (mYes) (mTup [2] [mOp gIx (mOp gIx (mVar 5) (mVar 10)) (mC (.int 1)), mOp gIx (mOp gIx (mOp gIx (mVar 0) (mC (.int 2))) (mVar 10)) (mC (.int 1))]) (frR nd sc fq wd s4 ((lpr g n ms).map pW) s6 s7 s8) = .ok (.fre, .lst ((prn g n ms).map prmW)) (frR nd sc fq wd s4 ((lpr g n ms).map pW) s6 s7 s8) := by
  have e := lc_rng (I := [2]) (f := mCB gLen [mVar 5]) (i := 10) (n := ms.length) (fe := mTup [2] [mOp gIx (mOp gIx (mVar 5) (mVar 10)) (mC (.int 1)), mOp gIx (mOp gIx (mOp gIx (mVar 0) (mC (.int 2))) (mVar 10)) (mC (.int 1))]) (g := fun k => prmW (g (n + k), (ms.getD k ([], false)).2)) (ρ := frR nd sc fq wd s4 ((lpr g n ms).map pW) s6 s7 s8) (by
      have hl : (((lpr g n ms).map pW).length : Int) = (ms.length : Int) := by rw [List.length_map, lpr_len]
      unfold frR
      generalize (lpr g n ms).map pW = PS at *
      simp -implicitDefEqProofs [ev_var, ev_own, ev_lenL, hl]) (by simp) (by omega) (fun k hk => by
      obtain ⟨g1, g2⟩ := lpr_get (g := g) (n := n) hk
      have h1 : atI ((lpr g n ms).map pW) (k : Int) = some (pW (ms[k].1, g (n + k))) := by rw [ML.atI_nat, List.getElem?_map, g1]; rfl
      have h2 : atI (ms.map prmW) (k : Int) = some (prmW ms[k]) := by rw [ML.atI_nat, List.getElem?_map, List.getElem?_eq_getElem hk]; rfl
      have h3 : (ms.getD k ([], false)).2 = ms[k].2 := by rw [List.getD_eq_getElem?_getD, List.getElem?_eq_getElem hk]; rfl
      rw [h3, hnd]
      unfold frR
      generalize (lpr g n ms).map pW = PS at *
      generalize ms.map prmW = MS at *
      simp -implicitDefEqProofs [ev_var, ev_own, h1, h2, l2, pW, prmW]) rfl
  rw [e]
  have e2 : (List.range ms.length).map (fun k => prmW (g (n + k), (ms.getD k ([], false)).2)) = (prn g n ms).map prmW := by
    refine List.ext_getElem? fun k => ?_
    by_cases hk : k < ms.length
    · obtain ⟨g1, g2⟩ := lpr_get (g := g) (n := n) hk
      rw [List.getElem?_map, List.getElem?_range hk, List.getElem?_map, g2, Option.map_some, Option.map_some, List.getD_eq_getElem?_getD, List.getElem?_eq_getElem hk]
      rfl
    · rw [List.getElem?_eq_none (by rw [List.length_map, List.length_range]; omega), List.getElem?_eq_none (by rw [List.length_map, prn_len]; omega)]
  rw [e2]
end K03

namespace K03
open PySem PySem.Spec PyProof.Rows L2 ML
noncomputable def lrF : Nat → List W → FR
  | 0 => fun _ => .stk
  | d + 1 => fun__law_renamed (lrF d) fun__law_parts fun__law_found
section
variable {m po fo : List W → FR} {g : Nat → A} {L : Nat} {N : A → Prop}
theorem l_ren_new {x y : A} {k : Int} {b u : W} {SC fq fq2 : List W} (hz : SC.length ≤ 10000) (hB : m [b, .lst (.tup [tW x, tW y] :: SC), .lst fq] = .ok false u [.lst fq2]) :
    fun__law_renamed m po fo [.tup [tW [110, 101, 119], tW x, .int k, b], .lst SC, .lst (tW y :: fq)] = .ok false (.tup [tW [110, 101, 119], tW y, .int k, u]) [.lst fq2] := by
  have h1 : 1 + SC.length ≤ sizeLine := by rw [line_is]; omega
  unfold fun__law_renamed body__law_renamed
  simp -implicitDefEqProofs [ev_var, ev_own, hB, h1, l1, l2, l4]
theorem l_ren_let {x : A} {ms : List (A × Bool)} {n : Nat} {b c u v : W} {SC fq1 fq2 : List W} (hm : ms.length ≤ 3) (hn : n + 1 + ms.length ≤ L) (hz : SC.length ≤ 10000)
    (hB : m [b, .lst ((lpr g (n + 1) ms).map pW ++ SC), .lst (fqW g L (n + 1 + ms.length))] = .ok false u [.lst fq1])
    (hC : m [c, .lst (.tup [tW x, tW (g n)] :: SC), .lst fq1] = .ok false v [.lst fq2]) :
    fun__law_renamed m po fo [.tup [tW [108, 101, 116], tW x, .tup (ms.map prmW), b, c], .lst SC, .lst (fqW g L n)] = .ok false (.tup [tW [108, 101, 116], tW (g n), .tup ((prn g (n + 1) ms).map prmW), u, v]) [.lst fq2] := by
  obtain ⟨s6, e1⟩ := lr_loop (nd := .tup [tW [108, 101, 116], tW x, .tup (ms.map prmW), b, c]) (sc := .lst SC) (wd := tW [108, 101, 116]) (s4 := Sl.val (tW (g n))) (s7 := Sl.no) (s8 := Sl.no) (g := g) (L := L) ms (n := n + 1) (acc := []) (s6 := Sl.no) hn (by simp; omega)
  have e2 := lr_kinds (nd := .tup [tW [108, 101, 116], tW x, .tup (ms.map prmW), b, c]) (sc := .lst SC) (fq := fqW g L (n + 1 + ms.length)) (wd := tW [108, 101, 116]) (s4 := Sl.val (tW (g n))) (s6 := s6) (s7 := Sl.no) (s8 := Sl.no) (g := g) (n := n + 1) hm rfl
  have hl : (lpr g (n + 1) ms).length = ms.length := lpr_len g ms _
  rw [List.nil_append] at e1
  rw [fq_cons (show n < L by omega)]
  have h1 : 1 + SC.length ≤ sizeLine := by rw [line_is]; omega
  have h2 : ((lpr g (n + 1) ms).map pW).length + SC.length ≤ sizeLine := by rw [List.length_map, hl, line_is]; omega
  have l5 : (5 ≤ sizeLine) = True := by simp [line_is]
  unfold frR at e1 e2
  unfold lrB at e1
  generalize fqW g L (n + 1) = FQ at *
  generalize fqW g L (n + 1 + ms.length) = FQ1 at *
  generalize (lpr g (n + 1) ms).map pW = PS at *
  generalize (prn g (n + 1) ms).map prmW = KS at *
  unfold fun__law_renamed body__law_renamed
  simp -implicitDefEqProofs [ev_var, ev_own, e1, e2, hB, hC, h1, h2, l1, l2, l5]
inductive LS (m : List W → FR) (sc : W) (g : Nat → A) (L : Nat) : Nat → List W → List W → Nat → Prop
  | nil (n : Nat) : LS m sc g L n [] [] n
  | cons {n p q : Nat} {w u : W} {ws us : List W} : m [w, sc, .lst (fqW g L n)] = .ok false u [.lst (fqW g L p)] → LS m sc g L p ws us q → LS m sc g L n (w :: ws) (u :: us) q
theorem LS.len {sc : W} {n p : Nat} {ws us : List W} (h : LS m sc g L n ws us p) : us.length = ws.length := by
  induction h with
  | nil => rfl
  | cons _ _ ih => rw [List.length_cons, List.length_cons, ih]
theorem all2_refl (l : List W) : All2 (fun (w z : W) => w = z) l l := by
  induction l with
  | nil => exact .nil
  | cons w l ih => exact .cons rfl ih
def frP (nd sc : W) (fq : List W) (wd : W) : Rho := [Sl.val nd, Sl.val sc, Sl.own (.lst fq), Sl.val wd, Sl.no, Sl.no, Sl.no, Sl.no, Sl.no, Sl.no, Sl.no, Sl.no]
theorem ls_comp {nd sc wd : W} {n p : Nat} {ws us : List W} (h : LS m sc g L n ws us p) (hl : ws.length ≤ 100) (hp : po [nd] = .ok true (.lst ws) []) :
    mLc [2] (mItems [2] (mCall [2] [] po [mVar 0])) (.nm 11) (mYes) (mCall [2] [2] m [mVar 11, mVar 1, mVar 2]) (frP nd sc (fqW g L n) wd) = .ok (.fre, .lst us) (frP nd sc (fqW g L p) wd) := by
  obtain ⟨acc, q, e, us', hls, he⟩ := comp_st (i := 11) (fe := mEl [2] (mCall [2] [2] m [mVar 11, mVar 1, mVar 2])) (fr := fun p => frP nd sc (fqW g L p) wd) (Q := fun (w z : W) => w = z) (P := fun zs acc q => ∃ us', LS m sc g L q zs us' p ∧ acc ++ us' = us) (fun w z zs acc q hq ⟨us', hls, he⟩ => by
      subst hq
      cases hls with
      | @cons _ p2 _ _ u _ us2 e hls =>
        refine ⟨u, p2, ?_, us2, hls, by rw [← he, List.append_assoc]; rfl⟩
        generalize fqW g L q = F1 at *
        generalize fqW g L p2 = F2 at *
        unfold frP
        simp -implicitDefEqProofs [ev_var, ev_own, e]) (fun q => rfl) (all2_refl ws) (acc := []) (ρ := frP nd sc (fqW g L n) wd) (s := n) ⟨us, h, rfl⟩ (by rw [line_is]; simp; omega) rfl
  cases hls with
  | nil =>
    rw [List.append_nil] at he
    subst he
    have hit : mItems [2] (mCall [2] [] po [mVar 0]) (frP nd sc (fqW g L n) wd) = .ok ws (frP nd sc (fqW g L n) wd) := by
      generalize fqW g L n = F1 at *
      unfold frP
      simp -implicitDefEqProofs [ev_var, ev_own, hp]
    rw [ev_lc, hit, ev_bo]
    have e2 : CT.ix (.nm 11) = [11] := rfl
    rw [e2, if_pos (by simp), e]
    rfl
theorem l_ren_op {h : Hd} {ws us : List W} {n p : Nat} {al : List (A × A)} {f : A → A} (ha : AR al f) (hh : nb h) (w : wfH N h ws.length) (hs : LS m (.lst (al.map pW)) g L n ws us p) (n0 : Nat) :
    fun__law_renamed m fun__law_parts fun__law_found [encH h ws, .lst (al.map pW), .lst (fqW g L n)] = .ok false (encH (hrn g f n0 h) us) [.lst (fqW g L p)] := by
  have e1 := l_parts w
  have hul := hs.len
  have h5 := kids5 w
  have key := fun wd => ls_comp (wd := wd) hs (by omega) e1
  have hf := fun x => e_found al x
  have z1 : us.length + 1 ≤ sizeLine := by rw [line_is]; omega
  have z1' : 1 + us.length ≤ sizeLine := by rw [line_is]; omega
  generalize fun__law_parts = po at *
  generalize fun__law_found = fo at *
  unfold frP at key
  cases h with
  | new x k => exact hh.elim
  | lett x ms => exact hh.elim
  | lf t =>
    obtain ⟨w1, w2⟩ := w
    have hu : us = [] := nil_of (by omega)
    subst hu
    have e3 := key (tW t)
    simp only [encH] at e3
    generalize fqW g L n = F1 at *
    generalize fqW g L p = F2 at *
    generalize al.map pW = AL at *
    unfold fun__law_renamed body__law_renamed
    rcases w1 with rfl | rfl <;> simp -implicitDefEqProofs [ev_var, ev_own, encH, hrn, e3, l1]
  | num t =>
    obtain ⟨w1, w2⟩ := w
    have hu : us = [] := nil_of (by omega)
    subst hu
    have e3 := key (tW [110, 117, 109, 98, 101, 114])
    simp only [encH] at e3
    generalize fqW g L n = F1 at *
    generalize fqW g L p = F2 at *
    generalize al.map pW = AL at *
    unfold fun__law_renamed body__law_renamed
    simp -implicitDefEqProofs [ev_var, ev_own, encH, hrn, e3, l1]
  | get x =>
    have e3 := key (tW [103, 101, 116])
    have e4 := hf x
    rw [ha x] at e4
    simp only [encH] at e3
    generalize fqW g L n = F1 at *
    generalize fqW g L p = F2 at *
    generalize al.map pW = AL at *
    unfold fun__law_renamed body__law_renamed
    simp -implicitDefEqProofs [ev_var, ev_own, encH, hrn, e3, e4, l2]
  | set x =>
    obtain ⟨w1, w2⟩ := w
    obtain ⟨u, rfl⟩ := List.length_eq_one_iff.mp (show us.length = 1 by omega)
    have e3 := key (tW [115, 101, 116])
    have e4 := hf x
    rw [ha x] at e4
    simp only [encH] at e3
    generalize fqW g L n = F1 at *
    generalize fqW g L p = F2 at *
    generalize al.map pW = AL at *
    unfold fun__law_renamed body__law_renamed
    simp -implicitDefEqProofs [ev_var, ev_own, encH, hrn, e3, e4, l3]
  | call x =>
    have e3 := key (tW [99, 97, 108, 108])
    have e4 := hf x
    rw [ha x] at e4
    simp only [encH] at e3
    generalize fqW g L n = F1 at *
    generalize fqW g L p = F2 at *
    generalize al.map pW = AL at *
    unfold fun__law_renamed body__law_renamed
    simp -implicitDefEqProofs [ev_var, ev_own, encH, hrn, e3, e4, l3]
  | op t =>
    have e3 := key (tW t)
    simp only [encH] at e3
    generalize fqW g L n = F1 at *
    generalize fqW g L p = F2 at *
    generalize al.map pW = AL at *
    unfold fun__law_renamed body__law_renamed
    rcases w with ⟨h1, _⟩ | ⟨rfl, _⟩
    · rcases op_cases h1 with rfl | rfl | rfl | rfl | rfl <;> simp -implicitDefEqProofs [ev_var, ev_own, encH, hrn, e3, l1, z1']
    · simp -implicitDefEqProofs [ev_var, ev_own, encH, hrn, e3, l1, z1']
end
end K03

namespace K03
open PySem PySem.Spec PyProof.Rows L2 ML
mutual
theorem lr_ok {N : A → Prop} {g : Nat → A} {L : Nat} : ∀ (b : Bk) {d n : Nat} {f : A → A} {al : List (A × A)}, wf N b → dp b ≤ d → AR al f → al.length + 3 * dp b ≤ 9000 → n + bc b ≤ L →
    lrF d [enc b, .lst (al.map pW), .lst (fqW g L n)] = .ok false (enc (rn g f n b)) [.lst (fqW g L (n + bc b))]
  | .nd h lb, d, n, f, al, w, hd, ha, hk, hn => by
    rw [dp] at hd hk
    rw [bc] at hn
    obtain ⟨d, rfl⟩ : ∃ e, d = e + 1 := ⟨d - 1, by omega⟩
    by_cases hh : nb h
    · have st := lrL_ok lb (N := N) (g := g) (L := L) (d := d) (n := n) (f := f) (al := al) w.2 (by omega) ha (by omega) (by omega)
      have e := l_ren_op (g := g) (N := N) (h := h) ha hh (by rw [encL_len]; exact w.1) st n
      rw [rn, scs_nb hh, hb_nb hh, bc, hb_nb hh, Nat.zero_add, Nat.add_zero]
      exact e
    · cases h with
      | lf t => exact absurd trivial hh
      | num t => exact absurd trivial hh
      | get t => exact absurd trivial hh
      | set t => exact absurd trivial hh
      | call t => exact absurd trivial hh
      | op t => exact absurd trivial hh
      | new x kk =>
        have hl : lb.len = 1 := w.1.2.2
        cases lb with
        | nil => cases hl
        | cons b lb =>
          cases lb with
          | cons c lb => simp [Bl.len] at hl
          | nil =>
            rw [dpL, dpL, Nat.max_zero] at hd hk
            rw [bcL, bcL, hb] at hn
            have e := l_ren_new (m := lrF d) (po := fun__law_parts) (fo := fun__law_found) (x := x) (y := g n) (k := (kk : Int)) (b := enc b) (SC := al.map pW) (fq := fqW g L (n + 1)) (by rw [List.length_map]; omega) (lr_ok b (N := N) (d := d) (al := (x, g n) :: al) w.2.1 (by omega) (ha.cons x (g n)) (by rw [List.length_cons]; omega) (by omega))
            rw [← fq_cons (show n < L by omega)] at e
            rw [bc, bcL, bcL, hb, Nat.add_zero, ← Nat.add_assoc]
            exact e
      | lett x ms =>
        have hl : lb.len = 2 := w.1.2.2.2.2
        have hm : ms.length ≤ 3 := w.1.2.2.2.1
        have hnd := w.1.2.2.1
        cases lb with
        | nil => cases hl
        | cons b lb =>
          cases lb with
          | nil => simp [Bl.len] at hl
          | cons c lb =>
            cases lb with
            | cons c lb => simp [Bl.len] at hl
            | nil =>
              rw [dpL, dpL, dpL, Nat.max_zero] at hd hk
              rw [bcL, bcL, bcL, hb] at hn
              have hb1 : dp b ≤ max (dp b) (dp c) := Nat.le_max_left _ _
              have hc1 : dp c ≤ max (dp b) (dp c) := Nat.le_max_right _ _
              have eB := lr_ok b (N := N) (g := g) (L := L) (d := d) (n := n + 1 + ms.length) (al := lpr g (n + 1) ms ++ al) w.2.1 (by omega) (ha.lett hnd) (by rw [List.length_append, lpr_len]; omega) (by omega)
              rw [List.map_append] at eB
              have e := l_ren_let (m := lrF d) (po := fun__law_parts) (fo := fun__law_found) (g := g) (L := L) (x := x) (ms := ms) (n := n) (b := enc b) (c := enc c) (SC := al.map pW) hm (by omega) (by rw [List.length_map]; omega) eB
                (lr_ok c (N := N) (d := d) (n := n + 1 + ms.length + bc b) (al := (x, g n) :: al) w.2.2.1 (by omega) (ha.cons x (g n)) (by rw [List.length_cons]; omega) (by omega))
              have a1 : n + bc (.nd (.lett x ms) (.cons b (.cons c .nil))) = n + 1 + ms.length + bc b + bc c := by rw [bc, bcL, bcL, bcL, hb]; omega
              rw [a1, rn, rnL, rnL, rnL, hb, ← Nat.add_assoc]
              exact e
theorem lrL_ok {N : A → Prop} {g : Nat → A} {L : Nat} : ∀ (lb : Bl) {d n : Nat} {f : A → A} {al : List (A × A)}, wfL N lb → dpL lb ≤ d → AR al f → al.length + 3 * dpL lb ≤ 9000 → n + bcL lb ≤ L →
    LS (lrF d) (.lst (al.map pW)) g L n (encL lb) (encL (rnL g (fun _ => f) n lb)) (n + bcL lb)
  | .nil, _, n, _, _, _, _, _, _, _ => .nil n
  | .cons b lb, d, n, f, al, w, hd, ha, hk, hn => by
    rw [dpL] at hd hk
    rw [bcL] at hn
    have hb1 : dp b ≤ max (dp b) (dpL lb) := Nat.le_max_left _ _
    have hc1 : dpL lb ≤ max (dp b) (dpL lb) := Nat.le_max_right _ _
    rw [bcL, ← Nat.add_assoc]
    exact .cons (lr_ok b (N := N) w.1 (by omega) ha (by omega) (by omega)) (lrL_ok lb (N := N) w.2 (by omega) ha (by omega) (by omega))
end
/-- a block that may be renamed, its free names in D -/
structure Gb (N : A → Prop) (D : List A) (b : Bk) : Prop where
  w : wf N b
  fv : ∀ y, fv y b → y ∈ D
  dp : dp b ≤ 60
  sz : sz b ≤ 10000
  bc : bc b ≤ 600
def duB : Rho → ML.R Fl := mIf (mTest (mOp (gIn true) (mOp gAdd (mC (.str "n")) (mCB gStr [mVar 4])) (mVar 2))) (mDrop (mAppend 3 [] (mOp gAdd (mC (.str "n")) (mCB gStr [mVar 4])))) (mNext)
def frU (bl lw : W) (out : List A) (k : Nat) (s4 : Sl) : Rho := [Sl.val bl, Sl.val lw, Sl.own (.lst (out.map tW)), Sl.own (.lst ((Fr out k).map fun k => tW (nk k))), s4]
theorem duB_step {bl lw : W} {out : List A} {k : Nat} (hk : k < 700) : duB (frU bl lw out k (Sl.val (.int (k : Int)))) = .ok .nx (frU bl lw out (k + 1) (Sl.val (.int (k : Int)))) := by
  have hs := ev_strI (n := k) (by omega)
  have hl := num_le k (by omega)
  have ha := ev_addSS (a := [110]) (b := TL.numL k) (by simp; omega)
  have hi : gIn true (.str (S (nk k))) (.lst (out.map tW)) = some (.val, .bl (!decide (nk k ∈ out))) := in_ST true (nk k) out _ rfl (by simp)
  have hz : (Fr out k).length < sizeLine := by
    have : (Fr out k).length ≤ (List.range k).length := List.length_filter_le _ _
    rw [List.length_range] at this
    rw [line_is]; omega
  unfold duB frU
  rw [Fr_succ, List.map_append]
  replace ha : gAdd (.str (S [110])) (.str (S (TL.numL k))) = some (.val, .str (S (nk k))) := ha
  have hlm : ((Fr out k).map fun k => tW (nk k)).length = (Fr out k).length := by simp
  generalize (Fr out k).map (fun k => tW (nk k)) = FW at *
  generalize (Fr out k).length = fl at *
  generalize out.map tW = LW at *
  by_cases h : nk k ∈ out
  · rw [decide_eq_true h] at hi
    rw [if_pos h]
    simp -implicitDefEqProofs [ev_var, ev_own, hs, ha, hi]
  · rw [decide_eq_false h] at hi
    rw [if_neg h]
    simp -implicitDefEqProofs [ev_var, ev_own, hs, ha, hi, hlm, hz]
theorem du_loop {bl lw : W} {out : List A} : ∃ s4, forL (gSet [] 4) duB (intsW 0 700) (frU bl lw out 0 Sl.no) = .ok .nx (frU bl lw out 700 s4) := by
  have e0 : gSet [] 4 = fun w ρ => some (ρ.set 4 (.val w)) := gset_is (by simp)
  rw [e0]
  obtain ⟨ρ1, e1, k, s4, rfl, hz, hk⟩ := for_inv (i := 4) (g := duB) (ρ := frU bl lw out 0 Sl.no) (P := fun zs ρ => ∃ k s4, ρ = frU bl lw out k s4 ∧ zs = List.range' k (700 - k) ∧ k ≤ 700) (.inr trivial) (all2_rng 700) (fun a z zs' ρ q ⟨k, s4, er, hz, hk⟩ => by
    subst er
    obtain ⟨rfl, hzk⟩ := q
    have hlt : k < 700 := by
      rcases Nat.lt_or_ge k 700 with h | h
      · exact h
      · rw [Nat.sub_eq_zero_of_le h] at hz; cases hz
    rw [show 700 - k = (700 - (k + 1)) + 1 by omega, List.range'_succ] at hz
    obtain ⟨hz1, hz2⟩ := List.cons.inj hz
    subst hz1
    exact ⟨_, duB_step hlt, z + 1, _, rfl, hz2, by omega⟩) ⟨0, Sl.no, rfl, rfl, by omega⟩
  have : k = 700 := by
    have := congrArg List.length hz
    simp at this
    omega
  subst this
  exact ⟨s4, e1⟩
theorem e_due {N : A → Prop} {D left : List A} {b : Bk} (G : Gb N D b) (hl : D.length + left.length ≤ 90) : ∃ out : List A, (∀ y, y ∈ out ↔ fv y b ∨ y ∈ left) ∧ bc b ≤ (Fr out 700).length ∧
    fun__law_renamed_due (lfF 60) (lrF 60) [enc b, .lst (left.map tW)] = .ok false (enc (rn (gN out) id 0 b)) [] := by
  obtain ⟨l, e1, e2, e3⟩ := lf_ok b (N := N) (d := 60) (B := []) G.w G.dp (by have := G.dp; simp; omega) (by have := G.sz; omega)
  have hmem : ∀ y, y ∈ l ++ left ↔ fv y b ∨ y ∈ left := fun y => by
    rw [List.mem_append, e3]
    simp
  have hfl := Fr_len (out := l ++ left) (D := D ++ left) fun x hx => by
    rw [List.mem_append]
    rcases (hmem x).mp hx with h | h
    · exact .inl (G.fv x h)
    · exact .inr h
  rw [List.length_append] at hfl
  have hbc := G.bc
  refine ⟨l ++ left, hmem, by omega, ?_⟩
  obtain ⟨s4, e4⟩ := du_loop (bl := enc b) (lw := .lst (left.map tW)) (out := l ++ left)
  have e5 := lr_ok b (N := N) (g := gN (l ++ left)) (L := (Fr (l ++ left) 700).length) (d := 60) (n := 0) (f := id) (al := []) G.w G.dp (fun _ => rfl) (by have := G.dp; simp; omega) (by omega)
  rw [fq_zero, nl_all] at e5
  have hz : (l.map tW).length + (left.map tW).length ≤ sizeLine := by rw [List.length_map, List.length_map, line_is]; have := G.sz; omega
  have h0 : (Fr (l ++ left) 0).map (fun k => tW (nk k)) = [] := rfl
  have hok : okR 700 = true := by decide
  unfold duB frU at e4
  rw [h0, List.map_append] at e4
  generalize (Fr (l ++ left) 700).map (fun k => tW (nk k)) = FW at *
  generalize fqW (gN (l ++ left)) (Fr (l ++ left) 700).length (0 + bc b) = F2 at *
  generalize rn (gN (l ++ left)) id 0 b = RB at *
  generalize lfF 60 = lf at *
  generalize lrF 60 = lr at *
  generalize l.map tW = LW at *
  generalize left.map tW = FT at *
  generalize enc b = E at *
  simp only [List.map_nil] at e1 e5
  unfold fun__law_renamed_due body__law_renamed_due
  simp at e4
  simp -implicitDefEqProofs [ev_var, ev_own, e1, e4, e5, hz, hok]
end K03

namespace K03
open PySem PySem.Spec PyProof.Rows L2 ML
/-! ### renamed -/
theorem gN_congr {o1 o2 : List A} (h : ∀ x, x ∈ o1 ↔ x ∈ o2) : gN o1 = gN o2 := by
  funext i
  unfold gN
  rw [Fr_congr h]
noncomputable def rdF : List W → FR := fun_renamed (frF 130) (fun_free_names (frF 130) fun_parts_of fun_bound_in_part) (bcF 60) fun_new_names (rwP 120).1
theorem e_renamed {N : A → Prop} {D avl out : List A} {b : Bk} {v av : W} (G : Gb N D b) (hv : frF 130 [v] = .ok false (enc b) []) (hb : frF 130 [enc b] = .ok false (enc b) []) (ha : frF 130 [av] = .ok false (.tup (avl.map tW)) []) (hD : D.length ≤ 60) (hal : avl.length ≤ 60)
    (ho : ∀ y, y ∈ out ↔ fv y b ∨ y ∈ avl) (hlen : bc b ≤ (Fr out 700).length) : rdF [v, av] = .ok false (enc (rn (gN out) id 0 b)) [] := by
  obtain ⟨lo, e1, e2, e3⟩ := e_free (fz := frF 130) hb G.w (by have := G.dp; omega) G.sz G.fv hD
  have hmem : ∀ y, y ∈ lo ++ avl ↔ y ∈ out := fun y => by rw [List.mem_append, e3, ho]
  have e4 := e_count 60 b G.w G.dp
  have e5 := e_newnames (lo := lo ++ avl) (many := bc b) (by rw [Fr_congr hmem]; exact hlen)
  rw [gN_congr hmem, List.map_append] at e5
  have e6 := rw_ok b (N := N) (g := gN out) (L := bc b) (d := 120) (k := 0) (n := 0) G.w (by have := G.dp; omega) DR.nil (by have := G.dp; omega) (by omega)
  have hz : (lo.map tW).length + (avl.map tW).length ≤ sizeLine := by rw [List.length_map, List.length_map, line_is]; omega
  unfold rdF
  generalize frF 130 = fz at *
  generalize fun_free_names fz fun_parts_of fun_bound_in_part = fn at *
  generalize bcF 60 = cn at *
  generalize (rwP 120).1 = rw_ at *
  generalize fun_new_names = nn at *
  generalize nlW (gN out) (bc b) = NW at *
  generalize rn (gN out) id 0 b = RB at *
  generalize lo.map tW = LW at *
  generalize avl.map tW = AW at *
  generalize enc b = E at *
  unfold fun_renamed body_renamed
  rw [show ((0 : Nat) : Int) = 0 from rfl] at e6
  simp -implicitDefEqProofs [ev_var, ev_own, hv, ha, e1, e4, e5, e6, hz]
/-! nested values -/
def NA (x : A) : Prop := ∀ c ∈ x, c < 128
theorem code_ok {l : List Nat} (h : ∀ c ∈ l, c < 128) : PyData.strOk (S l) = true := by
  show (S l).cps.all _ = true
  rw [← Array.all_toList]
  refine List.all_eq_true.mpr fun c hc => ?_
  have := h c hc
  simp
  omega
theorem lsd_s {d : Nat} {x : A} (h : NA x) : Lsd (d + 1) (tW x) (tW x) := .inr (.inl ⟨_, rfl, rfl, code_ok h⟩)
theorem lsd_i {d : Nat} {i : Int} : Lsd (d + 1) (.int i) (.int i) := .inl ⟨_, rfl, rfl⟩
theorem lsd_t {d : Nat} {ws : List W} (h : All2 (Lsd d) ws ws) (hl : ws.length ≤ 1000) : Lsd (d + 1) (.tup ws) (.tup ws) := .inr (.inr ⟨ws, ws, .inl rfl, rfl, hl, h⟩)
theorem lsd_l {d : Nat} {ws : List W} (h : All2 (Lsd d) ws ws) (hl : ws.length ≤ 1000) : Lsd (d + 1) (.lst ws) (.tup ws) := .inr (.inr ⟨ws, ws, .inr rfl, rfl, hl, h⟩)
theorem lsd_names {d : Nat} {l : List A} (h : ∀ x ∈ l, NA x) : All2 (Lsd (d + 1)) (l.map tW) (l.map tW) := by
  induction l with
  | nil => exact .nil
  | cons x l ih => exact .cons (lsd_s (h x (List.mem_cons_self ..))) (ih fun y hy => h y (List.mem_cons_of_mem _ hy))
theorem kd_NA (b : Bool) : NA (kd b) := by
  cases b <;> (unfold NA kd; decide)
theorem lsd_prm {d : Nat} {m : A × Bool} (h : NA m.1) : Lsd (d + 2) (prmW m) (prmW m) := lsd_t (.cons (lsd_s h) (.cons (lsd_s (kd_NA m.2)) .nil)) (by simp)
theorem lsd_prms {d : Nat} {ms : List (A × Bool)} (h : ∀ m ∈ ms, NA m.1) : All2 (Lsd (d + 2)) (ms.map prmW) (ms.map prmW) := by
  induction ms with
  | nil => exact .nil
  | cons x l ih => exact .cons (lsd_prm (h x (List.mem_cons_self ..))) (ih fun y hy => h y (List.mem_cons_of_mem _ hy))
theorem na_ops {t : A} (h : t ∈ opsL) : NA t := by
  rcases op_cases h with rfl | rfl | rfl | rfl | rfl <;> (unfold NA; decide)
theorem lsd_head {d : Nat} {h : Hd} {ws : List W} (w : wfH NA h ws.length) (hw : All2 (Lsd (d + 2)) ws ws) : Lsd (d + 4) (encH h ws) (encH h ws) := by
  have h5 := kids5 w
  have up : All2 (Lsd (d + 3)) ws ws := hw.imp fun a b h => h.mono
  cases h with
  | lf t =>
    refine lsd_t (.cons (lsd_s ?_) .nil) (by simp)
    rcases w.1 with rfl | rfl <;> (unfold NA; decide)
  | num k => exact lsd_t (.cons (lsd_s (by unfold NA; decide)) (.cons lsd_i .nil)) (by simp)
  | get x => exact lsd_t (.cons (lsd_s (by unfold NA; decide)) (.cons (lsd_s w.1) .nil)) (by simp)
  | set x => exact lsd_t (.cons (lsd_s (by unfold NA; decide)) (.cons (lsd_s w.1) up)) (by simp; omega)
  | call x => exact lsd_t (.cons (lsd_s (by unfold NA; decide)) (.cons (lsd_s w.1) (.cons (lsd_t hw (by omega)) .nil))) (by simp)
  | op t =>
    refine lsd_t (.cons (lsd_s ?_) up) (by simp; omega)
    rcases w with ⟨h1, _⟩ | ⟨rfl, _⟩
    · exact na_ops h1
    · unfold NA; decide
  | new x k => exact lsd_t (.cons (lsd_s (by unfold NA; decide)) (.cons (lsd_s w.1) (.cons lsd_i up))) (by simp; omega)
  | lett x ms => exact lsd_t (.cons (lsd_s (by unfold NA; decide)) (.cons (lsd_s w.1) (.cons (lsd_t (lsd_prms w.2.1) (by have := w.2.2.2.1; simp; omega)) up))) (by simp; omega)
mutual
theorem lsd_enc : ∀ (b : Bk) {d : Nat}, wf NA b → 2 * dp b + 2 ≤ d → Lsd d (enc b) (enc b)
  | .nd h lb, d, w, hd => by
    rw [dp] at hd
    obtain ⟨d, rfl⟩ : ∃ e, d = e + 4 := ⟨d - 4, by omega⟩
    exact lsd_head (by rw [encL_len]; exact w.1) (lsd_encL lb w.2 (by omega))
theorem lsd_encL : ∀ (lb : Bl) {d : Nat}, wfL NA lb → 2 * dpL lb + 2 ≤ d → All2 (Lsd d) (encL lb) (encL lb)
  | .nil, _, _, _ => .nil
  | .cons b lb, d, w, hd => by
    rw [dpL] at hd
    have hb1 : dp b ≤ max (dp b) (dpL lb) := Nat.le_max_left _ _
    have hc1 : dpL lb ≤ max (dp b) (dpL lb) := Nat.le_max_right _ _
    exact .cons (lsd_enc b w.1 (by omega)) (lsd_encL lb w.2 (by omega))
end
theorem nk_NA {k : Nat} (h : k < 1000) : NA (nk k) := fun c hc => by
  rcases List.mem_cons.mp hc with rfl | hc
  · omega
  · exact num_low k h c hc
theorem gN_NA {out : List A} {i : Nat} (h : i < (Fr out 700).length) : NA (gN out i) := nk_NA (by have := Fr_lt (gN_mem h); omega)
theorem Gb.due {D out : List A} {b : Bk} (G : Gb NA D b) (h : K03.bc b ≤ (Fr out 700).length) : Gb NA D (rn (gN out) id 0 b) := by
  obtain ⟨a1, a2, a3⟩ := rn_num (g := gN out) b (f := id) (n := 0)
  refine ⟨rn_wf (L := (Fr out 700).length) (fun i hi => gN_NA hi) gN_inj b G.w (fun x => .inr rfl) (by omega), fun y hy => ?_, by rw [a1]; exact G.dp, by rw [a3]; exact G.sz, by rw [a2]; exact G.bc⟩
  obtain ⟨x, h1, h2⟩ := fv_rn b hy
  rw [← h2]
  exact G.fv x h1
theorem Gb.lsd {D : List A} {b : Bk} (G : Gb NA D b) : Lsd 130 (enc b) (enc b) := lsd_enc b G.w (by have := G.dp; omega)
theorem nox_ok {fm : List W → FR} {args : List W} {fr : Bool} {w : W} {o : List W} (h : fm args = .ok fr w o) : nox fm args = .ok fr w o := by
  unfold nox
  rw [h]
end K03

namespace K03
open PySem PySem.Spec PyProof.Rows L2 ML
/-! ### scopes -/
abbrev Ent : Type := A × List Bool × Option Bool
abbrev kW (b : Bool) : W := tW (kd b)
def ekd : Option Bool → A
  | none => [99, 101, 108, 108]
  | some b => kd b
def enW (e : Ent) : W := .tup [tW e.1, .tup (e.2.1.map kW), tW (ekd e.2.2)]
def NextOk (nx : List W → FR) : Prop := ∀ {r : W}, IsR r → ∀ {m : Int}, 0 < m → ∃ (v : Nat) (r' : W), nx [r, .int m] = .ok false (.int (v : Int)) [r'] ∧ (v : Int) < m ∧ IsR r'
theorem the_next : NextOk fun__law_next := fun {r} h {m} hm => by
  obtain ⟨v, r', e, h0, h1, h2⟩ := next_ok h hm
  obtain ⟨n, rfl⟩ := Int.eq_ofNat_of_zero_le h0
  exact ⟨n, r', e, h1, h2⟩
/-- a comprehension with a test -/
theorem compF {α : Type} {j : Nat} {c : Rho → ML.R Bool} {fe : Rho → ML.R W} {f : α → Bool} {g : α → W} {Q : W → α → Prop} {ρ : Rho}
    (hc : ∀ w z, Q w z → c (ρ.set j (.val w)) = .ok (f z) (ρ.set j (.val w))) (he : ∀ w z, Q w z → f z = true → fe (ρ.set j (.val w)) = .ok (g z) (ρ.set j (.val w))) :
    ∀ {ws : List W} {zs : List α} {acc : List W} {ρ' : Rho}, All2 Q ws zs → acc.length + ws.length ≤ sizeLine → ρ'.set j .no = ρ → compL [j] (CT.put (.nm j)) c fe acc ws ρ' = .ok (.fre, .lst (acc ++ (zs.filter f).map g)) ρ
  | [], _, acc, ρ', .nil, hl, hn => by
    unfold compL
    rw [if_pos (show acc.length ≤ sizeLine from hl)]
    show ML.R.ok _ (wipeR ρ' [j]) = _
    rw [show wipeR ρ' [j] = ρ'.set j .no from rfl, hn]
    simp
  | w :: ws, z :: zs, acc, ρ', .cons q qs, hl, hn => by
    have hl' : acc.length + (ws.length + 1) ≤ sizeLine := hl
    have hset : ∀ w, (ρ.set j (.val w)).set j .no = ρ := fun w => by rw [List.set_set, ← hn, List.set_set]
    unfold compL
    rw [show wipeR ρ' [j] = ρ'.set j .no from rfl, hn]
    show (ML.R.bind (c (ρ.set j (.val w))) _) = _
    rw [hc w z q, List.filter_cons]
    show (if f z = true then _ else _) = _
    by_cases hf : f z = true
    · rw [if_pos hf, if_pos hf, he w z q hf]
      show (if _ then _ else _) = _
      rw [if_pos (by omega), compF hc he qs (by rw [List.length_append, List.length_singleton]; omega) (hset _), List.map_cons, List.append_assoc]
      rfl
    · rw [if_neg hf, if_neg hf, compF hc he qs (by omega) (hset _)]
theorem lcF_ok {α : Type} {I : List Nat} {it : Rho → ML.R (List W)} {j : Nat} {c : Rho → ML.R Bool} {fe : Rho → ML.R (Md × W)} {f : α → Bool} {g : α → W} {Q : W → α → Prop} {ρ0 ρ : Rho} {l : List W} {zs : List α} (hit : it ρ0 = .ok l ρ) (hj : j ∉ I) (hq : All2 Q l zs) (hn : ρ.set j .no = ρ)
    (hc : ∀ w z, Q w z → c (ρ.set j (.val w)) = .ok (f z) (ρ.set j (.val w))) (he : ∀ w z, Q w z → f z = true → mEl I fe (ρ.set j (.val w)) = .ok (g z) (ρ.set j (.val w))) (hl : l.length ≤ sizeLine) :
    mLc I it (.nm j) c fe ρ0 = .ok (.fre, .lst ((zs.filter f).map g)) ρ := by
  rw [ev_lc, hit, ev_bo]
  have e : CT.ix (.nm j) = [j] := rfl
  rw [e, if_pos (by simp [hj]), compF hc he hq (by simpa using hl) hn]
  simp [noExc]
theorem all2_ent (l : List Ent) : All2 (fun (w : W) (e : Ent) => w = enW e) (l.map enW) l := by
  induction l with
  | nil => exact .nil
  | cons e l ih => exact .cons rfl ih
theorem seen_ok (sc : List Ent) (hs : sc.length ≤ 10000) : ∃ se : List Ent, fun__law_seen [.lst (sc.map enW)] = .ok true (.lst (se.map enW)) [] ∧ (∀ e ∈ se, e ∈ sc) ∧ se.length ≤ sc.length := by
  have e0 : gSet [] 2 = fun w ρ => some (ρ.set 2 (.val w)) := gset_is (by simp)
  have hall : All2 (fun (w : W) (e : Ent) => w = enW e ∧ e ∈ sc) (sc.map enW) sc := by
    have : ∀ l : List Ent, (∀ e ∈ l, e ∈ sc) → All2 (fun (w : W) (e : Ent) => w = enW e ∧ e ∈ sc) (l.map enW) l := fun l => by
      induction l with
      | nil => exact fun _ => .nil
      | cons e l ih => exact fun h => .cons ⟨rfl, h e (List.mem_cons_self ..)⟩ (ih fun y hy => h y (List.mem_cons_of_mem _ hy))
    exact this sc fun _ h => h
  obtain ⟨ρ1, e1, se, s2, rfl, h1, h2⟩ := for_inv (i := 2) (g := mIf (mTest (mOp (gIn true) (mOp gIx (mVar 2) (mC (.int 0))) (mLcO [] 1 (.nm 3) (mYes) (mOp gIx (mVar 3) (mC (.int 0)))))) (mDrop (mAppend 1 [] (mVar 2))) (mNext)) (ρ := [Sl.val (.lst (sc.map enW)), Sl.own (.lst []), Sl.no, Sl.no])
    (P := fun zs ρ => ∃ (se : List Ent) (s2 : Sl), ρ = [Sl.val (.lst (sc.map enW)), Sl.own (.lst (se.map enW)), s2, Sl.no] ∧ (∀ e ∈ se, e ∈ sc) ∧ se.length + zs.length ≤ sc.length) (.inr trivial) hall (fun a z zs' ρ q ⟨se, s2, er, h1, h2⟩ => by
      subst er
      obtain ⟨rfl, hz⟩ := q
      rw [List.length_cons] at h2
      have ec := lcO_ok (I := []) (i := 1) (j := 3) (c := mYes) (fe := mOp gIx (mVar 3) (mC (.int 0))) (f := fun _ : Ent => true) (g := fun e : Ent => tW e.1) (Q := fun (w : W) (e : Ent) => w = enW e) (ρ := [Sl.val (.lst (sc.map enW)), Sl.own (.lst (se.map enW)), Sl.val (enW z), Sl.no]) (l := se.map enW) (zs := se) rfl (by simp) (by simp) (all2_ent se) rfl (fun w e q => rfl) (fun w e q _ => by
        subst q
        generalize sc.map enW = SC
        generalize se.map enW = SE
        simp -implicitDefEqProofs [ev_var, ev_own, enW]) (by rw [List.length_map, line_is]; omega)
      rw [List.filter_eq_self.mpr (fun _ _ => rfl)] at ec
      have hin : gIn true (tW z.1) (.lst (se.map fun e : Ent => tW e.1)) = some (.val, .bl (!decide (z.1 ∈ se.map (·.1)))) := in_ST true z.1 (se.map (·.1)) _ (by rw [List.map_map]; rfl) (by simp)
      have hz2 : (se.map enW).length < sizeLine := by rw [List.length_map, line_is]; omega
      have hix : gIx (enW z) (.int 0) = some (.val, tW z.1) := rfl
      by_cases hm : z.1 ∈ se.map (·.1)
      · rw [decide_eq_true hm] at hin
        refine ⟨[Sl.val (.lst (sc.map enW)), Sl.own (.lst (se.map enW)), Sl.val (enW z), Sl.no], ?_, se, _, rfl, h1, by omega⟩
        generalize se.map (fun e : Ent => tW e.1) = NE at *
        generalize sc.map enW = SC at *
        generalize se.map enW = SE at *
        generalize enW z = EZ at *
        simp -implicitDefEqProofs [ev_var, ev_own, hix, ec, hin]
      · rw [decide_eq_false hm] at hin
        refine ⟨[Sl.val (.lst (sc.map enW)), Sl.own (.lst ((se ++ [z]).map enW)), Sl.val (enW z), Sl.no], ?_, se ++ [z], _, rfl, fun e he => ?_, by rw [List.length_append, List.length_singleton]; omega⟩
        · rw [List.map_append, List.map_cons, List.map_nil]
          generalize se.map (fun e : Ent => tW e.1) = NE at *
          generalize sc.map enW = SC at *
          generalize se.map enW = SE at *
          generalize enW z = EZ at *
          simp -implicitDefEqProofs [ev_var, ev_own, hix, ec, hin, hz2]
        · rcases List.mem_append.mp he with he | he
          · exact h1 e he
          · rw [List.mem_singleton.mp he]; exact hz) ⟨[], Sl.no, rfl, (fun _ h => nomatch h), by simp⟩
  refine ⟨se, ?_, h1, by simpa using h2⟩
  unfold fun__law_seen body__law_seen
  generalize sc.map enW = SC at *
  generalize se.map enW = SE at *
  try simp at e1
  simp -implicitDefEqProofs [ev_var, ev_own, e0, e1]
end K03

namespace K03
open PySem PySem.Spec PyProof.Rows L2 ML
/-! ### leaves -/
theorem kd_at {v : Nat} (hv : (v : Int) < 2) : ∃ b, atI [tW [99, 111, 109, 109, 97, 110, 100], tW [110, 117, 109, 98, 101, 114]] (v : Int) = some (kW b) := by
  have : v = 0 ∨ v = 1 := by omega
  rcases this with rfl | rfl
  · exact ⟨false, rfl⟩
  · exact ⟨true, rfl⟩
def KindsOk (kn : List W → FR) : Prop := ∀ {r : W}, IsR r → ∀ {k : Nat}, k ≤ 3 → ∃ (bs : List Bool) (r' : W), kn [r, .int (k : Int)] = .ok false (.tup (bs.map kW)) [r'] ∧ bs.length = k ∧ IsR r'
theorem kinds_ok {nx : List W → FR} (HN : NextOk nx) : KindsOk (fun__law_kinds nx) := fun {r} hr {k} hk => by
  obtain ⟨acc, r', e, hr', bs, eb, hl⟩ := comp_st (i := 2) (fe := mEl [0] (mOp gIx (mLst [0] [mC (.str "command"), mC (.str "number")]) (mCall [0] [0] nx [mVar 0, mC (.int 2)]))) (fr := fun r => [Sl.own r, Sl.val (.int (k : Int)), Sl.no]) (Q := fun (w : W) (z : Nat) => w = .int (z : Int) ∧ z < k) (P := fun zs acc r => IsR r ∧ ∃ bs : List Bool, acc = bs.map kW ∧ bs.length + zs.length = k) (fun w z zs acc r q ⟨h1, bs, h2, h3⟩ => by
      obtain ⟨v, r2, g1, g2, g3⟩ := HN h1 (m := 2) (by omega)
      obtain ⟨b, g4⟩ := kd_at (v := v) (by omega)
      refine ⟨kW b, r2, ?_, g3, bs ++ [b], by rw [h2]; simp, by simp at h3 ⊢; omega⟩
      generalize kW b = KB at *
      simp -implicitDefEqProofs [ev_var, ev_own, g1, g4, l2]) (fun r => rfl) (all2_rng k) (acc := []) (ρ := [Sl.own r, Sl.val (.int (k : Int)), Sl.no]) (s := r) ⟨hr, [], rfl, by simp⟩ (by rw [all2_len, line_is]; simp; omega) rfl
  refine ⟨bs, r', ?_, by simpa using hl, hr'⟩
  have ho : okR (k : Int) = true := okR_nat (by omega)
  have hit : mRange1 [mVar 1] [Sl.own r, Sl.val (.int (k : Int)), Sl.no] = .ok (intsW 0 k) [Sl.own r, Sl.val (.int (k : Int)), Sl.no] := by simp -implicitDefEqProofs [ev_var, ho]
  have e2 : mLc [0] (mRange1 [mVar 1]) (.nm 2) (mYes) (mOp gIx (mLst [0] [mC (.str "command"), mC (.str "number")]) (mCall [0] [0] nx [mVar 0, mC (.int 2)])) [Sl.own r, Sl.val (.int (k : Int)), Sl.no] = .ok (.fre, .lst (bs.map kW)) [Sl.own r', Sl.val (.int (k : Int)), Sl.no] := by
    rw [ev_lc, hit, ev_bo]
    have e2 : CT.ix (.nm 2) = [2] := rfl
    rw [e2, if_pos (by simp), e, eb]
    rfl
  unfold fun__law_kinds body__law_kinds
  generalize bs.map kW = BS at *
  try simp at e2
  simp -implicitDefEqProofs [ev_var, ev_own, e2]
theorem min_ok {a b n : Nat} (ha : a < n) (hb : b < n) : ∃ m : Nat, gMin [.int (a : Int), .int (b : Int)] = some (.val, .int (m : Int)) ∧ m < n := by
  by_cases h : (b : Int) < a
  · exact ⟨b, by show some (Md.val, W.int (if (b : Int) < a then (b : Int) else (a : Int))) = _; rw [if_pos h], hb⟩
  · exact ⟨a, by show some (Md.val, W.int (if (b : Int) < a then (b : Int) else (a : Int))) = _; rw [if_neg h], ha⟩
def wlW (ns : List A) (size : Nat) : W := .lst [.lst (ns.map tW), .int (size : Int), tW []]
/-- the scope's names are among ns -/
structure Sc (ns : List A) (sc : List Ent) (n : Nat) : Prop where
  nm : ∀ e ∈ sc, e.1 ∈ ns ∧ e.2.1.length ≤ 3
  len : sc.length ≤ n
theorem Sc.add {ns : List A} {sc : List Ent} {n : Nat} (h : Sc ns sc n) {e : Ent} (he : e.1 ∈ ns ∧ e.2.1.length ≤ 3) : Sc ns (e :: sc) (n + 1) := ⟨fun x hx => by
  rcases List.mem_cons.mp hx with rfl | hx
  · exact he
  · exact h.nm x hx, by have := h.len; simp; omega⟩
theorem Sc.mono {ns : List A} {sc : List Ent} {n m : Nat} (h : Sc ns sc n) (l : n ≤ m) : Sc ns sc m := ⟨h.nm, Nat.le_trans h.len l⟩
/-- a drawn block -/
structure Dr (ns : List A) (B d : Nat) (b : Bk) : Prop where
  w : wf (fun x => x ∈ ns) b
  bc : bc b + 2 ≤ 2 * B
  sz : sz b ≤ B
  dp : dp b ≤ d
def cellF (e : Ent) : Bool := decide (ekd e.2.2 = [99, 101, 108, 108])
def callF (b : Bool) (e : Ent) : Bool := decide (ekd e.2.2 = kd b) && decide (e.2.1.length = 0)
theorem ekd_eq (o : Option Bool) (x : A) : gEq (tW (ekd o)) (tW x) = some (.val, .bl (decide (ekd o = x))) := by simp
def LeafOk (lf : List W → FR) : Prop := ∀ {r : W}, IsR r → ∀ {ns : List A} {sc : List Ent} {b : Bool} {size : Nat}, Sc ns sc 9000 → 1 ≤ size → size ≤ 9 → ∃ (bk : Bk) (r' : W), lf [r, kW b, .lst (sc.map enW), wlW ns size] = .ok false (enc bk) [r'] ∧ Dr ns 1 1 bk ∧ IsR r'
theorem names_at {l : List A} {v : Nat} (hv : v < l.length) : ∃ x ∈ l, atI (l.map tW) (v : Int) = some (tW x) := ⟨l[v], List.getElem_mem hv, by rw [ML.atI_nat, List.getElem?_map, List.getElem?_eq_getElem hv]; rfl⟩
theorem flt_map (se : List Ent) (f : Ent → Bool) : (se.filter f).map (fun e : Ent => tW e.1) = ((se.filter f).map (·.1)).map tW := by rw [List.map_map]; rfl
theorem cells_ok {I : List Nat} {i j : Nat} {se : List Ent} {ρ0 ρ : Rho} (hit : mItems I (mVar i) ρ0 = .ok (se.map enW) ρ) (hj : j ∉ I) (hn : ρ.set j .no = ρ) (hjl : j < ρ.length) (hl : se.length ≤ 10000) :
    mLc I (mItems I (mVar i)) (.nm j) (mTest (mOp gEq (mOp gIx (mVar j) (mC (.int 2))) (mC (.str (S [99, 101, 108, 108]))))) (mOp gIx (mVar j) (mC (.int 0))) ρ0 = .ok (.fre, .lst (((se.filter cellF).map (·.1)).map tW)) ρ := by
  rw [← flt_map]
  refine lcF_ok (f := cellF) (g := fun e : Ent => tW e.1) (Q := fun (w : W) (e : Ent) => w = enW e) hit hj (all2_ent se) hn (fun w e q => ?_) (fun w e q _ => ?_) (by rw [List.length_map, line_is]; omega)
  · subst q
    have h1 : (ρ.set j (.val (enW e)))[j]? = some (.val (enW e)) := List.getElem?_set_self hjl
    have hx : gIx (enW e) (.int 2) = some (.val, tW (ekd e.2.2)) := rfl
    have he := ekd_eq e.2.2 [99, 101, 108, 108]
    unfold cellF
    generalize tW (ekd e.2.2) = T at *
    generalize enW e = E at *
    generalize ρ.set j (.val E) = R at *
    simp -implicitDefEqProofs [ev_var, h1, hx, he]
  · subst q
    have h1 : (ρ.set j (.val (enW e)))[j]? = some (.val (enW e)) := List.getElem?_set_self hjl
    have hx : gIx (enW e) (.int 0) = some (.val, tW e.1) := rfl
    generalize enW e = E at *
    generalize ρ.set j (.val E) = R at *
    simp -implicitDefEqProofs [ev_var, h1, hx]
theorem calls_ok {I : List Nat} {i j k : Nat} {se : List Ent} {ρ0 ρ : Rho} {b : Bool} (hit : mItems I (mVar i) ρ0 = .ok (se.map enW) ρ) (hj : j ∉ I) (hn : ρ.set j .no = ρ) (hjl : j < ρ.length) (hk : ρ[k]? = some (.val (kW b))) (hkj : k ≠ j) (hl : se.length ≤ 10000) :
    mLc I (mItems I (mVar i)) (.nm j) (mAnd (mTest (mOp gEq (mOp gIx (mVar j) (mC (.int 2))) (mVar k))) (mTest (mOp gEq (mCB gLen [mOp gIx (mVar j) (mC (.int 1))]) (mC (.int 0))))) (mOp gIx (mVar j) (mC (.int 0))) ρ0 = .ok (.fre, .lst (((se.filter (callF b)).map (·.1)).map tW)) ρ := by
  rw [← flt_map]
  refine lcF_ok (f := callF b) (g := fun e : Ent => tW e.1) (Q := fun (w : W) (e : Ent) => w = enW e) hit hj (all2_ent se) hn (fun w e q => ?_) (fun w e q _ => ?_) (by rw [List.length_map, line_is]; omega)
  · subst q
    have h1 : (ρ.set j (.val (enW e)))[j]? = some (.val (enW e)) := List.getElem?_set_self hjl
    have h2 : (ρ.set j (.val (enW e)))[k]? = some (.val (kW b)) := by rw [List.getElem?_set_ne (Ne.symm hkj)]; exact hk
    have hx : gIx (enW e) (.int 2) = some (.val, tW (ekd e.2.2)) := rfl
    have hx1 : gIx (enW e) (.int 1) = some (.val, .tup (e.2.1.map kW)) := rfl
    have he := ekd_eq e.2.2 (kd b)
    have hlen : gLen [.tup (e.2.1.map kW)] = some (.val, .int (e.2.1.length : Int)) := by rw [len_tup, List.length_map]
    unfold callF
    generalize tW (ekd e.2.2) = T at *
    generalize W.tup (e.2.1.map kW) = TK at *
    generalize enW e = E at *
    generalize ρ.set j (.val E) = R at *
    by_cases c : ekd e.2.2 = kd b
    · rw [decide_eq_true c] at he ⊢
      simp -implicitDefEqProofs [ev_var, h1, h2, hx, hx1, he, hlen]
    · rw [decide_eq_false c] at he ⊢
      simp -implicitDefEqProofs [ev_var, h1, h2, hx, hx1, he]
  · subst q
    have h1 : (ρ.set j (.val (enW e)))[j]? = some (.val (enW e)) := List.getElem?_set_self hjl
    have hx : gIx (enW e) (.int 0) = some (.val, tW e.1) := rfl
    generalize enW e = E at *
    generalize ρ.set j (.val E) = R at *
    simp -implicitDefEqProofs [ev_var, h1, hx]
theorem Dr.leaf {ns : List A} {h : Hd} (w : wfH (fun x => x ∈ ns) h 0) (hz : hb h = 0) : Dr ns 1 1 (.nd h .nil) := ⟨⟨w, trivial⟩, by rw [K03.bc, hz]; exact Nat.le_refl _, Nat.le_refl _, Nat.le_refl _⟩
theorem leaf_ok {nx se_ : List W → FR} (HN : NextOk nx) (HS : ∀ sc : List Ent, sc.length ≤ 10000 → ∃ se : List Ent, se_ [.lst (sc.map enW)] = .ok true (.lst (se.map enW)) [] ∧ (∀ e ∈ se, e ∈ sc) ∧ se.length ≤ sc.length) : LeafOk (fun__law_leaf nx se_) := fun {r} hr {ns sc b size} hsc s1 s9 => by
  obtain ⟨v, r1, e1, v1, hr1⟩ := HN hr (m := 8) (by omega)
  have hscl := hsc.len
  obtain ⟨se, e2, hse, hsl⟩ := HS sc (by omega)
  have hmem : ∀ f x, x ∈ (se.filter f).map (·.1) → x ∈ ns := fun f x hx => by
    obtain ⟨e, he, rfl⟩ := List.mem_map.mp hx
    exact (hsc.nm e (hse e (List.mem_filter.mp he).1)).1
  have e3 := cells_ok (I := [0]) (i := 5) (j := 8) (se := se) (ρ0 := [Sl.own r1, Sl.val (kW b), Sl.val (.lst (sc.map enW)), Sl.val (wlW ns size), Sl.val (.int (v : Int)), Sl.own (.lst (se.map enW)), Sl.no, Sl.no, Sl.no]) (ρ := [Sl.own r1, Sl.val (kW b), Sl.val (.lst (sc.map enW)), Sl.val (wlW ns size), Sl.val (.int (v : Int)), Sl.val (.lst (se.map enW)), Sl.no, Sl.no, Sl.no]) (by simp -implicitDefEqProofs [ev_var, ev_own]) (by simp) rfl (by simp) (by omega)
  have e4 := calls_ok (I := [0]) (i := 5) (j := 8) (k := 1) (b := b) (se := se) (ρ0 := [Sl.own r1, Sl.val (kW b), Sl.val (.lst (sc.map enW)), Sl.val (wlW ns size), Sl.val (.int (v : Int)), Sl.val (.lst (se.map enW)), Sl.own (.lst (((se.filter cellF).map (·.1)).map tW)), Sl.no, Sl.no]) (ρ := [Sl.own r1, Sl.val (kW b), Sl.val (.lst (sc.map enW)), Sl.val (wlW ns size), Sl.val (.int (v : Int)), Sl.val (.lst (se.map enW)), Sl.own (.lst (((se.filter cellF).map (·.1)).map tW)), Sl.no, Sl.no]) (by simp -implicitDefEqProofs [ev_var, ev_own]) (by simp) rfl (by simp) rfl (by simp) (by omega)
  have hcm := hmem cellF
  have hlm := hmem (callF b)
  generalize (se.filter cellF).map (·.1) = cs at *
  generalize (se.filter (callF b)).map (·.1) = ls at *
  have hcl : ((cs.map tW).length : Int) = (cs.length : Int) := by rw [List.length_map]
  have hll : ((ls.map tW).length : Int) = (ls.length : Int) := by rw [List.length_map]
  have l0' : (0 ≤ sizeLine) = True := by simp
  unfold wlW at *
  by_cases c1 : v < 5 ∧ 0 < ls.length
  · obtain ⟨c1, c2⟩ := c1
    obtain ⟨a, r2, f1, f2, h2⟩ := HN hr1 (m := (ls.length : Int)) (by omega)
    obtain ⟨c, r3, f3, f4, h3⟩ := HN h2 (m := (ls.length : Int)) (by omega)
    obtain ⟨m, g1, g2⟩ := min_ok (a := a) (b := c) (n := ls.length) (by omega) (by omega)
    obtain ⟨x, hx, g3⟩ := names_at g2
    refine ⟨.nd (.call x) .nil, r3, ?_, .leaf ⟨hlm x hx, by omega⟩ rfl, h3⟩
    have c1' : (v : Int) < 5 := by omega
    generalize hls : ls.map tW = LS at *
    generalize cs.map tW = CS at *
    generalize se.map enW = SE at *
    generalize sc.map enW = SC at *
    generalize ns.map tW = NS at *
    unfold fun__law_leaf body__law_leaf
    show _ = FR.ok false (.tup [tW [99, 97, 108, 108], tW x, .tup []]) [r3]
    simp -implicitDefEqProofs [ev_var, ev_own, e1, e2, e3, e4, c1', ev_lenL, hll, c2, f1, f3, g1, g3, l3]
  have hno : ¬ ((v : Int) < 5 ∧ (0 : Int) < (ls.length : Int)) := by omega
  cases b with
  | false =>
    have hb7 : (v : Int) = 7 ∨ ¬ (v : Int) = 7 := by omega
    by_cases c7 : (v : Int) = 7
    · refine ⟨.nd (.lf [113, 117, 105, 116]) .nil, r1, ?_, .leaf ⟨.inr rfl, rfl⟩ rfl, hr1⟩
      rw [c7] at e1 e3 e4
      generalize hls : ls.map tW = LS at *
      generalize cs.map tW = CS at *
      generalize se.map enW = SE at *
      generalize sc.map enW = SC at *
      generalize ns.map tW = NS at *
      unfold fun__law_leaf body__law_leaf
      show _ = FR.ok false (.tup [tW [113, 117, 105, 116]]) [r1]
      simp -implicitDefEqProofs [ev_var, ev_own, kd, e1, e2, e3, e4, ev_lenL, hll, l1, l2]
    · refine ⟨.nd (.lf [115, 107, 105, 112]) .nil, r1, ?_, .leaf ⟨.inl rfl, rfl⟩ rfl, hr1⟩
      have e8 : gEq (.int (v : Int)) (.int 7) = some (.val, .bl false) := by simp [c7]
      generalize hls : ls.map tW = LS at *
      generalize cs.map tW = CS at *
      generalize se.map enW = SE at *
      generalize sc.map enW = SC at *
      generalize ns.map tW = NS at *
      unfold fun__law_leaf body__law_leaf
      show _ = FR.ok false (.tup [tW [115, 107, 105, 112]]) [r1]
      by_cases q1 : (v : Int) < 5
      · have q2 : ¬ 0 < ls.length := by omega
        have q5 : ¬ (v : Int) = 5 := by omega
        simp -implicitDefEqProofs [ev_var, ev_own, kd, e1, e2, e3, e4, ev_lenL, hll, l1, l2, q1, q2, q5, c7]
      · by_cases q5 : (v : Int) = 5
        · rw [q5] at e1 e3 e4
          simp -implicitDefEqProofs [ev_var, ev_own, kd, e1, e2, e3, e4, ev_lenL, hll, l1, l2]
        · simp -implicitDefEqProofs [ev_var, ev_own, kd, e1, e2, e3, e4, ev_lenL, hll, l1, l2, q1, q5, c7]
  | true =>
    by_cases c2 : 0 < cs.length ∧ v < 7
    · obtain ⟨c2, c3⟩ := c2
      obtain ⟨a, r2, f1, f2, h2⟩ := HN hr1 (m := (cs.length : Int)) (by omega)
      obtain ⟨c, r3, f3, f4, h3⟩ := HN h2 (m := (cs.length : Int)) (by omega)
      obtain ⟨m, g1, g2⟩ := min_ok (a := a) (b := c) (n := cs.length) (by omega) (by omega)
      obtain ⟨x, hx, g3⟩ := names_at g2
      refine ⟨.nd (.get x) .nil, r3, ?_, .leaf ⟨hcm x hx, rfl⟩ rfl, h3⟩
      have c3' : (v : Int) < 7 := by omega
      generalize hls : ls.map tW = LS at *
      generalize hcs : cs.map tW = CS at *
      generalize se.map enW = SE at *
      generalize sc.map enW = SC at *
      generalize ns.map tW = NS at *
      unfold fun__law_leaf body__law_leaf
      show _ = FR.ok false (.tup [tW [103, 101, 116], tW x]) [r3]
      by_cases q1 : (v : Int) < 5
      · have q2 : ¬ 0 < ls.length := by omega
        have q5 : ¬ (v : Int) = 5 := by omega
        simp -implicitDefEqProofs [ev_var, ev_own, kd, e1, e2, e3, e4, ev_lenL, hll, hcl, l2, q1, q2, q5, c2, c3', f1, f3, g1, g3]
      · by_cases q5 : (v : Int) = 5
        · rw [q5] at e1 e3 e4
          simp -implicitDefEqProofs [ev_var, ev_own, kd, e1, e2, e3, e4, ev_lenL, hll, hcl, l2, c2, f1, f3, g1, g3]
        · simp -implicitDefEqProofs [ev_var, ev_own, kd, e1, e2, e3, e4, ev_lenL, hll, hcl, l2, q1, q5, c2, c3', f1, f3, g1, g3]
    · obtain ⟨a, r2, f1, f2, h2⟩ := HN hr1 (m := (size : Int)) (by omega)
      refine ⟨.nd (.num a) .nil, r2, ?_, .leaf ⟨by omega, rfl⟩ rfl, h2⟩
      generalize hls : ls.map tW = LS at *
      generalize hcs : cs.map tW = CS at *
      generalize se.map enW = SE at *
      generalize sc.map enW = SC at *
      generalize ns.map tW = NS at *
      have hcf : ¬ (0 < cs.length ∧ (v : Int) < 7) := by omega
      unfold fun__law_leaf body__law_leaf
      show _ = FR.ok false (.tup [tW [110, 117, 109, 98, 101, 114], .int (a : Int)]) [r2]
      by_cases q1 : (v : Int) < 5
      · have q2 : ¬ 0 < ls.length := by omega
        have q5 : ¬ (v : Int) = 5 := by omega
        have q7 : (v : Int) < 7 := by omega
        have q8 : ¬ 0 < cs.length := by omega
        simp -implicitDefEqProofs [ev_var, ev_own, kd, e1, e2, e3, e4, ev_lenL, hll, hcl, l2, q1, q2, q5, q8, f1]
      · by_cases q8 : 0 < cs.length
        · have q7 : ¬ (v : Int) < 7 := by omega
          have q5 : ¬ (v : Int) = 5 := by omega
          simp -implicitDefEqProofs [ev_var, ev_own, kd, e1, e2, e3, e4, ev_lenL, hll, hcl, l2, q1, q5, q7, q8, f1]
        · by_cases q5 : (v : Int) = 5
          · rw [q5] at e1 e3 e4
            simp -implicitDefEqProofs [ev_var, ev_own, kd, e1, e2, e3, e4, ev_lenL, hll, hcl, l2, q8, f1]
          · simp -implicitDefEqProofs [ev_var, ev_own, kd, e1, e2, e3, e4, ev_lenL, hll, hcl, l2, q1, q5, q8, f1]
end K03

namespace K03
open PySem PySem.Spec PyProof.Rows L2 ML
/-! ### drawing -/
def ofL : List Bk → Bl
  | [] => .nil
  | b :: l => .cons b (ofL l)
theorem ofL_enc : ∀ l : List Bk, encL (ofL l) = l.map enc
  | [] => rfl
  | b :: l => by rw [ofL, encL, ofL_enc l]; rfl
theorem ofL_len : ∀ l : List Bk, (ofL l).len = l.length
  | [] => rfl
  | b :: l => by rw [ofL, Bl.len, ofL_len l]; rfl
theorem Dr.list {ns : List A} {d : Nat} : ∀ {ps : List Nat} {bs : List Bk}, All2 (fun p b => Dr ns p d b) ps bs → wfL (fun x => x ∈ ns) (ofL bs) ∧ bcL (ofL bs) + 2 * bs.length ≤ 2 * ps.sum ∧ szL (ofL bs) ≤ ps.sum ∧ dpL (ofL bs) ≤ d
  | [], [], .nil => ⟨trivial, Nat.le_refl _, Nat.le_refl _, Nat.zero_le _⟩
  | p :: ps, b :: bs, .cons h t => by
    obtain ⟨a1, a2, a3, a4⟩ := Dr.list t
    have h1 := h.bc
    have h2 := h.sz
    rw [ofL, bcL, szL, dpL, List.length_cons, List.sum_cons]
    exact ⟨⟨h.w, a1⟩, by omega, by omega, Nat.max_le.mpr ⟨h.dp, a4⟩⟩
theorem Dr.node {ns : List A} {d B : Nat} {h : Hd} {ps : List Nat} {bs : List Bk} (hw : wfH (fun x => x ∈ ns) h bs.length) (ha : All2 (fun p b => Dr ns p d b) ps bs) (hp : ps.sum + 1 ≤ B) (hh : hb h ≤ 2 * bs.length) : Dr ns B (d + 1) (.nd h (ofL bs)) := by
  obtain ⟨a1, a2, a3, a4⟩ := Dr.list ha
  refine ⟨⟨by rw [ofL_len]; exact hw, a1⟩, ?_, ?_, ?_⟩
  · rw [K03.bc]; omega
  · rw [K03.sz]; omega
  · rw [K03.dp]; omega
theorem Dr.mono {ns : List A} {B C d e : Nat} {b : Bk} (h : Dr ns B d b) (h1 : B ≤ C) (h2 : d ≤ e) : Dr ns C e b := ⟨h.w, by have := h.bc; omega, Nat.le_trans h.sz h1, Nat.le_trans h.dp h2⟩
theorem enc_node (h : Hd) (bs : List Bk) : enc (.nd h (ofL bs)) = encH h (bs.map enc) := by rw [enc, ofL_enc]
def DrawOk (dr : List W → FR) (d : Nat) : Prop := ∀ {r : W}, IsR r → ∀ {ns : List A} {sc : List Ent} {b : Bool} {size B : Nat}, Sc ns sc (9000 - 4 * d) → 1 ≤ size → size ≤ 9 → ns ≠ [] → 1 ≤ B → B ≤ 50 → d ≤ 20 →
  ∃ (bk : Bk) (r' : W), dr [r, kW b, .int (B : Int), .int (d : Int), .lst (sc.map enW), wlW ns size] = .ok false (enc bk) [r'] ∧ Dr ns B (d + 1) bk ∧ IsR r'
def SplitOk (sp : List W → FR) : Prop := ∀ {r : W}, IsR r → ∀ (rest many : Nat), 1 ≤ many → many ≤ rest → rest ≤ 1000 → ∃ (ps : List Nat) (r' : W), sp [r, .int rest, .int many] = .ok true (.lst (ps.map fun (n : Nat) => W.int n)) [r'] ∧ ps.length = many ∧ (∀ x ∈ ps, 1 ≤ x) ∧ ps.sum = rest ∧ IsR r'
theorem the_split : SplitOk (fun__law_split fun__law_next) := fun h a b h1 h2 h3 => split_ok h a b h1 h2 h3
theorem le_sum {ps : List Nat} {x : Nat} (h : x ∈ ps) : x ≤ ps.sum := by
  induction ps with
  | nil => cases h
  | cons p ps ih =>
    rw [List.sum_cons]
    rcases List.mem_cons.mp h with rfl | h
    · omega
    · have := ih h; omega
section
variable {dr nx sp : List W → FR} {d B : Nat} {ns : List A} {sc : List Ent} {size : Nat}
theorem Sc.down (h : Sc ns sc (9000 - 4 * (d + 1))) : Sc ns sc (9000 - 4 * d) := h.mono (by omega)
theorem draw_set_ok (HN : NextOk nx) (HD : DrawOk dr d) {r : W} (hr : IsR r) {cs : List A} (hsc : Sc ns sc (9000 - 4 * (d + 1))) (s1 : 1 ≤ size) (s9 : size ≤ 9) (hns : ns ≠ []) (hB : 1 ≤ B) (hB2 : B ≤ 49) (hd : d ≤ 19) (hcs : 0 < cs.length) (hm : ∀ x ∈ cs, x ∈ ns) :
    ∃ (bk : Bk) (r' : W), fun__law_draw_set nx dr [r, .int ((B : Int) + 1), .int ((d : Int) + 1), .lst (sc.map enW), wlW ns size, .lst (cs.map tW)] = .ok false (enc bk) [r'] ∧ Dr ns (B + 1) (d + 2) bk ∧ IsR r' := by
  obtain ⟨a, r2, f1, f2, h2⟩ := HN hr (m := (cs.length : Int)) (by omega)
  obtain ⟨c, r3, f3, f4, h3⟩ := HN h2 (m := (cs.length : Int)) (by omega)
  obtain ⟨m, g1, g2⟩ := min_ok (a := a) (b := c) (n := cs.length) (by omega) (by omega)
  obtain ⟨x, hx, g3⟩ := names_at g2
  obtain ⟨bk, r4, e1, e2, h4⟩ := HD h3 (b := true) hsc.down s1 s9 hns hB (by omega) (by omega)
  refine ⟨.nd (.set x) (ofL [bk]), r4, ?_, .node (ps := [B]) ⟨hm x hx, rfl⟩ (.cons e2 .nil) (by simp) (by simp [hb]), h4⟩
  rw [enc_node]
  show _ = FR.ok false (.tup [tW [115, 101, 116], tW x, enc bk]) [r4]
  have hcl : ((cs.map tW).length : Int) = (cs.length : Int) := by rw [List.length_map]
  generalize cs.map tW = CS at *
  generalize sc.map enW = SC at *
  generalize wlW ns size = WL at *
  unfold fun__law_draw_set body__law_draw_set
  replace e1 : dr [_, tW [110, 117, 109, 98, 101, 114], _, _, _, _] = _ := e1
  simp -implicitDefEqProofs [ev_var, ev_own, ev_lenL, hcl, f1, f3, g1, g3, e1, l3]
theorem two_of {ps : List Nat} (h : ps.length = 2) : ∃ a b, ps = [a, b] := by
  match ps, h with
  | [a, b], _ => exact ⟨a, b, rfl⟩
theorem three_of {ps : List Nat} (h : ps.length = 3) : ∃ a b c, ps = [a, b, c] := by
  match ps, h with
  | [a, b, c], _ => exact ⟨a, b, c, rfl⟩
theorem draw_two_ok (HN : NextOk nx) (HP : SplitOk sp) (HD : DrawOk dr d) {r : W} (hr : IsR r) {b : Bool} (hsc : Sc ns sc (9000 - 4 * (d + 1))) (s1 : 1 ≤ size) (s9 : size ≤ 9) (hns : ns ≠ []) (hB : 2 ≤ B) (hB2 : B ≤ 49) (hd : d ≤ 19) :
    ∃ (bk : Bk) (r' : W), fun__law_draw_two sp nx dr [r, kW b, .int ((B : Int) + 1), .int ((d : Int) + 1), .lst (sc.map enW), wlW ns size] = .ok false (enc bk) [r'] ∧ Dr ns (B + 1) (d + 2) bk ∧ IsR r' := by
  obtain ⟨ps, r1, a1, a2, a3, a4, h1⟩ := HP hr B 2 (by omega) hB (by omega)
  obtain ⟨p, q, rfl⟩ := two_of a2
  have hp := a3 p (by simp)
  have hq := a3 q (by simp)
  have hs : p + q = B := by simpa using a4
  obtain ⟨v, r2, f1, f2, h2⟩ := HN h1 (m := 6) (by omega)
  have a1' : sp [r, .int (B : Int), .int 2] = .ok true (.lst [.int (p : Int), .int (q : Int)]) [r1] := a1
  by_cases c1 : (v : Int) < 3
  · obtain ⟨b1, r3, e1, e2, h3⟩ := HD h2 (b := false) hsc.down s1 s9 hns (B := p) hp (by omega) (by omega)
    obtain ⟨b2, r4, e3, e4, h4⟩ := HD h3 (b := b) hsc.down s1 s9 hns (B := q) hq (by omega) (by omega)
    refine ⟨.nd (.op [116, 104, 101, 110]) (ofL [b1, b2]), r4, ?_, .node (ps := [p, q]) (.inl ⟨by decide, rfl⟩) (.cons e2 (.cons e4 .nil)) (by simp; omega) (by simp [hb]), h4⟩
    rw [enc_node]
    show _ = FR.ok false (.tup [tW [116, 104, 101, 110], enc b1, enc b2]) [r4]
    generalize sc.map enW = SC at *
    generalize wlW ns size = WL at *
    generalize enc b1 = E1 at *
    generalize enc b2 = E2 at *
    generalize hkb : kW b = KB at *
    unfold fun__law_draw_two body__law_draw_two
    replace e1 : dr [_, tW [99, 111, 109, 109, 97, 110, 100], _, _, _, _] = _ := e1
    simp -implicitDefEqProofs [ev_var, ev_own, a1', f1, c1, e1, e3, l3]
  · obtain ⟨b1, r3, e1, e2, h3⟩ := HD h2 (b := true) hsc.down s1 s9 hns (B := p) hp (by omega) (by omega)
    obtain ⟨b2, r4, e3, e4, h4⟩ := HD h3 (b := b) hsc.down s1 s9 hns (B := q) hq (by omega) (by omega)
    have nd : ∀ t, t ∈ opsL → Dr ns (B + 1) (d + 2) (.nd (.op t) (ofL [b1, b2])) := fun t ht => .node (ps := [p, q]) (.inl ⟨ht, rfl⟩) (.cons e2 (.cons e4 .nil)) (by simp; omega) (by simp [hb])
    cases b with
    | false =>
      refine ⟨.nd (.op [119, 104, 105, 108, 101]) (ofL [b1, b2]), r4, ?_, nd _ (by decide), h4⟩
      rw [enc_node]
      show _ = FR.ok false (.tup [tW [119, 104, 105, 108, 101], enc b1, enc b2]) [r4]
      generalize sc.map enW = SC at *
      generalize wlW ns size = WL at *
      generalize enc b1 = E1 at *
      generalize enc b2 = E2 at *
      unfold fun__law_draw_two body__law_draw_two
      replace e1 : dr [_, tW [110, 117, 109, 98, 101, 114], _, _, _, _] = _ := e1
      simp -implicitDefEqProofs [ev_var, ev_own, kd, a1', f1, c1, e1, e3, l3]
    | true =>
      have h3' : (v : Int) = 3 ∨ (v : Int) = 4 ∨ (v : Int) = 5 := by omega
      have key : ∀ t, t ∈ opsL → atI [tW [112, 108, 117, 115], tW [101, 113, 117, 97, 108], tW [108, 101, 115, 115]] ((v : Int) - 3) = some (tW t) → ∃ (bk : Bk) (r' : W), fun__law_draw_two sp nx dr [r, kW true, .int ((B : Int) + 1), .int ((d : Int) + 1), .lst (sc.map enW), wlW ns size] = .ok false (enc bk) [r'] ∧ Dr ns (B + 1) (d + 2) bk ∧ IsR r' := by
        intro t ht hat
        refine ⟨.nd (.op t) (ofL [b1, b2]), r4, ?_, nd _ ht, h4⟩
        rw [enc_node]
        show _ = FR.ok false (.tup [tW t, enc b1, enc b2]) [r4]
        generalize sc.map enW = SC at *
        generalize wlW ns size = WL at *
        generalize enc b1 = E1 at *
        generalize enc b2 = E2 at *
        unfold fun__law_draw_two body__law_draw_two
        replace e1 : dr [_, tW [110, 117, 109, 98, 101, 114], _, _, _, _] = _ := e1
        simp -implicitDefEqProofs [ev_var, ev_own, kd, a1', f1, c1, e1, e3, hat, l3]
      rcases h3' with h | h | h
      · exact key [112, 108, 117, 115] (by decide) (by rw [h]; rfl)
      · exact key [101, 113, 117, 97, 108] (by decide) (by rw [h]; rfl)
      · exact key [108, 101, 115, 115] (by decide) (by rw [h]; rfl)
end
end K03

namespace K03
open PySem PySem.Spec PyProof.Rows L2 ML
section
variable {dr nx sp : List W → FR} {d B : Nat} {ns : List A} {sc : List Ent} {size : Nat}
theorem draw_call_ok (HP : SplitOk sp) (HD : DrawOk dr d) {r : W} (hr : IsR r) {e : Ent} (he : e.1 ∈ ns) (hn1 : 1 ≤ e.2.1.length) (hnB : e.2.1.length ≤ B) (hn3 : e.2.1.length ≤ 3) (hsc : Sc ns sc (9000 - 4 * (d + 1))) (s1 : 1 ≤ size) (s9 : size ≤ 9) (hns : ns ≠ []) (hB2 : B ≤ 49) (hd : d ≤ 19) :
    ∃ (bk : Bk) (r' : W), fun__law_draw_call sp dr [r, .int ((B : Int) + 1), .int ((d : Int) + 1), .lst (sc.map enW), wlW ns size, enW e] = .ok false (enc bk) [r'] ∧ Dr ns (B + 1) (d + 2) bk ∧ IsR r' := by
  obtain ⟨x, ks, ko⟩ := e
  have he : x ∈ ns := he
  have hn1 : 1 ≤ ks.length := hn1
  have hnB : ks.length ≤ B := hnB
  have hn3 : ks.length ≤ 3 := hn3
  obtain ⟨ps, r1, a1, a2, a3, a4, h1⟩ := HP hr B ks.length hn1 hnB (by omega)
  obtain ⟨acc, r2, e1, hr2, bks, qs, rest, eb, ep, hall, hz⟩ := comp_st (i := 8) (fe := mEl [0] (mCall [0] [0] dr [mVar 0, mOp gIx (mOp gIx (mVar 5) (mC (.int 1))) (mVar 8), mOp gIx (mVar 6) (mVar 8), mOp gSub (mVar 2) (mC (.int 1)), mVar 3, mVar 4])) (fr := fun r => [Sl.own r, Sl.val (.int ((B : Int) + 1)), Sl.val (.int ((d : Int) + 1)), Sl.val (.lst (sc.map enW)), Sl.val (wlW ns size), Sl.val (enW (x, ks, ko)), Sl.own (.lst (ps.map fun (n : Nat) => W.int n)), Sl.no, Sl.no]) (Q := fun (w : W) (z : Nat) => w = .int (z : Int) ∧ z < ks.length)
    (P := fun zs acc r => IsR r ∧ ∃ (bks : List Bk) (qs rest : List Nat), acc = bks.map enc ∧ ps = qs ++ rest ∧ All2 (fun p b => Dr ns p (d + 1) b) qs bks ∧ zs = List.range' qs.length rest.length) (fun w z zs acc r q ⟨g1, bks, qs, rest, g2, g3, g4, g5⟩ => by
      obtain ⟨rfl, hzk⟩ := q
      cases rest with
      | nil => cases g5
      | cons p rest =>
        rw [List.length_cons, List.range'_succ] at g5
        obtain ⟨g6, g7⟩ := List.cons.inj g5
        subst g6
        have hp : 1 ≤ p := a3 p (by rw [g3]; simp)
        have hpB : p ≤ B := by
          rw [← a4]
          exact le_sum (by rw [g3]; simp)
        obtain ⟨bk, r3, f1, f2, f3⟩ := HD g1 (b := ks[qs.length]) hsc.down s1 s9 hns (B := p) hp (by omega) (by omega)
        have hat1 : atI (ps.map fun (n : Nat) => W.int n) (qs.length : Int) = some (.int (p : Int)) := by
          rw [ML.atI_nat, List.getElem?_map, g3, List.getElem?_append_right (Nat.le_refl _), Nat.sub_self]
          rfl
        have hat2 : atI (ks.map kW) (qs.length : Int) = some (kW ks[qs.length]) := by
          rw [ML.atI_nat, List.getElem?_map, List.getElem?_eq_getElem hzk]
          rfl
        have hx1 : gIx (enW (x, ks, ko)) (.int 1) = some (.val, .tup (ks.map kW)) := rfl
        refine ⟨enc bk, r3, ?_, f3, bks ++ [bk], qs ++ [p], rest, by rw [g2, List.map_append]; rfl, by rw [g3, List.append_assoc]; rfl, ?_, by rw [List.length_append]; exact g7⟩
        · generalize (ps.map fun (n : Nat) => W.int n) = PS at *
          generalize ks.map kW = KS at *
          generalize enW (x, ks, ko) = E at *
          generalize sc.map enW = SC at *
          generalize wlW ns size = WL at *
          generalize kW ks[qs.length] = KB at *
          simp -implicitDefEqProofs [ev_var, ev_own, hx1, hat1, hat2, f1]
        · have : ∀ {l : List Nat} {m : List Bk}, All2 (fun p b => Dr ns p (d + 1) b) l m → All2 (fun p b => Dr ns p (d + 1) b) (l ++ [p]) (m ++ [bk]) := fun {l m} h => by
            induction h with
            | nil => exact .cons f2 .nil
            | cons h _ ih => exact .cons h ih
          exact this g4) (fun r => rfl) (all2_rng ks.length) (acc := []) (ρ := [Sl.own r1, Sl.val (.int ((B : Int) + 1)), Sl.val (.int ((d : Int) + 1)), Sl.val (.lst (sc.map enW)), Sl.val (wlW ns size), Sl.val (enW (x, ks, ko)), Sl.own (.lst (ps.map fun (n : Nat) => W.int n)), Sl.no, Sl.no]) (s := r1) ⟨h1, [], [], ps, rfl, rfl, .nil, by rw [a2]; rfl⟩ (by rw [all2_len, line_is]; simp; omega) rfl
  have hrest : rest = [] := by
    cases rest with
    | nil => rfl
    | cons p rest => cases hz
  subst hrest
  rw [List.append_nil] at ep
  subst ep
  have hbl : bks.length = ks.length := by rw [← hall.len, a2]
  refine ⟨.nd (.call x) (ofL bks), r2, ?_, .node (ps := ps) ⟨he, by omega⟩ hall (by omega) (by simp [hb]), hr2⟩
  rw [enc_node]
  show _ = FR.ok false (.tup [tW [99, 97, 108, 108], tW x, .tup (bks.map enc)]) [r2]
  have ho : okR (ks.length : Int) = true := okR_nat (by omega)
  have hlp : ((ps.map fun (n : Nat) => W.int n).length : Int) = (ks.length : Int) := by rw [List.length_map, a2]
  have hx1 : gIx (enW (x, ks, ko)) (.int 1) = some (.val, .tup (ks.map kW)) := rfl
  have hx0 : gIx (enW (x, ks, ko)) (.int 0) = some (.val, tW x) := rfl
  have hlk : ((ks.map kW).length : Int) = (ks.length : Int) := by rw [List.length_map]
  have e2 : mLc [0] (mRange1 [mCB gLen [mVar 6]]) (.nm 8) (mYes) (mCall [0] [0] dr [mVar 0, mOp gIx (mOp gIx (mVar 5) (mC (.int 1))) (mVar 8), mOp gIx (mVar 6) (mVar 8), mOp gSub (mVar 2) (mC (.int 1)), mVar 3, mVar 4]) [Sl.own r1, Sl.val (.int ((B : Int) + 1)), Sl.val (.int ((d : Int) + 1)), Sl.val (.lst (sc.map enW)), Sl.val (wlW ns size), Sl.val (enW (x, ks, ko)), Sl.own (.lst (ps.map fun (n : Nat) => W.int n)), Sl.no, Sl.no] = .ok (.fre, .lst (bks.map enc)) [Sl.own r2, Sl.val (.int ((B : Int) + 1)), Sl.val (.int ((d : Int) + 1)), Sl.val (.lst (sc.map enW)), Sl.val (wlW ns size), Sl.val (enW (x, ks, ko)), Sl.own (.lst (ps.map fun (n : Nat) => W.int n)), Sl.no, Sl.no] := by
    have hit : mRange1 [mCB gLen [mVar 6]] [Sl.own r1, Sl.val (.int ((B : Int) + 1)), Sl.val (.int ((d : Int) + 1)), Sl.val (.lst (sc.map enW)), Sl.val (wlW ns size), Sl.val (enW (x, ks, ko)), Sl.own (.lst (ps.map fun (n : Nat) => W.int n)), Sl.no, Sl.no] = .ok (intsW 0 ks.length) [Sl.own r1, Sl.val (.int ((B : Int) + 1)), Sl.val (.int ((d : Int) + 1)), Sl.val (.lst (sc.map enW)), Sl.val (wlW ns size), Sl.val (enW (x, ks, ko)), Sl.own (.lst (ps.map fun (n : Nat) => W.int n)), Sl.no, Sl.no] := by
      generalize (ps.map fun (n : Nat) => W.int n) = PS at *
      simp -implicitDefEqProofs [ev_var, ev_own, ev_lenL, hlp, ho]
    rw [ev_lc, hit, ev_bo]
    have e3 : CT.ix (.nm 8) = [8] := rfl
    rw [e3, if_pos (by simp), e1, eb]
    rfl
  generalize (ps.map fun (n : Nat) => W.int n) = PS at *
  generalize hks : ks.map kW = KS at *
  generalize enW (x, ks, ko) = E at *
  generalize sc.map enW = SC at *
  generalize wlW ns size = WL at *
  generalize bks.map enc = BS at *
  unfold fun__law_draw_call body__law_draw_call
  simp -implicitDefEqProofs [ev_var, ev_own, len_tup, hx1, hx0, hlk, a1, e2, l3]
/-! let -/
def lmF (r : W) (kb : W) (b d : Int) (SC WL NS : W) (x : A) (ms : List (A × Bool)) (s9 s10 : Sl) : Rho := [Sl.own r, Sl.val kb, Sl.val (.int b), Sl.val (.int d), Sl.val SC, Sl.val WL, Sl.val NS, Sl.val (tW x), Sl.own (.lst (ms.map prmW)), s9, s10, Sl.no, Sl.no, Sl.no, Sl.no, Sl.no, Sl.no, Sl.no]
def lmB (nx : List W → FR) : Rho → ML.R Fl := mSeq (mSet [0] 10 (mOp gIx (mVar 6) (mCall [0] [0] nx [mVar 0, mCB gLen [mVar 6]]))) (mIf (mTest (mOp (gIn true) (mVar 10) (mLcO [0] 8 (.nm 17) (mYes) (mOp gIx (mVar 17) (mC (.int 0)))))) (mDrop (mAppend 8 [0] (mTup [0] [mVar 10, mOp gIx (mLst [0] [mC (.str "command"), mC (.str "number")]) (mCall [0] [0] nx [mVar 0, mC (.int 2)])]))) (mNext))
theorem all2_prm (ms : List (A × Bool)) : All2 (fun (w : W) (m : A × Bool) => w = prmW m) (ms.map prmW) ms := by
  induction ms with
  | nil => exact .nil
  | cons m ms ih => exact .cons rfl ih
theorem prm_names {ρ : Rho} {ms : List (A × Bool)} (ho : ownAt ρ 8 = some (.lst (ms.map prmW))) (hn : ρ.set 17 .no = ρ) (hl : 17 < ρ.length) (hm : ms.length ≤ 3) : mLcO [0] 8 (.nm 17) (mYes) (mOp gIx (mVar 17) (mC (.int 0))) ρ = .ok (.fre, .lst ((ms.map (·.1)).map tW)) ρ := by
  have e := lcO_ok (I := [0]) (i := 8) (j := 17) (c := mYes) (fe := mOp gIx (mVar 17) (mC (.int 0))) (f := fun _ : A × Bool => true) (g := fun m : A × Bool => tW m.1) (Q := fun (w : W) (m : A × Bool) => w = prmW m) (zs := ms) ho (by simp) (by simp) (all2_prm ms) hn (fun w m q => rfl) (fun w m q _ => by
    subst q
    have h1 : (ρ.set 17 (.val (prmW m)))[17]? = some (.val (prmW m)) := List.getElem?_set_self hl
    have hx : gIx (prmW m) (.int 0) = some (.val, tW m.1) := rfl
    generalize prmW m = E at *
    generalize ρ.set 17 (.val E) = R at *
    simp -implicitDefEqProofs [ev_var, h1, hx]) (by rw [List.length_map, line_is]; omega)
  rw [List.filter_eq_self.mpr (fun _ _ => rfl)] at e
  rw [e, List.map_map]
  rfl
theorem lmB_step (HN : NextOk nx) {r kb SC WL : W} {b_ d_ : Int} {x : A} {ms : List (A × Bool)} {s9 s10 : Sl} (hr : IsR r) (hns : ns ≠ []) (hm : ms.length ≤ 2) (hnd : (ms.map (·.1)).Nodup) (hin : ∀ m ∈ ms, m.1 ∈ ns) :
    ∃ r' ms' t10, lmB nx (lmF r kb b_ d_ SC WL (.lst (ns.map tW)) x ms s9 s10) = .ok .nx (lmF r' kb b_ d_ SC WL (.lst (ns.map tW)) x ms' s9 t10) ∧ IsR r' ∧ (ms'.map (·.1)).Nodup ∧ (∀ m ∈ ms', m.1 ∈ ns) ∧ ms'.length ≤ ms.length + 1 := by
  have hpos : 0 < ns.length := List.length_pos_iff.mpr hns
  obtain ⟨v, r1, f1, f2, h1⟩ := HN hr (m := (ns.length : Int)) (by omega)
  obtain ⟨y, hy, ey⟩ := names_at (l := ns) (v := v) (by omega)
  have hnl : ((ns.map tW).length : Int) = (ns.length : Int) := by rw [List.length_map]
  have hgi : gIn true (tW y) (.lst ((ms.map (·.1)).map tW)) = some (.val, .bl (!decide (y ∈ ms.map (·.1)))) := in_ST true y (ms.map (·.1)) _ rfl (by simp)
  by_cases hm2 : y ∈ ms.map (·.1)
  · rw [decide_eq_true hm2] at hgi
    refine ⟨r1, ms, Sl.val (tW y), ?_, h1, hnd, hin, by omega⟩
    have e := prm_names (ρ := lmF r1 kb b_ d_ SC WL (.lst (ns.map tW)) x ms s9 (Sl.val (tW y))) (ms := ms) rfl rfl (by simp [lmF]) (by omega)
    unfold lmF at *
    unfold lmB
    generalize (ms.map (·.1)).map tW = MN at *
    generalize ms.map prmW = MS at *
    generalize ns.map tW = NS at *
    simp -implicitDefEqProofs [ev_var, ev_own, ev_lenL, hnl, f1, ey, e, hgi]
  · rw [decide_eq_false hm2] at hgi
    obtain ⟨w, r2, g1, g2, h2⟩ := HN h1 (m := 2) (by omega)
    obtain ⟨bb, g3⟩ := kd_at (v := w) (by omega)
    refine ⟨r2, ms ++ [(y, bb)], Sl.val (tW y), ?_, h2, ?_, fun m hm => ?_, by simp⟩
    · have e := prm_names (ρ := lmF r1 kb b_ d_ SC WL (.lst (ns.map tW)) x ms s9 (Sl.val (tW y))) (ms := ms) rfl rfl (by simp [lmF]) (by omega)
      have hz : (ms.map prmW).length < sizeLine := by rw [List.length_map, line_is]; omega
      have hz' : ms.length < sizeLine := by rw [line_is]; omega
      unfold lmF at *
      unfold lmB
      rw [List.map_append]
      have hp : [(y, bb)].map prmW = [.tup [tW y, kW bb]] := rfl
      rw [hp]
      generalize (ms.map (·.1)).map tW = MN at *
      generalize ms.map prmW = MS at *
      generalize ns.map tW = NS at *
      generalize kW bb = KB at *
      simp -implicitDefEqProofs [ev_var, ev_own, ev_lenL, hnl, f1, ey, e, hgi, g1, g3, hz, l2]
    · rw [List.map_append]
      refine List.nodup_append.mpr ⟨hnd, by simp, fun a ha b hb e => ?_⟩
      have hb' : b = y := by simpa using hb
      exact hm2 (by rw [← hb', ← e]; exact ha)
    · rcases List.mem_append.mp hm with hm | hm
      · exact hin m hm
      · rw [List.mem_singleton.mp hm]; exact hy
end
end K03

namespace K03
open PySem PySem.Spec PyProof.Rows L2 ML
theorem at_nat {l : List Nat} {v : Nat} (hv : v < l.length) : ∃ n ∈ l, atI (l.map fun (n : Nat) => W.int (n : Int)) (v : Int) = some (.int (n : Int)) := ⟨l[v], List.getElem_mem hv, by rw [ML.atI_nat, List.getElem?_map, List.getElem?_eq_getElem hv]; rfl⟩
theorem cnt_at {v : Nat} (hv : (v : Int) < 5) : ∃ n : Nat, n ≤ 3 ∧ atI [W.int 0, W.int 1, W.int 1, W.int 2, W.int 3] (v : Int) = some (.int (n : Int)) := by
  obtain ⟨n, h1, h2⟩ := at_nat (l := [0, 1, 1, 2, 3]) (v := v) (by simp; omega)
  exact ⟨n, by simp at h1; omega, h2⟩
theorem prm_ents {ρ : Rho} {ms : List (A × Bool)} (ho : ownAt ρ 8 = some (.lst (ms.map prmW))) (hn : ρ.set 17 .no = ρ) (hl : 17 < ρ.length) (hm : ms.length ≤ 3) : mLcO [0] 8 (.nm 17) (mYes) (mTup [0] [mOp gIx (mVar 17) (mC (.int 0)), mTup [0] [], mOp gIx (mVar 17) (mC (.int 1))]) ρ = .ok (.fre, .lst ((ms.map fun m => ((m.1, [], some m.2) : Ent)).map enW)) ρ := by
  have e := lcO_ok (I := [0]) (i := 8) (j := 17) (c := mYes) (fe := mTup [0] [mOp gIx (mVar 17) (mC (.int 0)), mTup [0] [], mOp gIx (mVar 17) (mC (.int 1))]) (f := fun _ : A × Bool => true) (g := fun m : A × Bool => enW (m.1, [], some m.2)) (Q := fun (w : W) (m : A × Bool) => w = prmW m) (zs := ms) ho (by simp) (by simp) (all2_prm ms) hn (fun w m q => rfl) (fun w m q _ => by
    subst q
    have h1 : (ρ.set 17 (.val (prmW m)))[17]? = some (.val (prmW m)) := List.getElem?_set_self hl
    have hx : gIx (prmW m) (.int 0) = some (.val, tW m.1) := rfl
    have hx1 : gIx (prmW m) (.int 1) = some (.val, tW (kd m.2)) := rfl
    show _ = ML.R.ok (W.tup [tW m.1, W.tup [], tW (kd m.2)]) _
    generalize prmW m = E at *
    generalize ρ.set 17 (.val E) = R at *
    simp -implicitDefEqProofs [ev_var, h1, hx, hx1, l3]) (by rw [List.length_map, line_is]; omega)
  rw [List.filter_eq_self.mpr (fun _ _ => rfl)] at e
  rw [e, List.map_map]
  rfl
theorem prm_kinds {ρ : Rho} {ms : List (A × Bool)} (ho : ownAt ρ 8 = some (.lst (ms.map prmW))) (hn : ρ.set 17 .no = ρ) (hl : 17 < ρ.length) (hm : ms.length ≤ 3) : mLcO [0] 8 (.nm 17) (mYes) (mOp gIx (mVar 17) (mC (.int 1))) ρ = .ok (.fre, .lst ((ms.map (·.2)).map kW)) ρ := by
  have e := lcO_ok (I := [0]) (i := 8) (j := 17) (c := mYes) (fe := mOp gIx (mVar 17) (mC (.int 1))) (f := fun _ : A × Bool => true) (g := fun m : A × Bool => kW m.2) (Q := fun (w : W) (m : A × Bool) => w = prmW m) (zs := ms) ho (by simp) (by simp) (all2_prm ms) hn (fun w m q => rfl) (fun w m q _ => by
    subst q
    have h1 : (ρ.set 17 (.val (prmW m)))[17]? = some (.val (prmW m)) := List.getElem?_set_self hl
    have hx1 : gIx (prmW m) (.int 1) = some (.val, kW m.2) := rfl
    generalize prmW m = E at *
    generalize ρ.set 17 (.val E) = R at *
    generalize kW m.2 = KM at *
    simp -implicitDefEqProofs [ev_var, h1, hx1]) (by rw [List.length_map, line_is]; omega)
  rw [List.filter_eq_self.mpr (fun _ _ => rfl)] at e
  rw [e, List.map_map]
  rfl
section
variable {dr nx sp : List W → FR} {d B : Nat} {ns : List A} {sc : List Ent} {size : Nat}
theorem draw_let_ok (HN : NextOk nx) (HP : SplitOk sp) (HD : DrawOk dr d) {r : W} (hr : IsR r) {b : Bool} (hsc : Sc ns sc (9000 - 4 * (d + 1))) (s1 : 1 ≤ size) (s9 : size ≤ 9) (hns : ns ≠ []) (hB : 2 ≤ B) (hB2 : B ≤ 49) (hd : d ≤ 19) :
    ∃ (bk : Bk) (r' : W), fun__law_draw_let nx sp dr [r, kW b, .int ((B : Int) + 1), .int ((d : Int) + 1), .lst (sc.map enW), wlW ns size] = .ok false (enc bk) [r'] ∧ Dr ns (B + 1) (d + 2) bk ∧ IsR r' := by
  have hpos : 0 < ns.length := List.length_pos_iff.mpr hns
  obtain ⟨v, r1, f1, f2, h1⟩ := HN hr (m := (ns.length : Int)) (by omega)
  obtain ⟨x, hx, ex⟩ := names_at (l := ns) (v := v) (by omega)
  obtain ⟨v2, r2, g1, g2, h2⟩ := HN h1 (m := 5) (by omega)
  obtain ⟨cnt, c1, c2⟩ := cnt_at g2
  have e0 : gSet [0] 9 = fun w ρ => some (ρ.set 9 (.val w)) := gset_is (by simp)
  obtain ⟨ρ1, e1, r3, ms, t9, t10, rfl, h3, hnd, hin, hlen⟩ := for_inv (i := 9) (g := lmB nx) (ρ := lmF r2 (kW b) ((B : Int) + 1) ((d : Int) + 1) (.lst (sc.map enW)) (wlW ns size) (.lst (ns.map tW)) x [] Sl.no Sl.no)
    (P := fun zs ρ => ∃ r ms t9 t10, ρ = lmF r (kW b) ((B : Int) + 1) ((d : Int) + 1) (.lst (sc.map enW)) (wlW ns size) (.lst (ns.map tW)) x ms t9 t10 ∧ IsR r ∧ (ms.map (·.1)).Nodup ∧ (∀ m ∈ ms, m.1 ∈ ns) ∧ ms.length + zs.length ≤ cnt) (.inr trivial) (all2_ints cnt) (fun a z zs' ρ q ⟨r, ms, t9, t10, er, hr, hnd, hin, hlen⟩ => by
      subst er
      rw [List.length_cons] at hlen
      obtain ⟨r', ms', t10', q1, q2, q3, q4, q5⟩ := lmB_step (ns := ns) HN (kb := kW b) (SC := .lst (sc.map enW)) (WL := wlW ns size) (b_ := (B : Int) + 1) (d_ := (d : Int) + 1) (x := x) (ms := ms) (s9 := Sl.val a) (s10 := t10) hr hns (by omega) hnd hin
      exact ⟨_, q1, r', ms', Sl.val a, t10', rfl, q2, q3, q4, by omega⟩) ⟨r2, [], Sl.no, Sl.no, rfl, h2, List.nodup_nil, (fun _ h => nomatch h), by simp⟩
  have hlen : ms.length ≤ 3 := by simp at hlen; omega
  obtain ⟨v3, r4, k1, k2, h4⟩ := HN h3 (m := 2) (by omega)
  obtain ⟨b1, k3⟩ := kd_at k2
  obtain ⟨ps, r5, a1, a2, a3, a4, h5⟩ := HP h4 B 2 (by omega) hB (by omega)
  obtain ⟨p, q, rfl⟩ := two_of a2
  have hp := a3 p (by simp)
  have hq := a3 q (by simp)
  have hs : p + q = B := by simpa using a4
  have a1' : sp [r4, .int (B : Int), .int 2] = .ok true (.lst [.int (p : Int), .int (q : Int)]) [r5] := a1
  have hscl := hsc.len
  have hsi : Sc ns ((ms.map fun m => ((m.1, [], some m.2) : Ent)) ++ sc) (9000 - 4 * d) := ⟨fun e he => by
    rcases List.mem_append.mp he with he | he
    · obtain ⟨m, hm, rfl⟩ := List.mem_map.mp he
      exact ⟨hin m hm, Nat.zero_le _⟩
    · exact hsc.nm e he, by rw [List.length_append, List.length_map]; omega⟩
  have hso : Sc ns (((x, ms.map (·.2), some b1) : Ent) :: sc) (9000 - 4 * d) := (hsc.add (e := ((x, ms.map (·.2), some b1) : Ent)) ⟨hx, by show (ms.map (·.2)).length ≤ 3; rw [List.length_map]; exact hlen⟩).mono (by omega)
  obtain ⟨bk1, r6, m1, m2, h6⟩ := HD h5 (b := b1) hsi s1 s9 hns (B := p) hp (by omega) (by omega)
  obtain ⟨bk2, r7, n1, n2, h7⟩ := HD h6 (b := b) hso s1 s9 hns (B := q) hq (by omega) (by omega)
  refine ⟨.nd (.lett x ms) (ofL [bk1, bk2]), r7, ?_, .node (ps := [p, q]) ⟨hx, hin, hnd, hlen, rfl⟩ (.cons m2 (.cons n2 .nil)) (by simp; omega) (by simp [hb]; omega), h7⟩
  rw [enc_node]
  show _ = FR.ok false (.tup [tW [108, 101, 116], tW x, .tup (ms.map prmW), enc bk1, enc bk2]) [r7]
  have hnl : ((ns.map tW).length : Int) = (ns.length : Int) := by rw [List.length_map]
  have ok : okR (cnt : Int) = true := okR_nat (by omega)
  have i1 := fun (s9 s10 s11 s12 : Sl) (r : W) => prm_ents (ρ := [Sl.own r, Sl.val (kW b), Sl.val (.int ((B : Int) + 1)), Sl.val (.int ((d : Int) + 1)), Sl.val (.lst (sc.map enW)), Sl.val (wlW ns size), Sl.val (.lst (ns.map tW)), Sl.val (tW x), Sl.own (.lst (ms.map prmW)), s9, s10, s11, s12, Sl.no, Sl.no, Sl.no, Sl.no, Sl.no]) (ms := ms) rfl rfl (by simp) hlen
  have i2 := fun (s9 s10 s11 s12 s13 s14 : Sl) (r : W) => prm_kinds (ρ := [Sl.own r, Sl.val (kW b), Sl.val (.int ((B : Int) + 1)), Sl.val (.int ((d : Int) + 1)), Sl.val (.lst (sc.map enW)), Sl.val (wlW ns size), Sl.val (.lst (ns.map tW)), Sl.val (tW x), Sl.own (.lst (ms.map prmW)), s9, s10, s11, s12, s13, s14, Sl.no, Sl.no, Sl.no]) (ms := ms) rfl rfl (by simp) hlen
  have z1 : ((ms.map fun m => ((m.1, [], some m.2) : Ent)).map enW).length + (sc.map enW).length ≤ sizeLine := by rw [List.length_map, List.length_map, List.length_map, line_is]; omega
  have z2 : 1 + (sc.map enW).length ≤ sizeLine := by rw [List.length_map, line_is]; omega
  have l5 : (5 ≤ sizeLine) = True := by simp [line_is]
  have w0 : gIx (wlW ns size) (.int 0) = some (.val, .lst (ns.map tW)) := rfl
  rw [List.map_append] at m1
  have n1' : dr [r6, kW b, .int (q : Int), .int (d : Int), .lst (.tup [tW x, .tup ((ms.map (·.2)).map kW), kW b1] :: sc.map enW), wlW ns size] = .ok false (enc bk2) [r7] := n1
  clear n1
  unfold lmF at e1
  unfold lmB at e1
  rw [List.map_nil] at e1
  generalize ((ms.map fun m => ((m.1, [], some m.2) : Ent)).map enW) = ME at *
  generalize (ms.map (·.2)).map kW = MK at *
  generalize ms.map prmW = MS at *
  generalize wlW ns size = WL at *
  generalize ns.map tW = NS at *
  generalize sc.map enW = SC at *
  generalize kW b = KB at *
  generalize kW b1 = KB1 at *
  generalize enc bk1 = E1 at *
  generalize enc bk2 = E2 at *
  unfold fun__law_draw_let body__law_draw_let
  try simp at e1
  simp -implicitDefEqProofs [ev_var, ev_own, ev_lenL, w0, hnl, f1, ex, g1, c2, ok, e0, e1, k1, k3, a1', i1, i2, z1, z2, m1, n1', l1, l2, l3, l5]
end
end K03

namespace K03
open PySem PySem.Spec PyProof.Rows L2 ML
/-! ### a block drawn -/
def call2F (b : Bool) (bI : Int) (e : Ent) : Bool := decide (ekd e.2.2 = kd b) && (decide ((e.2.1.length : Int) < bI) && decide (0 < (e.2.1.length : Int)))
theorem calls2_ok {I : List Nat} {i j k n : Nat} {se : List Ent} {ρ0 ρ : Rho} {b : Bool} {bI : Int} (hit : mItems I (mVar i) ρ0 = .ok (se.map enW) ρ) (hj : j ∉ I) (hn : ρ.set j .no = ρ) (hjl : j < ρ.length) (hk : ρ[k]? = some (.val (kW b))) (hkj : k ≠ j) (hk2 : ρ[n]? = some (.val (.int bI))) (hnj : n ≠ j) (hl : se.length ≤ 10000) :
    mLc I (mItems I (mVar i)) (.nm j) (mAnd (mTest (mOp gEq (mOp gIx (mVar j) (mC (.int 2))) (mVar k))) (mAnd (mTest (mOp (gCmp (fun i j => decide (i < j))) (mCB gLen [mOp gIx (mVar j) (mC (.int 1))]) (mVar n))) (mTest (mOp (gCmp (fun i j => decide (j < i))) (mCB gLen [mOp gIx (mVar j) (mC (.int 1))]) (mC (.int 0)))))) (mVar j) ρ0 = .ok (.fre, .lst ((se.filter (call2F b bI)).map enW)) ρ := by
  refine lcF_ok (f := call2F b bI) (g := enW) (Q := fun (w : W) (e : Ent) => w = enW e) hit hj (all2_ent se) hn (fun w e q => ?_) (fun w e q _ => ?_) (by rw [List.length_map, line_is]; omega)
  · subst q
    have h1 : (ρ.set j (.val (enW e)))[j]? = some (.val (enW e)) := List.getElem?_set_self hjl
    have h2 : (ρ.set j (.val (enW e)))[k]? = some (.val (kW b)) := by rw [List.getElem?_set_ne (Ne.symm hkj)]; exact hk
    have h3 : (ρ.set j (.val (enW e)))[n]? = some (.val (.int bI)) := by rw [List.getElem?_set_ne (Ne.symm hnj)]; exact hk2
    have hx : gIx (enW e) (.int 2) = some (.val, tW (ekd e.2.2)) := rfl
    have hx1 : gIx (enW e) (.int 1) = some (.val, .tup (e.2.1.map kW)) := rfl
    have he := ekd_eq e.2.2 (kd b)
    have hlen : gLen [.tup (e.2.1.map kW)] = some (.val, .int (e.2.1.length : Int)) := by rw [len_tup, List.length_map]
    unfold call2F
    generalize tW (ekd e.2.2) = T at *
    generalize W.tup (e.2.1.map kW) = TK at *
    generalize enW e = E at *
    generalize (e.2.1.length : Int) = n1 at *
    generalize ρ.set j (.val E) = R at *
    by_cases c : ekd e.2.2 = kd b
    · rw [decide_eq_true c] at he ⊢
      by_cases c2 : n1 < bI
      · simp -implicitDefEqProofs [ev_var, h1, h2, h3, hx, hx1, he, hlen, c2]
      · simp -implicitDefEqProofs [ev_var, h1, h2, h3, hx, hx1, he, hlen, c2]
    · rw [decide_eq_false c] at he ⊢
      simp -implicitDefEqProofs [ev_var, h1, h2, hx, hx1, he]
  · subst q
    have h1 : (ρ.set j (.val (enW e)))[j]? = some (.val (enW e)) := List.getElem?_set_self hjl
    generalize enW e = E at *
    generalize ρ.set j (.val E) = R at *
    simp -implicitDefEqProofs [ev_var, h1]
theorem ents_at {l : List Ent} {v : Nat} (hv : v < l.length) : ∃ x ∈ l, atI (l.map enW) (v : Int) = some (enW x) := ⟨l[v], List.getElem_mem hv, by rw [ML.atI_nat, List.getElem?_map, List.getElem?_eq_getElem hv]; rfl⟩
def CallOk (dc : List W → FR) (d : Nat) : Prop := ∀ {r : W}, IsR r → ∀ {ns : List A} {sc : List Ent} {size B : Nat} {e : Ent}, e.1 ∈ ns → 1 ≤ e.2.1.length → e.2.1.length ≤ B → e.2.1.length ≤ 3 → Sc ns sc (9000 - 4 * (d + 1)) → 1 ≤ size → size ≤ 9 → ns ≠ [] → B ≤ 49 → d ≤ 19 →
  ∃ (bk : Bk) (r' : W), dc [r, .int ((B : Int) + 1), .int ((d : Int) + 1), .lst (sc.map enW), wlW ns size, enW e] = .ok false (enc bk) [r'] ∧ Dr ns (B + 1) (d + 2) bk ∧ IsR r'
def SetOk (ds : List W → FR) (d : Nat) : Prop := ∀ {r : W}, IsR r → ∀ {ns : List A} {sc : List Ent} {size B : Nat} {cs : List A}, Sc ns sc (9000 - 4 * (d + 1)) → 1 ≤ size → size ≤ 9 → ns ≠ [] → 1 ≤ B → B ≤ 49 → d ≤ 19 → 0 < cs.length → (∀ x ∈ cs, x ∈ ns) →
  ∃ (bk : Bk) (r' : W), ds [r, .int ((B : Int) + 1), .int ((d : Int) + 1), .lst (sc.map enW), wlW ns size, .lst (cs.map tW)] = .ok false (enc bk) [r'] ∧ Dr ns (B + 1) (d + 2) bk ∧ IsR r'
def BothOk (dt : List W → FR) (d : Nat) : Prop := ∀ {r : W}, IsR r → ∀ {ns : List A} {sc : List Ent} {size B : Nat} {b : Bool}, Sc ns sc (9000 - 4 * (d + 1)) → 1 ≤ size → size ≤ 9 → ns ≠ [] → 2 ≤ B → B ≤ 49 → d ≤ 19 →
  ∃ (bk : Bk) (r' : W), dt [r, kW b, .int ((B : Int) + 1), .int ((d : Int) + 1), .lst (sc.map enW), wlW ns size] = .ok false (enc bk) [r'] ∧ Dr ns (B + 1) (d + 2) bk ∧ IsR r'
def SeenOk (sn : List W → FR) : Prop := ∀ sc : List Ent, sc.length ≤ 10000 → ∃ se : List Ent, sn [.lst (sc.map enW)] = .ok true (.lst (se.map enW)) [] ∧ (∀ e ∈ se, e ∈ sc) ∧ se.length ≤ sc.length
def dwA (nx dc : List W → FR) : Rho → ML.R Fl := mIf (mAnd (mTest (mOp (gCmp (fun i j => decide (i < j))) (mVar 9) (mC (.int 5)))) (mTest (mOp (gCmp (fun i j => decide (j < i))) (mCB gLen [mVar 8]) (mC (.int 0))))) (mSeq (mSet [0] 10 (mOp gIx (mVar 8) (mCB gMin [mCall [0] [0] nx [mVar 0, mCB gLen [mVar 8]], mCall [0] [0] nx [mVar 0, mCB gLen [mVar 8]]]))) (mRet [0] (mCall [0] [0] dc [mVar 0, mVar 2, mVar 3, mVar 4, mVar 5, mVar 10]))) (mNext)
def dwB (dl : List W → FR) : Rho → ML.R Fl := mIf (mAnd (mTest (mOp (gCmp (fun i j => decide (i < j))) (mVar 9) (mC (.int 8)))) (mTest (mOp (gCmp (fun i j => decide (j < i))) (mVar 2) (mC (.int 2))))) (mRet [0] (mCall [0] [0] dl [mVar 0, mVar 1, mVar 2, mVar 3, mVar 4, mVar 5])) (mNext)
def dwC (ds : List W → FR) : Rho → ML.R Fl := mIf (mAnd (mTest (mOp gEq (mVar 1) (mC (.str "command")))) (mAnd (mTest (mOp (gCmp (fun i j => decide (j < i))) (mCB gLen [mVar 7]) (mC (.int 0)))) (mOr (mTest (mOp (gCmp (fun i j => decide (i < j))) (mVar 9) (mC (.int 10)))) (mTest (mOp gEq (mVar 2) (mC (.int 2))))))) (mRet [0] (mCall [0] [0] ds [mVar 0, mVar 2, mVar 3, mVar 4, mVar 5, mVar 7])) (mNext)
def dwD (nx dr : List W → FR) : Rho → ML.R Fl := mIf (mOr (mTest (mOp (gCmp (fun i j => decide (i < j))) (mVar 9) (mC (.int 12)))) (mTest (mOp gEq (mVar 2) (mC (.int 2))))) (mSeq (mSet [0] 11 (mOp gIx (mOp gIx (mVar 5) (mC (.int 0))) (mCall [0] [0] nx [mVar 0, mCB gLen [mOp gIx (mVar 5) (mC (.int 0))]]))) (mSeq (mSet [0] 12 (mCall [0] [0] nx [mVar 0, mOp gIx (mVar 5) (mC (.int 1))])) (mRet [0] (mTup [0] [mC (.str "new"), mVar 11, mVar 12, mCall [0] [0] dr [mVar 0, mVar 1, mOp gSub (mVar 2) (mC (.int 1)), mOp gSub (mVar 3) (mC (.int 1)), mOp gAdd (mLst [0] [mTup [0] [mVar 11, mTup [0] [], mC (.str "cell")]]) (mVar 4), mVar 5]])))) (mNext)
def dwE (sp dr : List W → FR) : Rho → ML.R Fl := mIf (mAnd (mTest (mOp (gCmp (fun i j => decide (i < j))) (mVar 9) (mC (.int 14)))) (mTest (mOp (gCmp (fun i j => decide (j < i))) (mVar 2) (mC (.int 3))))) (mSeq (mSet [0] 13 (mCall [0] [0] sp [mVar 0, mOp gSub (mVar 2) (mC (.int 1)), mC (.int 3)])) (mSeq (mSet [0] 14 (mCall [0] [0] dr [mVar 0, mC (.str "number"), mOp gIx (mVar 13) (mC (.int 0)), mOp gSub (mVar 3) (mC (.int 1)), mVar 4, mVar 5])) (mSeq (mSet [0] 15 (mCall [0] [0] dr [mVar 0, mVar 1, mOp gIx (mVar 13) (mC (.int 1)), mOp gSub (mVar 3) (mC (.int 1)), mVar 4, mVar 5])) (mRet [0] (mTup [0] [mC (.str "if"), mVar 14, mVar 15, mCall [0] [0] dr [mVar 0, mVar 1, mOp gIx (mVar 13) (mC (.int 2)), mOp gSub (mVar 3) (mC (.int 1)), mVar 4, mVar 5]]))))) (mNext)
def dwF (dt : List W → FR) : Rho → ML.R Fl := mRet [0] (mCall [0] [0] dt [mVar 0, mVar 1, mVar 2, mVar 3, mVar 4, mVar 5])
def dwT (nx dc dl ds dr sp dt : List W → FR) : Rho → ML.R Fl := mSeq (dwA nx dc) (mSeq (dwB dl) (mSeq (dwC ds) (mSeq (dwD nx dr) (mSeq (dwE sp dr) (dwF dt)))))
def dwP (lf sn nx : List W → FR) (T : Rho → ML.R Fl) : Rho → ML.R Fl := mSeq (mIf (mOr (mTest (mOp (gCmp (fun i j => decide (i ≤ j))) (mVar 2) (mC (.int 1)))) (mTest (mOp (gCmp (fun i j => decide (i ≤ j))) (mVar 3) (mC (.int 0))))) (mRet [0] (mCall [0] [0] lf [mVar 0, mVar 1, mVar 4, mVar 5])) (mNext)) (mSeq (mSet [0] 6 (mCall [0] [] sn [mVar 4])) (mSeq (mSet [0] 7 (mLc [0] (mItems [0] (mVar 6)) (.nm 10) (mTest (mOp gEq (mOp gIx (mVar 10) (mC (.int 2))) (mC (.str "cell")))) (mOp gIx (mVar 10) (mC (.int 0))))) (mSeq (mSet [0] 8 (mLc [0] (mItems [0] (mVar 6)) (.nm 10) (mAnd (mTest (mOp gEq (mOp gIx (mVar 10) (mC (.int 2))) (mVar 1))) (mAnd (mTest (mOp (gCmp (fun i j => decide (i < j))) (mCB gLen [mOp gIx (mVar 10) (mC (.int 1))]) (mVar 2))) (mTest (mOp (gCmp (fun i j => decide (j < i))) (mCB gLen [mOp gIx (mVar 10) (mC (.int 1))]) (mC (.int 0)))))) (mVar 10))) (mSeq (mSet [0] 9 (mCall [0] [0] nx [mVar 0, mC (.int 18)])) T))))
theorem dw_body (lf sn nx dc dl ds dr sp dt : List W → FR) : body__law_draw lf sn nx dc dl ds dr sp dt = dwP lf sn nx (dwT nx dc dl ds dr sp dt) := rfl
def fr9 (r kb : W) (bI dI : Int) (SC WL SE CS LS : W) (vI : Int) : Rho := [Sl.own r, Sl.val kb, Sl.val (.int bI), Sl.val (.int dI), Sl.val SC, Sl.val WL, Sl.val SE, Sl.own CS, Sl.own LS, Sl.val (.int vI), Sl.no, Sl.no, Sl.no, Sl.no, Sl.no, Sl.no]
theorem pre_ok {lf sn nx : List W → FR} {T : Rho → ML.R Fl} {r r1 : W} {kb : W} {bI dI vI : Int} {SC SE CS LS : List W} {WL : W} (c0 : ¬ bI ≤ 1) (d0 : ¬ dI ≤ 0) (e1 : sn [.lst SC] = .ok true (.lst SE) [])
    (e2 : mLc [0] (mItems [0] (mVar 6)) (.nm 10) (mTest (mOp gEq (mOp gIx (mVar 10) (mC (.int 2))) (mC (.str (S [99, 101, 108, 108]))))) (mOp gIx (mVar 10) (mC (.int 0))) [Sl.own r, Sl.val kb, Sl.val (.int bI), Sl.val (.int dI), Sl.val (.lst SC), Sl.val WL, Sl.own (.lst SE), Sl.no, Sl.no, Sl.no, Sl.no, Sl.no, Sl.no, Sl.no, Sl.no, Sl.no] = .ok (.fre, .lst CS) [Sl.own r, Sl.val kb, Sl.val (.int bI), Sl.val (.int dI), Sl.val (.lst SC), Sl.val WL, Sl.val (.lst SE), Sl.no, Sl.no, Sl.no, Sl.no, Sl.no, Sl.no, Sl.no, Sl.no, Sl.no])
    (e3 : mLc [0] (mItems [0] (mVar 6)) (.nm 10) (mAnd (mTest (mOp gEq (mOp gIx (mVar 10) (mC (.int 2))) (mVar 1))) (mAnd (mTest (mOp (gCmp (fun i j => decide (i < j))) (mCB gLen [mOp gIx (mVar 10) (mC (.int 1))]) (mVar 2))) (mTest (mOp (gCmp (fun i j => decide (j < i))) (mCB gLen [mOp gIx (mVar 10) (mC (.int 1))]) (mC (.int 0)))))) (mVar 10) [Sl.own r, Sl.val kb, Sl.val (.int bI), Sl.val (.int dI), Sl.val (.lst SC), Sl.val WL, Sl.val (.lst SE), Sl.own (.lst CS), Sl.no, Sl.no, Sl.no, Sl.no, Sl.no, Sl.no, Sl.no, Sl.no] = .ok (.fre, .lst LS) [Sl.own r, Sl.val kb, Sl.val (.int bI), Sl.val (.int dI), Sl.val (.lst SC), Sl.val WL, Sl.val (.lst SE), Sl.own (.lst CS), Sl.no, Sl.no, Sl.no, Sl.no, Sl.no, Sl.no, Sl.no, Sl.no])
    (f1 : nx [r, .int 18] = .ok false (.int vI) [r1]) : dwP lf sn nx T [Sl.own r, Sl.val kb, Sl.val (.int bI), Sl.val (.int dI), Sl.val (.lst SC), Sl.val WL, Sl.no, Sl.no, Sl.no, Sl.no, Sl.no, Sl.no, Sl.no, Sl.no, Sl.no, Sl.no] = T (fr9 r1 kb bI dI (.lst SC) WL (.lst SE) (.lst CS) (.lst LS) vI) := by
  unfold dwP fr9
  simp -implicitDefEqProofs [ev_var, ev_own, c0, d0, e1, e2, e3, f1]
section
variable {r kb SC WL SE : W} {bI dI vI : Int} {CS LS : List W}
theorem dwA_pass {nx dc : List W → FR} (h : ¬ (vI < 5 ∧ 0 < LS.length)) : dwA nx dc (fr9 r kb bI dI SC WL SE (.lst CS) (.lst LS) vI) = .ok .nx (fr9 r kb bI dI SC WL SE (.lst CS) (.lst LS) vI) := by
  unfold dwA fr9
  by_cases c : vI < 5
  · have c2 : ¬ (0 : Int) < (LS.length : Int) := by omega
    have c3 : ¬ 0 < LS.length := by omega
    simp only [ev_if, ev_and, ev_test, ev_op, ev_bo, ev_var, ev_c]
    simp -implicitDefEqProofs [ev_var, ev_own, ev_lenL, c, c3, List.length_pos_iff]
  · simp -implicitDefEqProofs [ev_var, ev_own, c]
theorem dwB_pass {dl : List W → FR} (h : ¬ (vI < 8 ∧ 2 < bI)) : dwB dl (fr9 r kb bI dI SC WL SE (.lst CS) (.lst LS) vI) = .ok .nx (fr9 r kb bI dI SC WL SE (.lst CS) (.lst LS) vI) := by
  unfold dwB fr9
  by_cases c : vI < 8
  · have c2 : ¬ 2 < bI := fun z => h ⟨c, z⟩
    simp -implicitDefEqProofs [ev_var, ev_own, c, c2]
  · simp -implicitDefEqProofs [ev_var, ev_own, c]
theorem dwC_pass {ds : List W → FR} {b : Bool} (h : ¬ (b = false ∧ 0 < CS.length ∧ (vI < 10 ∨ bI = 2))) : dwC ds (fr9 r (kW b) bI dI SC WL SE (.lst CS) (.lst LS) vI) = .ok .nx (fr9 r (kW b) bI dI SC WL SE (.lst CS) (.lst LS) vI) := by
  unfold dwC fr9
  cases b with
  | true =>
    have e : gEq (kW true) (.str (S [99, 111, 109, 109, 97, 110, 100])) = some (.val, .bl false) := by simp [kd]
    simp -implicitDefEqProofs [ev_var, ev_own, e]
  | false =>
    have e : gEq (kW false) (.str (S [99, 111, 109, 109, 97, 110, 100])) = some (.val, .bl true) := by simp [kd]
    obtain ⟨n, hn⟩ : ∃ n : Int, (CS.length : Int) = n := ⟨_, rfl⟩
    by_cases c1 : 0 < n
    · have c2 : ¬ vI < 10 := fun z => h ⟨rfl, by omega, .inl z⟩
      have c3 : ¬ bI = 2 := fun z => h ⟨rfl, by omega, .inr z⟩
      have c4 : CS ≠ [] := fun z => by rw [z] at hn; simp at hn; omega
      simp -implicitDefEqProofs [ev_var, ev_own, e, ev_lenL, hn, c1, c2, c3]
    · simp -implicitDefEqProofs [ev_var, ev_own, e, ev_lenL, hn, c1]
theorem dwD_pass {nx dr : List W → FR} (h : ¬ (vI < 12 ∨ bI = 2)) : dwD nx dr (fr9 r kb bI dI SC WL SE (.lst CS) (.lst LS) vI) = .ok .nx (fr9 r kb bI dI SC WL SE (.lst CS) (.lst LS) vI) := by
  rw [not_or] at h
  unfold dwD fr9
  simp -implicitDefEqProofs [ev_var, ev_own, h.1, h.2]
theorem dwE_pass {sp dr : List W → FR} (h : ¬ (vI < 14 ∧ 3 < bI)) : dwE sp dr (fr9 r kb bI dI SC WL SE (.lst CS) (.lst LS) vI) = .ok .nx (fr9 r kb bI dI SC WL SE (.lst CS) (.lst LS) vI) := by
  unfold dwE fr9
  by_cases c : vI < 14
  · have c2 : ¬ 3 < bI := fun z => h ⟨c, z⟩
    simp -implicitDefEqProofs [ev_var, ev_own, c, c2]
  · simp -implicitDefEqProofs [ev_var, ev_own, c]
end
end K03

namespace K03
open PySem PySem.Spec PyProof.Rows L2 ML
section
variable {lf sn nx dc dl ds dr sp dt : List W → FR} {d : Nat}
theorem draw0 (HL : LeafOk lf) : DrawOk (fun__law_draw lf sn nx dc dl ds dr sp dt) 0 := fun {r} hr {ns sc b size B} hsc s1 s9 hns hB hB2 hd => by
  obtain ⟨bk, r', e, h1, h2⟩ := HL hr (b := b) (size := size) (hsc.mono (by omega)) s1 s9
  refine ⟨bk, r', ?_, h1.mono hB (by omega), h2⟩
  generalize wlW ns size = WL at *
  generalize sc.map enW = SC at *
  generalize kW b = KB at *
  unfold fun__law_draw body__law_draw
  by_cases c : (B : Int) ≤ 1
  · simp -implicitDefEqProofs [ev_var, ev_own, c, e]
  · simp -implicitDefEqProofs [ev_var, ev_own, c, e]
theorem drawS (HL : LeafOk lf) (HS : SeenOk sn) (HN : NextOk nx) (HC : CallOk dc d) (HT : BothOk dl d) (HE : SetOk ds d) (HD : DrawOk dr d) (HP : SplitOk sp) (H2 : BothOk dt d) : DrawOk (fun__law_draw lf sn nx dc dl ds dr sp dt) (d + 1) := fun {r} hr {ns sc b size B} hsc s1 s9 hns hB hB2 hd => by
  have hscl := hsc.len
  have hpos : 0 < ns.length := List.length_pos_iff.mpr hns
  obtain ⟨dI, hdI⟩ : ∃ dI : Int, dI = ((d + 1 : Nat) : Int) := ⟨_, rfl⟩
  obtain ⟨bI, hbI⟩ : ∃ bI : Int, bI = (B : Int) := ⟨_, rfl⟩
  rw [← hdI, ← hbI]
  have d0 : ¬ dI ≤ 0 := by omega
  by_cases c0 : bI ≤ 1
  · obtain ⟨bk, r', e, h1, h2⟩ := HL hr (b := b) (size := size) (hsc.mono (by omega)) s1 s9
    refine ⟨bk, r', ?_, h1.mono hB (by omega), h2⟩
    generalize wlW ns size = WL at *
    generalize sc.map enW = SC at *
    generalize kW b = KB at *
    unfold fun__law_draw body__law_draw
    simp -implicitDefEqProofs [ev_var, ev_own, c0, e]
  obtain ⟨C, rfl⟩ : ∃ C, B = C + 1 := ⟨B - 1, by omega⟩
  have hC : (C : Int) + 1 = bI := by omega
  have hC' : (C : Int) = bI - 1 := by omega
  have hD1 : (d : Int) + 1 = dI := by omega
  have hD' : (d : Int) = dI - 1 := by omega
  obtain ⟨se, e1, hse, hsl⟩ := HS sc (by omega)
  have hmem : ∀ f x, x ∈ (se.filter f).map (·.1) → x ∈ ns := fun f x hx => by
    obtain ⟨e, he, rfl⟩ := List.mem_map.mp hx
    exact (hsc.nm e (hse e (List.mem_filter.mp he).1)).1
  have e2 := cells_ok (I := [0]) (i := 6) (j := 10) (se := se) (ρ0 := [Sl.own r, Sl.val (kW b), Sl.val (.int bI), Sl.val (.int dI), Sl.val (.lst (sc.map enW)), Sl.val (wlW ns size), Sl.own (.lst (se.map enW)), Sl.no, Sl.no, Sl.no, Sl.no, Sl.no, Sl.no, Sl.no, Sl.no, Sl.no]) (ρ := [Sl.own r, Sl.val (kW b), Sl.val (.int bI), Sl.val (.int dI), Sl.val (.lst (sc.map enW)), Sl.val (wlW ns size), Sl.val (.lst (se.map enW)), Sl.no, Sl.no, Sl.no, Sl.no, Sl.no, Sl.no, Sl.no, Sl.no, Sl.no]) (by simp -implicitDefEqProofs [ev_var, ev_own]) (by simp) rfl (by simp) (by omega)
  have hcm := hmem cellF
  generalize (se.filter cellF).map (·.1) = cs at *
  have e3 := calls2_ok (I := [0]) (i := 6) (j := 10) (k := 1) (n := 2) (b := b) (bI := bI) (se := se) (ρ0 := [Sl.own r, Sl.val (kW b), Sl.val (.int bI), Sl.val (.int dI), Sl.val (.lst (sc.map enW)), Sl.val (wlW ns size), Sl.val (.lst (se.map enW)), Sl.own (.lst (cs.map tW)), Sl.no, Sl.no, Sl.no, Sl.no, Sl.no, Sl.no, Sl.no, Sl.no]) (ρ := [Sl.own r, Sl.val (kW b), Sl.val (.int bI), Sl.val (.int dI), Sl.val (.lst (sc.map enW)), Sl.val (wlW ns size), Sl.val (.lst (se.map enW)), Sl.own (.lst (cs.map tW)), Sl.no, Sl.no, Sl.no, Sl.no, Sl.no, Sl.no, Sl.no, Sl.no]) (by simp -implicitDefEqProofs [ev_var, ev_own]) (by simp) rfl (by simp) rfl (by simp) rfl (by simp) (by omega)
  have hlm : ∀ e ∈ se.filter (call2F b bI), e.1 ∈ ns ∧ 1 ≤ e.2.1.length ∧ e.2.1.length ≤ C ∧ e.2.1.length ≤ 3 := fun e he => by
    obtain ⟨h1, h2⟩ := List.mem_filter.mp he
    have h3 := hsc.nm e (hse e h1)
    unfold call2F at h2
    rw [Bool.and_eq_true_iff, Bool.and_eq_true_iff] at h2
    have h4 := of_decide_eq_true h2.2.1
    have h5 := of_decide_eq_true h2.2.2
    exact ⟨h3.1, by omega, by omega, h3.2⟩
  generalize se.filter (call2F b bI) = ls at *
  obtain ⟨v, r1, f1, f2, h1⟩ := HN hr (m := 18) (by omega)
  obtain ⟨vI, hvI⟩ : ∃ vI : Int, vI = (v : Int) := ⟨_, rfl⟩
  rw [← hvI] at f1
  have hcl : ((cs.map tW).length : Int) = (cs.length : Int) := by rw [List.length_map]
  have hll : ((ls.map enW).length : Int) = (ls.length : Int) := by rw [List.length_map]
  have hcl2 : (cs.map tW).length = cs.length := by rw [List.length_map]
  have hll2 : (ls.map enW).length = ls.length := by rw [List.length_map]
  have w0 : gIx (wlW ns size) (.int 0) = some (.val, .lst (ns.map tW)) := rfl
  have w1 : gIx (wlW ns size) (.int 1) = some (.val, .int (size : Int)) := rfl
  have hnl : ((ns.map tW).length : Int) = (ns.length : Int) := by rw [List.length_map]
  have z1 : 1 + (sc.map enW).length ≤ sizeLine := by rw [List.length_map, line_is]; omega
  have pre : ∀ (w : W) (r' : W), (∃ ρ : Rho, dwT nx dc dl ds dr sp dt (fr9 r1 (kW b) bI dI (.lst (sc.map enW)) (wlW ns size) (.lst (se.map enW)) (.lst (cs.map tW)) (.lst (ls.map enW)) vI) = .ok (.rt .val w) (Sl.own r' :: ρ)) → fun__law_draw lf sn nx dc dl ds dr sp dt [r, kW b, .int bI, .int dI, .lst (sc.map enW), wlW ns size] = .ok false w [r'] := fun w r' ⟨ρ, h⟩ => by
    rw [← pre_ok (lf := lf) (r := r) (T := dwT nx dc dl ds dr sp dt) c0 d0 e1 e2 e3 f1] at h
    unfold fun__law_draw
    rw [dw_body]
    generalize dwP lf sn nx (dwT nx dc dl ds dr sp dt) = G at *
    generalize wlW ns size = WL at *
    generalize sc.map enW = SC at *
    generalize kW b = KB at *
    simp -implicitDefEqProofs [ev_var, ev_own, h]
  unfold dwT at pre
  by_cases q1 : vI < 5 ∧ 0 < ls.length
  · obtain ⟨q1, q2⟩ := q1
    obtain ⟨a, r2, g1, g2, h2⟩ := HN h1 (m := (ls.length : Int)) (by omega)
    obtain ⟨c, r3, g3, g4, h3⟩ := HN h2 (m := (ls.length : Int)) (by omega)
    obtain ⟨m, g5, g6⟩ := min_ok (a := a) (b := c) (n := ls.length) (by omega) (by omega)
    obtain ⟨en, hen, g7⟩ := ents_at g6
    obtain ⟨p1, p2, p3, p4⟩ := hlm en hen
    obtain ⟨bk, r', e4, e5, h4⟩ := HC h3 (B := C) p1 p2 p3 p4 hsc s1 s9 hns (by omega) (by omega)
    refine ⟨bk, r', pre _ _ ?_, e5, h4⟩
    · rw [hC, hD1] at e4
      generalize cs.map tW = CS at *
      generalize ls.map enW = LS at *
      generalize enW en = EN at *
      generalize wlW ns size = WL at *
      generalize se.map enW = SE at *
      generalize sc.map enW = SC at *
      generalize kW b = KB at *
      apply Exists.intro
      rw [ev_seq]
      unfold dwA fr9
      simp -implicitDefEqProofs [ev_var, ev_own, q1, ev_lenL, hll, q2, g1, g3, g5, g7, e4]
      rfl
  rw [ev_seq, dwA_pass (by rw [hll2]; exact q1), ev_tn, ev_seq] at pre
  by_cases q2 : vI < 8 ∧ 2 < bI
  · obtain ⟨q2, q3⟩ := q2
    obtain ⟨bk, r', e4, e5, h4⟩ := HT h1 (B := C) (b := b) hsc s1 s9 hns (by omega) (by omega) (by omega)
    refine ⟨bk, r', pre _ _ ?_, e5, h4⟩
    · rw [hC, hD1] at e4
      generalize cs.map tW = CS at *
      generalize ls.map enW = LS at *
      generalize wlW ns size = WL at *
      generalize se.map enW = SE at *
      generalize sc.map enW = SC at *
      generalize kW b = KB at *
      apply Exists.intro
      unfold dwB fr9
      simp -implicitDefEqProofs [ev_var, ev_own, q2, q3, e4]
      rfl
  rw [dwB_pass q2, ev_tn, ev_seq] at pre
  by_cases q3 : b = false ∧ 0 < cs.length ∧ (vI < 10 ∨ bI = 2)
  · obtain ⟨rfl, q3, q4⟩ := q3
    obtain ⟨bk, r', e4, e5, h4⟩ := HE h1 (B := C) (cs := cs) hsc s1 s9 hns (by omega) (by omega) (by omega) q3 hcm
    refine ⟨bk, r', pre _ _ ?_, e5, h4⟩
    · rw [hC, hD1] at e4
      have ek : gEq (kW false) (.str (S [99, 111, 109, 109, 97, 110, 100])) = some (.val, .bl true) := by simp [kd]
      generalize cs.map tW = CS at *
      generalize ls.map enW = LS at *
      generalize wlW ns size = WL at *
      generalize se.map enW = SE at *
      generalize sc.map enW = SC at *
      generalize kW false = KB at *
      apply Exists.intro
      unfold dwC fr9
      by_cases q5 : vI < 10
      · simp -implicitDefEqProofs [ev_var, ev_own, ek, ev_lenL, hcl, q3, q5, e4]
        rfl
      · have q6 : bI = 2 := q4.resolve_left q5
        rw [q6] at e4 ⊢
        simp -implicitDefEqProofs [ev_var, ev_own, ek, ev_lenL, hcl, q3, q5, e4]
  rw [dwC_pass (by rw [hcl2]; exact q3), ev_tn, ev_seq] at pre
  by_cases q4 : vI < 12 ∨ bI = 2
  · obtain ⟨a, r2, g1, g2, h2⟩ := HN h1 (m := (ns.length : Int)) (by omega)
    obtain ⟨x, hx, g3⟩ := names_at (l := ns) (v := a) (by omega)
    obtain ⟨k, r3, g4, g5, h3⟩ := HN h2 (m := (size : Int)) (by omega)
    obtain ⟨bk, r', e4, e5, h4⟩ := HD h3 (b := b) (B := C) (((hsc.add (e := ((x, [], none) : Ent)) ⟨hx, Nat.zero_le _⟩)).mono (by omega)) s1 s9 hns (by omega) (by omega) (by omega)
    refine ⟨.nd (.new x k) (ofL [bk]), r', pre _ _ ?_, .node (ps := [C]) ⟨hx, by omega, rfl⟩ (.cons e5 .nil) (by simp) (by simp [hb]), h4⟩
    · rw [hC', hD'] at e4
      rw [enc_node]
      have e4' : dr [r3, kW b, .int (bI - 1), .int (dI - 1), .lst (.tup [tW x, .tup [], .str (S [99, 101, 108, 108])] :: sc.map enW), wlW ns size] = .ok false (enc bk) [r'] := e4
      have hen : encH (.new x k) ([bk].map enc) = .tup [tW [110, 101, 119], tW x, .int (k : Int), enc bk] := rfl
      rw [hen]
      generalize cs.map tW = CS at *
      generalize ls.map enW = LS at *
      generalize ns.map tW = NS at *
      generalize wlW ns size = WL at *
      generalize se.map enW = SE at *
      generalize sc.map enW = SC at *
      generalize kW b = KB at *
      generalize enc bk = E at *
      apply Exists.intro
      unfold dwD fr9
      by_cases q5 : vI < 12
      · simp -implicitDefEqProofs [ev_var, ev_own, q5, w0, w1, ev_lenL, hnl, g1, g3, g4, e4', z1, l1, l3, l4]
        rfl
      · have q6 : bI = 2 := q4.resolve_left q5
        rw [q6] at e4' ⊢
        replace e4' : dr [r3, KB, .int 1, .int (dI - 1), .lst (.tup [tW x, .tup [], .str (S [99, 101, 108, 108])] :: SC), WL] = .ok false E [r'] := e4'
        simp -implicitDefEqProofs [ev_var, ev_own, q5, w0, w1, ev_lenL, hnl, g1, g3, g4, e4', z1, l1, l3, l4]
  rw [dwD_pass q4, ev_tn, ev_seq] at pre
  rw [not_or] at q4
  by_cases q5 : vI < 14 ∧ 3 < bI
  · obtain ⟨q5, q6⟩ := q5
    obtain ⟨ps, r2, a1, a2, a3, a4, h2⟩ := HP h1 C 3 (by omega) (by omega) (by omega)
    obtain ⟨p, q, s, rfl⟩ := three_of a2
    have hp := a3 p (by simp)
    have hq := a3 q (by simp)
    have hs := a3 s (by simp)
    have hsum : p + (q + s) = C := by simpa using a4
    have a1' : sp [r1, .int (C : Int), .int 3] = .ok true (.lst [.int (p : Int), .int (q : Int), .int (s : Int)]) [r2] := a1
    rw [hC'] at a1'
    obtain ⟨b1, r3, m1, m2, h3⟩ := HD h2 (b := true) hsc.down s1 s9 hns (B := p) hp (by omega) (by omega)
    obtain ⟨b2, r4, m3, m4, h4⟩ := HD h3 (b := b) hsc.down s1 s9 hns (B := q) hq (by omega) (by omega)
    obtain ⟨b3, r5, m5, m6, h5⟩ := HD h4 (b := b) hsc.down s1 s9 hns (B := s) hs (by omega) (by omega)
    refine ⟨.nd (.op [105, 102]) (ofL [b1, b2, b3]), r5, pre _ _ ?_, .node (ps := [p, q, s]) (.inr ⟨rfl, rfl⟩) (.cons m2 (.cons m4 (.cons m6 .nil))) (by simp; omega) (by simp [hb]), h5⟩
    · rw [hD'] at m1 m3 m5
      rw [enc_node]
      have hen : encH (.op [105, 102]) ([b1, b2, b3].map enc) = .tup [tW [105, 102], enc b1, enc b2, enc b3] := rfl
      rw [hen]
      generalize cs.map tW = CS at *
      generalize ls.map enW = LS at *
      generalize wlW ns size = WL at *
      generalize se.map enW = SE at *
      generalize sc.map enW = SC at *
      generalize kW b = KB at *
      generalize enc b1 = E1 at *
      generalize enc b2 = E2 at *
      generalize enc b3 = E3 at *
      replace m1 : dr [_, tW [110, 117, 109, 98, 101, 114], _, _, _, _] = _ := m1
      apply Exists.intro
      unfold dwE fr9
      simp -implicitDefEqProofs [ev_var, ev_own, q5, q6, a1', m1, m3, m5, l4]
      rfl
  rw [dwE_pass q5, ev_tn] at pre
  obtain ⟨bk, r', e4, e5, h4⟩ := H2 h1 (B := C) (b := b) hsc s1 s9 hns (by omega) (by omega) (by omega)
  refine ⟨bk, r', pre _ _ ?_, e5, h4⟩
  · rw [hC, hD1] at e4
    generalize cs.map tW = CS at *
    generalize ls.map enW = LS at *
    generalize wlW ns size = WL at *
    generalize se.map enW = SE at *
    generalize sc.map enW = SC at *
    generalize kW b = KB at *
    apply Exists.intro
    unfold dwF fr9
    simp -implicitDefEqProofs [ev_var, ev_own, e4]
    rfl
end
end K03

namespace K03
open PySem PySem.Spec PyProof.Rows L2 ML
def drF : Nat → List W → FR
  | 0 => fun _ => .stk
  | n + 1 => fun__law_draw (fun__law_leaf fun__law_next fun__law_seen) fun__law_seen fun__law_next (fun__law_draw_call (fun__law_split fun__law_next) (drF n)) (fun__law_draw_let fun__law_next (fun__law_split fun__law_next) (drF n)) (fun__law_draw_set fun__law_next (drF n)) (drF n) (fun__law_split fun__law_next) (fun__law_draw_two (fun__law_split fun__law_next) fun__law_next (drF n))
theorem drF_ok : ∀ (n d : Nat), d < n → DrawOk (drF n) d
  | 0, _, h => by cases h
  | n + 1, 0, _ => draw0 (leaf_ok the_next seen_ok)
  | n + 1, d + 1, h => by
    have HD : DrawOk (drF n) d := drF_ok n d (by omega)
    exact drawS (leaf_ok the_next seen_ok) seen_ok the_next (fun {r} hr {ns sc size B e} h1 h2 h3 h4 h5 h6 h7 h8 h9 h10 => draw_call_ok the_split HD hr h1 h2 h3 h4 h5 h6 h7 h8 h9 h10)
      (fun {r} hr {ns sc size B b} h1 h2 h3 h4 h5 h6 h7 => draw_let_ok the_next the_split HD hr h1 h2 h3 h4 h5 h6 h7)
      (fun {r} hr {ns sc size B cs} h1 h2 h3 h4 h5 h6 h7 h8 h9 => draw_set_ok the_next HD hr h1 h2 h3 h4 h5 h6 h7 h8 h9) HD the_split
      (fun {r} hr {ns sc size B b} h1 h2 h3 h4 h5 h6 h7 => draw_two_ok the_next the_split HD hr h1 h2 h3 h4 h5 h6 h7)
/-! ### layers -/
inductive Lay where
  | ll (x : A) (b : Bk) | ln (x : A) (k : Nat)
def layL : Lay → List W
  | .ll x b => [tW [108, 101, 116], tW x, .tup [], enc b]
  | .ln x k => [tW [110, 101, 119], tW x, .int (k : Int)]
def layB : Lay → Bk → Bk
  | .ll x b, w => .nd (.lett x []) (ofL [b, w])
  | .ln x k, w => .nd (.new x k) (ofL [w])
theorem lay_enc (y : Lay) (w : Bk) : enc (layB y w) = .tup (layL y ++ [enc w]) := by
  cases y with
  | ll x b => rw [layB, enc_node]; rfl
  | ln x k => rw [layB, enc_node]; rfl
structure Dw (ns : List A) (c s p : Nat) (b : Bk) : Prop where
  w : wf (fun x => x ∈ ns) b
  bc : bc b ≤ c
  sz : sz b ≤ s
  dp : dp b ≤ p
theorem Dw.mono' {ns : List A} {c s p c' s' p' : Nat} {b : Bk} (h : Dw ns c s p b) (h1 : c ≤ c') (h2 : s ≤ s') (h3 : p ≤ p') : Dw ns c' s' p' b := ⟨h.w, Nat.le_trans h.bc h1, Nat.le_trans h.sz h2, Nat.le_trans h.dp h3⟩
def LayOk (ns : List A) : Lay → Prop
  | .ll x b => x ∈ ns ∧ Dr ns 3 3 b
  | .ln x k => x ∈ ns ∧ k < 10
theorem Dw.lay {ns : List A} {c s p : Nat} {b : Bk} {y : Lay} (h : Dw ns c s p b) (hy : LayOk ns y) (hp : 3 ≤ p) : Dw ns (c + 5) (s + 4) (p + 1) (layB y b) := by
  cases y with
  | ll x b1 =>
    obtain ⟨h1, h2⟩ := hy
    have a1 := h2.bc
    have a2 := h2.sz
    have a3 := h2.dp
    have b1' := h.bc
    have b2' := h.sz
    have b3' := h.dp
    refine ⟨⟨⟨h1, (fun m hm => nomatch hm), List.nodup_nil, Nat.zero_le _, rfl⟩, h2.w, h.w, trivial⟩, ?_, ?_, ?_⟩
    · simp [layB, ofL, K03.bc, bcL, hb]; omega
    · simp [layB, ofL, K03.sz, szL]; omega
    · simp [layB, ofL, K03.dp, dpL]; omega
  | ln x k =>
    obtain ⟨h1, h2⟩ := hy
    have b1' := h.bc
    have b2' := h.sz
    have b3' := h.dp
    refine ⟨⟨⟨h1, h2, rfl⟩, h.w, trivial⟩, ?_, ?_, ?_⟩
    · simp [layB, ofL, K03.bc, bcL, hb]; omega
    · simp [layB, ofL, K03.sz, szL]; omega
    · simp [layB, ofL, K03.dp, dpL]; omega
def frE (r kb : W) (many b : Int) (SC WL NS : W) (ls : List W) (hs : List W) (s9 s10 s11 s12 s13 : Sl) : Rho := [Sl.own r, Sl.val kb, Sl.val (.int many), Sl.val (.int b), Sl.val SC, Sl.val WL, Sl.val NS, Sl.own (.lst ls), Sl.own (.lst hs), s9, s10, s11, s12, s13]
def ddB (nx dr : List W → FR) : Rho → ML.R Fl := mSeq (mSet [0] 10 (mOp gIx (mVar 6) (mCall [0] [0] nx [mVar 0, mCB gLen [mVar 6]]))) (mIf (mTest (mOp gEq (mCall [0] [0] nx [mVar 0, mC (.int 3)]) (mC (.int 0)))) (mSeq (mSet [0] 11 (mOp gIx (mLst [0] [mC (.str "command"), mC (.str "number")]) (mCall [0] [0] nx [mVar 0, mC (.int 2)]))) (mSeq (mSet [0] 12 (mCall [0] [0] dr [mVar 0, mVar 11, mOp gAdd (mC (.int 1)) (mCall [0] [0] nx [mVar 0, mC (.int 3)]), mC (.int 2), mVar 8, mVar 5])) (mSeq (mDrop (mAppend 7 [0] (mTup [0] [mC (.str "let"), mVar 10, mTup [0] [], mVar 12]))) (mSet [0] 8 (mOp gAdd (mLst [0] [mTup [0] [mVar 10, mTup [0] [], mVar 11]]) (mVar 8)))))) (mSeq (mDrop (mAppend 7 [0] (mTup [0] [mC (.str "new"), mVar 10, mCall [0] [0] nx [mVar 0, mOp gIx (mVar 5) (mC (.int 1))]]))) (mSet [0] 8 (mOp gAdd (mLst [0] [mTup [0] [mVar 10, mTup [0] [], mC (.str "cell")]]) (mVar 8)))))
section
variable {nx dr : List W → FR} {ns : List A} {size : Nat}
theorem ddB_step (HN : NextOk nx) (HD : DrawOk dr 2) {r kb : W} {many b : Int} {SC : W} {ls : List W} {sc : List Ent} {s9 s10 s11 s12 : Sl} (hr : IsR r) (hns : ns ≠ []) (s1 : 1 ≤ size) (sz9 : size ≤ 9) (hl : ls.length ≤ 100) (hsc : Sc ns sc 200) :
    ∃ (r' : W) (y : Lay) (e : Ent) (t10 t11 t12 : Sl), ddB nx dr (frE r kb many b SC (wlW ns size) (.lst (ns.map tW)) ls (sc.map enW) s9 s10 s11 s12 Sl.no) = .ok .nx (frE r' kb many b SC (wlW ns size) (.lst (ns.map tW)) (ls ++ [.tup (layL y)]) ((e :: sc).map enW) s9 t10 t11 t12 Sl.no) ∧ IsR r' ∧ LayOk ns y ∧ e.1 ∈ ns ∧ e.2.1.length ≤ 3 := by
  have hpos : 0 < ns.length := List.length_pos_iff.mpr hns
  have hscl := hsc.len
  obtain ⟨v, r1, f1, f2, h1⟩ := HN hr (m := (ns.length : Int)) (by omega)
  obtain ⟨x, hx, ex⟩ := names_at (l := ns) (v := v) (by omega)
  obtain ⟨v2, r2, g1, g2, h2⟩ := HN h1 (m := 3) (by omega)
  have hnl : ((ns.map tW).length : Int) = (ns.length : Int) := by rw [List.length_map]
  have hz : ls.length < sizeLine := by rw [line_is]; omega
  have z1 : 1 + (sc.map enW).length ≤ sizeLine := by rw [List.length_map, line_is]; omega
  have w1 : gIx (wlW ns size) (.int 1) = some (.val, .int (size : Int)) := rfl
  by_cases c : v2 = 0
  · subst c
    obtain ⟨v3, r3, k1, k2, h3⟩ := HN h2 (m := 2) (by omega)
    obtain ⟨b1, k3⟩ := kd_at k2
    obtain ⟨v4, r4, m1, m2, h4⟩ := HN h3 (m := 3) (by omega)
    obtain ⟨bk, r5, e4, e5, h5⟩ := HD h4 (b := b1) (B := 1 + v4) (hsc.mono (by omega)) s1 sz9 hns (by omega) (by omega) (by omega)
    refine ⟨r5, .ll x bk, (x, [], some b1), Sl.val (tW x), Sl.val (kW b1), Sl.val (enc bk), ?_, h5, ⟨hx, e5.mono (by omega) (by omega)⟩, hx, Nat.zero_le _⟩
    rw [show ((1 + v4 : Nat) : Int) = 1 + (v4 : Int) by omega] at e4
    replace e4 : dr [r4, kW b1, .int (1 + (v4 : Int)), .int 2, .lst (sc.map enW), wlW ns size] = _ := e4
    have hen : ((x, [], some b1) :: sc : List Ent).map enW = .tup [tW x, .tup [], kW b1] :: sc.map enW := rfl
    rw [hen]
    show _ = ML.R.ok Fl.nx (frE r5 kb many b SC (wlW ns size) (.lst (ns.map tW)) (ls ++ [.tup [tW [108, 101, 116], tW x, .tup [], enc bk]]) (.tup [tW x, .tup [], kW b1] :: sc.map enW) s9 (Sl.val (tW x)) (Sl.val (kW b1)) (Sl.val (enc bk)) Sl.no)
    generalize wlW ns size = WL at *
    generalize ns.map tW = NS at *
    generalize sc.map enW = SCE at *
    generalize kW b1 = KB at *
    generalize enc bk = E at *
    unfold ddB frE
    simp -implicitDefEqProofs [ev_var, ev_own, ev_lenL, hnl, f1, ex, g1, k1, k3, m1, e4, hz, z1, l1, l2, l3, l4]
  · obtain ⟨k, r3, k1, k2, h3⟩ := HN h2 (m := (size : Int)) (by omega)
    refine ⟨r3, .ln x k, (x, [], none), Sl.val (tW x), s11, s12, ?_, h3, ⟨hx, by omega⟩, hx, Nat.zero_le _⟩
    have hen : ((x, [], none) :: sc : List Ent).map enW = .tup [tW x, .tup [], tW [99, 101, 108, 108]] :: sc.map enW := rfl
    rw [hen]
    show _ = ML.R.ok Fl.nx (frE r3 kb many b SC (wlW ns size) (.lst (ns.map tW)) (ls ++ [.tup [tW [110, 101, 119], tW x, .int (k : Int)]]) (.tup [tW x, .tup [], tW [99, 101, 108, 108]] :: sc.map enW) s9 (Sl.val (tW x)) s11 s12 Sl.no)
    have hg : gEq (.int (v2 : Int)) (.int 0) = some (.val, .bl false) := by simp [c]
    generalize wlW ns size = WL at *
    generalize ns.map tW = NS at *
    generalize sc.map enW = SCE at *
    unfold ddB frE
    simp -implicitDefEqProofs [ev_var, ev_own, ev_lenL, hnl, f1, ex, g1, c, k1, w1, hz, z1, l1, l2, l3]
def frG (r kb : W) (many b : Int) (SC WL NS : W) (ls : List W) (hs : W) (s9 s10 s11 s12 : Sl) (w : W) : Rho := [Sl.own r, Sl.val kb, Sl.val (.int many), Sl.val (.int b), Sl.val SC, Sl.val WL, Sl.val NS, Sl.own (.lst ls), Sl.val hs, s9, s10, s11, s12, Sl.val w]
def dgB : Rho → ML.R Fl := mSet [0] 13 (mOp gAdd (mOp gIx (mVar 7) (mOp gSub (mOp gSub (mVar 2) (mC (.int 1))) (mVar 9))) (mTup [0] [mVar 13]))
theorem dg_loop {r kb SC WL NS hs : W} {b : Int} {ys : List Lay} {s9 s10 s11 s12 : Sl} {w0 : Bk} (hy : ∀ y ∈ ys, LayOk ns y) (h0 : Dw ns 78 40 13 w0) (hl : ys.length ≤ 100) :
    ∃ (w : Bk) (t9 : Sl), forL (gSet [0] 9) dgB (intsW 0 ys.length) (frG r kb (ys.length : Int) b SC WL NS (ys.map fun y => .tup (layL y)) hs s9 s10 s11 s12 (enc w0)) = .ok .nx (frG r kb (ys.length : Int) b SC WL NS (ys.map fun y => .tup (layL y)) hs t9 s10 s11 s12 (enc w)) ∧ Dw ns (78 + 5 * ys.length) (40 + 4 * ys.length) (13 + ys.length) w := by
  have e0 : gSet [0] 9 = fun w ρ => some (ρ.set 9 (.val w)) := gset_is (by simp)
  rw [e0]
  obtain ⟨ρ1, e1, k, w, t9, rfl, hz, hk, hw⟩ := for_inv (i := 9) (g := dgB) (ρ := frG r kb (ys.length : Int) b SC WL NS (ys.map fun y => .tup (layL y)) hs s9 s10 s11 s12 (enc w0))
    (P := fun zs ρ => ∃ (k : Nat) (w : Bk) (t9 : Sl), ρ = frG r kb (ys.length : Int) b SC WL NS (ys.map fun y => .tup (layL y)) hs t9 s10 s11 s12 (enc w) ∧ zs = List.range' k (ys.length - k) ∧ k ≤ ys.length ∧ Dw ns (78 + 5 * k) (40 + 4 * k) (13 + k) w) (.inr trivial) (all2_rng ys.length) (fun a z zs' ρ q ⟨k, w, t9, er, hz, hk, hw⟩ => by
      subst er
      obtain ⟨rfl, hzk⟩ := q
      have hlt : k < ys.length := by
        rcases Nat.lt_or_ge k ys.length with h | h
        · exact h
        · rw [Nat.sub_eq_zero_of_le h] at hz; cases hz
      rw [show ys.length - k = (ys.length - (k + 1)) + 1 by omega, List.range'_succ] at hz
      obtain ⟨hz1, hz2⟩ := List.cons.inj hz
      subst hz1
      have hi : ys.length - 1 - z < ys.length := by omega
      have hat : atI (ys.map fun y => W.tup (layL y)) ((ys.length : Int) - 1 - (z : Int)) = some (.tup (layL ys[ys.length - 1 - z])) := by
        rw [show (ys.length : Int) - 1 - (z : Int) = ((ys.length - 1 - z : Nat) : Int) by omega, ML.atI_nat, List.getElem?_map, List.getElem?_eq_getElem hi]
        rfl
      have hy1 := hy ys[ys.length - 1 - z] (List.getElem_mem hi)
      generalize ys[ys.length - 1 - z] = y at *
      have hll : (layL y).length + 1 ≤ sizeLine := by
        rw [line_is]
        cases y <;> simp [layL]
      refine ⟨_, ?_, z + 1, layB y w, Sl.val (.int (z : Int)), rfl, hz2, by omega, (hw.lay hy1 (by omega)).mono' (by omega) (by omega) (by omega)⟩
      rw [lay_enc]
      generalize (ys.map fun y => W.tup (layL y)) = YS at *
      generalize (ys.length : Int) = N at *
      generalize layL y = LY at *
      generalize enc w = E at *
      unfold dgB frG
      simp -implicitDefEqProofs [ev_var, ev_own, hat, hll, l1]) ⟨0, w0, s9, rfl, rfl, by omega, h0⟩
  have hke : k = ys.length := by
    have := congrArg List.length hz
    simp at this
    omega
  rw [hke] at hw
  exact ⟨w, t9, e1, hw⟩
end
end K03

namespace K03
open PySem PySem.Spec PyProof.Rows L2 ML
section
variable {nx dr kn : List W → FR} {ns : List A} {size : Nat}
theorem deep_ok (HN : NextOk nx) (HD2 : DrawOk dr 2) (HD12 : DrawOk dr 12) {r : W} {b : Bool} {many B : Nat} {sc : List Ent} (hr : IsR r) (hns : ns ≠ []) (s1 : 1 ≤ size) (sz9 : size ≤ 9) (hsc : Sc ns sc 20) (hm : many ≤ 40) (hB : 1 ≤ B) (hB2 : B ≤ 40) :
    ∃ (bk : Bk) (r' : W), fun__law_draw_deep nx dr [r, kW b, .int (many : Int), .int (B : Int), .lst (sc.map enW), wlW ns size] = .ok false (enc bk) [r'] ∧ Dw ns (78 + 5 * many) (40 + 4 * many) (13 + many) bk ∧ IsR r' := by
  have e0 : gSet [0] 9 = fun w ρ => some (ρ.set 9 (.val w)) := gset_is (by simp)
  obtain ⟨ρ1, e1, r1, ys, sc1, t9, t10, t11, t12, rfl, h1, hy, hs1, hlen⟩ := for_inv (i := 9) (g := ddB nx dr) (ρ := frE r (kW b) (many : Int) (B : Int) (.lst (sc.map enW)) (wlW ns size) (.lst (ns.map tW)) [] (sc.map enW) Sl.no Sl.no Sl.no Sl.no Sl.no)
    (P := fun zs ρ => ∃ (r : W) (ys : List Lay) (sc1 : List Ent) (t9 t10 t11 t12 : Sl), ρ = frE r (kW b) (many : Int) (B : Int) (.lst (sc.map enW)) (wlW ns size) (.lst (ns.map tW)) (ys.map fun y => .tup (layL y)) (sc1.map enW) t9 t10 t11 t12 Sl.no ∧ IsR r ∧ (∀ y ∈ ys, LayOk ns y) ∧ Sc ns sc1 (20 + ys.length) ∧ ys.length + zs.length = many) (.inr trivial) (all2_ints many) (fun a z zs' ρ q ⟨r, ys, sc1, t9, t10, t11, t12, er, hr, hy, hs1, hlen⟩ => by
      subst er
      rw [List.length_cons] at hlen
      obtain ⟨r', y, e, u10, u11, u12, q1, q2, q3, q4, q5⟩ := ddB_step (ns := ns) (size := size) HN HD2 (kb := kW b) (many := (many : Int)) (b := (B : Int)) (SC := .lst (sc.map enW)) (ls := ys.map fun y => .tup (layL y)) (sc := sc1) (s9 := Sl.val a) (s10 := t10) (s11 := t11) (s12 := t12) hr hns s1 sz9 (by rw [List.length_map]; omega) (hs1.mono (by omega))
      refine ⟨_, q1, r', ys ++ [y], e :: sc1, Sl.val a, u10, u11, u12, by rw [List.map_append]; rfl, q2, fun x hx => ?_, (hs1.add ⟨q4, q5⟩).mono (by rw [List.length_append, List.length_singleton]; omega), by rw [List.length_append, List.length_singleton]; omega⟩
      rcases List.mem_append.mp hx with hx | hx
      · exact hy x hx
      · rw [List.mem_singleton.mp hx]; exact q3) ⟨r, [], sc, Sl.no, Sl.no, Sl.no, Sl.no, rfl, hr, (fun _ h => nomatch h), hsc, by simp⟩
  have hyl : ys.length = many := by simpa using hlen
  obtain ⟨w0, r2, e2, e3, h2⟩ := HD12 h1 (b := b) (B := B) (size := size) (hs1.mono (by omega)) s1 sz9 hns hB (by omega) (by omega)
  have hw0 : Dw ns 78 40 13 w0 := ⟨e3.w, by have := e3.bc; omega, by have := e3.sz; omega, e3.dp⟩
  obtain ⟨w, u9, e4, hw⟩ := dg_loop (r := r2) (kb := kW b) (SC := .lst (sc.map enW)) (WL := wlW ns size) (NS := .lst (ns.map tW)) (hs := .lst (sc1.map enW)) (b := (B : Int)) (s9 := t9) (s10 := t10) (s11 := t11) (s12 := t12) hy hw0 (by omega)
  rw [hyl] at e4 hw
  refine ⟨w, r2, ?_, hw, h2⟩
  have ok : okR (many : Int) = true := okR_nat (by omega)
  have w0' : gIx (wlW ns size) (.int 0) = some (.val, .lst (ns.map tW)) := rfl
  replace e2 : dr [r1, kW b, .int (B : Int), .int 12, .lst (sc1.map enW), wlW ns size] = _ := e2
  unfold frE at e1
  unfold ddB at e1
  unfold frG dgB at e4
  generalize wlW ns size = WL at *
  generalize ns.map tW = NS at *
  generalize (ys.map fun y => W.tup (layL y)) = YS at *
  generalize sc1.map enW = SC1 at *
  generalize sc.map enW = SC at *
  generalize kW b = KB at *
  generalize enc w0 = E0 at *
  generalize enc w = E at *
  unfold fun__law_draw_deep body__law_draw_deep
  rw [e0] at e4
  try simp at e1 e4
  simp -implicitDefEqProofs [ev_var, ev_own, w0', e0, ok, e1, e2, e4]
/-! outside -/
def frH (r NS : W) (scs : List W) (s3 s4 s5 s6 : Sl) : Rho := [Sl.own r, Sl.val NS, Sl.own (.lst scs), s3, s4, s5, s6, Sl.no]
def ouB (nx kn : List W → FR) : Rho → ML.R Fl := mSeq (mSet [0] 4 (mCall [0] [0] nx [mVar 0, mC (.int 5)])) (mSeq (mSet [0] 5 (mLcO [0] 2 (.nm 7) (mTest (mOp gEq (mOp gIx (mVar 7) (mC (.int 2))) (mC (.str "cell")))) (mVar 7))) (mSeq (mIf (mAnd (mTest (mOp (gCmp (fun i j => decide (i < j))) (mVar 4) (mC (.int 2)))) (mTest (mOp (gCmp (fun i j => decide (i < j))) (mCB gLen [mVar 5]) (mC (.int 4))))) (mDrop (mAppend 2 [0] (mTup [0] [mVar 3, mTup [0] [], mC (.str "cell")]))) (mNext)) (mIf (mAnd (mTest (mOp (gIn false) (mVar 4) (mTup [0] [mC (.int 2), mC (.int 3)]))) (mTest (mOp (gCmp (fun i j => decide (i < j))) (mOp gSub (mCB gLen [mVar 2]) (mCB gLen [mVar 5])) (mC (.int 6))))) (mSeq (mSet [0] 6 (mCall [0] [0] kn [mVar 0, mOp gIx (mLst [0] [mC (.int 0), mC (.int 1), mC (.int 1), mC (.int 2), mC (.int 3)]) (mCall [0] [0] nx [mVar 0, mC (.int 5)])])) (mDrop (mAppend 2 [0] (mTup [0] [mVar 3, mVar 6, mOp gIx (mLst [0] [mC (.str "command"), mC (.str "number")]) (mCall [0] [0] nx [mVar 0, mC (.int 2)])])))) (mNext))))
theorem cellsO_ok {se : List Ent} {ρ : Rho} (ho : ownAt ρ 2 = some (.lst (se.map enW))) (hn : ρ.set 7 .no = ρ) (hjl : 7 < ρ.length) (hl : se.length ≤ 10000) :
    mLcO [0] 2 (.nm 7) (mTest (mOp gEq (mOp gIx (mVar 7) (mC (.int 2))) (mC (.str (S [99, 101, 108, 108]))))) (mVar 7) ρ = .ok (.fre, .lst ((se.filter cellF).map enW)) ρ := by
  refine lcO_ok (f := cellF) (g := enW) (Q := fun (w : W) (e : Ent) => w = enW e) ho (by simp) (by simp) (all2_ent se) hn (fun w e q => ?_) (fun w e q _ => ?_) (by rw [List.length_map, line_is]; omega)
  · subst q
    have h1 : (ρ.set 7 (.val (enW e)))[7]? = some (.val (enW e)) := List.getElem?_set_self hjl
    have hx : gIx (enW e) (.int 2) = some (.val, tW (ekd e.2.2)) := rfl
    have he := ekd_eq e.2.2 [99, 101, 108, 108]
    unfold cellF
    generalize tW (ekd e.2.2) = T at *
    generalize enW e = E at *
    generalize ρ.set 7 (.val E) = R at *
    simp -implicitDefEqProofs [ev_var, h1, hx, he]
  · subst q
    have h1 : (ρ.set 7 (.val (enW e)))[7]? = some (.val (enW e)) := List.getElem?_set_self hjl
    generalize enW e = E at *
    generalize ρ.set 7 (.val E) = R at *
    simp -implicitDefEqProofs [ev_var, h1]
theorem ouB_step (HN : NextOk nx) (HK : KindsOk kn) {r NS : W} {sc : List Ent} {x : A} {s4 s5 s6 : Sl} (hr : IsR r) (hx : x ∈ ns) {n : Nat} (hsc : Sc ns sc n) (hn : n ≤ 20) :
    ∃ (r' : W) (sc' : List Ent) (t4 t5 t6 : Sl), ouB nx kn (frH r NS (sc.map enW) (Sl.val (tW x)) s4 s5 s6) = .ok .nx (frH r' NS (sc'.map enW) (Sl.val (tW x)) t4 t5 t6) ∧ IsR r' ∧ Sc ns sc' (n + 1) := by
  have hscl := hsc.len
  obtain ⟨v, r1, f1, f2, h1⟩ := HN hr (m := 5) (by omega)
  have ec := cellsO_ok (se := sc) (ρ := frH r1 NS (sc.map enW) (Sl.val (tW x)) (Sl.val (.int (v : Int))) s5 s6) rfl rfl (by simp [frH]) (by omega)
  have hcl : (((sc.filter cellF).map enW).length : Int) = ((sc.filter cellF).length : Int) := by rw [List.length_map]
  have hsl : ((sc.map enW).length : Int) = (sc.length : Int) := by rw [List.length_map]
  have hz : (sc.map enW).length < sizeLine := by rw [List.length_map, line_is]; omega
  unfold frH at ec
  generalize (sc.filter cellF).map enW = CE at *
  generalize (sc.filter cellF).length = cn at *
  have pre : ∀ (T : Rho → ML.R Fl), mSeq (mSet [0] 4 (mCall [0] [0] nx [mVar 0, mC (.int 5)])) (mSeq (mSet [0] 5 (mLcO [0] 2 (.nm 7) (mTest (mOp gEq (mOp gIx (mVar 7) (mC (.int 2))) (mC (.str "cell")))) (mVar 7))) T) (frH r NS (sc.map enW) (Sl.val (tW x)) s4 s5 s6) = T (frH r1 NS (sc.map enW) (Sl.val (tW x)) (Sl.val (.int (v : Int))) (Sl.own (.lst CE)) s6) := fun T => by
    unfold frH
    generalize sc.map enW = SC at *
    simp -implicitDefEqProofs [ev_var, ev_own, f1, ec]
  unfold ouB
  rw [pre]
  have hv : v < 5 := by omega
  by_cases c1 : v < 2
  · have c1' : (v : Int) < 2 := by omega
    have hin : gIn false (.int (v : Int)) (.tup [.int 2, .int 3]) = some (.val, .bl false) := by
      have : v = 0 ∨ v = 1 := by omega
      rcases this with rfl | rfl <;> rfl
    by_cases c2 : (cn : Int) < 4
    · refine ⟨r1, sc ++ [(x, [], none)], Sl.val (.int (v : Int)), Sl.own (.lst CE), s6, ?_, h1, ⟨fun e he => ?_, by rw [List.length_append, List.length_singleton]; omega⟩⟩
      · rw [List.map_append]
        have hen : [((x, [], none) : Ent)].map enW = [.tup [tW x, .tup [], tW [99, 101, 108, 108]]] := rfl
        rw [hen]
        unfold frH
        generalize sc.map enW = SC at *
        simp -implicitDefEqProofs [ev_var, ev_own, c1', ev_lenL, hcl, c2, hz, hin, l2, l3]
      · rcases List.mem_append.mp he with he | he
        · exact hsc.nm e he
        · rw [List.mem_singleton.mp he]; exact ⟨hx, Nat.zero_le _⟩
    · refine ⟨r1, sc, Sl.val (.int (v : Int)), Sl.own (.lst CE), s6, ?_, h1, hsc.mono (by omega)⟩
      unfold frH
      generalize sc.map enW = SC at *
      simp -implicitDefEqProofs [ev_var, ev_own, c1', ev_lenL, hcl, c2, hin, l2]
  · have c1' : ¬ (v : Int) < 2 := by omega
    by_cases c3 : v < 4
    · have hin : gIn false (.int (v : Int)) (.tup [.int 2, .int 3]) = some (.val, .bl true) := by
        have : v = 2 ∨ v = 3 := by omega
        rcases this with rfl | rfl <;> rfl
      by_cases c2 : (sc.length : Int) - (cn : Int) < 6
      · obtain ⟨v2, r2, g1, g2, h2⟩ := HN h1 (m := 5) (by omega)
        obtain ⟨cnt, k1, k2⟩ := cnt_at g2
        obtain ⟨bs, r3, m1, m2, h3⟩ := HK h2 (k := cnt) k1
        obtain ⟨v3, r4, p1, p2, h4⟩ := HN h3 (m := 2) (by omega)
        obtain ⟨b1, p3⟩ := kd_at p2
        refine ⟨r4, sc ++ [(x, bs, some b1)], Sl.val (.int (v : Int)), Sl.own (.lst CE), Sl.val (.tup (bs.map kW)), ?_, h4, ⟨fun e he => ?_, by rw [List.length_append, List.length_singleton]; omega⟩⟩
        · rw [List.map_append]
          have hen : [((x, bs, some b1) : Ent)].map enW = [.tup [tW x, .tup (bs.map kW), kW b1]] := rfl
          rw [hen]
          have l5 : (5 ≤ sizeLine) = True := by simp [line_is]
          unfold frH
          generalize sc.map enW = SC at *
          generalize bs.map kW = BS at *
          generalize kW b1 = KB at *
          simp -implicitDefEqProofs [ev_var, ev_own, c1', ev_lenL, hcl, hsl, c2, hz, hin, g1, k2, m1, p1, p3, l2, l3, l5]
        · rcases List.mem_append.mp he with he | he
          · exact hsc.nm e he
          · rw [List.mem_singleton.mp he]; exact ⟨hx, by rw [m2]; exact k1⟩
      · refine ⟨r1, sc, Sl.val (.int (v : Int)), Sl.own (.lst CE), s6, ?_, h1, hsc.mono (by omega)⟩
        unfold frH
        generalize sc.map enW = SC at *
        simp -implicitDefEqProofs [ev_var, ev_own, c1', ev_lenL, hcl, hsl, c2, hin, l2]
    · have hin : gIn false (.int (v : Int)) (.tup [.int 2, .int 3]) = some (.val, .bl false) := by
        have : v = 4 := by omega
        rw [this]; rfl
      refine ⟨r1, sc, Sl.val (.int (v : Int)), Sl.own (.lst CE), s6, ?_, h1, hsc.mono (by omega)⟩
      unfold frH
      generalize sc.map enW = SC at *
      simp -implicitDefEqProofs [ev_var, ev_own, c1', hin, l2]
theorem outside_ok (HN : NextOk nx) (HK : KindsOk kn) {r : W} (hr : IsR r) (hl : ns.length ≤ 9) : ∃ (sc : List Ent) (r' : W), fun__law_outside nx kn [r, .lst (ns.map tW)] = .ok true (.lst (sc.map enW)) [r'] ∧ Sc ns sc 20 ∧ IsR r' := by
  have e0 : gSet [0] 3 = fun w ρ => some (ρ.set 3 (.val w)) := gset_is (by simp)
  have hall : All2 (fun (w : W) (x : A) => w = tW x ∧ x ∈ ns) (ns.map tW) ns := by
    have : ∀ l : List A, (∀ e ∈ l, e ∈ ns) → All2 (fun (w : W) (x : A) => w = tW x ∧ x ∈ ns) (l.map tW) l := fun l => by
      induction l with
      | nil => exact fun _ => .nil
      | cons e l ih => exact fun h => .cons ⟨rfl, h e (List.mem_cons_self ..)⟩ (ih fun y hy => h y (List.mem_cons_of_mem _ hy))
    exact this ns fun _ h => h
  obtain ⟨ρ1, e1, r1, sc, n, t3, t4, t5, t6, rfl, h1, hsc, hn⟩ := for_inv (i := 3) (g := ouB nx kn) (ρ := frH r (.lst (ns.map tW)) [] Sl.no Sl.no Sl.no Sl.no)
    (P := fun zs ρ => ∃ (r : W) (sc : List Ent) (n : Nat) (t3 t4 t5 t6 : Sl), ρ = frH r (.lst (ns.map tW)) (sc.map enW) t3 t4 t5 t6 ∧ IsR r ∧ Sc ns sc n ∧ n + zs.length ≤ 9) (.inr trivial) hall (fun a z zs' ρ q ⟨r, sc, n, t3, t4, t5, t6, er, hr, hsc, hn⟩ => by
      subst er
      obtain ⟨rfl, hz⟩ := q
      rw [List.length_cons] at hn
      obtain ⟨r', sc', u4, u5, u6, q1, q2, q3⟩ := ouB_step (ns := ns) HN HK (NS := .lst (ns.map tW)) (sc := sc) (x := z) (s4 := t4) (s5 := t5) (s6 := t6) hr hz hsc (by omega)
      exact ⟨_, q1, r', sc', n + 1, Sl.val (tW z), u4, u5, u6, rfl, q2, q3, by omega⟩) ⟨r, [], 0, Sl.no, Sl.no, Sl.no, Sl.no, rfl, hr, ⟨(fun _ h => nomatch h), Nat.le_refl _⟩, by omega⟩
  refine ⟨sc, r1, ?_, hsc.mono (by omega), h1⟩
  unfold frH at e1
  unfold ouB at e1
  generalize ns.map tW = NS at *
  generalize sc.map enW = SC at *
  unfold fun__law_outside body__law_outside
  try simp at e1
  simp -implicitDefEqProofs [ev_var, ev_own, e0, e1]
end
end K03

namespace K03
open PySem PySem.Spec PyProof.Rows L2 ML
/-! ### the law's block -/
def RdOk (rd : List W → FR) (sc : W) : Prop := ∀ k : Nat, ∃ r, rd [sc, .int (k : Int)] = .ok true r [] ∧ IsR r
def NamesOk (nm : List W → FR) : Prop := ∀ {r : W}, IsR r → ∀ (k : Nat), 1 ≤ k → k ≤ 100 → ∃ (l : List A) (r' : W), nm [r, .int (k : Int)] = .ok true (.lst (l.map tW)) [r'] ∧ l ≠ [] ∧ (∀ x ∈ l, IsName x) ∧ l.length ≤ k ∧ IsR r'
def OutOk (ou : List W → FR) : Prop := ∀ {r : W}, IsR r → ∀ {ns : List A}, ns.length ≤ 9 → ∃ (sc : List Ent) (r' : W), ou [r, .lst (ns.map tW)] = .ok true (.lst (sc.map enW)) [r'] ∧ Sc ns sc 20 ∧ IsR r'
def DeepOk (dd : List W → FR) : Prop := ∀ {r : W} {ns : List A} {size : Nat} {b : Bool} {many B : Nat} {sc : List Ent}, IsR r → ns ≠ [] → 1 ≤ size → size ≤ 9 → Sc ns sc 20 → many ≤ 40 → 1 ≤ B → B ≤ 40 →
  ∃ (bk : Bk) (r' : W), dd [r, kW b, .int (many : Int), .int (B : Int), .lst (sc.map enW), wlW ns size] = .ok false (enc bk) [r'] ∧ Dw ns (78 + 5 * many) (40 + 4 * many) (13 + many) bk ∧ IsR r'
theorem many_at {u v : Nat} (hu : (u : Int) < 8) (hv : (v : Int) < 40) : ∃ n : Nat, n ≤ 40 ∧ atI [W.int 0, W.int 0, W.int 0, W.int 0, W.int 1, W.int 2, W.int 3, W.int (1 + (v : Int))] (u : Int) = some (.int (n : Int)) := by
  obtain ⟨n, h1, h2⟩ := at_nat (l := [0, 0, 0, 0, 1, 2, 3, 1 + v]) (v := u) (by simp; omega)
  exact ⟨n, by simp at h1; omega, h2⟩
def rpB : Rho → ML.R Fl := mSet [] 8 (mTup [] [mOp gIx (mLst [] [mC (.str "then"), mC (.str "plus")]) (mCB gInt [mOp gEq (mVar 4) (mC (.str "number"))]), mVar 7, mVar 8])
def frQ (a0 a1 a2 a3 a5 a6 : Sl) (b : Bool) (w7 w8 : W) (s9 : Sl) : Rho := [a0, a1, a2, a3, Sl.val (kW b), a5, a6, Sl.val w7, Sl.val w8, s9]
theorem rp_loop {ns : List A} {a0 a1 a2 a3 a5 a6 : Sl} {b : Bool} {bk : Bk} {n : Nat} (h0 : Dw ns 93 52 16 bk) (hn : n ≤ 5) :
    ∃ (w : Bk) (s9 : Sl), forL (gSet [] 9) rpB (intsW 0 n) (frQ a0 a1 a2 a3 a5 a6 b (enc bk) (enc bk) Sl.no) = .ok .nx (frQ a0 a1 a2 a3 a5 a6 b (enc bk) (enc w) s9) ∧ Dw ns 600 2000 60 w := by
  have e0 : gSet [] 9 = fun w ρ => some (ρ.set 9 (.val w)) := gset_is (by simp)
  rw [e0]
  obtain ⟨ρ1, e1, k, w, s9, rfl, hk, hw⟩ := for_inv (i := 9) (g := rpB) (ρ := frQ a0 a1 a2 a3 a5 a6 b (enc bk) (enc bk) Sl.no)
    (P := fun zs ρ => ∃ (k : Nat) (w : Bk) (s9 : Sl), ρ = frQ a0 a1 a2 a3 a5 a6 b (enc bk) (enc w) s9 ∧ k + zs.length = n ∧ Dw ns (93 * (k + 1)) (53 * (k + 1)) (16 + k) w) (.inr trivial) (all2_ints n) (fun a z zs' ρ q ⟨k, w, s9, er, hk, hw⟩ => by
      subst er
      rw [List.length_cons] at hk
      have key : ∀ t, t ∈ opsL → Dw ns (93 * (k + 1 + 1)) (53 * (k + 1 + 1)) (16 + (k + 1)) (.nd (.op t) (ofL [bk, w])) := fun t ht => by
        have b1 := h0.bc
        have b2 := h0.sz
        have b3 := h0.dp
        have c1 := hw.bc
        have c2 := hw.sz
        have c3 := hw.dp
        refine ⟨⟨.inl ⟨ht, rfl⟩, h0.w, hw.w, trivial⟩, ?_, ?_, ?_⟩
        · simp [ofL, K03.bc, bcL, hb]; omega
        · simp [ofL, K03.sz, szL]; omega
        · simp [ofL, K03.dp, dpL]; omega
      cases b with
      | false =>
        refine ⟨frQ a0 a1 a2 a3 a5 a6 false (enc bk) (enc (.nd (.op [116, 104, 101, 110]) (ofL [bk, w]))) (Sl.val a), ?_, k + 1, _, _, rfl, by omega, key [116, 104, 101, 110] (by decide)⟩
        rw [enc_node]
        have hen : encH (.op [116, 104, 101, 110]) ([bk, w].map enc) = .tup [tW [116, 104, 101, 110], enc bk, enc w] := rfl
        rw [hen]
        have e : gEq (kW false) (.str (S [110, 117, 109, 98, 101, 114])) = some (.val, .bl false) := by simp [kd]
        generalize enc bk = E1 at *
        generalize enc w = E2 at *
        unfold rpB frQ
        generalize kW false = KB at *
        simp -implicitDefEqProofs [ev_var, ev_own, e, l2, l3]
      | true =>
        refine ⟨frQ a0 a1 a2 a3 a5 a6 true (enc bk) (enc (.nd (.op [112, 108, 117, 115]) (ofL [bk, w]))) (Sl.val a), ?_, k + 1, _, _, rfl, by omega, key [112, 108, 117, 115] (by decide)⟩
        rw [enc_node]
        have hen : encH (.op [112, 108, 117, 115]) ([bk, w].map enc) = .tup [tW [112, 108, 117, 115], enc bk, enc w] := rfl
        rw [hen]
        have e : gEq (kW true) (.str (S [110, 117, 109, 98, 101, 114])) = some (.val, .bl true) := by simp [kd]
        generalize enc bk = E1 at *
        generalize enc w = E2 at *
        unfold rpB frQ
        generalize kW true = KB at *
        simp -implicitDefEqProofs [ev_var, ev_own, e, l2, l3]) ⟨0, bk, Sl.no, rfl, by simp, h0.mono' (by omega) (by omega) (by omega)⟩
  have hk' : k = n := by simpa using hk
  exact ⟨w, s9, e1, hw.mono' (by omega) (by omega) (by omega)⟩
def BuiltOk (bu : List W → FR) (sc : W) : Prop := ∃ (ns : List A) (bk : Bk), bu [sc] = .ok true (.lst [.lst (ns.map tW), enc bk]) [] ∧ ns ≠ [] ∧ (∀ x ∈ ns, IsName x) ∧ ns.length ≤ 8 ∧ Dw ns 600 2000 60 bk
theorem built_ok {rd nx nm ou dd : List W → FR} {sc : W} (HR : RdOk rd sc) (HN : NextOk nx) (HM : NamesOk nm) (HO : OutOk ou) (HD : DeepOk dd) : BuiltOk (fun__law_built rd nx nm ou dd) sc := by
  obtain ⟨r0, a1, h0⟩ := HR 0
  obtain ⟨v1, r1, b1, b2, h1⟩ := HN h0 (m := 5) (by omega)
  obtain ⟨ns, r2, c1, hns, hnm, hnl, h2⟩ := HM h1 (4 + v1) (by omega) (by omega)
  have hnl8 : ns.length ≤ 8 := by omega
  rw [show ((4 + v1 : Nat) : Int) = 4 + (v1 : Int) by omega] at c1
  obtain ⟨scp, r3, d1, hsc, h3⟩ := HO h2 (ns := ns) (by omega)
  obtain ⟨v2, r4, e1, e2, h4⟩ := HN h3 (m := 2) (by omega)
  obtain ⟨b, e3⟩ := kd_at e2
  obtain ⟨v3, r5, f1, f2, h5⟩ := HN h4 (m := 40) (by omega)
  obtain ⟨v4, r6, g1, g2, h6⟩ := HN h5 (m := 8) (by omega)
  obtain ⟨many, hm, g3⟩ := many_at g2 f2
  obtain ⟨v5, r7, i1, i2, h7⟩ := HN h6 (m := 3) (by omega)
  obtain ⟨v6, r8, j1, j2, h8⟩ := HN h7 (m := 33) (by omega)
  obtain ⟨bk, r9, k1, k2, h9⟩ := HD (size := 2 + v5) (b := b) (B := 8 + v6) h8 hns (by omega) (by omega) hsc hm (by omega) (by omega)
  rw [show ((8 + v6 : Nat) : Int) = 8 + (v6 : Int) by omega] at k1
  have hwl : wlW ns (2 + v5) = .lst [.lst (ns.map tW), .int (2 + (v5 : Int)), tW []] := rfl
  rw [hwl] at k1
  replace a1 : rd [sc, .int 0] = _ := a1
  have l8 : (8 ≤ sizeLine) = True := by simp [line_is]
  by_cases q1 : many < 4
  · have q1' : (many : Int) < 4 := by omega
    obtain ⟨v7, r10, m1, m2, h10⟩ := HN h9 (m := 5) (by omega)
    have hdw : Dw ns 93 52 16 bk := k2.mono' (by omega) (by omega) (by omega)
    by_cases q2 : v7 = 0
    · subst q2
      obtain ⟨v8, r11, n1, n2, h11⟩ := HN h10 (m := 5) (by omega)
      obtain ⟨w, s9, p1, p2⟩ := rp_loop (ns := ns) (a0 := Sl.val sc) (a1 := Sl.own r11) (a2 := Sl.val (.lst (ns.map tW))) (a3 := Sl.val (.lst (scp.map enW))) (a5 := Sl.val (.int (many : Int))) (a6 := Sl.val (.lst [.lst (ns.map tW), .int (2 + (v5 : Int)), tW []])) (b := b) (n := 1 + v8) hdw (by omega)
      refine ⟨ns, w, ?_, hns, hnm, hnl8, p2⟩
      have ok : okR (1 + (v8 : Int)) = true := by
        have := okR_nat (n := 1 + v8) (by omega)
        rwa [show ((1 + v8 : Nat) : Int) = 1 + (v8 : Int) by omega] at this
      have tn : (1 + (v8 : Int)).toNat = 1 + v8 := by omega
      unfold rpB frQ at p1
      generalize ns.map tW = NS at *
      generalize scp.map enW = SC at *
      generalize kW b = KB at *
      generalize enc bk = E at *
      generalize enc w = E2 at *
      unfold fun__law_built body__law_built
      try simp at p1
      simp -implicitDefEqProofs [ev_var, ev_own, a1, b1, c1, d1, e1, e3, f1, g1, g3, i1, j1, k1, q1', m1, n1, ok, tn, p1, l2, l3, l8]
    · refine ⟨ns, bk, ?_, hns, hnm, hnl8, hdw.mono' (by omega) (by omega) (by omega)⟩
      generalize ns.map tW = NS at *
      generalize scp.map enW = SC at *
      generalize kW b = KB at *
      generalize enc bk = E at *
      unfold fun__law_built body__law_built
      simp -implicitDefEqProofs [ev_var, ev_own, a1, b1, c1, d1, e1, e3, f1, g1, g3, i1, j1, k1, q1', m1, q2, l2, l3, l8]
  · have q1' : ¬ (many : Int) < 4 := by omega
    refine ⟨ns, bk, ?_, hns, hnm, hnl8, k2.mono' (by omega) (by omega) (by omega)⟩
    generalize ns.map tW = NS at *
    generalize scp.map enW = SC at *
    generalize kW b = KB at *
    generalize enc bk = E at *
    unfold fun__law_built body__law_built
    simp -implicitDefEqProofs [ev_var, ev_own, a1, b1, c1, d1, e1, e3, f1, g1, g3, i1, j1, k1, q1', l2, l3, l8]
/-! what is left out -/
theorem nm_NA {x : A} (h : IsName x) : NA x := fun c hc => by
  rcases h.all c hc with h | h
  · simp [lowC] at h; omega
  · simp [digC] at h; omega
def loB (nx : List W → FR) : Rho → ML.R Fl := mSeq (mSet [0] 4 (mCall [0] [0] nx [mVar 0, mC (.int 20)])) (mIf (mTest (mOp (gCmp (fun i j => decide (i < j))) (mVar 4) (mC (.int 14)))) (mDrop (mAppend 2 [0] (mOp gAdd (mC (.str "n")) (mCB gStr [mVar 4])))) (mDrop (mAppend 2 [0] (mOp gIx (mVar 1) (mCall [0] [0] nx [mVar 0, mCB gLen [mVar 1]])))))
def LeftOk (lo : List W → FR) : Prop := ∀ {r : W}, IsR r → ∀ {ns : List A}, ns ≠ [] → (∀ x ∈ ns, IsName x) → ∃ (left : List A) (r' : W), lo [r, .lst (ns.map tW)] = .ok true (.lst (left.map tW)) [r'] ∧ left.length ≤ 12 ∧ (∀ x ∈ left, NA x) ∧ IsR r'
theorem left_ok {nx : List W → FR} (HN : NextOk nx) : LeftOk (fun__law_left_out nx) := fun {r} hr {ns} hns hnm => by
  have hpos : 0 < ns.length := List.length_pos_iff.mpr hns
  have e0 : gSet [0] 3 = fun w ρ => some (ρ.set 3 (.val w)) := gset_is (by simp)
  obtain ⟨v, r1, f1, f2, h1⟩ := HN hr (m := 13) (by omega)
  have hnl : ((ns.map tW).length : Int) = (ns.length : Int) := by rw [List.length_map]
  obtain ⟨ρ1, e1, r2, left, t3, t4, rfl, h2, hl, hna⟩ := for_inv (i := 3) (g := loB nx) (ρ := [Sl.own r1, Sl.val (.lst (ns.map tW)), Sl.own (.lst []), Sl.no, Sl.no])
    (P := fun zs ρ => ∃ (r : W) (left : List A) (t3 t4 : Sl), ρ = [Sl.own r, Sl.val (.lst (ns.map tW)), Sl.own (.lst (left.map tW)), t3, t4] ∧ IsR r ∧ left.length + zs.length = v ∧ ∀ x ∈ left, NA x) (.inr trivial) (all2_ints v) (fun a z zs' ρ q ⟨r, left, t3, t4, er, hr, hl, hna⟩ => by
      subst er
      rw [List.length_cons] at hl
      obtain ⟨p, r2, g1, g2, h2⟩ := HN hr (m := 20) (by omega)
      have hz : (left.map tW).length < sizeLine := by rw [List.length_map, line_is]; omega
      by_cases c : (p : Int) < 14
      · have hs := ev_strI (n := p) (by omega)
        have hle := num_le p (by omega)
        have ha := ev_addSS (a := [110]) (b := TL.numL p) (by simp; omega)
        replace ha : gAdd (.str (S [110])) (.str (S (TL.numL p))) = some (.val, .str (S (nk p))) := ha
        refine ⟨[Sl.own r2, Sl.val (.lst (ns.map tW)), Sl.own (.lst ((left ++ [nk p]).map tW)), Sl.val a, Sl.val (.int (p : Int))], ?_, r2, left ++ [nk p], _, _, rfl, h2, by rw [List.length_append, List.length_singleton]; omega, fun x hx => ?_⟩
        · rw [List.map_append]
          generalize left.map tW = LW at *
          generalize ns.map tW = NS at *
          unfold loB
          simp -implicitDefEqProofs [ev_var, ev_own, g1, c, hs, ha, hz]
        · rcases List.mem_append.mp hx with hx | hx
          · exact hna x hx
          · rw [List.mem_singleton.mp hx]; exact nk_NA (by omega)
      · obtain ⟨u, r3, k1, k2, h3⟩ := HN h2 (m := (ns.length : Int)) (by omega)
        obtain ⟨y, hy, k3⟩ := names_at (l := ns) (v := u) (by omega)
        refine ⟨[Sl.own r3, Sl.val (.lst (ns.map tW)), Sl.own (.lst ((left ++ [y]).map tW)), Sl.val a, Sl.val (.int (p : Int))], ?_, r3, left ++ [y], _, _, rfl, h3, by rw [List.length_append, List.length_singleton]; omega, fun x hx => ?_⟩
        · rw [List.map_append]
          generalize left.map tW = LW at *
          generalize ns.map tW = NS at *
          unfold loB
          simp -implicitDefEqProofs [ev_var, ev_own, ev_lenL, hnl, g1, c, k1, k3, hz]
        · rcases List.mem_append.mp hx with hx | hx
          · exact hna x hx
          · rw [List.mem_singleton.mp hx]; exact nm_NA (hnm y hy)) ⟨r1, [], Sl.no, Sl.no, rfl, h1, by simp, (fun _ h => nomatch h)⟩
  refine ⟨left, r2, ?_, by simp at hl; omega, hna, h2⟩
  have ok : okR (v : Int) = true := okR_nat (by omega)
  unfold loB at e1
  generalize left.map tW = LW at *
  generalize ns.map tW = NS at *
  unfold fun__law_left_out body__law_left_out
  try simp at e1
  simp -implicitDefEqProofs [ev_var, ev_own, f1, ok, e0, e1]
end K03

namespace K03
open PySem PySem.Spec PyProof.Rows L2 ML
/-! ### the law -/
theorem eq_self {d : Nat} {v w : W} (h : Lsd d v w) (hd : d ≤ 150) : gEq v v = some (.val, .bl true) := by
  obtain ⟨x, e1, e2, e3⟩ := toD_ok h
  have e : eqW v v = some true := by
    unfold eqW
    split
    · simp
    · rw [e1]
      have := SeqAt.eqv_refl x e2
      have h5 : x.depth ≤ 150 := by omega
      simp [e2, this, h5]
  unfold gEq
  rw [e]
  rfl
theorem law_step {bu rd lo nx li du rn_ sa : List W → FR} {sc NS E G D0 D1 D2 r r1 r2 r3 : W} {LW : List W} {v u : Int} {fr : Bool}
    (a1 : bu [sc] = .ok true (.lst [NS, E]) []) (a2 : rd [sc, .int 3] = .ok true r []) (a3 : lo [r, NS] = .ok true (.lst LW) [r1]) (a4 : nx [r1, .int 8] = .ok false (.int v) [r2]) (a5 : li [E, .int v] = .ok fr G []) (a6 : nx [r2, .int 2] = .ok false (.int u) [r3])
    (b1 : du [E, .lst LW] = .ok false D1 []) (b2 : nox rn_ [G, .lst LW] = .ok false D1 []) (b3 : nox rn_ [G, .tup LW] = .ok false D1 []) (b4 : sa [D1, D1] = .ok false (.bl true) []) (b5 : gNe G G = some (.val, .bl false)) (b6 : gNe (.lst LW) (.lst LW) = some (.val, .bl false))
    (c1 : du [E, .lst []] = .ok false D0 []) (c2 : rn_ [E, .tup []] = .ok false D0 []) (c3 : sa [D0, D0] = .ok false (.bl true) []) {NL : List W} (hn : NS = .lst NL) (d1 : nox rn_ [D1, .lst NL] = .ok false D2 []) (d2 : du [D1, .lst NL] = .ok false D2 []) (d3 : sa [D2, D2] = .ok false (.bl true) []) (d4 : gEq (.lst NL) (.lst NL) = some (.val, .bl true)) :
    fun_law bu rd lo nx li du rn_ sa [sc] = .ok false (.bl true) [] := by
  subst hn
  unfold fun_law body_law
  generalize nox rn_ = nr at *
  by_cases hu : u = 0
  · subst hu
    cases fr <;> simp -implicitDefEqProofs [ev_var, ev_own, a1, a2, a3, a4, a5, a6, b1, b2, b3, b4, b5, b6, c1, c2, c3, d1, d2, d3, d4]
  · cases fr <;> simp -implicitDefEqProofs [ev_var, ev_own, a1, a2, a3, a4, a5, a6, hu, b1, b2, b3, b4, b5, b6, c1, c2, c3, d1, d2, d3, d4]
noncomputable def duF : List W → FR := fun__law_renamed_due (lfF 60) (lrF 60)
theorem frozen_l {l : List A} (h : ∀ x ∈ l, NA x) (hl : l.length ≤ 1000) : frF 130 [.lst (l.map tW)] = .ok false (.tup (l.map tW)) [] := frozen_ok 130 (lsd_l (d := 129) (lsd_names (d := 128) h) (by rw [List.length_map]; exact hl))
theorem frozen_t {l : List A} (h : ∀ x ∈ l, NA x) (hl : l.length ≤ 1000) : frF 130 [.tup (l.map tW)] = .ok false (.tup (l.map tW)) [] := frozen_ok 130 (lsd_t (d := 129) (lsd_names (d := 128) h) (by rw [List.length_map]; exact hl))
theorem law_ok {bu rd lo nx : List W → FR} {sc : W} (HB : BuiltOk bu sc) (HR : RdOk rd sc) (HL : LeftOk lo) (HN : NextOk nx) : fun_law bu rd lo nx (liF 130) duF rdF (saF 130) [sc] = .ok false (.bl true) [] := by
  obtain ⟨ns, bk, a1, hns, hnm, hnl, hw⟩ := HB
  obtain ⟨r, a2, h0⟩ := HR 3
  obtain ⟨left, r1, a3, hll, hla, h1⟩ := HL h0 hns hnm
  obtain ⟨v, r2, a4, _, h2⟩ := HN h1 (m := 8) (by omega)
  obtain ⟨u, r3, a6, _, h3⟩ := HN h2 (m := 2) (by omega)
  have hna : ∀ x ∈ ns, NA x := fun x hx => nm_NA (hnm x hx)
  have G : Gb NA ns bk := ⟨wf.mono (fun x hx => hna x hx) bk hw.w, fun y hy => fv_wf bk hw.w hy, hw.dp, Nat.le_trans hw.sz (by omega), hw.bc⟩
  obtain ⟨fr, gv, a5, hgv⟩ := listed_ok 130 (i := (v : Int)) G.lsd
  have fz := frozen_ok 130 G.lsd
  have fg := frozen_ok 130 hgv
  obtain ⟨o1, o2, o3, b1⟩ := e_due G (left := left) (by omega)
  have b2 := e_renamed G fg fz (frozen_l hla (by omega)) (by omega) (by omega) o2 o3
  have b3 := e_renamed G fg fz (frozen_t hla (by omega)) (by omega) (by omega) o2 o3
  have G1 := G.due o3
  obtain ⟨p1, p2, p3, c1⟩ := e_due G (left := []) (by simp; omega)
  have c2 := e_renamed G fz fz (frozen_t (l := []) (fun _ h => nomatch h) (by simp)) (by omega) (by simp) p2 p3
  have G0 := G.due p3
  obtain ⟨q1, q2, q3, d2⟩ := e_due G1 (left := ns) (by omega)
  have f1 := frozen_ok 130 G1.lsd
  have d1 := e_renamed G1 f1 f1 (frozen_l hna (by omega)) (by omega) (by omega) q2 q3
  have G2 := G1.due q3
  refine law_step (sc := sc) (v := (v : Int)) (u := (u : Int)) a1 a2 a3 a4 a5 a6 b1 (nox_ok b2) (nox_ok b3) (same_ok 130 G1.lsd) (ne_self hgv (by omega)) (ne_self (lsd_l (d := 129) (lsd_names (d := 128) hla) (by rw [List.length_map]; omega)) (by omega)) c1 c2 (same_ok 130 G0.lsd) rfl (nox_ok d1) d2 (same_ok 130 G2.lsd) (eq_self (lsd_l (d := 129) (lsd_names (d := 128) hna) (by rw [List.length_map]; omega)) (by omega))
noncomputable def lawF : List W → FR := fun_law (fun__law_built (fun__law_reader fun__law_cell fun__law_digits) fun__law_next (fun__law_names (fun__law_name fun__law_next fun__law_reserved)) (fun__law_outside fun__law_next (fun__law_kinds fun__law_next)) (fun__law_draw_deep fun__law_next (drF 13))) (fun__law_reader fun__law_cell fun__law_digits) (fun__law_left_out fun__law_next) fun__law_next (liF 130) duF rdF (saF 130)
theorem law_is (ns : List Int) (_ : ns.length ≤ 63) : lawF [.frl (ns.map W.int)] = .ok false (.bl true) [] := by
  have HR : RdOk (fun__law_reader fun__law_cell fun__law_digits) (.frl (ns.map W.int)) := fun k => reader_step (fun k => cell_ok ns k) (fun c => by
    obtain ⟨ds, e1, e2, _⟩ := digits_ok c (List.replicate 70 5040) (by simp) (fun z hz => by rw [(List.mem_replicate.mp hz).2]; omega)
    exact ⟨ds, e1, by simpa using e2⟩) k
  exact law_ok (built_ok HR the_next (fun {r} h k h1 h2 => names_ok h k h1 h2) (fun {r} h {ns} hl => outside_ok the_next (kinds_ok the_next) h hl) (fun {r ns size b many B sc} h1 h2 h3 h4 h5 h6 h7 h8 => deep_ok the_next (drF_ok 13 2 (by omega)) (drF_ok 13 12 (by omega)) h1 h2 h3 h4 h5 h6 h7 h8)) HR (left_ok the_next) the_next
end K03

namespace K03
open PySem PySem.Spec PyProof.Rows L2 ML
/-! ### the defs tied -/
section
variable {P : Program} {w : World} {K : PySem.W.Frag} {mg : Str → Option Value} {base : Heap} {ct : Str → Addr}
theorem stk_frozen (T : Txt w K mg) : Def P w K mg base ct 1 "frozen" ["value"] [] (fun _ => .stk) :=
  (def_mk (N := ["value", "parts", "part"]) (g := mStk) T.s_frozen sc_frozen (by decide) (fun _ _ _ _ _ _ us hl => match us, hl with | [_], _ => rfl) fun f cdv A outer s H E Y hr hct tk => psms_never).congr fun _ _ => .inl rfl
theorem stk_binding_count (T : Txt w K mg) : Def P w K mg base ct 1 "binding_count" ["block"] [] (fun _ => .stk) :=
  (def_mk (N := ["block", "part"]) (g := mStk) T.s_binding_count sc_binding_count (by decide) (fun _ _ _ _ _ _ us hl => match us, hl with | [_], _ => rfl) fun f cdv A outer s H E Y hr hct tk => psms_never).congr fun _ _ => .inl rfl
theorem stk_renamed_within (T : Txt w K mg) : Def P w K mg base ct 1 "renamed_within" ["block", "scope", "names", "at"] [] (fun _ => .stk) :=
  (def_mk (N := ["block", "scope", "names", "at", "word", "inner", "after", "parts", "part", "new_part", "node"]) (g := mStk) T.s_renamed_within sc_renamed_within (by decide) (fun _ _ _ _ _ _ us hl => match us, hl with | [_, _, _, _], _ => rfl) fun f cdv A outer s H E Y hr hct tk => psms_never).congr fun _ _ => .inl rfl
theorem stk_renamed_let (T : Txt w K mg) : Def P w K mg base ct 1 "renamed_let" ["block", "scope", "names", "at"] [] (fun _ => .stk) :=
  (def_mk (N := ["block", "scope", "names", "at", "parameters", "inner", "after", "name", "kind", "body", "rest"]) (g := mStk) T.s_renamed_let sc_renamed_let (by decide) (fun _ _ _ _ _ _ us hl => match us, hl with | [_, _, _, _], _ => rfl) fun f cdv A outer s H E Y hr hct tk => psms_never).congr fun _ _ => .inl rfl
theorem stk__law_free (T : Txt w K mg) : Def P w K mg base ct 1 "_law_free" ["_law_node", "_law_bound"] [] (fun _ => .stk) :=
  (def_mk (N := ["_law_node", "_law_bound", "_law_inner", "_law_found_here", "_law_part", "_law_pair"]) (g := mStk) T.s__law_free sc__law_free (by decide) (fun _ _ _ _ _ _ us hl => match us, hl with | [_, _], _ => rfl) fun f cdv A outer s H E Y hr hct tk => psms_never).congr fun _ _ => .inl rfl
theorem stk__law_renamed (T : Txt w K mg) : Def P w K mg base ct 1 "_law_renamed" ["_law_node", "_law_scope", "_law_fresh"] [2] (fun _ => .stk) :=
  (def_mk (N := ["_law_node", "_law_scope", "_law_fresh", "_law_word", "_law_name_here", "_law_pairs", "_law_pair", "_law_kinds_here", "_law_body", "_law_parts_here", "_law_k", "_law_part"]) (g := mStk) T.s__law_renamed sc__law_renamed (by decide) (fun _ _ _ _ _ _ us hl => match us, hl with | [_, _, _], _ => rfl) fun f cdv A outer s H E Y hr hct tk => psms_never).congr fun _ _ => .inl rfl
theorem stk__law_draw (T : Txt w K mg) : Def P w K mg base ct 1 "_law_draw" ["_law_reader_here", "_law_kind", "_law_budget", "_law_depth", "_law_scope", "_law_world"] [0] (fun _ => .stk) :=
  (def_mk (N := ["_law_reader_here", "_law_kind", "_law_budget", "_law_depth", "_law_scope", "_law_world", "_law_seen_here", "_law_cells", "_law_calls", "_law_pick", "_law_entry", "_law_name_here", "_law_number", "_law_sizes", "_law_test", "_law_yes"]) (g := mStk) T.s__law_draw sc__law_draw (by decide) (fun _ _ _ _ _ _ us hl => match us, hl with | [_, _, _, _, _, _], _ => rfl) fun f cdv A outer s H E Y hr hct tk => psms_never).congr fun _ _ => .inl rfl
theorem stk__law_same (T : Txt w K mg) : Def P w K mg base ct 1 "_law_same" ["_law_actual", "_law_due"] [] (fun _ => .stk) :=
  (def_mk (N := ["_law_actual", "_law_due", "_law_k"]) (g := mStk) T.s__law_same sc__law_same (by decide) (fun _ _ _ _ _ _ us hl => match us, hl with | [_, _], _ => rfl) fun f cdv A outer s H E Y hr hct tk => psms_never).congr fun _ _ => .inl rfl
theorem stk__law_listed (T : Txt w K mg) : Def P w K mg base ct 1 "_law_listed" ["_law_value", "_law_way"] [] (fun _ => .stk) :=
  (def_mk (N := ["_law_value", "_law_way", "_law_parts_here", "_law_part"]) (g := mStk) T.s__law_listed sc__law_listed (by decide) (fun _ _ _ _ _ _ us hl => match us, hl with | [_, _], _ => rfl) fun f cdv A outer s H E Y hr hct tk => psms_never).congr fun _ _ => .inl rfl
theorem res_noexc : ∀ args, match fun__law_reserved args with
    | .exc _ _ _ _ => False
    | _ => True := by
  intro args
  have l14 : (14 ≤ sizeLine) = True := by simp [line_is]
  have l16 : (16 ≤ sizeLine) = True := by simp [line_is]
  cases args with
  | nil => rw [e_reserved]; trivial
  | cons a as =>
    unfold fun__law_reserved body__law_reserved
    simp -implicitDefEqProofs [ev_var, l2, l14, l16]
theorem lv_frozen (T : Txt w K mg) : ∀ d, Def P w K mg base ct (d + 1) "frozen" ["value"] [] (frF d)
  | 0 => stk_frozen T
  | d + 1 => def_frozen T (lv_frozen T d)
theorem lv_count (T : Txt w K mg) : ∀ d, Def P w K mg base ct (d + 2) "binding_count" ["block"] [] (bcF d)
  | 0 => (stk_binding_count T).mono (by omega)
  | d + 1 => def_binding_count (k := d + 2) T (def_bound_names T) (def_parts_of T) (lv_count T d)
theorem lv_within (T : Txt w K mg) : ∀ d, Def P w K mg base ct (d + 2) "renamed_within" ["block", "scope", "names", "at"] [] (rwP d).1 ∧ Def P w K mg base ct (d + 2) "renamed_let" ["block", "scope", "names", "at"] [] (rwP d).2
  | 0 => ⟨(stk_renamed_within T).mono (by omega), (stk_renamed_let T).mono (by omega)⟩
  | d + 1 => by
    obtain ⟨h1, h2⟩ := lv_within T d
    exact ⟨def_renamed_within (k := d + 2) T h2 h1 (def_parts_of T) (def_with_sub_blocks T), def_renamed_let (k := d + 2) T h1⟩
theorem lv_lfree (T : Txt w K mg) : ∀ d, Def P w K mg base ct (d + 2) "_law_free" ["_law_node", "_law_bound"] [] (lfF d)
  | 0 => (stk__law_free T).mono (by omega)
  | d + 1 => def__law_free (k := d + 2) T (lv_lfree T d) (def__law_parts T)
theorem lv_lren (T : Txt w K mg) : ∀ d, Def P w K mg base ct (d + 2) "_law_renamed" ["_law_node", "_law_scope", "_law_fresh"] [2] (lrF d)
  | 0 => (stk__law_renamed T).mono (by omega)
  | d + 1 => def__law_renamed (k := d + 2) T (lv_lren T d) (def__law_parts T) (def__law_found T)
theorem lv_same (T : Txt w K mg) : ∀ d, Def P w K mg base ct (d + 2) "_law_same" ["_law_actual", "_law_due"] [] (saF d)
  | 0 => (stk__law_same T).mono (by omega)
  | d + 1 => def__law_same (k := d + 2) T (lv_same T d) (def__law_whole T)
theorem lv_listed (T : Txt w K mg) : ∀ d, Def P w K mg base ct (d + 1) "_law_listed" ["_law_value", "_law_way"] [] (liF d)
  | 0 => stk__law_listed T
  | d + 1 => def__law_listed T (lv_listed T d)
theorem lv_draw (T : Txt w K mg) : ∀ d, Def P w K mg base ct (2 * d + 3) "_law_draw" ["_law_reader_here", "_law_kind", "_law_budget", "_law_depth", "_law_scope", "_law_world"] [0] (drF d)
  | 0 => (stk__law_draw T).mono (by omega)
  | d + 1 => by
    have hd := lv_draw T d
    have hs : ∀ k, Def P w K mg base ct (k + 2) "_law_split" ["_law_reader_here", "_law_rest", "_law_many"] [0] (fun__law_split fun__law_next) := fun k => def__law_split (k := k + 1) T (def__law_next T)
    exact def__law_draw (k := 2 * d + 4) T (def__law_leaf (k := 2 * d + 3) T (def__law_next T) (def__law_seen T)) (def__law_seen T) (def__law_next T) (def__law_draw_call (k := 2 * d + 3) T (hs (2 * d + 1)) hd) (def__law_draw_let (k := 2 * d + 3) T (def__law_next T) (hs (2 * d + 1)) hd) (def__law_draw_set (k := 2 * d + 3) T (def__law_next T) hd) (hd.mono (by omega)) (hs (2 * d + 2)) (def__law_draw_two (k := 2 * d + 3) T (hs (2 * d + 1)) (def__law_next T) hd)
theorem lv_renamed (T : Txt w K mg) : DefK P w K mg base ct 133 "renamed" "block" "avoid" rdF :=
  def_renamed (k := 132) T ((lv_frozen T 130).mono (by omega)) (def_free_names (k := 131) T (lv_frozen T 130) (def_parts_of T) (def_bound_in_part T)) ((lv_count T 60).mono (by omega)) (def_new_names T) ((lv_within T 120).1.mono (by omega))
theorem law_def (T : Txt w K mg) : Def P w K mg base ct 134 "law" ["_law_script"] [] lawF :=
  def_law (k := 133) T
    (def__law_built (k := 132) T (def__law_reader (k := 131) T (def__law_cell T) (def__law_digits T)) (def__law_next T) (def__law_names (k := 131) T (def__law_name (k := 130) T (def__law_next T) (def__law_reserved T) res_noexc)) (def__law_outside (k := 131) T (def__law_next T) (def__law_kinds (k := 130) T (def__law_next T))) (def__law_draw_deep (k := 131) T (def__law_next T) ((lv_draw T 13).mono (by omega))))
    (def__law_reader (k := 132) T (def__law_cell T) (def__law_digits T)) (def__law_left_out (k := 132) T (def__law_next T)) (def__law_next T) ((lv_listed T 130).mono (by omega)) (def__law_renamed_due (k := 132) T ((lv_lfree T 60).mono (by omega)) ((lv_lren T 60).mono (by omega))) (lv_renamed T) ((lv_same T 130).mono (by omega))
end
noncomputable def law_fun : List W → FR := lawF
def law_k : Nat := 134
end K03

set_option maxHeartbeats 4000000
namespace K03
open PySem PySem.Spec PyProof.Rows L2 ML
theorem facts {P : Program} {w : World} {K : PySem.W.Frag} {h : Heap} {mg : Str → Option Value} {f : Addr} (X : K.In h) (G : h.Ns mainGlobals mg) (hq : mg ("law" : Str) = some (.ref f)) (c : SaysM hfa hfn hts hmore w K) :
    ∃ fd : FuncData, (∀ (s : Shared) (v : Value), BindsTo s fd ⟨[v], []⟩ [("_law_script", v)]) ∧ ∀ base : Heap, K.In base → base.Ns mainGlobals mg → FnOk P w K mg base CX0 law_k f fd ["_law_script"] (spEnd K law_fun) := by
  have T := txt_ok X G c
  exact end_fn T.s_law hq (fun fd F => by
    have b := FunD.bindsA (ps := ["_law_script"]) F fun _ _ _ _ _ _ us hl => match us, hl with | [_], _ => rfl
    exact fun s v => b s [v] rfl) fun base _ _ => law_def T
end K03
open PySem PySem.W PySem.Calls PyProof.Rows
set_option maxRecDepth 100000 in
set_option maxHeartbeats 0 in
theorem PySem.Challenge.cw_heardsaid_k03_renamed_apart_holds : PySem.Challenge.rw_heardsaid_k03_renamed_apart.Holds := by
  w_on; o_law
  refine HandSHeadRun.head_any (r := (PySem.W.OpenLaw.row PySem.Challenge.rw_heardsaid_k03_renamed_apart)) (q := view (PySem.W.OpenLaw.row PySem.Challenge.rw_heardsaid_k03_renamed_apart).prog [46]) (H := K03.hhk) (ob := K03.hob) (M := 20000) (loose := K03.hnames) (d := HandSHeadRun.topDef (PySem.W.OpenLaw.row PySem.Challenge.rw_heardsaid_k03_renamed_apart).prog 46) (kwd := []) K03.hob_eq
    (by kernel_rfl) (fun s => by kernel_rfl) K03.hrun (by kernel_rfl) (by kernel_rfl) (by kernel_rfl) (by rfl) (by first | assumption | decide +kernel) (by decide +kernel) ⟨rfl, rfl, rfl, rfl, rfl, by decide +kernel⟩ ?hw ?hc
  case hw => w_witness2
  case hc =>
    refine L2.walk_ofE (l := PySem.Challenge.rw_heardsaid_k03_renamed_apart) (n := 63) (k := K03.law_k) (x := "_law_script") (CX := L2.CX0) rfl (by decide) (by kernel_rfl) ⟨rfl, by decide, by decide⟩ ?F (fun _ _ _ _ z => z)
    intro w mg fa h Y G hmg0
    obtain ⟨K, KX, c⟩ := Y
    have hmg : mg ("law" : PySem.Str) = some (.ref fa) := by
      have e : (HandSHeadRun.topDef (PySem.W.OpenLaw.row PySem.Challenge.rw_heardsaid_k03_renamed_apart).prog 46).name = ("law" : PySem.Str) := by kernel_rfl
      rw [← e]
      exact hmg0
    obtain ⟨fd, hb, hF⟩ := K03.facts (P := (PySem.Challenge.rw_heardsaid_k03_renamed_apart).prog) (w := w) KX G hmg c
    exact ⟨K, fd, ML.spEnd K K03.law_fun, KX, hb, fun H a ns hl hO hS => ML.end_sp K03.law_is H a ns hl hO hS, hF⟩

