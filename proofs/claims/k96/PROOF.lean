import PyProof.Rows.All
import Wide.All
import OpenK.AllK
import Wide.FinOn
import KE.KStateDown
import Lean
import HandS.ForMost
import HandS.More
import HandS.WordsExc
import HandS.Defaults
import HandS.Head0
import HandS.Head1
import HandS.Head2
import HandS.HeadEnd
import HandS.HeadHook1
import HandS.HeadHook2
import KE.KExcIs
import PyProof.StrBlock2
import HandS.TupAny
import HandS.Deep
import HandS.IsInst
import HandS.CallSlots
import HandS.TryOnly
import HandS.Rev
import HandS.RevRange
import HandS.Zip
import HandS.RaiseMore
import HandS.ExcInit
import HandS.Small
import HandS.HeadHook3
import HandS.Codes
import HandS.ExcField
import HandS.ExcIs
import PySem.Challenge.RW_heardsaid_k96_errors_apart
set_option Elab.async false
set_option linter.all false
set_option maxRecDepth 100000
set_option maxHeartbeats 4000000
/-! ML: a layer of our own over HandS. W: values without addresses; Rho: a frame's slots as W; a mirror is a function Rho -> R.
F is a ghost: the addresses of lists (dicts) that nobody changes any more; a slot that is own holds a list that nobody else holds. -/
namespace ML
open PySem PySem.Spec PyProof.Rows L2

inductive W where
  | non | bl (b : Bool) | int (i : Int) | str (s : Str)
  | tup (l : List W) | lst (l : List W) | frl (l : List W) | dK (ks : List Key) (l : List W) | fn (x : Str) | ty (n : String)

abbrev Fz := Addr → Prop
def LstK (K : PySem.W.Frag) (a : Addr) (vs : List V) : Prop :=
  ∃ (o : Obj) (its : Array Value) (n : Nat), K.lookup a = some o ∧ o.cls = .type "list" ∧ o.dict = none ∧ o.data = .seq its n ∧ its.size ≤ sizeLine ∧ Vals vs its.toList
/-- the script, a list of the text: never changed -/
def FrlL (K : PySem.W.Frag) (H : Hp) (a : Addr) (vs : List V) : Prop := (∃ o, H a = some (.frz o (.lst vs))) ∨ LstK K a vs
theorem FrlL.seq {K : PySem.W.Frag} {H : Hp} {a : Addr} {vs : List V} (h : FrlL K H a vs) : SqL K H a vs := by
  rcases h with h | h
  · exact .inl (.inr h)
  · exact .inr h
def TupK (K : PySem.W.Frag) (a : Addr) (vs : List V) : Prop :=
  ∃ (o : Obj) (its : Array Value) (n : Nat), K.lookup a = some o ∧ o.cls = .type "tuple" ∧ o.data = .seq its n ∧ its.size ≤ sizeLine ∧ Vals vs its.toList
/-- a tuple of the call's own, or of the text -/
def SqU (K : PySem.W.Frag) (H : Hp) (a : Addr) (vs : List V) : Prop := H a = some (.tup vs) ∨ TupK K a vs
theorem SqU.seq {K : PySem.W.Frag} {H : Hp} {a : Addr} {vs : List V} (h : SqU K H a vs) : SqT K H a vs := by
  rcases h with h | h
  · exact .inl (.inl h)
  · exact .inr h
mutual
def Rep (K : PySem.W.Frag) (F : Fz) (H : Hp) : W → V → Prop
  | .non, v => v = .non
  | .bl b, v => v = .bl b
  | .int i, v => v = .int i
  | .str s, v => v = .str s
  | .fn x, v => v = .ref (He.ga K x)
  | .ty n, v => v = .ty n
  | .tup l, v => ∃ a vs, v = .ref a ∧ SqU K H a vs ∧ RepL K F H l vs
  | .lst l, v => ∃ a vs, v = .ref a ∧ F a ∧ H a = some (.lst vs) ∧ RepL K F H l vs
  | .frl l, v => ∃ a vs, v = .ref a ∧ FrlL K H a vs ∧ RepL K F H l vs
  | .dK ks l, v => ∃ a vs, v = .ref a ∧ F a ∧ H a = some (.dK (ks.zip vs)) ∧ ks.length = vs.length ∧ RepL K F H l vs
def RepL (K : PySem.W.Frag) (F : Fz) (H : Hp) : List W → List V → Prop
  | [], vs => vs = []
  | w :: l, vs => ∃ v r, vs = v :: r ∧ Rep K F H w v ∧ RepL K F H l r
end
/-- what is not to change stays: the frozen, and what never changes -/
structure Keeps (F : Fz) (H : Hp) (F' : Fz) (H' : Hp) : Prop where
  f : ∀ a, F a → F' a
  h : ∀ a o, H a = some o → (F a ∨ ¬ Mut (some o)) → H' a = some o
section
variable {K : PySem.W.Frag} {F F' F1 F2 : Fz} {H H' H1 H2 : Hp}
theorem Keeps.refl : Keeps F H F H := ⟨fun _ h => h, fun _ _ h _ => h⟩
theorem Keeps.trans (a : Keeps F H F1 H1) (b : Keeps F1 H1 F2 H2) : Keeps F H F2 H2 :=
  ⟨fun x h => b.f x (a.f x h), fun x o h m => b.h x o (a.h x o h m) (m.imp (a.f x) id)⟩
theorem Keeps.sqU (k : Keeps F H F' H') {a : Addr} {vs : List V} (h : SqU K H a vs) : SqU K H' a vs := by
  rcases h with h | h
  · exact .inl (k.h a _ h (.inr (fun q => q)))
  · exact .inr h
theorem Keeps.frl (k : Keeps F H F' H') {a : Addr} {vs : List V} (h : FrlL K H a vs) : FrlL K H' a vs := by
  rcases h with ⟨o, h⟩ | h
  · exact .inl ⟨o, k.h a _ h (.inr (fun q => q))⟩
  · exact .inr h
mutual
theorem Rep.mono (k : Keeps F H F' H') : ∀ (w : W) {v : V}, Rep K F H w v → Rep K F' H' w v
  | .non, _, h => h
  | .bl _, _, h => h
  | .int _, _, h => h
  | .str _, _, h => h
  | .fn _, _, h => h
  | .ty _, _, h => h
  | .tup l, _, h => by
    obtain ⟨a, vs, e, s, r⟩ := h
    exact ⟨a, vs, e, k.sqU s, RepL.mono k l r⟩
  | .lst l, _, h => by
    obtain ⟨a, vs, e, f, s, r⟩ := h
    exact ⟨a, vs, e, k.f a f, k.h a _ s (.inl f), RepL.mono k l r⟩
  | .frl l, _, h => by
    obtain ⟨a, vs, e, s, r⟩ := h
    exact ⟨a, vs, e, k.frl s, RepL.mono k l r⟩
  | .dK ks l, _, h => by
    obtain ⟨a, vs, e, f, s, n, r⟩ := h
    exact ⟨a, vs, e, k.f a f, k.h a _ s (.inl f), n, RepL.mono k l r⟩
theorem RepL.mono (k : Keeps F H F' H') : ∀ (l : List W) {vs : List V}, RepL K F H l vs → RepL K F' H' l vs
  | [], _, h => h
  | w :: l, _, h => by
    obtain ⟨v, r, e, h1, h2⟩ := h
    exact ⟨v, r, e, Rep.mono k w h1, RepL.mono k l h2⟩
end
theorem RepL.len : ∀ {l : List W} {vs : List V}, RepL K F H l vs → l.length = vs.length
  | [], _, h => by cases h; rfl
  | w :: l, _, h => by
    obtain ⟨v, r, rfl, _, h2⟩ := h
    rw [List.length_cons, List.length_cons, RepL.len h2]
theorem RepL.get : ∀ {l : List W} {vs : List V} {i : Nat} {w : W}, RepL K F H l vs → l[i]? = some w → ∃ v, vs[i]? = some v ∧ Rep K F H w v
  | [], _, _, _, _, e => by simp at e
  | w :: l, _, 0, u, h, e => by
    obtain ⟨v, r, rfl, h1, h2⟩ := h
    have e1 : w = u := Option.some.inj e
    subst e1
    exact ⟨v, rfl, h1⟩
  | w :: l, _, i + 1, u, h, e => by
    obtain ⟨v, r, rfl, h1, h2⟩ := h
    have q := RepL.get (l := l) (vs := r) (i := i) (w := u) h2 e
    exact q
theorem RepL.append : ∀ {l m : List W} {vs us : List V}, RepL K F H l vs → RepL K F H m us → RepL K F H (l ++ m) (vs ++ us)
  | [], _, _, _, h, h' => by cases h; exact h'
  | w :: l, _, _, _, h, h' => by
    obtain ⟨v, r, rfl, h1, h2⟩ := h
    exact ⟨v, r ++ _, rfl, h1, RepL.append h2 h'⟩
theorem RepL.nil : RepL K F H [] [] := rfl
theorem RepL.cons {w : W} {l : List W} {v : V} {vs : List V} (h : Rep K F H w v) (r : RepL K F H l vs) : RepL K F H (w :: l) (v :: vs) := ⟨v, vs, rfl, h, r⟩
theorem RepL.take : ∀ {l : List W} {vs : List V} (n : Nat), RepL K F H l vs → RepL K F H (l.take n) (vs.take n)
  | _, _, 0, _ => rfl
  | [], _, n + 1, h => by cases h; rfl
  | w :: l, _, n + 1, h => by
    obtain ⟨v, r, rfl, h1, h2⟩ := h
    exact ⟨v, _, rfl, h1, RepL.take n h2⟩
theorem RepL.drop : ∀ {l : List W} {vs : List V} (n : Nat), RepL K F H l vs → RepL K F H (l.drop n) (vs.drop n)
  | _, _, 0, h => h
  | [], _, n + 1, h => by cases h; rfl
  | w :: l, _, n + 1, h => by
    obtain ⟨v, r, rfl, h1, h2⟩ := h
    exact RepL.drop (l := l) n h2
theorem RepL.reverse : ∀ {l : List W} {vs : List V}, RepL K F H l vs → RepL K F H l.reverse vs.reverse
  | [], _, h => by cases h; rfl
  | w :: l, _, h => by
    obtain ⟨v, r, rfl, h1, h2⟩ := h
    rw [List.reverse_cons, List.reverse_cons]
    exact RepL.append (RepL.reverse h2) (RepL.cons h1 RepL.nil)
theorem RepL.set : ∀ {l : List W} {vs : List V} (n : Nat) {w : W} {v : V}, RepL K F H l vs → Rep K F H w v → RepL K F H (l.set n w) (vs.set n v)
  | [], _, _, _, _, h, _ => by cases h; rfl
  | x :: l, _, 0, _, _, h, hv => by
    obtain ⟨u, r, rfl, _, h2⟩ := h
    exact ⟨_, r, rfl, hv, h2⟩
  | x :: l, _, n + 1, _, _, h, hv => by
    obtain ⟨u, r, rfl, h1, h2⟩ := h
    exact ⟨u, _, rfl, h1, RepL.set n h2 hv⟩
theorem RepL.get' {l : List W} {vs : List V} {i : Nat} {v : V} (h : RepL K F H l vs) (e : vs[i]? = some v) : ∃ w, l[i]? = some w ∧ Rep K F H w v := by
  have hi := (List.getElem?_eq_some_iff.mp e).1
  rw [← h.len] at hi
  obtain ⟨u, eu, r⟩ := h.get (List.getElem?_eq_getElem hi)
  rw [e] at eu
  cases eu
  exact ⟨_, List.getElem?_eq_getElem hi, r⟩
end
/-! ### the frame -/
inductive Sl where
  | no | exn | val (w : W) | own (w : W)
abbrev Rho := List Sl
/-- the frame's entry: the heap, the frozen, the slots whose lists the caller lent -/
structure Bd where
  H0 : Hp
  F0 : Fz
  I : List (Nat × Addr)
  ea : Addr := 0
def Bd.kept (B : Bd) (a : Addr) : Prop := B.H0 a ≠ none ∧ ∀ p ∈ B.I, p.2 ≠ a
/-- the object at a is w's, to be changed -/
def OwnR (K : PySem.W.Frag) (F : Fz) (H : Hp) (w : W) (a : Addr) : Prop := match w with
  | .lst l => ∃ vs, H a = some (.lst vs) ∧ RepL K F H l vs
  | .dK ks l => ∃ vs, H a = some (.dK (ks.zip vs)) ∧ ks.length = vs.length ∧ RepL K F H l vs
  | _ => False
def SlR (K : PySem.W.Frag) (B : Bd) (F : Fz) (H : Hp) : Sl → Option (Option V) → Prop
  | .no, _ => True
  | .exn, o => o = some (some (.ref B.ea))
  | .val w, o => ∃ v, o = some (some v) ∧ Rep K F H w v
  | .own w, o => ∃ a, o = some (some (.ref a)) ∧ OwnR K F H w a ∧ ¬ F a ∧ ¬ B.kept a
structure SR (K : PySem.W.Frag) (B : Bd) (F : Fz) (H : Hp) (σ : L2.St) (ρ : Rho) : Prop where
  len : σ.length = ρ.length
  slot : ∀ (i : Nat) (s : Sl), ρ[i]? = some s → SlR K B F H s σ[i]?
  sep : ∀ (i j : Nat) (w w' : W) (a : Addr), ρ[i]? = some (.own w) → ρ[j]? = some (.own w') → σ[i]? = some (some (.ref a)) → σ[j]? = some (some (.ref a)) → i = j
  lent : ∀ p ∈ B.I, σ[p.1]? = some (some (.ref p.2)) ∧ ∃ w, ρ[p.1]? = some (.own w)
  ext : ∀ a o, B.kept a → B.H0 a = some o → H a = some o
  alive : ∀ a, B.H0 a ≠ none → H a ≠ none
  f0 : ∀ a, B.F0 a → F a
  f1 : ∀ a, F a → B.F0 a ∨ B.H0 a = none
  f2 : ∀ a, F a → H a ≠ none
/-- all that was tracked stands (but at I); new frozen are new -/
structure Ext (I : List Addr) (F : Fz) (H : Hp) (F' : Fz) (H' : Hp) : Prop where
  h : ∀ a o, a ∉ I → H a = some o → H' a = some o
  f : ∀ a, F a → F' a
  g : ∀ a, F' a → F a ∨ H a = none
  t : ∀ a, F' a → H' a ≠ none
section
variable {K : PySem.W.Frag} {B : Bd} {F F' F1 F2 : Fz} {H H' H1 H2 : Hp} {σ : L2.St} {ρ : Rho}
theorem Ext.keeps (e : Ext [] F H F' H') : Keeps F H F' H' := ⟨e.f, fun a o h _ => e.h a o (by simp) h⟩
theorem Ext.refl (t : ∀ a, F a → H a ≠ none) : Ext [] F H F H := ⟨fun _ _ _ h => h, fun _ h => h, fun _ h => .inl h, t⟩
theorem Ext.trans (a : Ext [] F H F1 H1) (b : Ext [] F1 H1 F2 H2) : Ext [] F H F2 H2 :=
  ⟨fun x o n h => b.h x o n (a.h x o n h), fun x h => b.f x (a.f x h), fun x h => (by
    rcases b.g x h with q | q
    · exact a.g x q
    · right
      cases e : H x with
      | none => rfl
      | some o => rw [a.h x o (by simp) e] at q; cases q), b.t⟩
/-- a new object -/
theorem Ext.new {a : Addr} {o : HO} (n : H a = none) (t : ∀ a, F a → H a ≠ none) : Ext [] F H F (upd H a o) :=
  ⟨fun x u _ h => by rw [upd_ne (ne_of_none h n)]; exact h, fun _ h => h, fun _ h => .inl h, fun x h => by
    by_cases e : x = a
    · rw [e, upd_same]; exact fun q => nomatch q
    · rw [upd_ne e]; exact t x h⟩
theorem OwnR.mono {w : W} {a : Addr} (e : Ext [] F H F' H') (h : OwnR K F H w a) : OwnR K F' H' w a := by
  cases w with
  | lst l => obtain ⟨vs, h1, h2⟩ := h; exact ⟨vs, e.h a _ (by simp) h1, h2.mono e.keeps⟩
  | dK ks l => obtain ⟨vs, h1, n, h2⟩ := h; exact ⟨vs, e.h a _ (by simp) h1, n, h2.mono e.keeps⟩
  | _ => exact h
theorem OwnR.some {w : W} {a : Addr} (h : OwnR K F H w a) : ∃ o, H a = some o ∧ Mut (some o) := by
  cases w with
  | lst l => obtain ⟨vs, h1, h2⟩ := h; exact ⟨_, h1, trivial⟩
  | dK ks l => obtain ⟨vs, h1, n, h2⟩ := h; exact ⟨_, h1, trivial⟩
  | _ => exact h.elim
theorem OwnR.rep {w : W} {a : Addr} (h : OwnR K F H w a) (f : F a) : Rep K F H w (.ref a) := by
  cases w with
  | lst l => obtain ⟨vs, h1, h2⟩ := h; exact ⟨a, vs, rfl, f, h1, h2⟩
  | dK ks l => obtain ⟨vs, h1, n, h2⟩ := h; exact ⟨a, vs, rfl, f, h1, n, h2⟩
  | _ => exact h.elim
theorem SR.grow (S : SR K B F H σ ρ) (e : Ext [] F H F' H') : SR K B F' H' σ ρ where
  len := S.len
  slot := fun i s h => by
    have q := S.slot i s h
    cases s with
    | no => trivial
    | exn => exact q
    | val w => obtain ⟨v, e1, r⟩ := q; exact ⟨v, e1, r.mono e.keeps⟩
    | own w =>
      obtain ⟨a, e1, o, nf, nk⟩ := q
      refine ⟨a, e1, o.mono e, fun f => ?_, nk⟩
      rcases e.g a f with f | f
      · exact nf f
      · obtain ⟨u, hu, _⟩ := o.some
        rw [hu] at f; cases f
  sep := S.sep
  lent := S.lent
  ext := fun a o k h => e.h a o (by simp) (S.ext a o k h)
  f0 := fun a h => e.f a (S.f0 a h)
  alive := fun a h q => S.alive a h (by
    cases e1 : H a with
    | none => rfl
    | some o => rw [e.h a o (by simp) e1] at q; cases q)
  f1 := fun a h => by
    rcases e.g a h with q | q
    · exact S.f1 a q
    · right
      cases e1 : B.H0 a with
      | none => rfl
      | some o => exact absurd q (S.alive a (by rw [e1]; exact fun z => nomatch z))
  f2 := e.t
/-! ### values of expressions -/
inductive Md where
  | val | fre | bor (i : Nat)
def Fre (K : PySem.W.Frag) (B : Bd) (F : Fz) (H : Hp) (σ : L2.St) (ρ : Rho) (w : W) (v : V) : Prop :=
  ∃ a, v = .ref a ∧ OwnR K F H w a ∧ ¬ F a ∧ B.H0 a = none ∧ ∀ (i : Nat) (w' : W), ρ[i]? = some (.own w') → σ[i]? ≠ some (some (.ref a))
def VR (K : PySem.W.Frag) (B : Bd) (F : Fz) (H : Hp) (σ : L2.St) (ρ : Rho) (m : Md) (w : W) (v : V) : Prop := match m with
  | .val => Rep K F H w v
  | .fre => Fre K B F H σ ρ w v
  | .bor i => ρ[i]? = some (.own w) ∧ σ[i]? = some (some v)
/-- freeze the list at a, that nobody has in a slot -/
theorem SR.freeze (S : SR K B F H σ ρ) {a : Addr} (n : ¬ F a) (h : H a ≠ none) (h0 : B.H0 a = none) (hs : ∀ (i : Nat) (w' : W), ρ[i]? = some (.own w') → σ[i]? ≠ some (some (.ref a))) :
    SR K B (fun b => F b ∨ b = a) H σ ρ ∧ Keeps F H (fun b => F b ∨ b = a) H := by
  have k : Keeps F H (fun b => F b ∨ b = a) H := ⟨fun _ h => .inl h, fun _ _ h _ => h⟩
  refine ⟨⟨S.len, fun i s h => ?_, S.sep, S.lent, S.ext, S.alive, fun b h => .inl (S.f0 b h), fun b h => ?_, fun b h => ?_⟩, k⟩
  · have q := S.slot i s h
    cases s with
    | no => trivial
    | exn => exact q
    | val w => obtain ⟨v, e1, r⟩ := q; exact ⟨v, e1, r.mono k⟩
    | own w =>
      obtain ⟨b, e1, o, nf, nk⟩ := q
      refine ⟨b, e1, ?_, fun f => ?_, nk⟩
      · cases w with
        | lst l => obtain ⟨vs, h1, h2⟩ := o; exact ⟨vs, h1, h2.mono k⟩
        | dK ks l => obtain ⟨vs, h1, n, h2⟩ := o; exact ⟨vs, h1, n, h2.mono k⟩
        | _ => exact o
      · rcases f with f | f
        · exact nf f
        · rw [f] at e1
          exact hs i w h e1
  · rcases h with h | h
    · exact S.f1 b h
    · rw [h]; exact .inr h0
  · rcases h with h | h
    · exact S.f2 b h
    · rw [h]; assumption
/-- a slot is forgotten -/
def unlent (B : Bd) (i : Nat) : Prop := i ∉ B.I.map (·.1)
theorem SR.lent_set (S : SR K B F H σ ρ) {i : Nat} (u : unlent B i) (s : Sl) : ∀ p ∈ B.I, σ[p.1]? = some (some (.ref p.2)) ∧ ∃ w, (ρ.set i s)[p.1]? = some (.own w) := fun p hp => by
  obtain ⟨h1, w, h2⟩ := S.lent p hp
  have n : i ≠ p.1 := fun e => u (List.mem_map.mpr ⟨p, hp, e.symm⟩)
  exact ⟨h1, w, by rw [List.getElem?_set_ne n]; exact h2⟩
theorem SR.drop (S : SR K B F H σ ρ) {i : Nat} (u : unlent B i) : SR K B F H σ (ρ.set i .no) := by
  have hh : ∀ j s, (ρ.set i .no)[j]? = some s → s = .no ∨ (j ≠ i ∧ ρ[j]? = some s) := fun j s h => by
    by_cases e : j = i
    · subst e
      rw [List.getElem?_set] at h
      split at h
      · split at h
        · left; exact (Option.some.inj h).symm
        · cases h
      · rename_i n; exact absurd rfl n
    · right
      rw [List.getElem?_set_ne (Ne.symm e)] at h
      exact ⟨e, h⟩
  refine ⟨by rw [List.length_set]; exact S.len, fun j s h => ?_, fun j k w w' a h1 h2 e1 e2 => ?_, S.lent_set u _, S.ext, S.alive, S.f0, S.f1, S.f2⟩
  · rcases hh j s h with e | ⟨_, e⟩
    · subst e; trivial
    · exact S.slot j s e
  · rcases hh j _ h1 with e | ⟨_, g1⟩
    · cases e
    · rcases hh k _ h2 with e | ⟨_, g2⟩
      · cases e
      · exact S.sep j k w w' a g1 g2 e1 e2
/-- a slot bears another word about the same value -/
theorem SR.again (S : SR K B F H σ ρ) {i : Nat} {w : W} (u : unlent B i) (h : SlR K B F H (.val w) σ[i]?) : SR K B F H σ (ρ.set i (.val w)) := by
  have hh : ∀ j s, (ρ.set i (.val w))[j]? = some s → (j = i ∧ s = .val w) ∨ (j ≠ i ∧ ρ[j]? = some s) := fun j s h => by
    by_cases e : j = i
    · subst e
      rw [List.getElem?_set] at h
      split at h
      · split at h
        · left; exact ⟨rfl, (Option.some.inj h).symm⟩
        · cases h
      · rename_i n; exact absurd rfl n
    · right
      rw [List.getElem?_set_ne (Ne.symm e)] at h
      exact ⟨e, h⟩
  refine ⟨by rw [List.length_set]; exact S.len, fun j s h' => ?_, fun j k z z' a h1 h2 e1 e2 => ?_, S.lent_set u _, S.ext, S.alive, S.f0, S.f1, S.f2⟩
  · rcases hh j s h' with ⟨e, e'⟩ | ⟨_, e⟩
    · subst e; subst e'; exact h
    · exact S.slot j s e
  · rcases hh j _ h1 with ⟨_, e⟩ | ⟨_, g1⟩
    · cases e
    · rcases hh k _ h2 with ⟨_, e⟩ | ⟨_, g2⟩
      · cases e
      · exact S.sep j k z z' a g1 g2 e1 e2
/-- an own slot that is not lent holds a list made behind the entry -/
theorem SR.new_of (S : SR K B F H σ ρ) {i : Nat} {w : W} {a : Addr} (h : ρ[i]? = some (.own w)) (e : σ[i]? = some (some (.ref a))) (ui : unlent B i) : B.H0 a = none := by
  obtain ⟨b, eb, _, _, nk⟩ := S.slot i _ h
  rw [e] at eb
  cases eb
  cases q : B.H0 a with
  | none => rfl
  | some o =>
    exfalso
    refine nk ⟨by rw [q]; exact (fun z => nomatch z), fun p hp z => ?_⟩
    obtain ⟨h1, w', h2⟩ := S.lent p hp
    exact ui (List.mem_map.mpr ⟨p, hp, S.sep p.1 i w' w a h2 h (by rw [h1, z]) e⟩)
end
/-! ### results -/
inductive R (α : Type) where
  | ok (a : α) (ρ : Rho)
  | exc (c : Str) (ns : List Str) (ws : List W) (ρ : Rho)
  | stk
def R.bind {α β : Type} (r : R α) (k : α → Rho → R β) : R β := match r with
  | .ok a ρ => k a ρ
  | .exc c ns ws ρ => .exc c ns ws ρ
  | .stk => .stk
def lift {α : Type} (o : Option α) (ρ : Rho) : R α := match o with
  | some a => .ok a ρ
  | none => .stk
/-- an exception's fields in its own dict -/
def ExF (K : PySem.W.Frag) (F : Fz) (H : Hp) (ns : List Str) (ws : List W) (d : Option Addr) : Prop := match ns with
  | [] => d = none ∧ ws = []
  | _ => ∃ dd vs, d = some dd ∧ H dd = some (.xd (ns.zip vs)) ∧ ns.length = vs.length ∧ RepL K F H ws vs
/-- where one stands: classes of errors by names, the entry, what is wanted of an error, the lent slots -/
structure Yx (I : List Nat) where
  ct : Str → Addr
  B : Bd
  wx : WX
  hI : B.I.map (·.1) = I
variable {I : List Nat}
theorem Yx.un (Y : Yx I) {i : Nat} (h : i ∉ I) : unlent Y.B i := by
  unfold unlent
  rw [Y.hI]
  exact h
def RunG {β : Type} (K : PySem.W.Frag) (Y : Yx I) (F : Fz) (H : Hp) (σ : L2.St) (r : R β) (P : β → Rho → Fz → Hp → Prop) : Prop := match r with
  | .ok b ρ' => ∀ F' H', SR K Y.B F' H' σ ρ' → Keeps F H F' H' → P b ρ' F' H'
  | .exc c ns ws ρ' => ∀ F' H' d, SR K Y.B F' H' σ ρ' → ExF K F' H' ns ws d → Y.wx (.ref (Y.ct c)) d σ H'
  | .stk => False
section
variable {K : PySem.W.Frag} {Y : Yx I} {F F' F1 F2 : Fz} {H H' H1 H2 : Hp} {σ : L2.St} {ρ : Rho} {β γ : Type}
theorem RunG.rebase {r : R β} {P : β → Rho → Fz → Hp → Prop} (h : RunG K Y F H σ r P) (k : Keeps F H F1 H1) : RunG K Y F1 H1 σ r P := by
  cases r with
  | ok b ρ' => exact fun F' H' S k' => h F' H' S (k.trans k')
  | exc c ns ws ρ' => exact h
  | stk => exact h
theorem RunG.bind {r : R β} {k : β → Rho → R γ} {P : γ → Rho → Fz → Hp → Prop} (h : RunG K Y F H σ (r.bind k) P) : RunG K Y F H σ r fun b ρ1 F1 H1 => RunG K Y F1 H1 σ (k b ρ1) P := by
  cases r with
  | ok b ρ' => exact fun F' H' S k' => RunG.rebase (show RunG K Y F H σ (k b ρ') P from h) k'
  | exc c ns ws ρ' => exact h
  | stk => exact h
theorem RunG.imp {r : R β} {P P' : β → Rho → Fz → Hp → Prop} (h : RunG K Y F H σ r P) (q : ∀ b ρ' F' H', SR K Y.B F' H' σ ρ' → Keeps F H F' H' → P b ρ' F' H' → P' b ρ' F' H') : RunG K Y F H σ r P' := by
  cases r with
  | ok b ρ' => exact fun F' H' S k' => q _ _ _ _ S k' (h F' H' S k')
  | exc c ns ws ρ' => exact h
  | stk => exact h
/-- an expression's reading by its mirror -/
def tM (K : PySem.W.Frag) (Y : Yx I) (f : Rho → R (Md × W)) : TE := fun σ H Q => ∃ F ρ, SR K Y.B F H σ ρ ∧ RunG K Y F H σ (f ρ) fun b ρ' F' H' => ∀ v, VR K Y.B F' H' σ ρ' b.1 b.2 v → Q v H'
def PEM (X : Cx) (Y : Yx I) (e : Expr) (f : Rho → R (Md × W)) : Prop := PE X e (tM X.K Y f)
theorem pe_weak {X : Cx} {e : Expr} {t t' : TE} (h : PE X e t) (q : ∀ σ H Q, t' σ H Q → t σ H Q) : PE X e t' := ⟨fun pins s σ H Q I hq => h.run pins s σ H Q I (q _ _ _ hq)⟩
/-! ### held, peeked, kept values -/
def Held (σ : L2.St) (K : PySem.W.Frag) (F : Fz) (H : Hp) (m : Md) (w : W) (v : V) : Prop := match m with
  | .val => Rep K F H w v
  | .fre => Rep K F H w v
  | .bor i => σ[i]? = some (some v)
theorem SR.hold (S : SR K Y.B F H σ ρ) {m : Md} {w : W} {v : V} (h : VR K Y.B F H σ ρ m w v) : ∃ F', SR K Y.B F' H σ ρ ∧ Keeps F H F' H ∧ Held σ K F' H m w v := by
  cases m with
  | val => exact ⟨F, S, .refl, h⟩
  | fre =>
    obtain ⟨a, rfl, o, nf, h0, hs⟩ := h
    obtain ⟨u, hu, _⟩ := o.some
    obtain ⟨S', k⟩ := S.freeze nf (by rw [hu]; exact (fun z => nomatch z)) h0 hs
    refine ⟨_, S', k, ?_⟩
    have o' : OwnR K (fun b => F b ∨ b = a) H w a := by
      cases w with
      | lst l => obtain ⟨vs, h1, h2⟩ := o; exact ⟨vs, h1, h2.mono k⟩
      | dK ks l => obtain ⟨vs, h1, n, h2⟩ := o; exact ⟨vs, h1, n, h2.mono k⟩
      | _ => exact o
    exact o'.rep (.inr rfl)
  | bor i => exact ⟨F, S, .refl, h.2⟩
def PkR (K : PySem.W.Frag) (F : Fz) (H : Hp) (w : W) (v : V) : Prop := Rep K F H w v ∨ ∃ a, v = .ref a ∧ OwnR K F H w a
def peek (m : Md) (w : W) (ρ : Rho) : Option W := match m with
  | .val => some w
  | .fre => some w
  | .bor i => match ρ[i]? with
    | some (.own u) => some u
    | some (.val u) => some u
    | _ => none
theorem SR.peek (S : SR K Y.B F H σ ρ) {m : Md} {w u : W} {v : V} (h : Held σ K F1 H1 m w v) (k : Keeps F1 H1 F H) (e : peek m w ρ = some u) : PkR K F H u v := by
  cases m with
  | val => cases e; exact .inl (Rep.mono k w h)
  | fre => cases e; exact .inl (Rep.mono k w h)
  | bor i =>
    have h' : σ[i]? = some (some v) := h
    unfold ML.peek at e
    dsimp only at e
    cases q : ρ[i]? with
    | none => rw [q] at e; cases e
    | some s =>
      rw [q] at e
      have z := S.slot i s q
      cases s with
      | no => cases e
      | exn => cases e
      | val x =>
        cases e
        obtain ⟨v', e1, r⟩ := z
        rw [h'] at e1
        cases e1
        exact .inl r
      | own x =>
        cases e
        obtain ⟨a, e1, o, _, _⟩ := z
        rw [h'] at e1
        cases e1
        exact .inr ⟨a, rfl, o⟩
/-- made a value: nobody changes it any more -/
def toVal (I : List Nat) (b : Md × W) (ρ : Rho) : R W := match b.1 with
  | .val => .ok b.2 ρ
  | .fre => .ok b.2 ρ
  | .bor i => match ρ[i]? with
    | some (.own u) => if i ∈ I then .stk else .ok u (ρ.set i (.val u))
    | some (.val u) => .ok u ρ
    | _ => .stk
theorem SR.toValH (S : SR K Y.B F H σ ρ) {b : Md × W} {v : V} (h : Held σ K F1 H1 b.1 b.2 v) (k1 : Keeps F1 H1 F H) {P : W → Rho → Fz → Hp → Prop} (q : RunG K Y F H σ (toVal I b ρ) P) : ∃ F' w ρ', SR K Y.B F' H σ ρ' ∧ Keeps F H F' H ∧ Rep K F' H w v ∧ P w ρ' F' H := by
  obtain ⟨m, w⟩ := b
  cases m with
  | val => exact ⟨F, w, ρ, S, .refl, Rep.mono k1 w h, q F H S .refl⟩
  | fre => exact ⟨F, w, ρ, S, .refl, Rep.mono k1 w h, q F H S .refl⟩
  | bor i =>
    have h2' : σ[i]? = some (some v) := h
    unfold ML.toVal at q
    dsimp only at q
    cases g : ρ[i]? with
    | none => rw [g] at q; exact q.elim
    | some sl =>
      rw [g] at q
      cases sl with
      | no => exact q.elim
      | exn => exact q.elim
      | val u =>
        obtain ⟨v', e1, r⟩ := S.slot i _ g
        rw [h2'] at e1
        cases e1
        exact ⟨F, u, ρ, S, .refl, r, q F H S .refl⟩
      | own u =>
        dsimp only at q
        split at q
        · exact q.elim
        · rename_i n
          have ui := Y.un n
          obtain ⟨a, e1, o, nf, nk⟩ := S.slot i _ g
          rw [h2'] at e1
          cases e1
          have h0 := S.new_of g h2' ui
          have Sd := S.drop ui
          obtain ⟨z, hu, _⟩ := o.some
          have hs : ∀ (j : Nat) (w' : W), (ρ.set i .no)[j]? = some (.own w') → σ[j]? ≠ some (some (.ref a)) := fun j w' hj ej => by
            by_cases e : i = j
            · subst e
              rw [List.getElem?_set] at hj
              split at hj
              · split at hj <;> cases hj
              · rename_i n; exact n rfl
            · rw [List.getElem?_set_ne e] at hj
              exact e (S.sep i j _ _ a g hj h2' ej)
          obtain ⟨S', k⟩ := Sd.freeze nf (by rw [hu]; exact (fun z => nomatch z)) h0 hs
          have o' : OwnR K (fun b => F b ∨ b = a) H u a := by
            cases u with
            | lst l => obtain ⟨vs, h1, h2⟩ := o; exact ⟨vs, h1, h2.mono k⟩
            | dK ks l => obtain ⟨vs, h1, n, h2⟩ := o; exact ⟨vs, h1, n, h2.mono k⟩
            | _ => exact o
          have r := o'.rep (.inr rfl)
          have S2 := S'.again (w := u) ui ⟨.ref a, h2', r⟩
          rw [List.set_set] at S2
          exact ⟨_, u, _, S2, k, r, q _ H S2 k⟩
theorem SR.toVal (S : SR K Y.B F H σ ρ) {b : Md × W} {v : V} (h : VR K Y.B F H σ ρ b.1 b.2 v) {P : W → Rho → Fz → Hp → Prop} (q : RunG K Y F H σ (toVal I b ρ) P) : ∃ F' w ρ', SR K Y.B F' H σ ρ' ∧ Keeps F H F' H ∧ Rep K F' H w v ∧ P w ρ' F' H := by
  obtain ⟨F1, S1, k1, h1⟩ := S.hold h
  obtain ⟨F2, w, ρ2, S2, k2, r, p⟩ := S1.toValH h1 .refl (q.rebase k1)
  exact ⟨F2, w, ρ2, S2, k1.trans k2, r, p⟩
/-- what an operation makes anew -/
def NewR (K : PySem.W.Frag) (H : Hp) (F' : Fz) (H' : Hp) (m : Md) (z : W) (v : V) : Prop := match m with
  | .val => Rep K F' H' z v
  | .fre => ∃ a, v = .ref a ∧ OwnR K F' H' z a ∧ ¬ F' a ∧ H a = none
  | .bor _ => False
theorem SR.newR (S : SR K Y.B F H σ ρ) (e : Ext [] F H F' H') {m : Md} {z : W} {v : V} (h : NewR K H F' H' m z v) : VR K Y.B F' H' σ ρ m z v := by
  cases m with
  | val => exact h
  | fre =>
    obtain ⟨a, rfl, o, nf, n⟩ := h
    refine ⟨a, rfl, o, nf, ?_, fun i w' hi ei => ?_⟩
    · cases q : Y.B.H0 a with
      | none => rfl
      | some u => exact absurd n (S.alive a (by rw [q]; exact (fun z => nomatch z)))
    · obtain ⟨b, eb, ob, _, _⟩ := S.slot i _ hi
      rw [ei] at eb
      cases eb
      obtain ⟨u, hu, _⟩ := ob.some
      rw [n] at hu; cases hu
  | bor i => exact h.elim
theorem lift_ok {o : Option β} {P : β → Rho → Fz → Hp → Prop} (h : RunG K Y F H σ (lift o ρ) P) : ∃ b, o = some b ∧ ∀ F' H', SR K Y.B F' H' σ ρ → Keeps F H F' H' → P b ρ F' H' := by
  cases o with
  | none => exact h.elim
  | some b => exact ⟨b, rfl, h⟩
end
end ML

set_option maxHeartbeats 4000000
namespace ML
open PySem PySem.Spec PyProof.Rows L2
variable {I : List Nat}
section
variable {X : Cx} {Y : Yx I} {e a b : Expr} {pos : Pos} {fa fb : Rho → R (Md × W)}
/-! ### names, constants -/
def mVar (i : Nat) : Rho → R (Md × W) := fun ρ => match ρ[i]? with
  | some (.val w) => .ok (.val, w) ρ
  | some (.own w) => .ok (.bor i, w) ρ
  | _ => .stk
theorem pem_var (i : Nat) (h : PE X e (tVar i)) : PEM X Y e (mVar i) := pe_weak h fun σ H Q hq => by
  obtain ⟨F, ρ, S, q⟩ := hq
  unfold mVar at q
  cases g : ρ[i]? with
  | none => rw [g] at q; exact q.elim
  | some sl =>
    rw [g] at q
    cases sl with
    | no => exact q.elim
    | exn => exact q.elim
    | val w =>
      obtain ⟨v, ev, r⟩ := S.slot i _ g
      exact ⟨v, ev, q F H S .refl v r⟩
    | own w =>
      obtain ⟨c, ev, _⟩ := S.slot i _ g
      exact ⟨_, ev, q F H S .refl _ ⟨g, ev⟩⟩
def mC (w : W) : Rho → R (Md × W) := fun ρ => .ok (.val, w) ρ
theorem pem_c {w : W} {v : V} (h : PE X e (tC v)) (r : ∀ F H, Rep X.K F H w v) : PEM X Y e (mC w) := pe_weak h fun σ H Q hq => by
  obtain ⟨F, ρ, S, q⟩ := hq
  exact q F H S .refl v (r F H)
theorem pem_int {i j pos} : PEM X Y (.Constant (.int i) j pos) (mC (.int i)) := pem_c pe_int fun _ _ => rfl
theorem pem_bl {b j pos} : PEM X Y (.Constant (.bool b) j pos) (mC (.bl b)) := pem_c pe_bl fun _ _ => rfl
theorem pem_non {j pos} : PEM X Y (.Constant .none j pos) (mC .non) := pem_c pe_non fun _ _ => rfl
theorem pem_str {x j pos} : PEM X Y (.Constant (.str x) j pos) (mC (.str x)) := pem_c pe_str fun _ _ => rfl
/-! ### operators -/
def Tight (F : Fz) (H : Hp) : Prop := ∀ a, F a → H a ≠ none
def OpW (K : PySem.W.Frag) (r : R2) (g : W → W → Option (Md × W)) : Prop := ∀ x y m z, g x y = some (m, z) → ∀ (F : Fz) (H : Hp) (vx vy : V) (Q : VK), Tight F H → PkR K F H x vx → PkR K F H y vy →
  (∀ F' H' v, Ext [] F H F' H' → NewR K H F' H' m z v → Q v H') → r vx vy H Q
def mOp (g : W → W → Option (Md × W)) (fa fb : Rho → R (Md × W)) : Rho → R (Md × W) := fun ρ => (fa ρ).bind fun x ρ1 => (fb ρ1).bind fun y ρ2 =>
  match peek x.1 x.2 ρ2, peek y.1 y.2 ρ2 with
  | some u, some v => lift (g u v) ρ2
  | _, _ => .stk
theorem tOp_of {K : PySem.W.Frag} {r : R2} {g : W → W → Option (Md × W)} (hg : OpW K r g) {σ : L2.St} {H : Hp} {Q : VK} (hq : tM K Y (mOp g fa fb) σ H Q) : tOp r (tM K Y fa) (tM K Y fb) σ H Q := by
  obtain ⟨F, ρ, S, q⟩ := hq
  refine ⟨F, ρ, S, (RunG.bind q).imp fun x ρ1 F1 H1 S1 k1 q1 v1 hv1 => ?_⟩
  obtain ⟨F1', S1', k1', hd1⟩ := S1.hold hv1
  refine ⟨F1', ρ1, S1', (RunG.bind (q1.rebase k1')).imp fun y ρ2 F2 H2 S2 k2 q2 v2 hv2 => ?_⟩
  obtain ⟨F2', S2', k2', hd2⟩ := S2.hold hv2
  have q3 := q2.rebase k2'
  cases e1 : peek x.1 x.2 ρ2 with
  | none => rw [e1] at q3; exact q3.elim
  | some u =>
    cases e2 : peek y.1 y.2 ρ2 with
    | none => rw [e1, e2] at q3; exact q3.elim
    | some w =>
      rw [e1, e2] at q3
      obtain ⟨⟨m, z⟩, ez, qz⟩ := lift_ok q3
      refine hg u w m z ez F2' H2 v1 v2 Q S2'.f2 (S2'.peek hd1 (k2.trans k2') e1) (S2'.peek hd2 .refl e2) fun F' H' v ee hn => ?_
      exact qz F' H' (S2'.grow ee) ee.keeps v (S2'.newR ee hn)
theorem pem_op {op : Operator} {r : R2} {g : W → W → Option (Md × W)} (ho : OpR X (binaryOp op) r) (hg : OpW X.K r g) (ha : PEM X Y a fa) (hb : PEM X Y b fb) : PEM X Y (.BinOp a op b pos) (mOp g fa fb) :=
  pe_weak (pe_op ho ha hb) fun σ H Q hq => tOp_of hg hq
theorem pem_cmp {op : CmpOp} {r : R2} {g : W → W → Option (Md × W)} (ho : OpR X (compareOp op) r) (hg : OpW X.K r g) (ha : PEM X Y a fa) (hb : PEM X Y b fb) (hm : behindInMarks op b = false) : PEM X Y (.Compare a [op] [b] pos) (mOp g fa fb) :=
  pe_weak (pe_cmpR ho ha hb hm) fun σ H Q hq => tOp_of hg hq
end
/-! ### the operators by W -/
section
variable {K : PySem.W.Frag} {F : Fz} {H : Hp}
/-- a list that is read (own or not), with its words -/
theorem PkR.lst {l : List W} {v : V} (h : PkR K F H (.lst l) v) : ∃ a vs, v = .ref a ∧ H a = some (.lst vs) ∧ RepL K F H l vs := by
  rcases h with ⟨a, vs, e, _, h1, h2⟩ | ⟨a, e, vs, h1, h2⟩
  · exact ⟨a, vs, e, h1, h2⟩
  · exact ⟨a, vs, e, h1, h2⟩
theorem PkR.dK {ks : List Key} {l : List W} {v : V} (h : PkR K F H (.dK ks l) v) : ∃ a vs, v = .ref a ∧ H a = some (.dK (ks.zip vs)) ∧ ks.length = vs.length ∧ RepL K F H l vs := by
  rcases h with ⟨a, vs, e, _, h1, n, h2⟩ | ⟨a, e, vs, h1, n, h2⟩
  · exact ⟨a, vs, e, h1, n, h2⟩
  · exact ⟨a, vs, e, h1, n, h2⟩
theorem PkR.rep {w : W} {v : V} (h : PkR K F H w v) (n : ∀ l, w ≠ .lst l) (m : ∀ ks l, w ≠ .dK ks l) : Rep K F H w v := by
  rcases h with h | ⟨a, e, h⟩
  · exact h
  · cases w with
    | lst l => exact absurd rfl (n l)
    | dK ks l => exact absurd rfl (m ks l)
    | _ => exact h.elim
theorem PkR.int {i : Int} {v : V} (h : PkR K F H (.int i) v) : v = .int i := h.rep (fun _ => W.noConfusion) fun _ _ => W.noConfusion
theorem PkR.bl {i : Bool} {v : V} (h : PkR K F H (.bl i) v) : v = .bl i := h.rep (fun _ => W.noConfusion) fun _ _ => W.noConfusion
theorem PkR.str {i : Str} {v : V} (h : PkR K F H (.str i) v) : v = .str i := h.rep (fun _ => W.noConfusion) fun _ _ => W.noConfusion
theorem PkR.non {v : V} (h : PkR K F H .non v) : v = .non := h.rep (fun _ => W.noConfusion) fun _ _ => W.noConfusion
theorem PkR.tup {l : List W} {v : V} (h : PkR K F H (.tup l) v) : ∃ a vs, v = .ref a ∧ SqU K H a vs ∧ RepL K F H l vs := h.rep (fun _ => W.noConfusion) fun _ _ => W.noConfusion
theorem PkR.frl {l : List W} {v : V} (h : PkR K F H (.frl l) v) : ∃ a vs, v = .ref a ∧ FrlL K H a vs ∧ RepL K F H l vs := h.rep (fun _ => W.noConfusion) fun _ _ => W.noConfusion
/-- the items of a list, a tuple -/
def itemsW : W → Option (List W)
  | .lst l => some l
  | .frl l => some l
  | .tup l => some l
  | _ => none
theorem PkR.seq {w : W} {l : List W} {v : V} (h : PkR K F H w v) (e : itemsW w = some l) : ∃ a vs, v = .ref a ∧ (SqL K H a vs ∨ SqT K H a vs) ∧ RepL K F H l vs := by
  cases w with
  | lst m => cases e; obtain ⟨a, vs, e1, h1, r⟩ := h.lst; exact ⟨a, vs, e1, .inl (.of h1), r⟩
  | frl m => cases e; obtain ⟨a, vs, e1, h1, r⟩ := h.frl; exact ⟨a, vs, e1, .inl h1.seq, r⟩
  | tup m => cases e; obtain ⟨a, vs, e1, h1, r⟩ := h.tup; exact ⟨a, vs, e1, .inr h1.seq, r⟩
  | _ => cases e
/-- a new list -/
theorem new_lst (t : Tight F H) {l : List W} {vs : List V} (r : RepL K F H l vs) {Q : VK} (q : ∀ F' H' v, Ext [] F H F' H' → NewR K H F' H' .fre (.lst l) v → Q v H') {p : Addr} (hp : H p = none) : Q (.ref p) (upd H p (.lst vs)) := by
  have e : Ext [] F H F (upd H p (.lst vs)) := Ext.new hp t
  exact q _ _ _ e ⟨p, rfl, ⟨vs, upd_same, r.mono e.keeps⟩, fun f => t p f hp, hp⟩
theorem new_tup (t : Tight F H) {l : List W} {vs : List V} (r : RepL K F H l vs) {Q : VK} (q : ∀ F' H' v, Ext [] F H F' H' → NewR K H F' H' .val (.tup l) v → Q v H') {p : Addr} (hp : H p = none) : Q (.ref p) (upd H p (.tup vs)) := by
  have e : Ext [] F H F (upd H p (.tup vs)) := Ext.new hp t
  exact q _ _ _ e ⟨p, vs, rfl, .inl upd_same, r.mono e.keeps⟩
theorem old_val (t : Tight F H) {z : W} {v : V} (r : Rep K F H z v) {Q : VK} (q : ∀ F' H' v, Ext [] F H F' H' → NewR K H F' H' .val z v → Q v H') : Q v H := q F H v (.refl t) r
theorem RepL.flatten {l : List W} {vs : List V} (r : RepL K F H l vs) : ∀ n, RepL K F H (List.replicate n l).flatten (List.replicate n vs).flatten
  | 0 => rfl
  | n + 1 => by
    rw [List.replicate_succ, List.replicate_succ, List.flatten_cons, List.flatten_cons]
    exact RepL.append r (RepL.flatten r n)
end
abbrev GW := W → W → Option (Md × W)
def gAdd : GW
  | .int i, .int j => some (.val, .int (i + j))
  | .str x, .str y => if x.length + y.length ≤ sizeLine then some (.val, .str (x ++ y)) else none
  | .lst l, .lst m => if l.length + m.length ≤ sizeLine then some (.fre, .lst (l ++ m)) else none
  | .tup l, .tup m => if l.length + m.length ≤ sizeLine then some (.val, .tup (l ++ m)) else none
  | _, _ => none
abbrev rAddS : R2 := fun x y H Q => ∃ i j, x = .str i ∧ y = .str j ∧ i.length + j.length ≤ sizeLine ∧ Q (.str (i ++ j)) H
def rAddM (K : PySem.W.Frag) : R2 := fun x y H Q => rI0 (fun i j => .int (i + j)) x y H Q ∨ rAddS x y H Q ∨ rCat x y H Q ∨ rCatA K x y H Q
theorem OpR.or {X : Cx} {f : Value → Value → Sem Value} {r r' : R2} (h : OpR X f r) (h' : OpR X f r') : OpR X f (fun x y H Q => r x y H Q ∨ r' x y H Q) := by
  intro pins s σ H x y v u Q I rx ry q
  rcases q with q | q
  · exact h pins s σ H x y v u Q I rx ry q
  · exact h' pins s σ H x y v u Q I rx ry q
theorem o_add {X : Cx} : OpR X (binaryOp .Add) (rAddM X.K) := OpR.or op_add (OpR.or op_add_str (OpR.or op_cat op_catA))
theorem g_add {K : PySem.W.Frag} : OpW K (rAddM K) gAdd := by
  intro x y m z e F H vx vy Q t px py q
  unfold gAdd at e
  split at e
  · cases e; cases px.int; cases py.int
    exact .inl ⟨_, _, rfl, rfl, old_val t (K := K) (z := .int _) rfl q⟩
  · split at e
    · rename_i hl
      cases e; cases px.str; cases py.str
      exact .inr (.inl ⟨_, _, rfl, rfl, hl, old_val t (K := K) (z := .str _) rfl q⟩)
    · cases e
  · split at e
    · rename_i hl
      cases e
      obtain ⟨a, vs, rfl, h1, r1⟩ := px.lst
      obtain ⟨b, us, rfl, h2, r2⟩ := py.lst
      refine .inr (.inr (.inl ⟨a, b, vs, us, rfl, rfl, h1, h2, by rw [← r1.len, ← r2.len]; exact hl, fun p hp => new_lst t (r1.append r2) q hp⟩))
    · cases e
  · split at e
    · rename_i hl
      cases e
      obtain ⟨a, vs, rfl, h1, r1⟩ := px.tup
      obtain ⟨b, us, rfl, h2, r2⟩ := py.tup
      refine .inr (.inr (.inr ⟨a, b, vs, us, rfl, rfl, h1.seq, h2.seq, by rw [← r1.len, ← r2.len]; exact hl, fun ex => ?_, fun _ ey => ?_, fun _ _ p hp => new_tup t (r1.append r2) q hp⟩))
      · subst ex
        have el := r1.len
        rw [List.length_nil, List.length_eq_zero_iff] at el
        subst el
        exact old_val t (show Rep K F H (.tup _) (.ref b) from ⟨b, us, rfl, h2, r2⟩) q
      · subst ey
        have el := r2.len
        rw [List.length_nil, List.length_eq_zero_iff] at el
        subst el
        exact old_val t (show Rep K F H (.tup _) (.ref a) from ⟨a, vs, rfl, h1, by rw [List.append_nil]; exact r1⟩) q
    · cases e
  · cases e
def gI (C : Int → Int → Bool) (f : Int → Int → Int) : GW
  | .int i, .int j => if C i j then some (.val, .int (f i j)) else none
  | _, _ => none
theorem g_I {K : PySem.W.Frag} {C : Int → Int → Bool} {f : Int → Int → Int} {CP : Int → Int → Prop} (hC : ∀ i j, C i j = true → CP i j) : OpW K (rI CP fun i j => .int (f i j)) (gI C f) := by
  intro x y m z e F H vx vy Q t px py q
  unfold gI at e
  split at e
  · split at e
    · rename_i hc
      cases e; cases px.int; cases py.int
      exact ⟨_, _, rfl, rfl, hC _ _ hc, old_val t (K := K) (z := .int _) rfl q⟩
    · cases e
  · cases e
def gSub : GW := gI (fun _ _ => true) fun i j => i - j
theorem o_sub {X : Cx} : OpR X (binaryOp .Sub) (rI (fun _ _ => True) fun i j => .int (i - j)) := fun pins s σ H x y v u Q I rx ry ⟨i, j, e1, e2, _, q⟩ => op_sub pins s σ H x y v u Q I rx ry ⟨i, j, e1, e2, q⟩
theorem g_sub {K : PySem.W.Frag} : OpW K (rI (fun _ _ => True) fun i j => .int (i - j)) gSub := g_I fun _ _ _ => trivial
def gMod : GW := gI (fun _ j => decide (0 < j)) fun i j => i % j
theorem g_mod {K : PySem.W.Frag} : OpW K (rI (fun _ j => 0 < j) fun i j => .int (i % j)) gMod := g_I fun _ _ h => of_decide_eq_true h
def gFdiv : GW := gI (fun _ j => decide (0 < j) && decide (j < 1073741824)) fun i j => i / j
theorem g_fdiv {K : PySem.W.Frag} : OpW K (rI CDiv fun i j => .int (i / j)) gFdiv := g_I fun i j h => by
  have h' : (decide (0 < j) && decide (j < 1073741824)) = true := h
  rw [Bool.and_eq_true_iff] at h'
  exact ⟨of_decide_eq_true h'.1, of_decide_eq_true h'.2⟩
def gPow : GW := gI (fun i j => decide (0 ≤ j) && (decide (j ≤ 1000000) && decide (i.natAbs < 2 ^ 64))) fun i j => i ^ j.toNat
theorem g_pow {K : PySem.W.Frag} : OpW K (rI CPow fun i j => .int (i ^ j.toNat)) gPow := g_I fun i j h => by
  have h' : (decide (0 ≤ j) && (decide (j ≤ 1000000) && decide (i.natAbs < 2 ^ 64))) = true := h
  rw [Bool.and_eq_true_iff, Bool.and_eq_true_iff] at h'
  exact ⟨of_decide_eq_true h'.1, of_decide_eq_true h'.2.1, of_decide_eq_true h'.2.2⟩
def okMul (i j : Int) : Bool := (decide (-(2 ^ 64) < i) && decide (i < 2 ^ 64)) || (decide (-(2 ^ 64) < j) && decide (j < 2 ^ 64))
def gMul : GW
  | .int i, .int j => if okMul i j then some (.val, .int (i * j)) else none
  | .lst l, .int k => if -(2 ^ 63) ≤ k ∧ k < 2 ^ 63 ∧ l.length * k.toNat ≤ sizeLine then some (.fre, .lst (List.replicate k.toNat l).flatten) else none
  | _, _ => none
def rMulM : R2 := fun x y H Q => rI CMul (fun i j => .int (i * j)) x y H Q ∨ rRep x y H Q
theorem o_mul {X : Cx} : OpR X (binaryOp .Mult) rMulM := OpR.or op_mul op_rep
theorem g_mul {K : PySem.W.Frag} : OpW K rMulM gMul := by
  intro x y m z e F H vx vy Q t px py q
  unfold gMul at e
  split at e
  · split at e
    · rename_i i j hc
      cases e; cases px.int; cases py.int
      refine .inl ⟨_, _, rfl, rfl, ?_, old_val t (K := K) (z := .int _) rfl q⟩
      have h' : ((decide (-(2 ^ 64) < i) && decide (i < 2 ^ 64)) || (decide (-(2 ^ 64) < j) && decide (j < 2 ^ 64))) = true := hc
      rw [Bool.or_eq_true_iff, Bool.and_eq_true_iff, Bool.and_eq_true_iff] at h'
      rcases h' with h' | h'
      · exact .inl ⟨of_decide_eq_true h'.1, of_decide_eq_true h'.2⟩
      · exact .inr ⟨of_decide_eq_true h'.1, of_decide_eq_true h'.2⟩
    · cases e
  · split at e
    · rename_i hc
      cases e; cases py.int
      obtain ⟨a, vs, rfl, h1, r1⟩ := px.lst
      exact .inr ⟨a, _, vs, rfl, rfl, h1, hc.1, hc.2.1, by rw [← r1.len]; exact hc.2.2, fun p hp => new_lst t (r1.flatten _) q hp⟩
    · cases e
  · cases e
def gLt : GW
  | .int i, .int j => some (.val, .bl (decide (i < j)))
  | _, _ => none
def gCmp (p : Int → Int → Bool) : GW
  | .int i, .int j => some (.val, .bl (p i j))
  | _, _ => none
theorem g_cmp {K : PySem.W.Frag} {p : Int → Int → Bool} : OpW K (rI0 fun i j => .bl (p i j)) (gCmp p) := by
  intro x y m z e F H vx vy Q t px py q
  unfold gCmp at e
  split at e
  · cases e; cases px.int; cases py.int
    exact ⟨_, _, rfl, rfl, old_val t (K := K) (z := .bl _) rfl q⟩
  · cases e
end ML

set_option maxHeartbeats 4000000
namespace ML
open PySem PySem.Spec PyProof.Rows L2
variable {I : List Nat}
/-! ### flat values, data -/
def toV : W → V
  | .bl b => .bl b
  | .int i => .int i
  | .str s => .str s
  | .ty n => .ty n
  | _ => .non
def flatW : W → Bool
  | .non => true
  | .bl _ => true
  | .int _ => true
  | .str _ => true
  | _ => false
mutual
def toD : W → Option PyData
  | .non => some .none
  | .bl b => some (.bool b)
  | .int i => some (.int i)
  | .str s => some (.str s)
  | .tup l => (toDL l).map .tuple
  | .lst l => (toDL l).map .list
  | .frl l => (toDL l).map .list
  | _ => none
def toDL : List W → Option (List PyData)
  | [] => some []
  | w :: l => match toD w, toDL l with
    | some d, some ds => some (d :: ds)
    | _, _ => none
end
section
variable {K : PySem.W.Frag} {F : Fz} {H : Hp}
theorem PkR.flat {w : W} {v : V} (h : PkR K F H w v) (f : flatW w = true) : v = toV w := by
  cases w with
  | non => exact h.non
  | bl b => exact h.bl
  | int b => exact h.int
  | str b => exact h.str
  | _ => cases f
theorem flat_toV {w : W} (f : flatW w = true) : flatV (toV w) = true := by
  cases w <;> first | rfl | cases f
theorem Rep.flat {w : W} {v : V} (h : Rep K F H w v) (f : flatW w = true) : v = toV w := PkR.flat (.inl h) f
theorem RepL.flat : ∀ {l : List W} {vs : List V}, RepL K F H l vs → l.all flatW = true → vs = l.map toV ∧ vs.all flatV = true
  | [], _, h, _ => by cases h; exact ⟨rfl, rfl⟩
  | w :: l, _, h, f => by
    obtain ⟨v, r, rfl, h1, h2⟩ := h
    rw [List.all_cons, Bool.and_eq_true_iff] at f
    obtain ⟨e1, e2⟩ := RepL.flat h2 f.2
    have e := h1.flat f.1
    rw [e, e1]
    refine ⟨rfl, ?_⟩
    rw [List.all_cons, flat_toV f.1, ← e1, e2]
    rfl
mutual
theorem toD_dp : ∀ (w : W) {d : PyData} {v : V}, toD w = some d → Rep K F H w v → Dp K H v d
  | .non, _, _, e, h => by cases e; cases h; exact .non
  | .bl b, _, _, e, h => by cases e; cases h; exact .bl b
  | .int b, _, _, e, h => by cases e; cases h; exact .int b
  | .str b, _, _, e, h => by cases e; cases h; exact .str b
  | .fn _, _, _, e, _ => by cases e
  | .ty _, _, _, e, _ => by cases e
  | .dK _ _, _, _, e, _ => by cases e
  | .tup l, _, _, e, h => by
    obtain ⟨a, vs, rfl, s, r⟩ := h
    have e1 : (toDL l).map PyData.tuple = some _ := e
    obtain ⟨ds, q, rfl⟩ := Option.map_eq_some_iff.mp e1
    exact .tup s.seq (toDL_dp l q r)
  | .lst l, _, _, e, h => by
    obtain ⟨a, vs, rfl, _, s, r⟩ := h
    have e1 : (toDL l).map PyData.list = some _ := e
    obtain ⟨ds, q, rfl⟩ := Option.map_eq_some_iff.mp e1
    exact .lst (.of s) (toDL_dp l q r)
  | .frl l, _, _, e, h => by
    obtain ⟨a, vs, rfl, s, r⟩ := h
    have e1 : (toDL l).map PyData.list = some _ := e
    obtain ⟨ds, q, rfl⟩ := Option.map_eq_some_iff.mp e1
    exact .lst s.seq (toDL_dp l q r)
theorem toDL_dp : ∀ (l : List W) {ds : List PyData} {vs : List V}, toDL l = some ds → RepL K F H l vs → DpAll K H vs ds
  | [], _, _, e, h => by cases e; cases h; exact .nil
  | w :: l, ds, _, e, h => by
    obtain ⟨v, r, rfl, h1, h2⟩ := h
    have e1 : (match toD w, toDL l with
      | some d, some ds => some (d :: ds)
      | _, _ => none) = some ds := e
    cases q1 : toD w with
    | none => rw [q1] at e1; cases e1
    | some d =>
      cases q2 : toDL l with
      | none => rw [q1, q2] at e1; cases e1
      | some ds' =>
        rw [q1, q2] at e1
        cases e1
        exact .cons (toD_dp w q1 h1) (toDL_dp l q2 h2)
end
theorem PkR.dp {w : W} {d : PyData} {v : V} (h : PkR K F H w v) (e : toD w = some d) : Dp K H v d := by
  rcases h with h | ⟨a, rfl, o⟩
  · exact toD_dp w e h
  · cases w with
    | lst l =>
      obtain ⟨vs, s, r⟩ := o
      have e1 : (toDL l).map PyData.list = some _ := e
      obtain ⟨ds, q, rfl⟩ := Option.map_eq_some_iff.mp e1
      exact .lst (.of s) (toDL_dp l q r)
    | dK ks l => cases e
    | _ => exact o.elim
end
/-! ### == != -/
def eqW (x y : W) : Option Bool := if flatW x && flatW y && scal (toV x) (toV y) then some (decide (toV x = toV y)) else match toD x, toD y with
  | some d, some e => if d.canLay0 && e.canLay0 && decide (min d.depth e.depth ≤ 150) then some (PyData.eqv d e) else none
  | _, _ => none
def gEq : GW := fun x y => (eqW x y).map fun b => (.val, .bl b)
def gNe : GW := fun x y => (eqW x y).map fun b => (.val, .bl (!b))
def rEqX (K : PySem.W.Frag) (n : Bool → Bool) : R2 := fun x y H Q => ∃ d e, Dp K H x d ∧ Dp K H y e ∧ d.canLay0 = true ∧ e.canLay0 = true ∧ min d.depth e.depth ≤ 150 ∧ Q (.bl (n (PyData.eqv d e))) H
section
variable {X : Cx}
theorem op_eqX (hu : X.A.units + 200 < cLine) : OpR X (compareOp .Eq) (rEqX X.K id) := by
  intro pins s σ H x y v u Q I rx ry h
  obtain ⟨d, e, hd, he, sd, se, sz, q⟩ := h
  obtain ⟨as, r1⟩ := Dp.reads I d x v hd rx
  obtain ⟨bs, r2⟩ := Dp.reads I e y u he ry
  exact SeqAt.compareEq_reads r1 r2 sd se (by omega) ⟨.bl _, H, I, rfl, q⟩
theorem op_neX (hu : X.A.units + 200 < cLine) : OpR X (compareOp .NotEq) (rEqX X.K not) := by
  intro pins s σ H x y v u Q I rx ry h
  obtain ⟨d, e, hd, he, sd, se, sz, q⟩ := h
  obtain ⟨as, r1⟩ := Dp.reads I d x v hd rx
  obtain ⟨bs, r2⟩ := Dp.reads I e y u he ry
  exact SeqAt.compareNe_reads r1 r2 sd se (by omega) ⟨.bl _, H, I, rfl, q⟩
theorem o_eq (hu : X.A.units + 200 < cLine) : OpR X (compareOp .Eq) (fun x y H Q => rEq x y H Q ∨ rEqX X.K id x y H Q) := OpR.or op_eq (op_eqX hu)
theorem o_ne (hu : X.A.units + 200 < cLine) : OpR X (compareOp .NotEq) (fun x y H Q => rNe x y H Q ∨ rEqX X.K not x y H Q) := OpR.or op_ne (op_neX hu)
end
theorem eq_cases {K : PySem.W.Frag} {x y : W} {b : Bool} (e : eqW x y = some b) {F : Fz} {H : Hp} {vx vy : V} (px : PkR K F H x vx) (py : PkR K F H y vy) :
    (scal vx vy = true ∧ b = decide (vx = vy)) ∨ ∃ d e, Dp K H vx d ∧ Dp K H vy e ∧ d.canLay0 = true ∧ e.canLay0 = true ∧ min d.depth e.depth ≤ 150 ∧ b = PyData.eqv d e := by
  unfold eqW at e
  split at e
  · rename_i h
    rw [Bool.and_eq_true_iff, Bool.and_eq_true_iff] at h
    cases e
    rw [px.flat h.1.1, py.flat h.1.2]
    exact .inl ⟨h.2, rfl⟩
  · cases q1 : toD x with
    | none => rw [q1] at e; cases e
    | some d =>
      cases q2 : toD y with
      | none => rw [q1, q2] at e; cases e
      | some d' =>
        rw [q1, q2] at e
        dsimp only at e
        split at e
        · rename_i h
          rw [Bool.and_eq_true_iff, Bool.and_eq_true_iff] at h
          cases e
          exact .inr ⟨d, d', px.dp q1, py.dp q2, h.1.1, h.1.2, of_decide_eq_true h.2, rfl⟩
        · cases e
theorem g_eq {K : PySem.W.Frag} : OpW K (fun x y H Q => rEq x y H Q ∨ rEqX K id x y H Q) gEq := by
  intro x y m z e F H vx vy Q t px py q
  obtain ⟨b, eb, e2⟩ := Option.map_eq_some_iff.mp (show (eqW x y).map _ = _ from e)
  cases e2
  have fin : Q (.bl b) H := old_val t (K := K) (z := .bl b) rfl q
  rcases eq_cases eb px py with ⟨h, rfl⟩ | ⟨d, d', h1, h2, h3, h4, h5, rfl⟩
  · exact .inl ⟨h, fin⟩
  · exact .inr ⟨d, d', h1, h2, h3, h4, h5, fin⟩
theorem g_ne {K : PySem.W.Frag} : OpW K (fun x y H Q => rNe x y H Q ∨ rEqX K not x y H Q) gNe := by
  intro x y m z e F H vx vy Q t px py q
  obtain ⟨b, eb, e2⟩ := Option.map_eq_some_iff.mp (show (eqW x y).map _ = _ from e)
  cases e2
  have fin : Q (.bl (!b)) H := old_val t (K := K) (z := .bl (!b)) rfl q
  rcases eq_cases eb px py with ⟨h, rfl⟩ | ⟨d, d', h1, h2, h3, h4, h5, rfl⟩
  · exact .inl ⟨h, fin⟩
  · exact .inr ⟨d, d', h1, h2, h3, h4, h5, fin⟩
/-! ### in, not in -/
def inW (neg : Bool) (x y : W) : Option Bool := match x, y with
  | .str s, .str z => if s.cps.size = 1 then some (if neg then !decide (s.cps.toList.headD 0 ∈ z.cps.toList) else decide (s.cps.toList.headD 0 ∈ z.cps.toList)) else none
  | x, y => match itemsW y with
    | some l => if flatW x && l.all flatW then some (if neg then !inV (toV x) (l.map toV) else inV (toV x) (l.map toV)) else none
    | none => none
def gIn (neg : Bool) : GW := fun x y => (inW neg x y).map fun b => (.val, .bl b)
def rInS (neg : Bool) : R2 := fun x y H Q => ∃ (c : Nat) (z : Str), x = .str ⟨#[c]⟩ ∧ y = .str z ∧ Q (.bl (if neg then !decide (c ∈ z.cps.toList) else decide (c ∈ z.cps.toList))) H
def rInM (K : PySem.W.Frag) (neg : Bool) : R2 := fun x y H Q => rInS neg x y H Q ∨ rIn K neg x y H Q
theorem o_in {X : Cx} : OpR X (compareOp .In) (rInM X.K false) := OpR.or (fun pins s σ H x y v u Q I rx ry ⟨c, z, e1, e2, q⟩ => op_in_sign pins s σ H x y v u Q I rx ry ⟨c, z, e1, e2, q⟩) op_in_seq
theorem o_notin {X : Cx} : OpR X (compareOp .NotIn) (rInM X.K true) := OpR.or (fun pins s σ H x y v u Q I rx ry ⟨c, z, e1, e2, q⟩ => op_notIn_sign pins s σ H x y v u Q I rx ry ⟨c, z, e1, e2, q⟩) op_notIn_seq
theorem str1 {s : Str} (h : s.cps.size = 1) : s = ⟨#[s.cps.toList.headD 0]⟩ := by
  obtain ⟨⟨l⟩⟩ := s
  match l, h with
  | [c], _ => rfl
theorem g_in {K : PySem.W.Frag} {neg : Bool} : OpW K (rInM K neg) (gIn neg) := by
  intro x y m z e F H vx vy Q t px py q
  obtain ⟨b, eb, e2⟩ := Option.map_eq_some_iff.mp (show (inW neg x y).map _ = _ from e)
  cases e2
  have fin : Q (.bl b) H := old_val t (K := K) (z := .bl b) rfl q
  unfold inW at eb
  split at eb
  · split at eb
    · rename_i s z h
      cases eb
      cases px.str
      cases py.str
      refine .inl ⟨s.cps.toList.headD 0, z, ?_, rfl, fin⟩
      rw [← str1 h]
    · cases eb
  · cases g : itemsW y with
    | none => rw [g] at eb; cases eb
    | some l =>
      rw [g] at eb
      dsimp only at eb
      split at eb
      · rename_i h
        rw [Bool.and_eq_true_iff] at h
        cases eb
        obtain ⟨a, vs, rfl, hs, r⟩ := py.seq g
        obtain ⟨e1, e2⟩ := r.flat h.2
        rw [px.flat h.1]
        exact .inr ⟨a, vs, rfl, hs, flat_toV h.1, e2, by rw [e1]; exact fin⟩
      · cases eb
/-! ### x is None -/
def nonW : W → Bool
  | .non => true
  | _ => false
def mIsN (n : Bool) (fa : Rho → R (Md × W)) : Rho → R (Md × W) := fun ρ => (fa ρ).bind fun x ρ1 => .ok (.val, .bl (if n then !nonW x.2 else nonW x.2)) ρ1
theorem VR.non_iff {K : PySem.W.Frag} {B : Bd} {F : Fz} {H : Hp} {σ : L2.St} {ρ : Rho} {m : Md} {w : W} {v : V} (S : SR K B F H σ ρ) (h : VR K B F H σ ρ m w v) : decide (v = .non) = nonW w := by
  have own : ∀ {a : Addr}, OwnR K F H w a → nonW w = false := fun {a} o => by cases w <;> first | rfl | exact o.elim
  cases m with
  | val =>
    have h' : Rep K F H w v := h
    cases w with
    | non => cases h'; rfl
    | bl _ => cases h'; rfl
    | int _ => cases h'; rfl
    | str _ => cases h'; rfl
    | fn _ => cases h'; rfl
    | ty _ => cases h'; rfl
    | tup _ => obtain ⟨a, vs, rfl, _⟩ := h'; rfl
    | lst _ => obtain ⟨a, vs, rfl, _⟩ := h'; rfl
    | frl _ => obtain ⟨a, vs, rfl, _⟩ := h'; rfl
    | dK _ _ => obtain ⟨a, vs, rfl, _⟩ := h'; rfl
  | fre => obtain ⟨a, rfl, o, _⟩ := h; rw [own o]; rfl
  | bor i =>
    obtain ⟨h1, h2⟩ := h
    obtain ⟨a, e, o, _⟩ := S.slot i _ h1
    rw [h2] at e
    cases e
    rw [own o]
    rfl
section
variable {X : Cx} {Y : Yx I} {a : Expr} {pos : Pos} {fa : Rho → R (Md × W)}
theorem pem_isN {j pos'} (ha : PEM X Y a fa) : PEM X Y (.Compare a [.Is] [.Constant .none j pos'] pos) (mIsN false fa) := pe_weak (pe_cmp (pc_isN ha) (nomark _)) fun σ H Q hq => by
  obtain ⟨F, ρ, S, q⟩ := hq
  refine ⟨F, ρ, S, (RunG.bind q).imp fun x ρ1 F1 H1 S1 k1 q1 v1 hv1 => ?_⟩
  have z := q1 F1 H1 S1 .refl (.bl (decide (v1 = .non))) ?_
  · exact z
  · show V.bl _ = V.bl _
    rw [hv1.non_iff S1]
    rfl
theorem pem_notN {j pos'} (ha : PEM X Y a fa) : PEM X Y (.Compare a [.IsNot] [.Constant .none j pos'] pos) (mIsN true fa) := pe_weak (pe_cmp (pc_notN ha) (nomark _)) fun σ H Q hq => by
  obtain ⟨F, ρ, S, q⟩ := hq
  refine ⟨F, ρ, S, (RunG.bind q).imp fun x ρ1 F1 H1 S1 k1 q1 v1 hv1 => ?_⟩
  have z := q1 F1 H1 S1 .refl (.bl (!decide (v1 = .non))) ?_
  · exact z
  · show V.bl _ = V.bl _
    rw [hv1.non_iff S1]
    rfl
/-! ### minus -/
def mNeg (fa : Rho → R (Md × W)) : Rho → R (Md × W) := fun ρ => (fa ρ).bind fun x ρ1 => match x.1, x.2 with
  | .val, .int i => .ok (.val, .int (-i)) ρ1
  | _, _ => .stk
theorem pem_neg (ha : PEM X Y a fa) : PEM X Y (.UnaryOp .USub a pos) (mNeg fa) := pe_weak (pe_un un_neg ha) fun σ H Q hq => by
  obtain ⟨F, ρ, S, q⟩ := hq
  refine ⟨F, ρ, S, (RunG.bind q).imp fun x ρ1 F1 H1 S1 k1 q1 v1 hv1 => ?_⟩
  obtain ⟨m, w⟩ := x
  dsimp only at q1
  split at q1
  · cases (show v1 = .int _ from hv1)
    exact ⟨_, rfl, q1 F1 H1 S1 .refl _ rfl⟩
  · exact q1.elim
end
end ML

set_option maxHeartbeats 4000000
namespace ML
open PySem PySem.Spec PyProof.Rows L2
variable {I : List Nat}
/-! ### storing in slots -/
section
variable {K : PySem.W.Frag} {B : Bd} {F F' F1 F2 : Fz} {H H' H1 H2 : Hp} {σ : L2.St} {ρ : Rho}
theorem set_cases {α : Type} {l : List α} {i j : Nat} {x y : α} (h : (l.set i x)[j]? = some y) : (j = i ∧ y = x ∧ i < l.length) ∨ (j ≠ i ∧ l[j]? = some y) := by
  by_cases e : j = i
  · subst e
    rw [List.getElem?_set] at h
    split at h
    · split at h
      · rename_i q; left; exact ⟨rfl, (Option.some.inj h).symm, q⟩
      · cases h
    · rename_i n; exact absurd rfl n
  · right
    rw [List.getElem?_set_ne (Ne.symm e)] at h
    exact ⟨e, h⟩
theorem set_ne {α : Type} {l : List α} {i j : Nat} {x : α} (h : j ≠ i) : (l.set i x)[j]? = l[j]? := List.getElem?_set_ne (Ne.symm h)
theorem set_eq {α : Type} {l : List α} {i : Nat} {x : α} (h : i < l.length) : (l.set i x)[i]? = some x := by rw [List.getElem?_set, if_pos rfl, if_pos h]
theorem lent_set2 (S : SR K B F H σ ρ) {i : Nat} (u : unlent B i) (o : Option V) (s : Sl) : ∀ p ∈ B.I, (σ.set i o)[p.1]? = some (some (.ref p.2)) ∧ ∃ w, (ρ.set i s)[p.1]? = some (.own w) := fun p hp => by
  obtain ⟨h1, w, h2⟩ := S.lent p hp
  have n : p.1 ≠ i := fun e => u (List.mem_map.mpr ⟨p, hp, e⟩)
  exact ⟨by rw [set_ne n]; exact h1, w, by rw [set_ne n]; exact h2⟩
theorem SR.setVal (S : SR K B F H σ ρ) {i : Nat} {w : W} {v : V} (u : unlent B i) (h : Rep K F H w v) : SR K B F H (σ.set i (some v)) (ρ.set i (.val w)) := by
  refine ⟨by rw [List.length_set, List.length_set]; exact S.len, fun j s h' => ?_, fun j k z z' a h1 h2 e1 e2 => ?_, lent_set2 S u _ _, S.ext, S.alive, S.f0, S.f1, S.f2⟩
  · rcases set_cases h' with ⟨e, e', lt⟩ | ⟨n, e⟩
    · subst e; subst e'
      rw [set_eq (by rw [S.len]; exact lt)]
      exact ⟨v, rfl, h⟩
    · rw [set_ne n]
      exact S.slot j s e
  · rcases set_cases h1 with ⟨_, e, _⟩ | ⟨n1, g1⟩
    · cases e
    · rcases set_cases h2 with ⟨_, e, _⟩ | ⟨n2, g2⟩
      · cases e
      · rw [set_ne n1] at e1
        rw [set_ne n2] at e2
        exact S.sep j k z z' a g1 g2 e1 e2
theorem SR.setOwn (S : SR K B F H σ ρ) {i : Nat} {w : W} {v : V} (u : unlent B i) (h : Fre K B F H σ ρ w v) : SR K B F H (σ.set i (some v)) (ρ.set i (.own w)) := by
  obtain ⟨c, rfl, o, nf, h0, hs⟩ := h
  refine ⟨by rw [List.length_set, List.length_set]; exact S.len, fun j s h' => ?_, fun j k z z' a h1 h2 e1 e2 => ?_, lent_set2 S u _ _, S.ext, S.alive, S.f0, S.f1, S.f2⟩
  · rcases set_cases h' with ⟨e, e', lt⟩ | ⟨n, e⟩
    · subst e; subst e'
      rw [set_eq (by rw [S.len]; exact lt)]
      exact ⟨c, rfl, o, nf, fun k => k.1 h0⟩
    · rw [set_ne n]
      exact S.slot j s e
  · rcases set_cases h1 with ⟨j1, _, l1⟩ | ⟨n1, g1⟩
    · rcases set_cases h2 with ⟨j2, _, _⟩ | ⟨n2, g2⟩
      · rw [j1, j2]
      · exfalso
        rw [set_ne n2] at e2
        rw [j1, set_eq (by rw [S.len]; exact l1)] at e1
        cases e1
        exact hs k z' g2 e2
    · rcases set_cases h2 with ⟨j2, _, l2⟩ | ⟨n2, g2⟩
      · exfalso
        rw [set_ne n1] at e1
        rw [j2, set_eq (by rw [S.len]; exact l2)] at e2
        cases e2
        exact hs j z g1 e1
      · rw [set_ne n1] at e1
        rw [set_ne n2] at e2
        exact S.sep j k z z' a g1 g2 e1 e2
/-- the object of an own slot is changed -/
theorem SR.put (S : SR K B F H σ ρ) {i : Nat} {w w' : W} {a : Addr} {o : HO} (h : ρ[i]? = some (.own w)) (e : σ[i]? = some (some (.ref a))) (mu : Mut (some o)) (n : OwnR K F (upd H a o) w' a) :
    SR K B F (upd H a o) σ (ρ.set i (.own w')) ∧ Keeps F H F (upd H a o) := by
  obtain ⟨b, eb, ow, nf, nk⟩ := S.slot i _ h
  rw [e] at eb
  cases eb
  obtain ⟨u, hu, mu0⟩ := ow.some
  have il : i < ρ.length := (List.getElem?_eq_some_iff.mp h).1
  have k : Keeps F H F (upd H a o) := ⟨fun _ h => h, fun b x hb c => by
    have nb : b ≠ a := fun z => by
      subst z
      rcases c with c | c
      · exact nf c
      · rw [hu] at hb; cases hb; exact c mu0
    rw [upd_ne nb]
    exact hb⟩
  refine ⟨⟨by rw [List.length_set]; exact S.len, fun j s h' => ?_, fun j k z z' c h1 h2 e1 e2 => ?_, fun p hp => ?_, fun b x kb hb => ?_, fun b hb => ?_, S.f0, S.f1, fun b hb => ?_⟩, k⟩
  · rcases set_cases h' with ⟨ej, e', _⟩ | ⟨nj, ej⟩
    · subst ej; subst e'
      exact ⟨a, e, n, nf, nk⟩
    · have q := S.slot j s ej
      cases s with
      | no => trivial
      | exn => exact q
      | val z => obtain ⟨v, e1, r⟩ := q; exact ⟨v, e1, r.mono k⟩
      | own z =>
        obtain ⟨c, e1, oc, nfc, nkc⟩ := q
        have nc : c ≠ a := fun q => by
          subst q
          exact nj (S.sep j i z w c ej h e1 e)
        refine ⟨c, e1, ?_, nfc, nkc⟩
        cases z with
        | lst l => obtain ⟨vs, h1, h2⟩ := oc; exact ⟨vs, by rw [upd_ne nc]; exact h1, h2.mono k⟩
        | dK ks l => obtain ⟨vs, h1, m, h2⟩ := oc; exact ⟨vs, by rw [upd_ne nc]; exact h1, m, h2.mono k⟩
        | _ => exact oc
  · have g1 : ∃ z, ρ[j]? = some (.own z) := by
      rcases set_cases h1 with ⟨ej, _, _⟩ | ⟨_, g⟩
      · exact ⟨w, by rw [ej]; exact h⟩
      · exact ⟨_, g⟩
    have g2 : ∃ z, ρ[k]? = some (.own z) := by
      rcases set_cases h2 with ⟨ej, _, _⟩ | ⟨_, g⟩
      · exact ⟨w, by rw [ej]; exact h⟩
      · exact ⟨_, g⟩
    obtain ⟨z1, g1⟩ := g1
    obtain ⟨z2, g2⟩ := g2
    exact S.sep j k z1 z2 c g1 g2 e1 e2
  · obtain ⟨h1, z, h2⟩ := S.lent p hp
    by_cases ep : p.1 = i
    · exact ⟨h1, w', by rw [ep, set_eq il]⟩
    · exact ⟨h1, z, by rw [set_ne ep]; exact h2⟩
  · have nb : b ≠ a := fun z => nk (by rw [← z]; exact kb)
    rw [upd_ne nb]
    exact S.ext b x kb hb
  · by_cases eb : b = a
    · rw [eb, upd_same]; exact (fun z => nomatch z)
    · rw [upd_ne eb]; exact S.alive b hb
  · by_cases eb : b = a
    · rw [eb, upd_same]; exact (fun z => nomatch z)
    · rw [upd_ne eb]; exact S.f2 b hb
end
/-! ### statements -/
inductive Fl where
  | nx | bk | ct | rt (m : Md) (w : W)
def RunS (K : PySem.W.Frag) (Y : Yx I) (F : Fz) (H : Hp) (r : R Fl) (D : Ends) : Prop := match r with
  | .ok fl ρ' => (match fl with
    | .nx => ∀ F' H' σ', SR K Y.B F' H' σ' ρ' → Keeps F H F' H' → D.nx σ' H'
    | .bk => ∀ F' H' σ', SR K Y.B F' H' σ' ρ' → Keeps F H F' H' → D.bk σ' H'
    | .ct => ∀ F' H' σ', SR K Y.B F' H' σ' ρ' → Keeps F H F' H' → D.ct σ' H'
    | .rt m w => ∀ F' H' σ' v, SR K Y.B F' H' σ' ρ' → VR K Y.B F' H' σ' ρ' m w v → D.rt v H')
  | .exc c ns ws ρ' => ∀ F' H' σ' d, SR K Y.B F' H' σ' ρ' → ExF K F' H' ns ws d → Y.wx (.ref (Y.ct c)) d σ' H'
  | .stk => False
section
variable {K : PySem.W.Frag} {Y : Yx I} {F F' F1 F2 : Fz} {H H' H1 H2 : Hp} {σ : L2.St} {ρ : Rho} {β : Type}
theorem RunS.rebase {r : R Fl} {D : Ends} (h : RunS K Y F H r D) (k : Keeps F H F1 H1) : RunS K Y F1 H1 r D := by
  cases r with
  | ok fl ρ' =>
    cases fl with
    | nx => exact fun F' H' σ' S k' => h F' H' σ' S (k.trans k')
    | bk => exact fun F' H' σ' S k' => h F' H' σ' S (k.trans k')
    | ct => exact fun F' H' σ' S k' => h F' H' σ' S (k.trans k')
    | rt m w => exact h
  | exc c ns ws ρ' => exact h
  | stk => exact h
/-- an expression, then what hangs on it -/
theorem RunS.bindE {r : R β} {k : β → Rho → R Fl} {D : Ends} (h : RunS K Y F H (r.bind k) D) : RunG K Y F H σ r fun b ρ1 F1 H1 => RunS K Y F1 H1 (k b ρ1) D := by
  cases r with
  | ok b ρ' => exact fun F' H' S k' => RunS.rebase (show RunS K Y F H (k b ρ') D from h) k'
  | exc c ns ws ρ' => exact fun F' H' d S x => h F' H' σ d S x
  | stk => exact h
def tMS (K : PySem.W.Frag) (Y : Yx I) (g : Rho → R Fl) : TS := fun D σ H => ∃ F ρ, SR K Y.B F H σ ρ ∧ RunS K Y F H (g ρ) D
def PSM (X : Cx) (Y : Yx I) (st : Stmt) (g : Rho → R Fl) : Prop := PS X st (tMS X.K Y g)
def PSMs (X : Cx) (Y : Yx I) (st : List Stmt) (g : Rho → R Fl) : Prop := PSs X st (tMS X.K Y g)
theorem ps_weak {X : Cx} {e : Stmt} {t t' : TS} (h : PS X e t) (q : ∀ D σ H, t' D σ H → t D σ H) : PS X e t' := ⟨fun pins s σ H D I hq => h.run pins s σ H D I (q _ _ _ hq)⟩
theorem pss_weak {X : Cx} {e : List Stmt} {t t' : TS} (h : PSs X e t) (q : ∀ D σ H, t' D σ H → t D σ H) : PSs X e t' := ⟨fun pins s σ H D I hq => h.run pins s σ H D I (q _ _ _ hq)⟩
end
section
variable {X : Cx} {Y : Yx I} {e a b : Expr} {st : Stmt} {sts : List Stmt} {pos : Pos} {f : Rho → R (Md × W)} {g g' : Rho → R Fl}
def mNext : Rho → R Fl := fun ρ => .ok .nx ρ
def thenF (r : R Fl) (k : Rho → R Fl) : R Fl := r.bind fun fl ρ => match fl with
  | .nx => k ρ
  | fl => .ok fl ρ
def mSeq (g g' : Rho → R Fl) : Rho → R Fl := fun ρ => thenF (g ρ) g'
theorem psm_nil : PSMs X Y [] mNext := pss_weak pss_nil fun D σ H hq => by
  obtain ⟨F, ρ, S, q⟩ := hq
  exact q F H σ S .refl
theorem seq_of {K : PySem.W.Frag} {D : Ends} {σ : L2.St} {H : Hp} (hq : tMS K Y (mSeq g g') D σ H) : tSeq (tMS K Y g) (tMS K Y g') D σ H := by
  obtain ⟨F, ρ, S, q⟩ := hq
  refine ⟨F, ρ, S, ?_⟩
  have q' : RunS K Y F H (thenF (g ρ) g') D := q
  unfold thenF at q'
  cases e : g ρ with
  | ok fl ρ1 =>
    rw [e] at q'
    cases fl with
    | nx => exact fun F' H' σ' S' k' => ⟨F', ρ1, S', RunS.rebase (show RunS K Y F H (g' ρ1) D from q') k'⟩
    | bk => exact q'
    | ct => exact q'
    | rt m w => exact q'
  | exc c ns ws ρ' => rw [e] at q'; exact q'
  | stk => rw [e] at q'; exact q'
theorem psm_cons (h1 : PSM X Y st g) (h2 : PSMs X Y sts g') : PSMs X Y (st :: sts) (mSeq g g') := pss_weak (pss_cons h1 h2) fun _ _ _ => seq_of
theorem psm_one (h1 : PSM X Y st g) : PSMs X Y [st] g := pss_one h1
theorem psm_pass : PSM X Y (.Pass pos) mNext := ps_weak ps_pass fun D σ H hq => by
  obtain ⟨F, ρ, S, q⟩ := hq
  exact q F H σ S .refl
def mBreak : Rho → R Fl := fun ρ => .ok .bk ρ
def mCont : Rho → R Fl := fun ρ => .ok .ct ρ
theorem psm_break : PSM X Y (.Break pos) mBreak := ps_weak ps_break fun D σ H hq => by
  obtain ⟨F, ρ, S, q⟩ := hq
  exact q F H σ S .refl
theorem psm_cont : PSM X Y (.Continue pos) mCont := ps_weak ps_continue fun D σ H hq => by
  obtain ⟨F, ρ, S, q⟩ := hq
  exact q F H σ S .refl
/-- x = e -/
def mStore (I : List Nat) (i : Nat) (b : Md × W) (ρ : Rho) : R Fl := if i ∈ I then .stk else match b.1 with
  | .fre => .ok .nx (ρ.set i (.own b.2))
  | m => (toVal I (m, b.2) ρ).bind fun w ρ1 => .ok .nx (ρ1.set i (.val w))
def mSet (I : List Nat) (i : Nat) (f : Rho → R (Md × W)) : Rho → R Fl := fun ρ => (f ρ).bind fun b ρ1 => mStore I i b ρ1
theorem store_of {K : PySem.W.Frag} {F : Fz} {H : Hp} {σ : L2.St} {ρ : Rho} {D : Ends} {i : Nat} {b : Md × W} {v : V} (S : SR K Y.B F H σ ρ) (h : VR K Y.B F H σ ρ b.1 b.2 v) (q : RunS K Y F H (mStore I i b ρ) D) : D.nx (σ.set i (some v)) H := by
  unfold mStore at q
  split at q
  · exact q.elim
  · rename_i n
    have u := Y.un n
    obtain ⟨m, w⟩ := b
    cases m with
    | fre => exact q F H _ (S.setOwn u h) .refl
    | val =>
      have qg := RunS.bindE (σ := σ) (show RunS K Y F H ((toVal I (.val, w) ρ).bind _) D from q)
      obtain ⟨F', w', ρ', S', k, r, q'⟩ := S.toVal (b := (.val, w)) h qg
      exact q' F' H _ (S'.setVal u r) .refl
    | bor j =>
      have qg := RunS.bindE (σ := σ) (show RunS K Y F H ((toVal I (.bor j, w) ρ).bind _) D from q)
      obtain ⟨F', w', ρ', S', k, r, q'⟩ := S.toVal (b := (.bor j, w)) h qg
      exact q' F' H _ (S'.setVal u r) .refl
theorem psm_set {i : Nat} {x : Str} {pos' : Pos} (hN : X.N.Nodup) (hi : X.N[i]? = some x) (hx : Loc X.env.scope x) (he : PEM X Y e f) (hs : swapsWith e (some (.Name x pos')) pos.line X.env = pure false := by rfl)
    (hf : X.fn x = true ∨ X.env.scope.names.lookup x = some .local := by first | exact .inl rfl | exact .inr rfl) : PSM X Y (.Assign [.Name x pos'] e pos) (mSet I i f) :=
  ps_weak (ps_set hN hi hx he hs) fun D σ H hq => by
    obtain ⟨F, ρ, S, q⟩ := hq
    exact ⟨F, ρ, S, (RunS.bindE q).imp fun b ρ1 F1 H1 S1 k1 q1 v hv => store_of S1 hv q1⟩
/-- a value is dropped -/
def mDrop (f : Rho → R (Md × W)) : Rho → R Fl := fun ρ => (f ρ).bind fun _ ρ1 => .ok .nx ρ1
theorem psm_expr (he : PEM X Y e f) (hs : swapsWith e none pos.line X.env = pure false := by rfl) : PSM X Y (.Expr e pos) (mDrop f) := ps_weak (ps_expr he hs) fun D σ H hq => by
  obtain ⟨F, ρ, S, q⟩ := hq
  exact ⟨F, ρ, S, (RunS.bindE q).imp fun b ρ1 F1 H1 S1 k1 q1 v hv => q1 F1 H1 σ S1 .refl⟩
/-- return e -/
def mRet (I : List Nat) (f : Rho → R (Md × W)) : Rho → R Fl := fun ρ => (f ρ).bind fun b ρ1 => match b.1 with
  | .val => .ok (.rt .val b.2) ρ1
  | .fre => .ok (.rt .fre b.2) ρ1
  | .bor i => if i ∈ I then .stk else .ok (.rt .fre b.2) (ρ1.set i .no)
theorem ret_of {K : PySem.W.Frag} {F : Fz} {H : Hp} {σ : L2.St} {ρ : Rho} {i : Nat} {w : W} {v : V} (S : SR K Y.B F H σ ρ) (u : unlent Y.B i) (h : VR K Y.B F H σ ρ (.bor i) w v) : SR K Y.B F H σ (ρ.set i .no) ∧ Fre K Y.B F H σ (ρ.set i .no) w v := by
  obtain ⟨h1, h2⟩ := h
  obtain ⟨a, e1, o, nf, nk⟩ := S.slot i _ h1
  rw [h2] at e1
  cases e1
  refine ⟨S.drop u, a, rfl, o, nf, S.new_of h1 h2 u, fun j w' hj ej => ?_⟩
  rcases set_cases hj with ⟨_, e, _⟩ | ⟨n, g⟩
  · cases e
  · exact n (S.sep j i w' w a g h1 ej h2)
theorem psm_ret (he : PEM X Y e f) : PSM X Y (.Return (some e) pos) (mRet I f) := ps_weak (ps_ret he) fun D σ H hq => by
  obtain ⟨F, ρ, S, q⟩ := hq
  refine ⟨F, ρ, S, (RunS.bindE q).imp fun b ρ1 F1 H1 S1 k1 q1 v hv => ?_⟩
  obtain ⟨m, w⟩ := b
  cases m with
  | val => exact q1 F1 H1 σ v S1 hv
  | fre => exact q1 F1 H1 σ v S1 hv
  | bor i =>
    dsimp only at q1
    split at q1
    · exact q1.elim
    · rename_i n
      obtain ⟨S2, fr⟩ := ret_of S1 (Y.un n) hv
      exact q1 F1 H1 σ v S2 fr
def mRetN : Rho → R Fl := fun ρ => .ok (.rt .val .non) ρ
theorem psm_retN : PSM X Y (.Return none pos) mRetN := ps_weak ps_retN fun D σ H hq => by
  obtain ⟨F, ρ, S, q⟩ := hq
  exact q F H σ .non S rfl
/-! ### tests -/
def tMT (K : PySem.W.Frag) (Y : Yx I) (f : Rho → R Bool) : TT := fun σ H Q => ∃ F ρ, SR K Y.B F H σ ρ ∧ RunG K Y F H σ (f ρ) fun b _ _ H' => Q b H'
def PTM (X : Cx) (Y : Yx I) (e : Expr) (f : Rho → R Bool) : Prop := PT X e (tMT X.K Y f)
def PWM (X : Cx) (Y : Yx I) (e : Expr) (f : Rho → R Bool) : Prop := PW X e (tMT X.K Y f)
theorem pt_weak {e : Expr} {t t' : TT} (h : PT X e t) (q : ∀ σ H Q, t' σ H Q → t σ H Q) : PT X e t' := ⟨fun pins s σ H Q I hq => h.run pins s σ H Q I (q _ _ _ hq)⟩
theorem pw_weak {e : Expr} {t t' : TT} (h : PW X e t) (q : ∀ σ H Q, t' σ H Q → t σ H Q) : PW X e t' := ⟨fun wh pins s σ H Q I hq => h.run wh pins s σ H Q I (q _ _ _ hq)⟩
/-- a bool -/
def boolOf (b : Md × W) (ρ : Rho) : R Bool := match b.2 with
  | .bl c => .ok c ρ
  | _ => .stk
def mTest (f : Rho → R (Md × W)) : Rho → R Bool := fun ρ => (f ρ).bind boolOf
theorem VR.bl {K : PySem.W.Frag} {B : Bd} {F : Fz} {H : Hp} {σ : L2.St} {ρ : Rho} {m : Md} {c : Bool} {v : V} (S : SR K B F H σ ρ) (h : VR K B F H σ ρ m (.bl c) v) : v = .bl c := by
  cases m with
  | val => exact h
  | fre => obtain ⟨a, rfl, o, _⟩ := h; exact o.elim
  | bor i =>
    obtain ⟨h1, h2⟩ := h
    obtain ⟨a, e, o, _⟩ := S.slot i _ h1
    exact o.elim
theorem test_of {K : PySem.W.Frag} {σ : L2.St} {H : Hp} {Q : Bool → Hp → Prop} (hq : tMT K Y (mTest f) σ H Q) : tTest (tM K Y f) σ H Q := by
  obtain ⟨F, ρ, S, q⟩ := hq
  refine ⟨F, ρ, S, (RunG.bind q).imp fun b ρ1 F1 H1 S1 k1 q1 v hv => ?_⟩
  obtain ⟨m, w⟩ := b
  unfold boolOf at q1
  dsimp only at q1
  split at q1
  · exact ⟨_, hv.bl S1, q1 F1 H1 S1 .refl⟩
  · exact q1.elim
end
end ML

set_option maxHeartbeats 4000000
namespace ML
open PySem PySem.Spec PyProof.Rows L2
variable {I : List Nat}
section
variable {X : Cx} {Y : Yx I} {e a b : Expr} {st : Stmt} {sts : List Stmt} {pos : Pos} {f fa fb : Rho → R (Md × W)} {g g' : Rho → R Fl} {c c' : Rho → R Bool}
/-! ### tests -/
theorem ptm_val (he : PEM X Y e f) (hw : ∀ whole, isTrue e X.env whole = (do let v ← whole; standAt e.pos; holding [v] (truthy v)) := by intro _; rfl) : PTM X Y e (mTest f) := pt_weak (pt_val he hw) fun _ _ _ => test_of
theorem ptm_cmp {op : CmpOp} {r : R2} {gw : W → W → Option (Md × W)} (ho : OpR X (compareOp op) r) (hg : OpW X.K r gw) (ha : PEM X Y a fa) (hb : PEM X Y b fb) (hm : behindInMarks op b = false) : PTM X Y (.Compare a [op] [b] pos) (mTest (mOp gw fa fb)) :=
  pt_weak (pt_cmpR ho ha hb hm) fun σ H Q hq => by
    obtain ⟨F, ρ, S, q⟩ := test_of hq
    exact tOp_of hg ⟨F, ρ, S, q⟩
theorem ptm_isN {j pos'} (ha : PEM X Y a fa) : PTM X Y (.Compare a [.Is] [.Constant .none j pos'] pos) (mTest (mIsN false fa)) := pt_weak (pt_cmp (pc_isN ha) (nomark _)) fun σ H Q hq => by
  obtain ⟨F, ρ, S, q⟩ := test_of hq
  refine ⟨F, ρ, S, (RunG.bind q).imp fun x ρ1 F1 H1 S1 k1 q1 v1 hv1 => ?_⟩
  have z := q1 F1 H1 S1 .refl (.bl (decide (v1 = .non))) ?_
  · exact z
  · show V.bl _ = V.bl _
    rw [hv1.non_iff S1]
    rfl
theorem ptm_notN {j pos'} (ha : PEM X Y a fa) : PTM X Y (.Compare a [.IsNot] [.Constant .none j pos'] pos) (mTest (mIsN true fa)) := pt_weak (pt_cmp (pc_notN ha) (nomark _)) fun σ H Q hq => by
  obtain ⟨F, ρ, S, q⟩ := test_of hq
  refine ⟨F, ρ, S, (RunG.bind q).imp fun x ρ1 F1 H1 S1 k1 q1 v1 hv1 => ?_⟩
  have z := q1 F1 H1 S1 .refl (.bl (!decide (v1 = .non))) ?_
  · exact z
  · show V.bl _ = V.bl _
    rw [hv1.non_iff S1]
    rfl
def mNot (c : Rho → R Bool) : Rho → R Bool := fun ρ => (c ρ).bind fun b ρ1 => .ok (!b) ρ1
theorem ptm_not (h : PTM X Y a c) : PTM X Y (.UnaryOp .Not a pos) (mNot c) := pt_weak (pt_not h) fun σ H Q hq => by
  obtain ⟨F, ρ, S, q⟩ := hq
  exact ⟨F, ρ, S, (RunG.bind q).imp fun b ρ1 F1 H1 S1 k1 q1 => q1 F1 H1 S1 .refl⟩
def mAnd (c c' : Rho → R Bool) : Rho → R Bool := fun ρ => (c ρ).bind fun b ρ1 => if b then c' ρ1 else .ok false ρ1
def mOr (c c' : Rho → R Bool) : Rho → R Bool := fun ρ => (c ρ).bind fun b ρ1 => if b then .ok true ρ1 else c' ρ1
theorem pwm_and1 (h : PTM X Y a c) : PWM X Y (.BoolOp .And [a] pos) c := pw_and1 h
theorem pwm_or1 (h : PTM X Y a c) : PWM X Y (.BoolOp .Or [a] pos) c := pw_or1 h
theorem pwm_and {rest : List Expr} (h : PTM X Y a c) (h' : PWM X Y (.BoolOp .And (b :: rest) pos) c') : PWM X Y (.BoolOp .And (a :: b :: rest) pos) (mAnd c c') := pw_weak (pw_and h h') fun σ H Q hq => by
  obtain ⟨F, ρ, S, q⟩ := hq
  refine ⟨F, ρ, S, (RunG.bind q).imp fun b ρ1 F1 H1 S1 k1 q1 => ?_⟩
  cases b with
  | true => exact ⟨F1, ρ1, S1, q1⟩
  | false => exact q1 F1 H1 S1 .refl
theorem pwm_or {rest : List Expr} (h : PTM X Y a c) (h' : PWM X Y (.BoolOp .Or (b :: rest) pos) c') : PWM X Y (.BoolOp .Or (a :: b :: rest) pos) (mOr c c') := pw_weak (pw_or h h') fun σ H Q hq => by
  obtain ⟨F, ρ, S, q⟩ := hq
  refine ⟨F, ρ, S, (RunG.bind q).imp fun b ρ1 F1 H1 S1 k1 q1 => ?_⟩
  cases b with
  | true => exact q1 F1 H1 S1 .refl
  | false => exact ⟨F1, ρ1, S1, q1⟩
/-- not, and, or of bools, as values -/
def mNotV (fa : Rho → R (Md × W)) : Rho → R (Md × W) := fun ρ => ((fa ρ).bind boolOf).bind fun b ρ1 => .ok (.val, .bl (!b)) ρ1
theorem pem_not (h : PEM X Y a fa) : PEM X Y (.UnaryOp .Not a pos) (mNotV fa) := pe_weak (pe_not h) fun σ H Q hq => by
  obtain ⟨F, ρ, S, q⟩ := hq
  refine ⟨F, ρ, S, (RunG.bind (RunG.bind q)).imp fun x ρ1 F1 H1 S1 k1 q1 v1 hv1 => ?_⟩
  obtain ⟨m, w⟩ := x
  unfold boolOf at q1
  dsimp only at q1
  split at q1
  · exact ⟨_, hv1.bl S1, q1 F1 H1 S1 .refl F1 H1 S1 .refl _ rfl⟩
  · exact q1.elim
def mAndV (fa fb : Rho → R (Md × W)) : Rho → R (Md × W) := fun ρ => ((fa ρ).bind boolOf).bind fun b ρ1 => if b then fb ρ1 else .ok (.val, .bl false) ρ1
def mOrV (fa fb : Rho → R (Md × W)) : Rho → R (Md × W) := fun ρ => ((fa ρ).bind boolOf).bind fun b ρ1 => if b then .ok (.val, .bl true) ρ1 else fb ρ1
theorem pem_one {op} (h : PEM X Y a fa) : PEM X Y (.BoolOp op [a] pos) fa := pe_one h
theorem pem_and {rest : List Expr} (h : PEM X Y a fa) (h' : PEM X Y (.BoolOp .And (b :: rest) pos) fb) : PEM X Y (.BoolOp .And (a :: b :: rest) pos) (mAndV fa fb) := pe_weak (pe_and h h') fun σ H Q hq => by
  obtain ⟨F, ρ, S, q⟩ := hq
  refine ⟨F, ρ, S, (RunG.bind (RunG.bind q)).imp fun x ρ1 F1 H1 S1 k1 q1 v1 hv1 => ?_⟩
  obtain ⟨m, w⟩ := x
  unfold boolOf at q1
  dsimp only at q1
  split at q1
  · rename_i c
    refine ⟨c, hv1.bl S1, ?_⟩
    have q2 := q1 F1 H1 S1 .refl
    cases c with
    | true => exact ⟨F1, ρ1, S1, q2⟩
    | false => exact q2 F1 H1 S1 .refl _ rfl
  · exact q1.elim
theorem pem_or {rest : List Expr} (h : PEM X Y a fa) (h' : PEM X Y (.BoolOp .Or (b :: rest) pos) fb) : PEM X Y (.BoolOp .Or (a :: b :: rest) pos) (mOrV fa fb) := pe_weak (pe_or h h') fun σ H Q hq => by
  obtain ⟨F, ρ, S, q⟩ := hq
  refine ⟨F, ρ, S, (RunG.bind (RunG.bind q)).imp fun x ρ1 F1 H1 S1 k1 q1 v1 hv1 => ?_⟩
  obtain ⟨m, w⟩ := x
  unfold boolOf at q1
  dsimp only at q1
  split at q1
  · rename_i c
    refine ⟨c, hv1.bl S1, ?_⟩
    have q2 := q1 F1 H1 S1 .refl
    cases c with
    | true => exact q2 F1 H1 S1 .refl _ rfl
    | false => exact ⟨F1, ρ1, S1, q2⟩
  · exact q1.elim
def mIfE (c : Rho → R Bool) (fa fb : Rho → R (Md × W)) : Rho → R (Md × W) := fun ρ => (c ρ).bind fun b ρ1 => if b then fa ρ1 else fb ρ1
theorem pem_ifE {t : Expr} (hc : PTM X Y t c) (ha : PEM X Y a fa) (hb : PEM X Y b fb) : PEM X Y (.IfExp t a b pos) (mIfE c fa fb) := pe_weak (pe_ifExp hc ha hb) fun σ H Q hq => by
  obtain ⟨F, ρ, S, q⟩ := hq
  refine ⟨F, ρ, S, (RunG.bind q).imp fun b ρ1 F1 H1 S1 k1 q1 => ?_⟩
  cases b with
  | true => exact ⟨F1, ρ1, S1, q1⟩
  | false => exact ⟨F1, ρ1, S1, q1⟩
/-! ### if -/
def mIf (c : Rho → R Bool) (g g' : Rho → R Fl) : Rho → R Fl := fun ρ => (c ρ).bind fun b ρ1 => if b then g ρ1 else g' ρ1
theorem psm_if {t : Expr} {xs ys : List Stmt} (hc : PTM X Y t c) (ha : PSMs X Y xs g) (hb : PSMs X Y ys g') : PSM X Y (.If t xs ys pos) (mIf c g g') := ps_weak (ps_if hc ha hb) fun D σ H hq => by
  obtain ⟨F, ρ, S, q⟩ := hq
  refine ⟨F, ρ, S, (RunS.bindE q).imp fun b ρ1 F1 H1 S1 k1 q1 => ?_⟩
  cases b with
  | true => exact ⟨F1, ρ1, S1, q1⟩
  | false => exact ⟨F1, ρ1, S1, q1⟩
/-! ### while -/
def loopF (r : R Fl) (k : Rho → R Fl) : R Fl := r.bind fun fl ρ => match fl with
  | .nx => k ρ
  | .ct => k ρ
  | .bk => .ok .nx ρ
  | .rt m w => .ok (.rt m w) ρ
def whileN (c : Rho → R Bool) (g : Rho → R Fl) : Nat → Rho → R Fl
  | 0, _ => .stk
  | n + 1, ρ => (c ρ).bind fun b ρ1 => if b then loopF (g ρ1) (whileN c g n) else .ok .nx ρ1
theorem bind_stk {α β : Type} {r : R α} {k k' : α → Rho → R β} (h : r.bind k ≠ .stk) (q : ∀ a ρ, k a ρ ≠ .stk → k' a ρ = k a ρ) : r.bind k' = r.bind k := by
  cases r with
  | ok a ρ => exact q a ρ h
  | exc c ns ws ρ => rfl
  | stk => exact absurd rfl h
theorem whileN_mono {c : Rho → R Bool} {g : Rho → R Fl} : ∀ (n m : Nat) (ρ : Rho), n ≤ m → whileN c g n ρ ≠ .stk → whileN c g m ρ = whileN c g n ρ
  | 0, _, _, _, h => absurd rfl h
  | n + 1, 0, _, l, _ => absurd l (by omega)
  | n + 1, m + 1, ρ, l, h => bind_stk h fun b ρ1 h1 => by
    cases b with
    | false => rfl
    | true =>
      refine bind_stk (show loopF (g ρ1) (whileN c g n) ≠ .stk from h1) fun fl ρ2 h2 => ?_
      cases fl with
      | nx => exact whileN_mono n m ρ2 (by omega) h2
      | ct => exact whileN_mono n m ρ2 (by omega) h2
      | bk => rfl
      | rt m w => rfl
open Classical in
/-- while c: g (as many turns as it takes; stk if it never ends) -/
noncomputable def mWhile (c : Rho → R Bool) (g : Rho → R Fl) : Rho → R Fl := fun ρ => if h : ∃ n, whileN c g n ρ ≠ .stk then whileN c g (Classical.choose h) ρ else .stk
theorem mWhile_of {c : Rho → R Bool} {g : Rho → R Fl} {n : Nat} {ρ : Rho} (h : whileN c g n ρ ≠ .stk) : mWhile c g ρ = whileN c g n ρ := by
  have e : ∃ n, whileN c g n ρ ≠ .stk := ⟨n, h⟩
  unfold mWhile
  rw [dif_pos e]
  have h2 := Classical.choose_spec e
  rcases Nat.le_total n (Classical.choose e) with l | l
  · exact whileN_mono _ _ _ l h
  · exact (whileN_mono _ _ _ l h2).symm
theorem mWhile_is {c : Rho → R Bool} {g : Rho → R Fl} {ρ : Rho} (h : mWhile c g ρ ≠ .stk) : ∃ n, mWhile c g ρ = whileN c g n ρ := by
  unfold mWhile at h ⊢
  split at h
  · rename_i e
    rw [dif_pos e]
    exact ⟨_, rfl⟩
  · exact absurd rfl h
/-- one turn -/
theorem mWhile_step {c : Rho → R Bool} {g : Rho → R Fl} {ρ : Rho} {r : R Fl} (hr : r ≠ .stk) (h : ((c ρ).bind fun b ρ1 => if b then loopF (g ρ1) (mWhile c g) else .ok .nx ρ1) = r) : mWhile c g ρ = r := by
  have key : ∃ n, whileN c g n ρ = r := by
    cases ec : c ρ with
    | stk => rw [ec] at h; exact absurd h.symm hr
    | exc cc ns ws ρ' => exact ⟨1, by show (c ρ).bind _ = r; rw [ec]; rw [ec] at h; exact h⟩
    | ok b ρ1 =>
      rw [ec] at h
      cases b with
      | false => exact ⟨1, by show (c ρ).bind _ = r; rw [ec]; exact h⟩
      | true =>
        have h1 : loopF (g ρ1) (mWhile c g) = r := h
        cases eg : g ρ1 with
        | stk => rw [eg] at h1; exact absurd h1.symm hr
        | exc cc ns ws ρ' => exact ⟨1, by show (c ρ).bind _ = r; rw [ec]; show loopF (g ρ1) _ = r; rw [eg]; rw [eg] at h1; exact h1⟩
        | ok fl ρ2 =>
          rw [eg] at h1
          have go : ∀ x : R Fl, mWhile c g ρ2 = x → x = r → ∃ n, whileN c g n ρ2 = r := fun x e1 e2 => by
            obtain ⟨n, en⟩ := mWhile_is (ρ := ρ2) (c := c) (g := g) (by rw [e1, e2]; exact hr)
            exact ⟨n, by rw [← en, e1, e2]⟩
          cases fl with
          | nx =>
            obtain ⟨n, en⟩ := go _ rfl h1
            exact ⟨n + 1, by show (c ρ).bind _ = r; rw [ec]; show loopF (g ρ1) _ = r; rw [eg]; exact en⟩
          | ct =>
            obtain ⟨n, en⟩ := go _ rfl h1
            exact ⟨n + 1, by show (c ρ).bind _ = r; rw [ec]; show loopF (g ρ1) _ = r; rw [eg]; exact en⟩
          | bk => exact ⟨1, by show (c ρ).bind _ = r; rw [ec]; show loopF (g ρ1) _ = r; rw [eg]; exact h1⟩
          | rt m w => exact ⟨1, by show (c ρ).bind _ = r; rw [ec]; show loopF (g ρ1) _ = r; rw [eg]; exact h1⟩
  obtain ⟨n, en⟩ := key
  rw [mWhile_of (n := n) (by rw [en]; exact hr), en]
theorem while_of {K : PySem.W.Frag} {D : Ends} : ∀ (n : Nat) {F : Fz} {H : Hp} {σ : L2.St} {ρ : Rho}, SR K Y.B F H σ ρ → RunS K Y F H (whileN c g n ρ) D → tWhile (tMT K Y c) (tMS K Y g) D σ H := by
  intro n F H σ ρ S q
  refine ⟨fun m σ H => ∃ F ρ, SR K Y.B F H σ ρ ∧ RunS K Y F H (whileN c g m ρ) D, ⟨n, F, ρ, S, q⟩, ?_⟩
  rintro m σ H ⟨F, ρ, S, q⟩
  cases m with
  | zero => exact q.elim
  | succ m =>
    refine ⟨F, ρ, S, (RunS.bindE q).imp fun b ρ1 F1 H1 S1 k1 q1 => ?_⟩
    cases b with
    | false => exact q1 F1 H1 σ S1 .refl
    | true =>
      refine ⟨fun σ H => ∃ F ρ, SR K Y.B F H σ ρ ∧ RunS K Y F H (whileN c g m ρ) D, fun σ' H' h => ⟨m, Nat.lt_succ_self m, h⟩, F1, ρ1, S1, ?_⟩
      have q2 : RunS K Y F1 H1 (loopF (g ρ1) (whileN c g m)) D := q1
      unfold loopF at q2
      cases e : g ρ1 with
      | stk => rw [e] at q2; exact q2.elim
      | exc cc ns ws ρ' => rw [e] at q2; exact q2
      | ok fl ρ2 =>
        rw [e] at q2
        cases fl with
        | nx => exact fun F' H' σ' S' k' => ⟨F', ρ2, S', RunS.rebase (show RunS K Y F1 H1 (whileN c g m ρ2) D from q2) k'⟩
        | ct => exact fun F' H' σ' S' k' => ⟨F', ρ2, S', RunS.rebase (show RunS K Y F1 H1 (whileN c g m ρ2) D from q2) k'⟩
        | bk => exact q2
        | rt m w => exact q2
theorem psm_while {t : Expr} {body : List Stmt} (hp : PassesOwn (model X.prog X.w) X.A X.env X.xe) (hc : PTM X Y t c) (hb : PSMs X Y body g) : PSM X Y (.While t body [] pos) (mWhile c g) := ps_weak (ps_while hp hc hb) fun D σ H hq => by
  obtain ⟨F, ρ, S, q⟩ := hq
  obtain ⟨n, en⟩ := mWhile_is (c := c) (g := g) (ρ := ρ) (fun z => by rw [z] at q; exact q)
  rw [en] at q
  exact while_of n S q
end
end ML

set_option maxHeartbeats 4000000
namespace ML
open PySem PySem.Spec PyProof.Rows L2
variable {I : List Nat}
/-! ### what a for walks -/
def Tg (F : Fz) (H : Hp) : Prop := ∀ a, F a → H a ≠ none
/-- the iterator J hands out the words ws, whatever else is made meanwhile -/
def ItR (K : PySem.W.Frag) (J : It) (F : Fz) (H : Hp) (ws : List W) : Prop := ∀ F' H', Keeps F H F' H' → Tight F' H' → ∀ i,
  (∀ w, ws[i]? = some w → J.go i H' ∧ ∀ x H'', J.yld i H' x H'' → ∃ F'', Ext [] F' H' F'' H'' ∧ Rep K F'' H'' w x) ∧ (ws.length ≤ i → J.stop i H')
def tMI (K : PySem.W.Frag) (Y : Yx I) (it : Rho → R (List W)) : TI := fun σ H R => ∃ F ρ, SR K Y.B F H σ ρ ∧ RunG K Y F H σ (it ρ) fun ws ρ' F' H' => ∀ J, ItR K J F' H' ws → R J H'
def PIM (X : Cx) (Y : Yx I) (tg iter : Expr) (it : Rho → R (List W)) : Prop := PI X tg iter (tMI X.K Y it)
theorem pi_weak {X : Cx} {tg e : Expr} {t t' : TI} (h : PI X tg e t) (q : ∀ σ H R, t' σ H R → t σ H R) : PI X tg e t' := ⟨fun pins s σ H R I hq => h.run pins s σ H R I (q _ _ _ hq)⟩
/-- the target of a for, of an assignment -/
def tMG (K : PySem.W.Frag) (Y : Yx I) (t : W → Rho → Option Rho) : TG := fun v σ H Q => ∃ F ρ w ρ', SR K Y.B F H σ ρ ∧ Rep K F H w v ∧ t w ρ = some ρ' ∧ ∀ F' H' σ', SR K Y.B F' H' σ' ρ' → Keeps F H F' H' → Q σ' H'
def PGM (X : Cx) (Y : Yx I) (tg : Expr) (t : W → Rho → Option Rho) : Prop := PG X tg (tMG X.K Y t)
theorem pg_weak {X : Cx} {e : Expr} {t t' : TG} (h : PG X e t) (q : ∀ v σ H Q, t' v σ H Q → t v σ H Q) : PG X e t' := ⟨fun pins s σ H v u Q I r hq => h.run pins s σ H v u Q I r (q _ _ _ _ hq)⟩
def gSet (I : List Nat) (i : Nat) (w : W) (ρ : Rho) : Option Rho := if i ∈ I then none else some (ρ.set i (.val w))
theorem pgm_name {X : Cx} {Y : Yx I} {e : Expr} {i : Nat} (h : PG X e (gName i)) : PGM X Y e (gSet I i) := pg_weak h fun v σ H Q hq => by
  obtain ⟨F, ρ, w, ρ', S, r, e, q⟩ := hq
  unfold gSet at e
  split at e
  · cases e
  · rename_i n
    cases e
    exact q F H _ (S.setVal (Y.un n) r) .refl
/-- a, b, ..: a tuple's items to targets -/
def gTups : List (W → Rho → Option Rho) → List W → Rho → Option Rho
  | [], [], ρ => some ρ
  | t :: ts, w :: ws, ρ => (t w ρ).bind fun ρ1 => gTups ts ws ρ1
  | _, _, _ => none
def tMGs (K : PySem.W.Frag) (Y : Yx I) (ts : List (W → Rho → Option Rho)) : TGs := fun vs σ H Q => ∃ F ρ ws ρ', SR K Y.B F H σ ρ ∧ RepL K F H ws vs ∧ gTups ts ws ρ = some ρ' ∧ ∀ F' H' σ', SR K Y.B F' H' σ' ρ' → Keeps F H F' H' → Q σ' H'
def PGMs (X : Cx) (Y : Yx I) (es : List Expr) (ts : List (W → Rho → Option Rho)) : Prop := PGs X es (tMGs X.K Y ts)
theorem pgs_weak {X : Cx} {e : List Expr} {t t' : TGs} (h : PGs X e t) (q : ∀ v σ H Q, t' v σ H Q → t v σ H Q) : PGs X e t' := ⟨fun pins s σ H v u Q I r hq => h.run pins s σ H v u Q I r (q _ _ _ _ hq)⟩
theorem pgms_nil {X : Cx} {Y : Yx I} : PGMs X Y [] [] := pgs_weak pgs_nil fun v σ H Q hq => by
  obtain ⟨F, ρ, ws, ρ', S, r, e, q⟩ := hq
  cases ws with
  | nil => cases e; cases r; exact ⟨rfl, q F H σ S .refl⟩
  | cons w l => cases e
theorem pgms_cons {X : Cx} {Y : Yx I} {e : Expr} {es : List Expr} {t : W → Rho → Option Rho} {ts : List (W → Rho → Option Rho)} (h1 : PGM X Y e t) (h2 : PGMs X Y es ts) (hs : (assignEach (e :: es) X.env).map (·.2) = assign e X.env :: (assignEach es X.env).map (·.2) := by rfl) : PGMs X Y (e :: es) (t :: ts) := pgs_weak (pgs_cons h1 h2 hs) fun v σ H Q hq => by
  obtain ⟨F, ρ, ws, ρ', S, r, e, q⟩ := hq
  cases ws with
  | nil => cases e
  | cons w l =>
    obtain ⟨v, vs, rfl, r1, r2⟩ := r
    obtain ⟨ρ1, e1, e2⟩ := Option.bind_eq_some_iff.mp (show (t w ρ).bind _ = _ from e)
    exact ⟨v, vs, rfl, F, ρ, w, ρ1, S, r1, e1, fun F' H' σ' S' k' => ⟨F', ρ1, l, ρ', S', r2.mono k', e2, fun F2 H2 σ2 S2 k2 => q F2 H2 σ2 S2 (k'.trans k2)⟩⟩
def gTup (ts : List (W → Rho → Option Rho)) (w : W) (ρ : Rho) : Option Rho := match w with
  | .tup l => gTups ts l ρ
  | _ => none
theorem gTups_len : ∀ {ts : List (W → Rho → Option Rho)} {ws : List W} {ρ ρ' : Rho}, gTups ts ws ρ = some ρ' → ws.length = ts.length
  | [], [], _, _, _ => rfl
  | t :: ts, w :: ws, ρ, ρ', h => by
    obtain ⟨ρ1, e1, e2⟩ := Option.bind_eq_some_iff.mp (show (t w ρ).bind _ = _ from h)
    rw [List.length_cons, List.length_cons, gTups_len e2]
  | [], _ :: _, _, _, h => by cases h
  | _ :: _, [], _, _, h => by cases h
theorem pgm_tup {X : Cx} {Y : Yx I} {e : Expr} {n : Nat} {ts : List (W → Rho → Option Rho)} (h : PG X e (L2.gTup X.K n (tMGs X.K Y ts))) (hn : ts.length = n) : PGM X Y e (gTup ts) := pg_weak h fun v σ H Q hq => by
  obtain ⟨F, ρ, w, ρ', S, r, e, q⟩ := hq
  cases w with
  | tup l =>
    obtain ⟨a, vs, rfl, hs, r2⟩ := r
    have e' : gTups ts l ρ = some ρ' := e
    exact ⟨a, vs, rfl, hs.seq, by rw [← r2.len, gTups_len e', hn], F, ρ, l, ρ', S, r2, e', q⟩
  | _ => cases e
/-- x, y = e -/
def mAsgT (I : List Nat) (t : W → Rho → Option Rho) (f : Rho → R (Md × W)) : Rho → R Fl := fun ρ => (f ρ).bind fun b ρ1 => (toVal I b ρ1).bind fun w ρ2 => match t w ρ2 with
  | some ρ3 => .ok .nx ρ3
  | none => .stk
theorem psm_asgT {X : Cx} {Y : Yx I} {st : Stmt} {t : W → Rho → Option Rho} {f : Rho → R (Md × W)} (h : PS X st (tAsg (tM X.K Y f) (tMG X.K Y t))) : PSM X Y st (mAsgT I t f) := ps_weak h fun D σ H hq => by
  obtain ⟨F, ρ, S, q⟩ := hq
  refine ⟨F, ρ, S, (RunS.bindE q).imp fun b ρ1 F1 H1 S1 k1 q1 v hv => ?_⟩
  obtain ⟨F2, w, ρ2, S2, k2, r, q2⟩ := S1.toVal hv (RunS.bindE (σ := σ) q1)
  cases e : t w ρ2 with
  | none => rw [e] at q2; exact q2.elim
  | some ρ3 =>
    rw [e] at q2
    exact ⟨F2, ρ2, w, ρ3, S2, r, e, q2⟩
/-! ### for -/
def forL (tg : W → Rho → Option Rho) (g : Rho → R Fl) : List W → Rho → R Fl
  | [], ρ => .ok .nx ρ
  | w :: ws, ρ => match tg w ρ with
    | some ρ1 => loopF (g ρ1) (forL tg g ws)
    | none => .stk
def mFor (it : Rho → R (List W)) (tg : W → Rho → Option Rho) (g : Rho → R Fl) : Rho → R Fl := fun ρ => (it ρ).bind fun ws ρ1 => forL tg g ws ρ1
theorem drop_get {α : Type} {l : List α} {i : Nat} {x : α} {r : List α} (h : l.drop i = x :: r) : l[i]? = some x ∧ l.drop (i + 1) = r := by
  have h1 : (l.drop i)[0]? = some x := by rw [h]; rfl
  rw [List.getElem?_drop, Nat.add_zero] at h1
  refine ⟨h1, ?_⟩
  rw [← List.drop_drop (i := 1) (j := i), h]
  rfl
theorem for_of {K : PySem.W.Frag} {Y : Yx I} {it : Rho → R (List W)} {tg : W → Rho → Option Rho} {g : Rho → R Fl} {D : Ends} {σ : L2.St} {H : Hp} (hq : tMS K Y (mFor it tg g) D σ H) : tFor (tMI K Y it) (tMG K Y tg) (tMS K Y g) D σ H := by
  obtain ⟨F, ρ, S, q⟩ := hq
  refine ⟨F, ρ, S, (RunS.bindE q).imp fun ws ρ1 F1 H1 S1 k1 q1 J hJ => ?_⟩
  refine ⟨fun i m σ H => ∃ F ρ, SR K Y.B F H σ ρ ∧ m = ws.length - i ∧ Keeps F1 H1 F H ∧ RunS K Y F H (forL tg g (ws.drop i) ρ) D, ⟨_, F1, ρ1, S1, rfl, .refl, q1⟩, ?_⟩
  rintro i m σ H ⟨F, ρ, S, rfl, k, q⟩
  have hi := hJ F H k S.f2 i
  cases e : ws.drop i with
  | nil =>
    rw [e] at q
    exact .inl ⟨hi.2 (List.drop_eq_nil_iff.mp e), q F H σ S .refl⟩
  | cons w r =>
    obtain ⟨ew, er⟩ := drop_get e
    obtain ⟨go, yl⟩ := hi.1 w ew
    have lt := (List.getElem?_eq_some_iff.mp ew).1
    refine .inr ⟨go, fun σ' H' => ∃ F ρ, SR K Y.B F H' σ' ρ ∧ Keeps F1 H1 F H' ∧ RunS K Y F H' (forL tg g (ws.drop (i + 1)) ρ) D, fun σ' H' ⟨F', ρ', S', k', q'⟩ => ⟨ws.length - (i + 1), by omega, F', ρ', S', rfl, k', q'⟩, fun x H'' y => ?_⟩
    obtain ⟨F2, ex, rx⟩ := yl x H'' y
    rw [e] at q
    have q2 : RunS K Y F H (match tg w ρ with
      | some ρ1 => loopF (g ρ1) (forL tg g r)
      | none => .stk) D := q
    cases et : tg w ρ with
    | none => rw [et] at q2; exact q2.elim
    | some ρ3 =>
      rw [et] at q2
      refine ⟨F2, ρ, w, ρ3, S.grow ex, rx, et, fun F3 H3 σ3 S3 k3 => ⟨F3, ρ3, S3, ?_⟩⟩
      have kk : Keeps F H F3 H3 := ex.keeps.trans k3
      have q3 : RunS K Y F3 H3 (loopF (g ρ3) (forL tg g r)) D := RunS.rebase q2 kk
      unfold loopF at q3
      cases eg : g ρ3 with
      | stk => rw [eg] at q3; exact q3.elim
      | exc cc ns us ρ' => rw [eg] at q3; exact q3
      | ok fl ρ4 =>
        rw [eg] at q3
        cases fl with
        | nx => exact fun F' H' σ' S' k' => ⟨F', ρ4, S', (k.trans kk).trans k', by rw [er]; exact RunS.rebase (show RunS K Y F3 H3 (forL tg g r ρ4) D from q3) k'⟩
        | ct => exact fun F' H' σ' S' k' => ⟨F', ρ4, S', (k.trans kk).trans k', by rw [er]; exact RunS.rebase (show RunS K Y F3 H3 (forL tg g r ρ4) D from q3) k'⟩
        | bk => exact q3
        | rt m w => exact q3
theorem psm_for {X : Cx} {Y : Yx I} {tgE iter : Expr} {body : List Stmt} {it : Rho → R (List W)} {tg : W → Rho → Option Rho} {g : Rho → R Fl} {pos : Pos} (hp : PassesOwn (model X.prog X.w) X.A X.env X.xe) (hc : X.calm = true) (hi : PIM X Y tgE iter it) (hg : PGM X Y tgE tg) (hb : PSMs X Y body g)
    (hs : ∀ x, foldedSetIterable iter X.env x = pure x := by intro _; rfl) : PSM X Y (.For tgE iter body [] pos) (mFor it tg g) := ps_weak (ps_for hp hc hi hg hb hs) fun _ _ _ => for_of
/-! ### over a list, a tuple -/
theorem it_list {K : PySem.W.Frag} {F : Fz} {H : Hp} {a : Addr} {ws : List W} {vs : List V} (hs : ∀ F' H', Keeps F H F' H' → SqL K H' a vs) (r : RepL K F H ws vs) : ItR K (Itl K a) F H ws := by
  intro F' H' k t i
  refine ⟨fun w ew => ?_, fun h => ⟨vs, hs F' H' k, by rw [← r.len]; exact h⟩⟩
  obtain ⟨v, ev, rv⟩ := r.get ew
  refine ⟨⟨vs, v, hs F' H' k, ev⟩, ?_⟩
  rintro x H'' ⟨rfl, y⟩
  have e := y vs (hs F' _ k)
  rw [ev] at e
  cases e
  exact ⟨F', .refl t, rv.mono k⟩
theorem it_tup {K : PySem.W.Frag} {F : Fz} {H : Hp} {a : Addr} {ws : List W} {vs : List V} (hs : SqU K H a vs) (r : RepL K F H ws vs) : ItR K (Itt K a) F H ws := by
  intro F' H' k t i
  refine ⟨fun w ew => ?_, fun h => ⟨vs, (k.sqU hs).seq, by rw [← r.len]; exact h⟩⟩
  obtain ⟨v, ev, rv⟩ := r.get ew
  refine ⟨⟨vs, v, (k.sqU hs).seq, ev⟩, ?_⟩
  rintro x H'' ⟨rfl, y⟩
  have e := y vs (k.sqU hs).seq
  rw [ev] at e
  cases e
  exact ⟨F', .refl t, rv.mono k⟩
/-- a list, a tuple, or a text -/
def iSeqM (K : PySem.W.Frag) (tl : TE) : TI := fun σ H R => tl σ H fun x H1 => (∃ y, x = .str y ∧ R (Its y) H1) ∨ ∃ a, x = .ref a ∧ ((∃ vs, SqL K H1 a vs ∧ R (Itl K a) H1) ∨ ∃ vs, SqT K H1 a vs ∧ R (Itt K a) H1)
theorem pi_seqM {X : Cx} {tg l : Expr} {tl : TE} (hl : PE X l tl) : PI X tg l (iSeqM X.K tl) := ⟨fun pins s0 σ H R J0 hq =>
  thn (hl.run pins s0 σ H _ J0 hq) fun u s1 ⟨x, H1, J1, rx, cs⟩ => by
    rcases cs with ⟨y, ey, q⟩ | ⟨a, ea, cs⟩
    · subst ey
      obtain ⟨t, rfl⟩ := rx
      cases ha : y.cps.all (· < 128)
      · exact wpAny_pyIter_wide ha (pi_one (tk := s1.toks) J1 _ (turn_str _ y t "str_iterator" (.inr rfl)) ⟨_, Heap.get?_push_size _ rfl, rfl, rfl⟩ q)
      · exact wpAny_pyIter_ascii ha (pi_one (tk := s1.toks) J1 _ (turn_str _ y t "str_ascii_iterator" (.inl rfl)) ⟨_, Heap.get?_push_size _ rfl, rfl, rfl⟩ q)
    subst ea
    cases rx
    rcases cs with ⟨vs, hv, r⟩ | ⟨vs, hv, r⟩
    · obtain ⟨ys, _, pl, _⟩ := J1.list hv
      exact wpAny_pyIter_list pl.isList (pi_one (tk := s1.toks) J1 _ (turn_list a _) ⟨_, Heap.get?_push_size _ rfl, rfl, rfl⟩ r)
    · obtain ⟨ys, _, pl, _⟩ := J1.tuple hv
      exact wpAny_pyIter_tuple pl (pi_one (tk := s1.toks) J1 _ (turn_tuple a _) ⟨_, Heap.get?_push_size _ rfl, rfl, rfl⟩ r)⟩
def itemsX : W → Option (List W)
  | .str z => some (z.cps.toList.map fun c => .str ⟨#[c]⟩)
  | w => itemsW w
theorem it_str {K : PySem.W.Frag} {F : Fz} {H : Hp} {z : Str} : ItR K (Its z) F H (z.cps.toList.map fun c => .str ⟨#[c]⟩) := by
  intro F' H' k t i
  refine ⟨fun w ew => ?_, fun h => ?_⟩
  · rw [List.getElem?_map, Option.map_eq_some_iff] at ew
    obtain ⟨c, ec, rfl⟩ := ew
    have ec' : z.cps[i]? = some c := by rw [← Array.getElem?_toList]; exact ec
    refine ⟨(Array.getElem?_eq_some_iff.mp ec').1, ?_⟩
    rintro x H'' ⟨rfl, c', e1, rfl⟩
    rw [ec'] at e1
    cases e1
    exact ⟨F', .refl t, rfl⟩
  · rw [List.length_map, Array.length_toList] at h
    exact h
def mItems (I : List Nat) (f : Rho → R (Md × W)) : Rho → R (List W) := fun ρ => (f ρ).bind fun b ρ1 => (toVal I b ρ1).bind fun w ρ2 => lift (itemsX w) ρ2
section
variable {X : Cx} {Y : Yx I} {tg e : Expr} {f : Rho → R (Md × W)}
theorem pim_seq (he : PEM X Y e f) : PIM X Y tg e (mItems I f) := pi_weak (pi_seqM he) fun σ H Q hq => by
  obtain ⟨F, ρ, S, q⟩ := hq
  refine ⟨F, ρ, S, (RunG.bind q).imp fun b ρ1 F1 H1 S1 k1 q1 v hv => ?_⟩
  obtain ⟨F2, w, ρ2, S2, k2, r, q2⟩ := S1.toVal hv (RunG.bind q1)
  obtain ⟨ws, ew, q3⟩ := lift_ok q2
  have q4 := q3 F2 H1 S2 .refl
  cases w with
  | str z =>
    cases ew
    cases r
    exact .inl ⟨z, rfl, q4 _ it_str⟩
  | tup l =>
    cases ew
    obtain ⟨a, vs, rfl, hs, rl⟩ := r
    exact .inr ⟨a, rfl, .inr ⟨vs, hs.seq, q4 _ (it_tup hs rl)⟩⟩
  | lst l =>
    cases ew
    obtain ⟨a, vs, rfl, fa, hs, rl⟩ := r
    exact .inr ⟨a, rfl, .inl ⟨vs, .of hs, q4 _ (it_list (fun F' H' k => .of (k.h a _ hs (.inl fa))) rl)⟩⟩
  | frl l =>
    cases ew
    obtain ⟨a, vs, rfl, hs, rl⟩ := r
    exact .inr ⟨a, rfl, .inl ⟨vs, hs.seq, q4 _ (it_list (fun F' H' k => (k.frl hs).seq) rl)⟩⟩
  | _ => cases ew
end
/-! ### arguments -/
def HeldL (σ : L2.St) (K : PySem.W.Frag) (F : Fz) (H : Hp) : List (Md × W) → List V → Prop
  | [], vs => vs = []
  | b :: bs, vs => ∃ v r, vs = v :: r ∧ Held σ K F H b.1 b.2 v ∧ HeldL σ K F H bs r
theorem Held.mono {σ : L2.St} {K : PySem.W.Frag} {F F' : Fz} {H H' : Hp} (k : Keeps F H F' H') {m : Md} {w : W} {v : V} (h : Held σ K F H m w v) : Held σ K F' H' m w v := by
  cases m with
  | val => exact Rep.mono k w h
  | fre => exact Rep.mono k w h
  | bor i => exact h
theorem HeldL.mono {σ : L2.St} {K : PySem.W.Frag} {F F' : Fz} {H H' : Hp} (k : Keeps F H F' H') : ∀ {bs : List (Md × W)} {vs : List V}, HeldL σ K F H bs vs → HeldL σ K F' H' bs vs
  | [], _, h => h
  | b :: bs, _, ⟨v, r, e, h1, h2⟩ => ⟨v, r, e, h1.mono k, HeldL.mono k h2⟩
def mHold : List (Rho → R (Md × W)) → Rho → R (List (Md × W))
  | [], ρ => .ok [] ρ
  | f :: fs, ρ => (f ρ).bind fun b ρ1 => (mHold fs ρ1).bind fun bs ρ2 => .ok (b :: bs) ρ2
def tMA (K : PySem.W.Frag) (Y : Yx I) (fs : List (Rho → R (Md × W))) : TA := fun σ H Q => ∃ F ρ, SR K Y.B F H σ ρ ∧ RunG K Y F H σ (mHold fs ρ) fun bs ρ' F' H' => ∀ F2 vs, SR K Y.B F2 H' σ ρ' → Keeps F' H' F2 H' → HeldL σ K F2 H' bs vs → Q vs H'
def PAM (X : Cx) (Y : Yx I) (es : List Expr) (fs : List (Rho → R (Md × W))) : Prop := PA X es (tMA X.K Y fs)
theorem pa_weak {X : Cx} {e : List Expr} {t t' : TA} (h : PA X e t) (q : ∀ σ H Q, t' σ H Q → t σ H Q) : PA X e t' := ⟨fun pos pins s σ H Q I hq => h.run pos pins s σ H Q I (q _ _ _ hq)⟩
section
variable {X : Cx} {Y : Yx I} {e : Expr} {es : List Expr} {f : Rho → R (Md × W)} {fs : List (Rho → R (Md × W))}
theorem pam_nil : PAM X Y [] [] := pa_weak pa_nil fun σ H Q hq => by
  obtain ⟨F, ρ, S, q⟩ := hq
  exact q F H S .refl F [] S .refl rfl
theorem pam_cons (h1 : PEM X Y e f) (h2 : PAM X Y es fs) (hs : starEach (e :: es) X.env = (false, eval e X.env) :: starEach es X.env := by rfl) : PAM X Y (e :: es) (f :: fs) := pa_weak (pa_cons h1 h2 hs) fun σ H Q hq => by
  obtain ⟨F, ρ, S, q⟩ := hq
  refine ⟨F, ρ, S, (RunG.bind q).imp fun b ρ1 F1 H1 S1 k1 q1 v hv => ?_⟩
  obtain ⟨F1', S1', k1', hd1⟩ := S1.hold hv
  refine ⟨F1', ρ1, S1', (RunG.bind (q1.rebase k1')).imp fun bs ρ2 F2 H2 S2 k2 q2 F3 vs S3 k3 hvs => ?_⟩
  exact q2 F2 H2 S2 .refl F3 (v :: vs) S3 k3 ⟨v, vs, rfl, hd1.mono (k2.trans k3), hvs⟩
end
/-- all peeked -/
def peekL : List (Md × W) → Rho → Option (List W)
  | [], _ => some []
  | b :: bs, ρ => match peek b.1 b.2 ρ, peekL bs ρ with
    | some w, some ws => some (w :: ws)
    | _, _ => none
def PkL (K : PySem.W.Frag) (F : Fz) (H : Hp) : List W → List V → Prop
  | [], vs => vs = []
  | w :: ws, vs => ∃ v r, vs = v :: r ∧ PkR K F H w v ∧ PkL K F H ws r
theorem SR.peekL {K : PySem.W.Frag} {Y : Yx I} {F : Fz} {H : Hp} {σ : L2.St} {ρ : Rho} (S : SR K Y.B F H σ ρ) : ∀ {bs : List (Md × W)} {ws : List W} {vs : List V}, HeldL σ K F H bs vs → peekL bs ρ = some ws → PkL K F H ws vs
  | [], _, _, h, e => by cases e; exact h
  | b :: bs, ws, _, ⟨v, r, e0, h1, h2⟩, e => by
    unfold ML.peekL at e
    split at e
    · rename_i w us e1 e2
      cases e
      exact ⟨v, r, e0, S.peek h1 .refl e1, SR.peekL S h2 e2⟩
    · cases e
/-- all made values -/
def valsL (I : List Nat) : List (Md × W) → Rho → R (List W)
  | [], ρ => .ok [] ρ
  | b :: bs, ρ => (toVal I b ρ).bind fun w ρ1 => (valsL I bs ρ1).bind fun ws ρ2 => .ok (w :: ws) ρ2
theorem SR.valsL {K : PySem.W.Frag} {Y : Yx I} {H : Hp} {σ : L2.St} : ∀ {bs : List (Md × W)} {vs : List V} {F : Fz} {ρ : Rho} {P : List W → Rho → Fz → Hp → Prop}, SR K Y.B F H σ ρ → HeldL σ K F H bs vs → RunG K Y F H σ (valsL I bs ρ) P →
    ∃ F' ws ρ', SR K Y.B F' H σ ρ' ∧ Keeps F H F' H ∧ RepL K F' H ws vs ∧ P ws ρ' F' H
  | [], _, F, ρ, _, S, h, q => ⟨F, [], ρ, S, .refl, h, q F H S .refl⟩
  | b :: bs, _, F, ρ, P, S, ⟨v, r, e0, h1, h2⟩, q => by
    obtain ⟨F1, w, ρ1, S1, k1, r1, q1⟩ := S.toValH h1 .refl (RunG.bind q)
    obtain ⟨F2, ws, ρ2, S2, k2, r2, q2⟩ := SR.valsL S1 (h2.mono k1) (RunG.bind q1)
    exact ⟨F2, w :: ws, ρ2, S2, k1.trans k2, ⟨v, r, e0, r1.mono k2, r2⟩, q2 F2 H S2 .refl⟩
/-! ### displays -/
def mTup (I : List Nat) (fs : List (Rho → R (Md × W))) : Rho → R (Md × W) := fun ρ => (mHold fs ρ).bind fun bs ρ1 => (valsL I bs ρ1).bind fun ws ρ2 => if ws.length ≤ sizeLine then .ok (.val, .tup ws) ρ2 else .stk
def mLst (I : List Nat) (fs : List (Rho → R (Md × W))) : Rho → R (Md × W) := fun ρ => (mHold fs ρ).bind fun bs ρ1 => (valsL I bs ρ1).bind fun ws ρ2 => if ws.length ≤ sizeLine then .ok (.fre, .lst ws) ρ2 else .stk
section
variable {X : Cx} {Y : Yx I} {es : List Expr} {fs : List (Rho → R (Md × W))} {pos : Pos}
theorem pem_tup {x1} (h : PAM X Y es fs) : PEM X Y (.Tuple es x1 pos) (mTup I fs) := pe_weak (pe_tup h) fun σ H Q hq => by
  obtain ⟨F, ρ, S, q⟩ := hq
  refine ⟨F, ρ, S, (RunG.bind q).imp fun bs ρ1 F1 H1 S1 k1 q1 F2 vs S2 k2 hvs => ?_⟩
  obtain ⟨F3, ws, ρ3, S3, k3, r, q3⟩ := S2.valsL hvs ((RunG.bind q1).rebase k2)
  split at q3
  · rename_i l
    refine ⟨by rw [← r.len]; exact l, fun p hp => ?_⟩
    exact new_tup (Q := Q) S3.f2 r (fun F' H' v e n => q3 F' H' (S3.grow e) e.keeps v (S3.newR e n)) hp
  · exact q3.elim
theorem pem_lst (h : PAM X Y es fs) : PEM X Y (.List es pos) (mLst I fs) := pe_weak (pe_lst h) fun σ H Q hq => by
  obtain ⟨F, ρ, S, q⟩ := hq
  refine ⟨F, ρ, S, (RunG.bind q).imp fun bs ρ1 F1 H1 S1 k1 q1 F2 vs S2 k2 hvs => ?_⟩
  obtain ⟨F3, ws, ρ3, S3, k3, r, q3⟩ := S2.valsL hvs ((RunG.bind q1).rebase k2)
  split at q3
  · rename_i l
    refine ⟨by rw [← r.len]; exact l, fun p hp => ?_⟩
    exact new_lst (Q := Q) S3.f2 r (fun F' H' v e n => q3 F' H' (S3.grow e) e.keeps v (S3.newR e n)) hp
  · exact q3.elim
end
/-! ### built-ins by values -/
abbrev GC := List W → Option (Md × W)
def CallW (K : PySem.W.Frag) (r : List V → Hp → VK → Prop) (g : GC) : Prop := ∀ xs m z, g xs = some (m, z) → ∀ (F : Fz) (H : Hp) (vs : List V) (Q : VK), Tight F H → PkL K F H xs vs → (∀ F' H' v, Ext [] F H F' H' → NewR K H F' H' m z v → Q v H') → r vs H Q
def mCB (g : GC) (fs : List (Rho → R (Md × W))) : Rho → R (Md × W) := fun ρ => (mHold fs ρ).bind fun bs ρ1 => match peekL bs ρ1 with
  | some ws => lift (g ws) ρ1
  | none => .stk
theorem tCB_of {K : PySem.W.Frag} {Y : Yx I} {r : List V → Hp → VK → Prop} {g : GC} {fs : List (Rho → R (Md × W))} {σ : L2.St} {H : Hp} {Q : VK} (hg : CallW K r g) (hq : tM K Y (mCB g fs) σ H Q) : tCB r (tMA K Y fs) σ H Q := by
  obtain ⟨F, ρ, S, q⟩ := hq
  refine ⟨F, ρ, S, (RunG.bind q).imp fun bs ρ1 F1 H1 S1 k1 q1 F2 vs S2 k2 hvs => ?_⟩
  have q2 := q1.rebase k2
  cases e : peekL bs ρ1 with
  | none => rw [e] at q2; exact q2.elim
  | some ws =>
    rw [e] at q2
    obtain ⟨⟨m, z⟩, ez, qz⟩ := lift_ok q2
    exact hg ws m z ez F2 H1 vs Q S2.f2 (S2.peekL hvs e) fun F' H' v ee hn => qz F' H' (S2.grow ee) ee.keeps v (S2.newR ee hn)
end ML

set_option maxHeartbeats 4000000
namespace ML
open PySem PySem.Spec PyProof.Rows L2
variable {I : List Nat}
/-! ### what a def promises: its mirror; J: the parameters whose lists the caller lends -/
inductive FR where
  | ok (fr : Bool) (w : W) (outs : List W)
  | exc (c : Str) (ns : List Str) (ws : List W) (outs : List W)
  | stk
def ArgsOk (K : PySem.W.Frag) (F : Fz) (H : Hp) (J : List Nat) : Nat → List W → List V → Prop
  | _, [], vs => vs = []
  | k, w :: ws, vs => ∃ v r, vs = v :: r ∧ (if k ∈ J then ∃ a, v = .ref a ∧ OwnR K F H w a ∧ ¬ F a else Rep K F H w v) ∧ ArgsOk K F H J (k + 1) ws r
def lentA (J : List Nat) (vs : List V) : List (Nat × Addr) := J.filterMap fun (i : Nat) => match vs[i]? with
  | some (V.ref a) => some (i, a)
  | _ => none
def LentOk (J : List Nat) (vs : List V) : Prop := (lentA J vs).map (·.1) = J ∧ ∀ (p : Nat × Addr), p ∈ lentA J vs → ∀ (q : Nat × Addr), q ∈ lentA J vs → p.2 = q.2 → p.1 = q.1
def OutsOk (K : PySem.W.Frag) (F : Fz) (H : Hp) (l : List (Nat × Addr)) (outs : List W) : Prop := outs.length = l.length ∧ ∀ (n : Nat) (p : Nat × Addr) (w : W), l[n]? = some p → outs[n]? = some w → OwnR K F H w p.2 ∧ ¬ F p.2
def spM (K : PySem.W.Frag) (ct : Str → Addr) (J : List Nat) (np : Nat) (fm : List W → FR) : Sp := fun vs H Q E => ∃ F args, vs.length = np ∧ Tight F H ∧ ArgsOk K F H J 0 args vs ∧
  LentOk J vs ∧ match fm args with
  | .ok fr w outs => ∀ F' H' v, Ext ((lentA J vs).map (·.2)) F H F' H' → OutsOk K F' H' (lentA J vs) outs → NewR K H F' H' (if fr then .fre else .val) w v → Q v H'
  | .exc c ns ws outs => ∀ F' H' d, Ext ((lentA J vs).map (·.2)) F H F' H' → OutsOk K F' H' (lentA J vs) outs → ExF K F' H' ns ws d → E (.ref (ct c)) d H'
  | .stk => False
theorem ArgsOk.len {K : PySem.W.Frag} {F : Fz} {H : Hp} {J : List Nat} : ∀ {k : Nat} {ws : List W} {vs : List V}, ArgsOk K F H J k ws vs → ws.length = vs.length
  | _, [], _, h => by cases h; rfl
  | k, w :: ws, _, ⟨v, r, e, _, h⟩ => by rw [e, List.length_cons, List.length_cons, ArgsOk.len h]
theorem ArgsOk.get {K : PySem.W.Frag} {F : Fz} {H : Hp} {J : List Nat} : ∀ {k : Nat} {ws : List W} {vs : List V} {i : Nat} {w : W}, ArgsOk K F H J k ws vs → ws[i]? = some w → ∃ v, vs[i]? = some v ∧ (if k + i ∈ J then ∃ a, v = .ref a ∧ OwnR K F H w a ∧ ¬ F a else Rep K F H w v)
  | _, [], _, _, _, _, e => by simp at e
  | k, w :: ws, _, 0, u, ⟨v, r, e0, h1, _⟩, e => by
    have e1 : w = u := Option.some.inj e
    subst e1
    exact ⟨v, by rw [e0]; rfl, h1⟩
  | k, w :: ws, _, i + 1, u, ⟨v, r, e0, _, h2⟩, e => by
    obtain ⟨x, ex, hx⟩ := ArgsOk.get (k := k + 1) (ws := ws) (vs := r) (i := i) (w := u) h2 e
    refine ⟨x, by rw [e0]; exact ex, ?_⟩
    rw [show k + (i + 1) = k + 1 + i by omega]
    exact hx
/-! ### the frame at the entry -/
def rhoA (J : List Nat) : Nat → List W → Rho
  | _, [] => []
  | k, w :: ws => (if k ∈ J then .own w else .val w) :: rhoA J (k + 1) ws
def rho0 (J : List Nat) (args : List W) (n : Nat) : Rho := rhoA J 0 args ++ List.replicate (n - args.length) .no
theorem rhoA_len {J : List Nat} : ∀ {k : Nat} {ws : List W}, (rhoA J k ws).length = ws.length
  | _, [] => rfl
  | k, w :: ws => by
    show (rhoA J (k + 1) ws).length + 1 = ws.length + 1
    rw [rhoA_len]
theorem rhoA_get {J : List Nat} : ∀ {k : Nat} {ws : List W} {i : Nat} {s : Sl}, (rhoA J k ws)[i]? = some s → ∃ w, ws[i]? = some w ∧ s = if k + i ∈ J then .own w else .val w
  | _, [], _, _, e => by simp [rhoA] at e
  | k, w :: ws, 0, s, e => ⟨w, rfl, (Option.some.inj e).symm⟩
  | k, w :: ws, i + 1, s, e => by
    obtain ⟨u, eu, es⟩ := rhoA_get (J := J) (k := k + 1) (ws := ws) (i := i) (s := s) e
    refine ⟨u, eu, ?_⟩
    rw [show k + (i + 1) = k + 1 + i by omega]
    exact es
theorem rho0_get {J : List Nat} {args : List W} {n i : Nat} {s : Sl} (h : (rho0 J args n)[i]? = some s) : s = .no ∨ ∃ w, args[i]? = some w ∧ s = if i ∈ J then .own w else .val w := by
  unfold rho0 at h
  by_cases hi : i < args.length
  · rw [List.getElem?_append_left (by rw [rhoA_len]; exact hi)] at h
    obtain ⟨w, ew, es⟩ := rhoA_get h
    right
    rw [Nat.zero_add] at es
    exact ⟨w, ew, es⟩
  · rw [List.getElem?_append_right (by rw [rhoA_len]; omega), List.getElem?_replicate] at h
    split at h
    · left; exact (Option.some.inj h).symm
    · cases h
theorem start_get {N : List Str} {vs : List V} {i : Nat} {v : V} (h : vs[i]? = some v) : (L2.start N vs)[i]? = some (some v) := by
  unfold L2.start
  have hi := (List.getElem?_eq_some_iff.mp h).1
  rw [List.getElem?_append_left (by rw [List.length_map]; exact hi), List.getElem?_map, h]
  rfl
theorem lentA_mem {J : List Nat} {vs : List V} {p : Nat × Addr} (h : p ∈ lentA J vs) : p.1 ∈ J ∧ vs[p.1]? = some (.ref p.2) := by
  unfold lentA at h
  obtain ⟨i, hi, e⟩ := List.mem_filterMap.mp h
  split at e
  · rename_i a q
    cases e
    exact ⟨hi, q⟩
  · cases e
theorem lentA_of {J : List Nat} {vs : List V} {i : Nat} {a : Addr} (hi : i ∈ J) (h : vs[i]? = some (.ref a)) : (i, a) ∈ lentA J vs := by
  unfold lentA
  exact List.mem_filterMap.mpr ⟨i, hi, by rw [h]⟩
theorem sr_start {K : PySem.W.Frag} {F : Fz} {H : Hp} {J : List Nat} {N : List Str} {args : List W} {vs : List V} (t : Tight F H) (h : ArgsOk K F H J 0 args vs)
    (hJ : (lentA J vs).map (·.1) = J) (hs : ∀ p ∈ lentA J vs, ∀ q ∈ lentA J vs, p.2 = q.2 → p.1 = q.1) (hn : vs.length ≤ N.length) : SR K { H0 := H, F0 := F, I := lentA J vs } F H (L2.start N vs) (rho0 J args N.length) := by
  have hl := h.len
  have arg : ∀ {i : Nat} {w : W}, (rho0 J args N.length)[i]? = some (.own w) → i ∈ J ∧ args[i]? = some w := fun {i w} e => by
    rcases rho0_get e with z | ⟨u, eu, z⟩
    · cases z
    · split at z
      · rename_i q; cases z; exact ⟨q, eu⟩
      · cases z
  have own : ∀ {i : Nat} {w : W}, i ∈ J → args[i]? = some w → ∃ a, vs[i]? = some (.ref a) ∧ OwnR K F H w a ∧ ¬ F a := fun {i w} hi e => by
    obtain ⟨v, ev, q⟩ := h.get e
    rw [if_pos (by rw [Nat.zero_add]; exact hi)] at q
    obtain ⟨a, ea, q⟩ := q
    exact ⟨a, by rw [ev, ea], q⟩
  refine ⟨?_, fun i s e => ?_, fun i j w w' a h1 h2 e1 e2 => ?_, fun p hp => ?_, fun _ _ _ e => e, fun _ e => e, fun _ e => e, fun _ e => .inl e, t⟩
  · unfold L2.start rho0
    rw [List.length_append, List.length_append, List.length_map, List.length_replicate, List.length_replicate, rhoA_len, hl]
  · rcases rho0_get e with z | ⟨u, eu, z⟩
    · rw [z]; trivial
    · obtain ⟨v, ev, q⟩ := h.get eu
      rw [Nat.zero_add] at q
      split at z
      · rename_i hi
        obtain ⟨a, ea, o, nf⟩ := own hi eu
        rw [z]
        exact ⟨a, start_get ea, o, nf, fun k => k.2 _ (lentA_of hi ea) rfl⟩
      · rename_i hi
        rw [if_neg hi] at q
        rw [z]
        exact ⟨v, start_get ev, q⟩
  · obtain ⟨hi, ei⟩ := arg h1
    obtain ⟨hj, ej⟩ := arg h2
    obtain ⟨b, eb, _⟩ := own hi ei
    obtain ⟨c, ec, _⟩ := own hj ej
    rw [start_get eb] at e1
    rw [start_get ec] at e2
    cases e1
    cases e2
    exact hs _ (lentA_of hi eb) _ (lentA_of hj ec) rfl
  · obtain ⟨hp1, hp2⟩ := lentA_mem hp
    refine ⟨start_get hp2, ?_⟩
    have hi : p.1 < args.length := by rw [hl]; exact (List.getElem?_eq_some_iff.mp hp2).1
    refine ⟨args[p.1], ?_⟩
    have g : ∀ (k : Nat) (ws : List W) (i : Nat) (w : W), ws[i]? = some w → (rhoA J k ws)[i]? = some (if k + i ∈ J then .own w else .val w) := by
      intro k ws
      induction ws generalizing k with
      | nil => intro i w e; simp at e
      | cons x ws ih =>
        intro i w e
        cases i with
        | zero =>
          have e1 : x = w := Option.some.inj e
          subst e1
          rfl
        | succ i =>
          have := ih (k + 1) i w e
          rw [show k + (i + 1) = k + 1 + i by omega]
          exact this
    unfold rho0
    rw [List.getElem?_append_left (by rw [rhoA_len]; exact hi), g 0 args p.1 _ (List.getElem?_eq_getElem hi), if_pos (by rw [Nat.zero_add]; exact hp1)]
/-! ### the def's mirror by its body's -/
def ownAt (ρ : Rho) (i : Nat) : Option W := match ρ[i]? with
  | some (.own w) => some w
  | _ => none
def outsOf : List Nat → Rho → Option (List W)
  | [], _ => some []
  | i :: is, ρ => match ownAt ρ i, outsOf is ρ with
    | some w, some ws => some (w :: ws)
    | _, _ => none
def finF (J : List Nat) (r : R Fl) : FR := match r with
  | .ok .nx ρ => (match outsOf J ρ with
    | some outs => .ok false .non outs
    | none => .stk)
  | .ok (.rt m w) ρ => (match m, outsOf J ρ with
    | .val, some outs => .ok false w outs
    | .fre, some outs => .ok true w outs
    | _, _ => .stk)
  | .exc c ns ws ρ => (match outsOf J ρ with
    | some outs => .exc c ns ws outs
    | none => .stk)
  | _ => .stk
def mFun (J : List Nat) (n : Nat) (g : Rho → R Fl) : List W → FR := fun args => finF J (g (rho0 J args n))
theorem ownAt_get {ρ : Rho} {i : Nat} {w : W} (h : ownAt ρ i = some w) : ρ[i]? = some (.own w) := by
  unfold ownAt at h
  split at h
  · cases h; assumption
  · cases h
theorem outs_ok {K : PySem.W.Frag} {B : Bd} {F : Fz} {H : Hp} {σ : L2.St} {ρ : Rho} (S : SR K B F H σ ρ) : ∀ {l : List (Nat × Addr)} {outs : List W}, (∀ p ∈ l, p ∈ B.I) → outsOf (l.map (·.1)) ρ = some outs → OutsOk K F H l outs
  | [], outs, _, e => by
    cases e
    exact ⟨rfl, fun n p w e => by simp at e⟩
  | p :: l, outs, hm, e => by
    have e1 : (match ownAt ρ p.1, outsOf (l.map (·.1)) ρ with
      | some w, some ws => some (w :: ws)
      | _, _ => none) = some outs := e
    split at e1
    · rename_i w ws ew ews
      cases e1
      obtain ⟨h1, h2⟩ := outs_ok S (fun q hq => hm q (List.mem_cons_of_mem _ hq)) ews
      refine ⟨by rw [List.length_cons, List.length_cons, h1], fun n q u eq eu => ?_⟩
      cases n with
      | zero =>
        cases eq
        cases eu
        have g := ownAt_get ew
        obtain ⟨a, ea, o, nf, _⟩ := S.slot _ _ g
        obtain ⟨la, _⟩ := S.lent p (hm p List.mem_cons_self)
        rw [la] at ea
        cases ea
        exact ⟨o, nf⟩
      | succ n => exact h2 n q u eq eu
    · cases e1
theorem fin_of {K : PySem.W.Frag} {ct : Str → Addr} {J : List Nat} {F : Fz} {H : Hp} {vs : List V} {Q : VK} {E : XK} {r : R Fl} {Y : Yx J} (hY : Y.B = { H0 := H, F0 := F, I := lentA J vs }) (hct : Y.ct = ct) (hwx : Y.wx = fun cls d _ H => E cls d H) (hJ : (lentA J vs).map (·.1) = J)
    (h : match finF J r with
      | .ok fr w outs => ∀ F' H' v, Ext ((lentA J vs).map (·.2)) F H F' H' → OutsOk K F' H' (lentA J vs) outs → NewR K H F' H' (if fr then .fre else .val) w v → Q v H'
      | .exc c ns ws outs => ∀ F' H' d, Ext ((lentA J vs).map (·.2)) F H F' H' → OutsOk K F' H' (lentA J vs) outs → ExF K F' H' ns ws d → E (.ref (ct c)) d H'
      | .stk => False) : RunS K Y F H r { nx := fun _ H' => Q .non H', rt := Q } := by
  have ext : ∀ {F' H' σ' ρ'}, SR K Y.B F' H' σ' ρ' → Ext ((lentA J vs).map (·.2)) F H F' H' := fun {F' H' σ' ρ'} S => by
    rw [hY] at S
    exact ⟨fun a o n e => S.ext a o ⟨by show H a ≠ none; rw [e]; exact (fun z => nomatch z), fun p hp z => n (List.mem_map.mpr ⟨p, hp, z⟩)⟩ e, S.f0, S.f1, S.f2⟩
  have out : ∀ {F' H' σ' ρ' outs}, SR K Y.B F' H' σ' ρ' → outsOf J ρ' = some outs → OutsOk K F' H' (lentA J vs) outs := fun {F' H' σ' ρ' outs} S e => by
    rw [← hJ] at e
    exact outs_ok S (fun p hp => by rw [hY]; exact hp) e
  cases r with
  | stk => exact h
  | exc c ns ws ρ =>
    unfold finF at h
    intro F' H' σ' d S x
    rw [hwx, hct]
    dsimp only at h
    cases e : outsOf J ρ with
    | none => rw [e] at h; exact h.elim
    | some outs => rw [e] at h; exact h F' H' d (ext S) (out S e) x
  | ok fl ρ =>
    unfold finF at h
    cases fl with
    | nx =>
      intro F' H' σ' S k
      dsimp only at h
      cases e : outsOf J ρ with
      | none => rw [e] at h; exact h.elim
      | some outs => rw [e] at h; exact h F' H' .non (ext S) (out S e) rfl
    | bk => exact h.elim
    | ct => exact h.elim
    | rt m w =>
      intro F' H' σ' v S hv
      dsimp only at h
      cases e : outsOf J ρ with
      | none => rw [e] at h; cases m <;> exact h.elim
      | some outs =>
        rw [e] at h
        cases m with
        | bor i => exact h.elim
        | val => exact h F' H' v (ext S) (out S e) hv
        | fre =>
          refine h F' H' v (ext S) (out S e) ?_
          obtain ⟨a, ea, o, nf, h0, _⟩ := hv
          rw [hY] at h0
          exact ⟨a, ea, o, nf, h0⟩
/-- THE RULE: a def's mirror by its body's -/
theorem fn_ok {P : Program} {w : World} {K : PySem.W.Frag} {mg : Str → Option Value} {base : Heap} {x qual : Str} {params : Arguments} {body : List Stmt} {scope : Scope} {dvs : List V} {kws : List (Str × V)} {f : Addr} {fd : FuncData} {N ps : List Str} {k : Nat} {ct : Str → Addr} {J : List Nat} {g : Rho → R Fl} {fm : List W → FR}
    (F : FunD K x qual params body scope dvs kws f fd) (S : FnScope N ps scope) (hn : ps.length ≤ N.length) (hg : ∀ args, args.length = ps.length → finF J (g (rho0 J args N.length)) = fm args)
    (hb : ∀ (cdv : Value) (A : Around) (outer : List Env) (s : Shared) (H : Hp) (E : XK) (Y : Yx J), Room k (A.deeper (envOfC qual scope s.heap.objs.size f cdv)) → Y.ct = ct → Takes (cxOf (L2.CX P w) P w K mg base N qual scope f cdv A outer s H E) Y.wx →
      PSMs (cxOf (L2.CX P w) P w K mg base N qual scope f cdv A outer s H E) Y body g) : FnOk P w K mg base (L2.CX P w) (k + 1) f fd ps (spM K ct J ps.length fm) := by
  refine F.ok S (fun vs H Q E ⟨_, _, h, _⟩ => h) fun cdv A outer s H vs Q E hr ⟨F0, args, hl, t, ha, ⟨hJ, hs⟩, hq⟩ => ?_
  refine ⟨_, hb cdv A outer s H E ⟨ct, { H0 := H, F0 := F0, I := lentA J vs }, fun cls d _ H => E cls d H, hJ⟩ hr rfl (takes_of rfl rfl rfl rfl), F0, rho0 J args N.length, sr_start t ha hJ hs (by rw [hl]; exact hn), ?_⟩
  refine fin_of (vs := vs) rfl rfl rfl hJ ?_
  rw [hg args (by rw [ha.len, hl])]
  exact hq
end ML

set_option maxHeartbeats 4000000
namespace ML
open PySem PySem.Spec PyProof.Rows L2
variable {I : List Nat}
/-! ### a call of a def by its mirror -/
/-- the arguments: values, but the slots of the lent lists -/
def callA (I J : List Nat) : Nat → List (Md × W) → Rho → R (List (W ⊕ Nat))
  | _, [], ρ => .ok [] ρ
  | k, b :: bs, ρ => if k ∈ J then (match b.1 with
      | .bor i => (callA I J (k + 1) bs ρ).bind fun xs ρ1 => .ok (.inr i :: xs) ρ1
      | _ => .stk)
    else (toVal I b ρ).bind fun w ρ1 => (callA I J (k + 1) bs ρ1).bind fun xs ρ2 => .ok (.inl w :: xs) ρ2
def slotsX : List (W ⊕ Nat) → List Nat
  | [] => []
  | .inl _ :: xs => slotsX xs
  | .inr i :: xs => i :: slotsX xs
def posX : Nat → List (W ⊕ Nat) → List Nat
  | _, [] => []
  | k, .inl _ :: xs => posX (k + 1) xs
  | k, .inr _ :: xs => k :: posX (k + 1) xs
def resX (ρ : Rho) : List (W ⊕ Nat) → Option (List W)
  | [] => some []
  | .inl w :: xs => (resX ρ xs).map (w :: ·)
  | .inr i :: xs => match ownAt ρ i, resX ρ xs with
    | some w, some ws => some (w :: ws)
    | _, _ => none
def putOuts : List Nat → List W → Rho → Rho
  | i :: is, w :: ws, ρ => putOuts is ws (ρ.set i (.own w))
  | _, _, ρ => ρ
def mCall (I J : List Nat) (fm : List W → FR) (fs : List (Rho → R (Md × W))) : Rho → R (Md × W) := fun ρ => (mHold fs ρ).bind fun bs ρ1 => (callA I J 0 bs ρ1).bind fun xs ρ2 =>
  if (slotsX xs).Nodup ∧ posX 0 xs = J then (match resX ρ2 xs with
    | some args => (match fm args with
      | .ok fr w outs => .ok (if fr then .fre else .val, w) (putOuts (slotsX xs) outs ρ2)
      | .exc c ns ws outs => .exc c ns ws (putOuts (slotsX xs) outs ρ2)
      | .stk => .stk)
    | none => .stk)
  else .stk
def XRel (K : PySem.W.Frag) (F : Fz) (H : Hp) (σ : L2.St) : List (W ⊕ Nat) → List V → Prop
  | [], vs => vs = []
  | .inl w :: xs, vs => ∃ v r, vs = v :: r ∧ Rep K F H w v ∧ XRel K F H σ xs r
  | .inr i :: xs, vs => ∃ v r, vs = v :: r ∧ σ[i]? = some (some v) ∧ XRel K F H σ xs r
theorem XRel.mono {K : PySem.W.Frag} {F F' : Fz} {H H' : Hp} {σ : L2.St} (k : Keeps F H F' H') : ∀ {xs : List (W ⊕ Nat)} {vs : List V}, XRel K F H σ xs vs → XRel K F' H' σ xs vs
  | [], _, h => h
  | .inl w :: xs, _, ⟨v, r, e, h1, h2⟩ => ⟨v, r, e, h1.mono k, XRel.mono k h2⟩
  | .inr i :: xs, _, ⟨v, r, e, h1, h2⟩ => ⟨v, r, e, h1, XRel.mono k h2⟩
theorem callA_ok {K : PySem.W.Frag} {Y : Yx I} {J : List Nat} {H : Hp} {σ : L2.St} : ∀ {bs : List (Md × W)} {k : Nat} {vs : List V} {F : Fz} {ρ : Rho} {P : List (W ⊕ Nat) → Rho → Fz → Hp → Prop}, SR K Y.B F H σ ρ → HeldL σ K F H bs vs → RunG K Y F H σ (callA I J k bs ρ) P →
    ∃ F' xs ρ', SR K Y.B F' H σ ρ' ∧ Keeps F H F' H ∧ XRel K F' H σ xs vs ∧ P xs ρ' F' H
  | [], k, _, F, ρ, _, S, h, q => ⟨F, [], ρ, S, .refl, h, q F H S .refl⟩
  | b :: bs, k, _, F, ρ, P, S, ⟨v, r, e0, h1, h2⟩, q => by
    unfold callA at q
    split at q
    · obtain ⟨m, w⟩ := b
      cases m with
      | val => exact q.elim
      | fre => exact q.elim
      | bor i =>
        obtain ⟨F2, xs, ρ2, S2, k2, r2, q2⟩ := callA_ok S h2 (RunG.bind q)
        exact ⟨F2, .inr i :: xs, ρ2, S2, k2, ⟨v, r, e0, h1, r2⟩, q2 F2 H S2 .refl⟩
    · obtain ⟨F1, w, ρ1, S1, k1, r1, q1⟩ := S.toValH h1 .refl (RunG.bind q)
      obtain ⟨F2, xs, ρ2, S2, k2, r2, q2⟩ := callA_ok S1 (h2.mono k1) (RunG.bind q1)
      exact ⟨F2, .inl w :: xs, ρ2, S2, k1.trans k2, ⟨v, r, e0, r1.mono k2, r2⟩, q2 F2 H S2 .refl⟩
/-- what is lent: position, slot, address -/
def lentX : Nat → List (W ⊕ Nat) → List V → List (Nat × Nat × Addr)
  | k, .inl _ :: xs, _ :: vs => lentX (k + 1) xs vs
  | k, .inr i :: xs, .ref a :: vs => (k, i, a) :: lentX (k + 1) xs vs
  | k, .inr _ :: xs, _ :: vs => lentX (k + 1) xs vs
  | _, _, _ => []
section
variable {K : PySem.W.Frag} {Y : Yx I} {B : Bd} {F F' : Fz} {H H' : Hp} {σ : L2.St} {ρ : Rho} {J : List Nat}
theorem x_args (S : SR K B F H σ ρ) : ∀ {xs : List (W ⊕ Nat)} {k : Nat} {vs : List V} {args : List W}, XRel K F H σ xs vs → resX ρ xs = some args → (∀ j, j ∈ J → k ≤ j → j ∈ posX k xs) → (∀ j, j ∈ posX k xs → j ∈ J) → ArgsOk K F H J k args vs
  | [], k, _, _, h, e, _, _ => by cases e; exact h
  | .inl w :: xs, k, _, args, ⟨v, r, e0, h1, h2⟩, e, hj, hj2 => by
    obtain ⟨ws, ews, rfl⟩ := Option.map_eq_some_iff.mp (show (resX ρ xs).map _ = some args from e)
    have lt : ∀ {xs : List (W ⊕ Nat)} {k j : Nat}, j ∈ posX k xs → k ≤ j := fun {xs} => by
      induction xs with
      | nil => intro k j h; cases h
      | cons x xs ih =>
        intro k j h
        cases x with
        | inl w => exact Nat.le_of_succ_le (ih (k := k + 1) h)
        | inr i =>
          cases h with
          | head => exact Nat.le_refl _
          | tail _ h => exact Nat.le_of_succ_le (ih (k := k + 1) h)
    have nk : k ∉ J := fun hk => absurd (lt (k := k + 1) (show k ∈ posX (k + 1) xs from hj k hk (Nat.le_refl _))) (by omega)
    exact ⟨v, r, e0, by rw [if_neg nk]; exact h1, x_args S h2 ews (fun j hjj l => hj j hjj (by omega)) hj2⟩
  | .inr i :: xs, k, _, args, ⟨v, r, e0, h1, h2⟩, e, hj, hj2 => by
    have e1 : (match ownAt ρ i, resX ρ xs with
      | some w, some ws => some (w :: ws)
      | _, _ => none) = some args := e
    split at e1
    · rename_i w ws ew ews
      cases e1
      obtain ⟨a, ea, o, nf, _⟩ := S.slot _ _ (ownAt_get ew)
      rw [h1] at ea
      cases ea
      refine ⟨_, r, e0, ?_, x_args S h2 ews (fun j hjj l => ?_) fun j h => hj2 j (List.mem_cons_of_mem _ h)⟩
      · rw [if_pos (hj2 k List.mem_cons_self)]
        exact ⟨a, rfl, o, nf⟩
      · have := hj j hjj (by omega)
        cases this with
        | head => omega
        | tail _ h => exact h
    · cases e1
/-- all that the lent ones are -/
theorem x_lent (S : SR K B F H σ ρ) : ∀ {xs : List (W ⊕ Nat)} {k : Nat} {vs : List V} {args : List W}, XRel K F H σ xs vs → resX ρ xs = some args →
    (lentX k xs vs).map (·.1) = posX k xs ∧ (lentX k xs vs).map (·.2.1) = slotsX xs ∧ ∀ (t : Nat × Nat × Addr), t ∈ lentX k xs vs → k ≤ t.1 ∧ vs[t.1 - k]? = some (.ref t.2.2) ∧ σ[t.2.1]? = some (some (.ref t.2.2)) ∧ ∃ w, ρ[t.2.1]? = some (.own w)
  | [], k, vs, _, h, _ => by
    have e : vs = [] := h
    subst e
    exact ⟨rfl, rfl, fun t ht => by cases ht⟩
  | .inl w :: xs, k, _, args, ⟨v, r, e0, h1, h2⟩, e => by
    subst e0
    obtain ⟨ws, ews, rfl⟩ := Option.map_eq_some_iff.mp (show (resX ρ xs).map _ = some args from e)
    obtain ⟨g1, g2, g3⟩ := x_lent S (k := k + 1) h2 ews
    refine ⟨g1, g2, fun t ht => ?_⟩
    obtain ⟨l, e1, e2⟩ := g3 t ht
    refine ⟨by omega, ?_, e2⟩
    rw [show t.1 - k = (t.1 - (k + 1)) + 1 by omega, List.getElem?_cons_succ]
    exact e1
  | .inr i :: xs, k, _, args, ⟨v, r, e0, h1, h2⟩, e => by
    subst e0
    have e1 : (match ownAt ρ i, resX ρ xs with
      | some w, some ws => some (w :: ws)
      | _, _ => none) = some args := e
    split at e1
    · rename_i w ws ew ews
      cases e1
      obtain ⟨a, ea, o, nf, _⟩ := S.slot _ _ (ownAt_get ew)
      rw [h1] at ea
      cases ea
      obtain ⟨g1, g2, g3⟩ := x_lent S (k := k + 1) h2 ews
      refine ⟨by show k :: _ = k :: _; rw [g1], by show i :: _ = i :: _; rw [g2], fun t ht => ?_⟩
      cases ht with
      | head => exact ⟨Nat.le_refl _, by rw [Nat.sub_self]; rfl, h1, w, ownAt_get ew⟩
      | tail _ ht =>
        obtain ⟨l, e1, e2⟩ := g3 t ht
        refine ⟨by omega, ?_, e2⟩
        rw [show t.1 - k = (t.1 - (k + 1)) + 1 by omega, List.getElem?_cons_succ]
        exact e1
    · cases e1
theorem lentA_eq : ∀ {l : List (Nat × Nat × Addr)} {vs : List V}, (∀ (t : Nat × Nat × Addr), t ∈ l → vs[t.1]? = some (V.ref t.2.2)) → lentA (l.map (·.1)) vs = l.map fun t => (t.1, t.2.2)
  | [], _, _ => rfl
  | t :: l, vs, h => by
    have e := h t List.mem_cons_self
    have ih := lentA_eq (l := l) (vs := vs) fun u hu => h u (List.mem_cons_of_mem _ hu)
    unfold lentA at ih ⊢
    rw [List.map_cons, List.filterMap_cons, e, List.map_cons, ih]
/-- the slots behind the call -/
theorem putOuts_get : ∀ {is : List Nat} {ws : List W} {ρ : Rho}, is.Nodup → ws.length = is.length → (∀ i ∈ is, i < ρ.length) → (putOuts is ws ρ).length = ρ.length ∧ ∀ (j : Nat), (∃ (n : Nat) (w : W), is[n]? = some j ∧ ws[n]? = some w ∧ (putOuts is ws ρ)[j]? = some (.own w)) ∨ (j ∉ is ∧ (putOuts is ws ρ)[j]? = ρ[j]?)
  | [], [], ρ, _, _, _ => ⟨rfl, fun j => .inr ⟨by simp, rfl⟩⟩
  | i :: is, w :: ws, ρ, nd, hl, hlt => by
    rw [List.nodup_cons] at nd
    obtain ⟨h1, h2⟩ := putOuts_get (is := is) (ws := ws) (ρ := ρ.set i (.own w)) nd.2 (by simpa using hl) fun j hj => by rw [List.length_set]; exact hlt j (List.mem_cons_of_mem _ hj)
    refine ⟨by show (putOuts is ws (ρ.set i (.own w))).length = _; rw [h1, List.length_set], fun j => ?_⟩
    show (∃ (n : Nat) (u : W), (i :: is)[n]? = some j ∧ (w :: ws)[n]? = some u ∧ (putOuts is ws (ρ.set i (.own w)))[j]? = some (.own u)) ∨ (j ∉ i :: is ∧ (putOuts is ws (ρ.set i (.own w)))[j]? = ρ[j]?)
    rcases h2 j with ⟨n, u, e1, e2, e3⟩ | ⟨nj, e⟩
    · exact .inl ⟨n + 1, u, e1, e2, e3⟩
    · by_cases ej : j = i
      · subst ej
        refine .inl ⟨0, w, rfl, rfl, ?_⟩
        rw [e, set_eq (hlt j List.mem_cons_self)]
      · refine .inr ⟨fun z => ?_, by rw [e, set_ne ej]⟩
        cases z with
        | head => exact ej rfl
        | tail _ z => exact nj z
theorem nodup_get {α : Type} : ∀ {l : List α} {i j : Nat} {x : α}, l.Nodup → l[i]? = some x → l[j]? = some x → i = j
  | [], _, _, _, _, e, _ => by simp at e
  | a :: l, 0, 0, _, _, _, _ => rfl
  | a :: l, 0, j + 1, x, nd, e1, e2 => by
    have e : a = x := Option.some.inj e1
    subst e
    exact absurd (List.mem_of_getElem? (l := l) e2) (List.nodup_cons.mp nd).1
  | a :: l, i + 1, 0, x, nd, e1, e2 => by
    have e : a = x := Option.some.inj e2
    subst e
    exact absurd (List.mem_of_getElem? (l := l) e1) (List.nodup_cons.mp nd).1
  | a :: l, i + 1, j + 1, x, nd, e1, e2 => by rw [nodup_get (l := l) (List.nodup_cons.mp nd).2 e1 e2]
/-- the frame behind the call -/
theorem sr_called (S : SR K B F H σ ρ) {l : List (Nat × Nat × Addr)} {outs : List W} (hl : ∀ (t : Nat × Nat × Addr), t ∈ l → σ[t.2.1]? = some (some (.ref t.2.2)) ∧ ∃ w, ρ[t.2.1]? = some (.own w)) (nd : (l.map (·.2.1)).Nodup)
    (e : Ext (l.map (·.2.2)) F H F' H') (o : OutsOk K F' H' (l.map fun t => (t.1, t.2.2)) outs) : SR K B F' H' σ (putOuts (l.map (·.2.1)) outs ρ) ∧ Keeps F H F' H' := by
  have lent : ∀ (t : Nat × Nat × Addr), t ∈ l → ¬ F t.2.2 ∧ ¬ B.kept t.2.2 ∧ ∃ u, H t.2.2 = some u ∧ Mut (some u) := fun t ht => by
    obtain ⟨h1, w, h2⟩ := hl t ht
    obtain ⟨a, ea, ow, nf, nk⟩ := S.slot _ _ h2
    rw [h1] at ea
    cases ea
    exact ⟨nf, nk, ow.some⟩
  have k : Keeps F H F' H' := ⟨e.f, fun a u hu c => e.h a u (fun z => by
    obtain ⟨t, ht, et⟩ := List.mem_map.mp z
    obtain ⟨nf, _, x, hx, mx⟩ := lent t ht
    rw [et] at nf hx
    rcases c with c | c
    · exact nf c
    · rw [hu] at hx; cases hx; exact c mx) hu⟩
  have hlen : outs.length = (l.map (·.2.1)).length := by rw [o.1, List.length_map, List.length_map]
  obtain ⟨p1, p2⟩ := putOuts_get (ρ := ρ) nd hlen fun i hi => by
    obtain ⟨t, ht, et⟩ := List.mem_map.mp hi
    obtain ⟨_, w, h2⟩ := hl t ht
    rw [← et]
    exact (List.getElem?_eq_some_iff.mp h2).1
  have own : ∀ {j : Nat} {w : W}, (putOuts (l.map (·.2.1)) outs ρ)[j]? = some (.own w) → ∃ w0, ρ[j]? = some (.own w0) := fun {j w} h => by
    rcases p2 j with ⟨n, u, e1, _, _⟩ | ⟨_, e1⟩
    · rw [List.getElem?_map] at e1
      obtain ⟨t, et, e1⟩ := Option.map_eq_some_iff.mp e1
      obtain ⟨_, w0, h2⟩ := hl t (List.mem_of_getElem? et)
      rw [e1] at h2
      exact ⟨w0, h2⟩
    · rw [e1] at h
      exact ⟨w, h⟩
  refine ⟨⟨by rw [p1]; exact S.len, fun j s h => ?_, fun i j w w' a h1 h2 e1 e2 => ?_, fun p hp => ?_, fun a u ka h => ?_, fun a h z => ?_, fun a h => e.f a (S.f0 a h), fun a h => ?_, e.t⟩, k⟩
  · rcases p2 j with ⟨n, u, e1, e2, e3⟩ | ⟨nj, e1⟩
    · rw [e3] at h
      cases h
      rw [List.getElem?_map] at e1
      obtain ⟨t, et, e1⟩ := Option.map_eq_some_iff.mp e1
      obtain ⟨h1, _⟩ := hl t (List.mem_of_getElem? et)
      obtain ⟨_, nk, _⟩ := lent t (List.mem_of_getElem? et)
      obtain ⟨ow, nf⟩ := o.2 n (t.1, t.2.2) u (by rw [List.getElem?_map, et]; rfl) e2
      rw [← e1]
      exact ⟨t.2.2, h1, ow, nf, nk⟩
    · rw [e1] at h
      have q := S.slot j s h
      cases s with
      | no => trivial
      | exn => exact q
      | val w => obtain ⟨v, ev, r⟩ := q; exact ⟨v, ev, r.mono k⟩
      | own w =>
        obtain ⟨a, ea, ow, nf, nk⟩ := q
        have na : a ∉ l.map (·.2.2) := fun z => by
          obtain ⟨t, ht, et⟩ := List.mem_map.mp z
          obtain ⟨h1, w0, h2⟩ := hl t ht
          rw [et] at h1
          exact nj (List.mem_map.mpr ⟨t, ht, S.sep _ _ _ _ a h2 h h1 ea⟩)
        obtain ⟨u, hu, _⟩ := ow.some
        refine ⟨a, ea, ?_, fun f => ?_, nk⟩
        · cases w with
          | lst m => obtain ⟨vs, h1, h2⟩ := ow; exact ⟨vs, e.h a _ na h1, h2.mono k⟩
          | dK ks m => obtain ⟨vs, h1, n, h2⟩ := ow; exact ⟨vs, e.h a _ na h1, n, h2.mono k⟩
          | _ => exact ow
        · rcases e.g a f with f | f
          · exact nf f
          · rw [hu] at f; cases f
  · obtain ⟨w0, g1⟩ := own h1
    obtain ⟨w1, g2⟩ := own h2
    exact S.sep i j w0 w1 a g1 g2 e1 e2
  · obtain ⟨h1, w, h2⟩ := S.lent p hp
    refine ⟨h1, ?_⟩
    rcases p2 p.1 with ⟨n, u, _, _, e3⟩ | ⟨_, e1⟩
    · exact ⟨u, e3⟩
    · exact ⟨w, by rw [e1]; exact h2⟩
  · refine e.h a u (fun z => ?_) (S.ext a u ka h)
    obtain ⟨t, ht, et⟩ := List.mem_map.mp z
    exact (lent t ht).2.1 (by rw [et]; exact ka)
  · by_cases z2 : a ∈ l.map (·.2.2)
    · obtain ⟨t, ht, et⟩ := List.mem_map.mp z2
      obtain ⟨n, en⟩ := List.mem_iff_getElem?.mp ht
      have lt : n < outs.length := by rw [o.1, List.length_map]; exact (List.getElem?_eq_some_iff.mp en).1
      obtain ⟨ow, _⟩ := o.2 n (t.1, t.2.2) _ (by rw [List.getElem?_map, en]; rfl) (List.getElem?_eq_getElem lt)
      obtain ⟨u, hu, _⟩ := ow.some
      rw [et, z] at hu
      cases hu
    · have h2 := S.alive a h
      cases q : H a with
      | none => exact h2 q
      | some u => rw [e.h a u z2 q] at z; cases z
  · rcases e.g a h with q | q
    · exact S.f1 a q
    · right
      cases q2 : B.H0 a with
      | none => rfl
      | some u => exact absurd q (S.alive a (by rw [q2]; exact (fun z => nomatch z)))
end
theorem RunG.withP {β : Type} {K : PySem.W.Frag} {Y : Yx I} {F : Fz} {H : Hp} {σ : L2.St} {r : R β} {P : β → Rho → Fz → Hp → Prop} {p : β → Prop} (hp : ∀ b ρ', r = .ok b ρ' → p b) (h : RunG K Y F H σ r P) : RunG K Y F H σ r fun b ρ' F' H' => p b ∧ P b ρ' F' H' := by
  cases r with
  | ok b ρ' => exact fun F' H' S k => ⟨hp b ρ' rfl, h F' H' S k⟩
  | exc c ns ws ρ' => exact h
  | stk => exact h
theorem call_of {K : PySem.W.Frag} {Y : Yx I} {J : List Nat} {np : Nat} {fm : List W → FR} {fs : List (Rho → R (Md × W))} {σ : L2.St} {H : Hp} {Q : VK} (hnp : fs.length = np) (hq : tM K Y (mCall I J fm fs) σ H Q) :
    tMA K Y fs σ H fun vs H1 => spM K Y.ct J np fm vs H1 Q (WE Y.wx σ) := by
  obtain ⟨F, ρ, S, q⟩ := hq
  have bl : ∀ {fs : List (Rho → R (Md × W))} {ρ ρ' : Rho} {bs : List (Md × W)}, mHold fs ρ = .ok bs ρ' → bs.length = fs.length := fun {fs} => by
    induction fs with
    | nil => intro ρ ρ' bs e; cases e; rfl
    | cons f fs ih =>
      intro ρ ρ' bs e
      have e1 : (f ρ).bind (fun b ρ1 => (mHold fs ρ1).bind fun bs ρ2 => .ok (b :: bs) ρ2) = .ok bs ρ' := e
      cases q1 : f ρ with
      | ok b ρ1 =>
        rw [q1] at e1
        have e2 : (mHold fs ρ1).bind (fun bs ρ2 => R.ok (b :: bs) ρ2) = .ok bs ρ' := e1
        cases q2 : mHold fs ρ1 with
        | ok bs1 ρ2 =>
          rw [q2] at e2
          cases e2
          rw [List.length_cons, List.length_cons, ih q2]
        | exc c ns ws ρ2 => rw [q2] at e2; cases e2
        | stk => rw [q2] at e2; cases e2
      | exc c ns ws ρ1 => rw [q1] at e1; cases e1
      | stk => rw [q1] at e1; cases e1
  have hb := RunG.bind q
  have hb2 := RunG.withP (p := fun bs => bs.length = np) (fun bs ρ1 e => by rw [bl e, hnp]) hb
  refine ⟨F, ρ, S, hb2.imp fun bs ρ1 F1 H1 S1 k1 ⟨hlen, q1⟩ F2 vs S2 k2 hvs => ?_⟩
  obtain ⟨F3, xs, ρ3, S3, k3, xr, q3⟩ := callA_ok S2 hvs (RunG.bind (q1.rebase k2))
  have vl : vs.length = bs.length := by
    have : ∀ {bs : List (Md × W)} {vs : List V}, HeldL σ K F2 H1 bs vs → vs.length = bs.length := fun {bs} => by
      induction bs with
      | nil => intro vs h; have e : vs = [] := h; rw [e]; rfl
      | cons b bs ih =>
        rintro vs ⟨v, r, e, _, h⟩
        rw [e, List.length_cons, List.length_cons, ih h]
    exact this hvs
  split at q3
  · rename_i hc
    cases er : resX ρ3 xs with
    | none => rw [er] at q3; exact q3.elim
    | some args =>
      rw [er] at q3
      dsimp only at q3
      obtain ⟨g1, g2, g3⟩ := x_lent S3 (k := 0) xr er
      have el : lentA J vs = (lentX 0 xs vs).map fun t => (t.1, t.2.2) := by
        rw [← hc.2, ← g1]
        exact lentA_eq fun t ht => by have := (g3 t ht).2.1; rwa [Nat.sub_zero] at this
      have hl : ∀ (t : Nat × Nat × Addr), t ∈ lentX 0 xs vs → σ[t.2.1]? = some (some (.ref t.2.2)) ∧ ∃ w, ρ3[t.2.1]? = some (.own w) := fun t ht => (g3 t ht).2.2
      have nd : ((lentX 0 xs vs).map (·.2.1)).Nodup := by rw [g2]; exact hc.1
      refine ⟨F3, args, by rw [vl, hlen], S3.f2, x_args S3 xr er (fun j hj _ => by rw [hc.2]; exact hj) (fun j hj => by rw [hc.2] at hj; exact hj), ⟨?_, ?_⟩, ?_⟩
      · rw [el, List.map_map]
        show (lentX 0 xs vs).map (·.1) = J
        rw [g1, hc.2]
      · rw [el]
        intro p hp q hq epq
        obtain ⟨t, ht, et⟩ := List.mem_map.mp hp
        obtain ⟨u, hu, eu⟩ := List.mem_map.mp hq
        subst et
        subst eu
        obtain ⟨h1, w1, h2⟩ := hl t ht
        obtain ⟨h3, w2, h4⟩ := hl u hu
        have e1 : t.2.2 = u.2.2 := epq
        rw [← e1] at h3
        have es := S3.sep _ _ _ _ _ h2 h4 h1 h3
        obtain ⟨n, en⟩ := List.mem_iff_getElem?.mp ht
        obtain ⟨m, em⟩ := List.mem_iff_getElem?.mp hu
        have nm := nodup_get nd (i := n) (j := m) (x := t.2.1) (by rw [List.getElem?_map, en]; rfl) (by rw [List.getElem?_map, em, es]; rfl)
        subst nm
        rw [en] at em
        cases em
        rfl
      · have eA : (lentA J vs).map (·.2) = (lentX 0 xs vs).map (·.2.2) := by
          rw [el, List.map_map]
          rfl
        rw [eA, el]
        cases ef : fm args with
        | stk => rw [ef] at q3; exact q3.elim
        | exc c ns ws outs =>
          rw [ef] at q3
          intro F' H' d ee oo x
          obtain ⟨S4, k4⟩ := sr_called S3 hl nd ee oo
          rw [g2] at S4
          exact q3 F' H' d S4 x
        | ok fr w outs =>
          rw [ef] at q3
          intro F' H' v ee oo hv
          obtain ⟨S4, k4⟩ := sr_called S3 hl nd ee oo
          rw [g2] at S4
          refine q3 F' H' S4 k4 v ?_
          cases fr with
          | false => exact hv
          | true =>
            obtain ⟨a, ea, o, nf, h0⟩ := hv
            refine ⟨a, ea, o, nf, ?_, fun i w' hi ei => ?_⟩
            · cases q5 : Y.B.H0 a with
              | none => rfl
              | some u => exact absurd h0 (S3.alive a (by rw [q5]; exact (fun z => nomatch z)))
            · have q6 : ∃ w0, ρ3[i]? = some (.own w0) := by
                have hlen2 : outs.length = (slotsX xs).length := by rw [oo.1, ← g2, List.length_map, List.length_map]
                obtain ⟨_, p2⟩ := putOuts_get (ρ := ρ3) hc.1 hlen2 fun i hi => by
                  rw [← g2] at hi
                  obtain ⟨t, ht, et⟩ := List.mem_map.mp hi
                  obtain ⟨_, w, h2⟩ := hl t ht
                  rw [← et]
                  exact (List.getElem?_eq_some_iff.mp h2).1
                rcases p2 i with ⟨n, u, e1, _, _⟩ | ⟨_, e1⟩
                · rw [← g2, List.getElem?_map] at e1
                  obtain ⟨t, et, e1⟩ := Option.map_eq_some_iff.mp e1
                  obtain ⟨_, w0, h2⟩ := hl t (List.mem_of_getElem? et)
                  rw [e1] at h2
                  exact ⟨w0, h2⟩
                · rw [e1] at hi
                  exact ⟨w', hi⟩
              obtain ⟨w0, h6⟩ := q6
              obtain ⟨b, eb, ob, _⟩ := S3.slot i _ h6
              rw [ei] at eb
              cases eb
              obtain ⟨u, hu, _⟩ := ob.some
              rw [h0] at hu
              cases hu
  · exact q3.elim
section
variable {X : Cx} {Y : Yx I} {J : List Nat} {k : Nat} {f : Addr} {fd : FuncData} {ps : List Str} {np : Nat} {fm : List W → FR} {x : Str} {p pos : Pos} {e : Expr} {es : List Expr} {fs : List (Rho → R (Md × W))}
theorem pem_call (F : FnOk X.prog X.w X.K X.mg X.base (L2.CX X.prog X.w) k f fd ps (spM X.K Y.ct J np fm)) (hr : Room k X.A) (tk : Takes X Y.wx) (hg : Gl X x) (hm : X.mg x = some (.ref f)) (hk : PySem.W.keepIn X.K (.ref f) = true) (hb : Binds X.K fd ps [])
    (ha : PAM X Y (e :: es) fs) (hn : fs.length = np) (hdb : (x == ("__debug__" : Str)) = false := by decide) (he : starEach (e :: es) X.env = (false, eval e X.env) :: starEach es X.env := by rfl) (hpl : (backTo pos (starEach es X.env)).any (·.1) = false := by rfl) :
    PEM X Y (.Call (.Name x p) (e :: es) [] pos) (mCall I J fm fs) := pe_weak (pe_callS F hr hg hm hk hb (fun σ => passAt tk σ) ha hdb he hpl) fun _ _ _ hq => call_of hn hq
end
end ML

set_option maxHeartbeats 4000000
namespace ML
open PySem PySem.Spec PyProof.Rows L2
variable {I : List Nat}
/-! ### a list comprehension -/
def wipeR (ρ : Rho) : List Nat → Rho
  | [] => ρ
  | v :: vs => (wipeR ρ vs).set v .no
theorem wipeR_len (ρ : Rho) : ∀ vs, (wipeR ρ vs).length = ρ.length
  | [] => rfl
  | v :: vs => by unfold wipeR; rw [List.length_set, wipeR_len ρ vs]
theorem wipeR_get {ρ : Rho} {i : Nat} {s : Sl} : ∀ {vs : List Nat}, (wipeR ρ vs)[i]? = some s → s = .no ∨ (i ∉ vs ∧ ρ[i]? = some s)
  | [], h => .inr ⟨by simp, h⟩
  | v :: vs, h => by
    unfold wipeR at h
    rcases set_cases h with ⟨_, e, _⟩ | ⟨n, e⟩
    · exact .inl e
    · rcases wipeR_get e with q | ⟨q1, q2⟩
      · exact .inl q
      · exact .inr ⟨fun z => by cases z with
          | head => exact n rfl
          | tail _ z => exact q1 z, q2⟩
theorem wipeR_ne {ρ : Rho} {i : Nat} : ∀ {vs : List Nat}, i ∉ vs → (wipeR ρ vs)[i]? = ρ[i]?
  | [], _ => rfl
  | v :: vs, h => by
    unfold wipeR
    rw [set_ne (fun e => h (by rw [e]; exact List.mem_cons_self)), wipeR_ne fun z => h (List.mem_cons_of_mem _ z)]
theorem wipe_ne {σ : L2.St} {i : Nat} : ∀ {vs : List Nat}, i ∉ vs → (wipe σ vs)[i]? = σ[i]?
  | [], _ => rfl
  | v :: vs, h => by
    unfold wipe
    rw [set_ne (fun e => h (by rw [e]; exact List.mem_cons_self)), wipe_ne fun z => h (List.mem_cons_of_mem _ z)]
section
variable {K : PySem.W.Frag} {B : Bd} {F F' : Fz} {H H' : Hp} {σ : L2.St} {ρ : Rho}
theorem SR.wiped (S : SR K B F H σ ρ) {vs : List Nat} (u : ∀ i ∈ vs, unlent B i) : SR K B F H (wipe σ vs) (wipeR ρ vs) := by
  have get : ∀ {i : Nat} {s : Sl}, (wipeR ρ vs)[i]? = some s → s = .no ∨ (ρ[i]? = some s ∧ (wipe σ vs)[i]? = σ[i]?) := fun {i s} h => by
    rcases wipeR_get h with q | ⟨q1, q2⟩
    · exact .inl q
    · exact .inr ⟨q2, wipe_ne q1⟩
  refine ⟨by rw [wipe_length, wipeR_len]; exact S.len, fun i s h => ?_, fun i j w w' a h1 h2 e1 e2 => ?_, fun p hp => ?_, S.ext, S.alive, S.f0, S.f1, S.f2⟩
  · rcases get h with q | ⟨q1, q2⟩
    · rw [q]; trivial
    · rw [q2]; exact S.slot i s q1
  · rcases get h1 with q | ⟨q1, q2⟩
    · cases q
    · rcases get h2 with q | ⟨q3, q4⟩
      · cases q
      · rw [q2] at e1
        rw [q4] at e2
        exact S.sep i j w w' a q1 q3 e1 e2
  · obtain ⟨h1, w, h2⟩ := S.lent p hp
    have n : p.1 ∉ vs := fun z => u _ z (List.mem_map.mpr ⟨p, hp, rfl⟩)
    exact ⟨by rw [wipe_ne n]; exact h1, w, by rw [wipeR_ne n]; exact h2⟩
theorem SR.unwiped {vs : List Nat} (S : SR K B F H (wipe σ vs) ρ) (u : ∀ i ∈ vs, unlent B i) : SR K B F H σ (wipeR ρ vs) := by
  have get : ∀ {i : Nat} {s : Sl}, (wipeR ρ vs)[i]? = some s → s = .no ∨ (ρ[i]? = some s ∧ (wipe σ vs)[i]? = σ[i]?) := fun {i s} h => by
    rcases wipeR_get h with q | ⟨q1, q2⟩
    · exact .inl q
    · exact .inr ⟨q2, wipe_ne q1⟩
  refine ⟨by rw [wipeR_len, ← S.len, wipe_length], fun i s h => ?_, fun i j w w' a h1 h2 e1 e2 => ?_, fun p hp => ?_, S.ext, S.alive, S.f0, S.f1, S.f2⟩
  · rcases get h with q | ⟨q1, q2⟩
    · rw [q]; trivial
    · rw [← q2]; exact S.slot i s q1
  · rcases get h1 with q | ⟨q1, q2⟩
    · cases q
    · rcases get h2 with q | ⟨q3, q4⟩
      · cases q
      · rw [← q2] at e1
        rw [← q4] at e2
        exact S.sep i j w w' a q1 q3 e1 e2
  · obtain ⟨h1, w, h2⟩ := S.lent p hp
    have n : p.1 ∉ vs := fun z => u _ z (List.mem_map.mpr ⟨p, hp, rfl⟩)
    exact ⟨by rw [← wipe_ne (σ := σ) n]; exact h1, w, by rw [wipeR_ne n]; exact h2⟩
/-- the list at D, that nobody else knows, with what it holds -/
def Bd.wit (B : Bd) (D : Addr) (vs : List V) : Bd := { B with H0 := upd B.H0 D (.lst vs) }
theorem wit_kept {D : Addr} {vs : List V} {a : Addr} (h : a ≠ D) : (B.wit D vs).kept a ↔ B.kept a := by
  unfold Bd.kept Bd.wit
  dsimp only
  rw [upd_ne h]
theorem SR.enter (S : SR K B F H σ ρ) {D : Addr} (n : H D = none) : SR K (B.wit D []) F (upd H D (.lst [])) σ ρ ∧ Keeps F H F (upd H D (.lst [])) := by
  have e : Ext [] F H F (upd H D (.lst [])) := Ext.new n S.f2
  have S' := S.grow e
  have h0 : B.H0 D = none := by
    cases q : B.H0 D with
    | none => rfl
    | some u => exact absurd n (S.alive D (by rw [q]; exact (fun z => nomatch z)))
  refine ⟨⟨S'.len, fun i s h => ?_, S'.sep, S'.lent, fun a o k h => ?_, fun a h => ?_, S'.f0, fun a h => ?_, S'.f2⟩, e.keeps⟩
  · have q := S'.slot i s h
    cases s with
    | no => trivial
    | exn => exact q
    | val w => exact q
    | own w =>
      obtain ⟨a, e1, o, nf, nk⟩ := q
      refine ⟨a, e1, o, nf, fun k => ?_⟩
      have na : a ≠ D := fun z => by
        obtain ⟨b, eb, ob, _⟩ := S.slot i _ h
        rw [e1] at eb
        cases eb
        obtain ⟨u, hu, _⟩ := ob.some
        rw [z, n] at hu
        cases hu
      exact nk ((wit_kept na).mp k)
  · by_cases ea : a = D
    · subst ea
      rw [show (B.wit a []).H0 a = some (.lst []) from upd_same] at h
      cases h
      exact upd_same
    · rw [show (B.wit D []).H0 a = B.H0 a from upd_ne ea] at h
      exact S'.ext a o ((wit_kept ea).mp k) h
  · by_cases ea : a = D
    · rw [ea, upd_same]; exact (fun z => nomatch z)
    · rw [show (B.wit D []).H0 a = B.H0 a from upd_ne ea] at h
      exact S'.alive a h
  · rcases S.f1 a h with q | q
    · exact .inl q
    · by_cases ea : a = D
      · exact absurd n (by rw [← ea]; exact S.f2 a h)
      · exact .inr (by rw [show (B.wit D []).H0 a = B.H0 a from upd_ne ea]; exact q)
theorem SR.wit_at {D : Addr} {vs : List V} (S : SR K (B.wit D vs) F H σ ρ) (nd : ∀ p ∈ B.I, p.2 ≠ D) (nf : ¬ B.F0 D) : H D = some (.lst vs) ∧ ¬ F D ∧ ∀ (i : Nat) (w : W), ρ[i]? = some (.own w) → σ[i]? ≠ some (some (.ref D)) := by
  have kD : (B.wit D vs).kept D := ⟨by rw [show (B.wit D vs).H0 D = some (.lst vs) from upd_same]; exact (fun z => nomatch z), nd⟩
  refine ⟨S.ext D _ kD upd_same, fun f => ?_, fun i w h e => ?_⟩
  · rcases S.f1 D f with q | q
    · exact nf q
    · rw [show (B.wit D vs).H0 D = some (.lst vs) from upd_same] at q; cases q
  · obtain ⟨a, e1, _, _, nk⟩ := S.slot i _ h
    rw [e] at e1
    cases e1
    exact nk kD
theorem SR.witPut {D : Addr} {vs us : List V} (S : SR K (B.wit D vs) F H σ ρ) (nd : ∀ p ∈ B.I, p.2 ≠ D) (nf : ¬ B.F0 D) : SR K (B.wit D us) F (upd H D (.lst us)) σ ρ ∧ Keeps F H F (upd H D (.lst us)) := by
  obtain ⟨hD, fD, sD⟩ := S.wit_at nd nf
  have k : Keeps F H F (upd H D (.lst us)) := ⟨fun _ h => h, fun b x hb c => by
    have nb : b ≠ D := fun z => by
      subst z
      rcases c with c | c
      · exact fD c
      · rw [hD] at hb; cases hb; exact c trivial
    rw [upd_ne nb]
    exact hb⟩
  refine ⟨⟨S.len, fun i s h => ?_, S.sep, S.lent, fun a o ka h => ?_, fun a h => ?_, S.f0, fun a h => ?_, fun a h => ?_⟩, k⟩
  · have q := S.slot i s h
    cases s with
    | no => trivial
    | exn => exact q
    | val w => obtain ⟨v, e1, r⟩ := q; exact ⟨v, e1, r.mono k⟩
    | own w =>
      obtain ⟨a, e1, o, nfa, nk⟩ := q
      have na : a ≠ D := fun z => sD i w h (by rw [e1, z])
      refine ⟨a, e1, ?_, nfa, fun k => nk ((wit_kept na).mpr ((wit_kept na).mp k))⟩
      cases w with
      | lst l => obtain ⟨vs, h1, h2⟩ := o; exact ⟨vs, by rw [upd_ne na]; exact h1, h2.mono k⟩
      | dK ks l => obtain ⟨vs, h1, m, h2⟩ := o; exact ⟨vs, by rw [upd_ne na]; exact h1, m, h2.mono k⟩
      | _ => exact o
  · by_cases ea : a = D
    · subst ea
      rw [show (B.wit a us).H0 a = some (.lst us) from upd_same] at h
      cases h
      exact upd_same
    · rw [upd_ne ea]
      refine S.ext a o ((wit_kept ea).mpr ((wit_kept ea).mp ka)) ?_
      rw [show (B.wit D vs).H0 a = B.H0 a from upd_ne ea]
      rw [show (B.wit D us).H0 a = B.H0 a from upd_ne ea] at h
      exact h
  · by_cases ea : a = D
    · rw [ea, upd_same]; exact (fun z => nomatch z)
    · rw [upd_ne ea]
      refine S.alive a ?_
      rw [show (B.wit D vs).H0 a = B.H0 a from upd_ne ea]
      rw [show (B.wit D us).H0 a = B.H0 a from upd_ne ea] at h
      exact h
  · rcases S.f1 a h with q | q
    · exact .inl q
    · by_cases ea : a = D
      · exact absurd h (by rw [ea]; exact fD)
      · exact .inr (by rw [show (B.wit D us).H0 a = B.H0 a from upd_ne ea]; rw [show (B.wit D vs).H0 a = B.H0 a from upd_ne ea] at q; exact q)
  · by_cases ea : a = D
    · rw [ea, upd_same]; exact (fun z => nomatch z)
    · rw [upd_ne ea]; exact S.f2 a h
theorem SR.leave {D : Addr} {vs : List V} (S : SR K (B.wit D vs) F H σ ρ) (nd : ∀ p ∈ B.I, p.2 ≠ D) (nf : ¬ B.F0 D) (h0 : B.H0 D = none) {ws : List W} (r : RepL K F H ws vs) : SR K B F H σ ρ ∧ Fre K B F H σ ρ (.lst ws) (.ref D) := by
  obtain ⟨hD, fD, sD⟩ := S.wit_at nd nf
  refine ⟨⟨S.len, fun i s h => ?_, S.sep, S.lent, fun a o ka h => ?_, fun a h => ?_, S.f0, fun a h => ?_, S.f2⟩, D, rfl, ⟨vs, hD, r⟩, fD, h0, sD⟩
  · have q := S.slot i s h
    cases s with
    | no => trivial
    | exn => exact q
    | val w => exact q
    | own w =>
      obtain ⟨a, e1, o, nfa, nk⟩ := q
      have na : a ≠ D := fun z => sD i w h (by rw [e1, z])
      exact ⟨a, e1, o, nfa, fun k => nk ((wit_kept na).mpr k)⟩
  · have na : a ≠ D := fun z => by rw [z, h0] at h; cases h
    refine S.ext a o ((wit_kept na).mpr ka) ?_
    rw [show (B.wit D vs).H0 a = B.H0 a from upd_ne na]
    exact h
  · have na : a ≠ D := fun z => h (by rw [z, h0])
    refine S.alive a ?_
    rw [show (B.wit D vs).H0 a = B.H0 a from upd_ne na]
    exact h
  · rcases S.f1 a h with q | q
    · exact .inl q
    · by_cases ea : a = D
      · exact .inr (by rw [ea, h0])
      · exact .inr (by rw [show (B.wit D vs).H0 a = B.H0 a from upd_ne ea] at q; exact q)
end
/-- the block's targets: names in slots -/
inductive CT where
  | nm (i : Nat) | tp (is : List Nat)
def CT.ix : CT → List Nat
  | .nm i => [i]
  | .tp is => is
def setsR : List Nat → List W → Rho → Option Rho
  | [], [], ρ => some ρ
  | i :: is, w :: ws, ρ => setsR is ws (ρ.set i (.val w))
  | _, _, _ => none
def CT.put (t : CT) (w : W) (ρ : Rho) : Option Rho := match t, w with
  | .nm i, w => some (ρ.set i (.val w))
  | .tp is, .tup l => setsR is l ρ
  | _, _ => none
def gNames : List Nat → TGs
  | [] => gNil
  | i :: is => gCons (gName i) (gNames is)
def CT.tg (K : PySem.W.Frag) : CT → TG
  | .nm i => gName i
  | .tp is => L2.gTup K is.length (gNames is)
def compL (vs : List Nat) (put : W → Rho → Option Rho) (c : Rho → R Bool) (fe : Rho → R W) : List W → List W → Rho → R (Md × W)
  | acc, [], ρ => if acc.length ≤ sizeLine then .ok (.fre, .lst acc) (wipeR ρ vs) else .stk
  | acc, w :: ws, ρ => match put w (wipeR ρ vs) with
    | some ρ1 => (c ρ1).bind fun b ρ2 => if b then (fe ρ2).bind fun y ρ3 => if acc.length < sizeLine then compL vs put c fe (acc ++ [y]) ws ρ3 else .stk else compL vs put c fe acc ws ρ2
    | none => .stk
def mEl (I : List Nat) (f : Rho → R (Md × W)) : Rho → R W := fun ρ => (f ρ).bind (toVal I)
def noExc {α : Type} (r : R α) : R α := match r with
  | .exc _ _ _ _ => .stk
  | r => r
def mLc (I : List Nat) (it : Rho → R (List W)) (t : CT) (c : Rho → R Bool) (fe : Rho → R (Md × W)) : Rho → R (Md × W) := fun ρ => (it ρ).bind fun ws ρ1 => if t.ix.all (fun i => decide (i ∉ I)) then noExc (compL t.ix t.put c (mEl I fe) [] ws ρ1) else .stk
def mYes : Rho → R Bool := fun ρ => .ok true ρ
end ML

set_option maxHeartbeats 4000000
namespace ML
open PySem PySem.Spec PyProof.Rows L2
variable {I : List Nat}
theorem bind_ok {α β : Type} {r : R α} {k : α → Rho → R β} {b : β} {ρ' : Rho} (h : r.bind k = .ok b ρ') : ∃ a ρ1, r = .ok a ρ1 ∧ k a ρ1 = .ok b ρ' := by
  cases r with
  | ok a ρ1 => exact ⟨a, ρ1, rfl, h⟩
  | exc c ns ws ρ => cases h
  | stk => cases h
theorem compL_fre {vs : List Nat} {put : W → Rho → Option Rho} {c : Rho → R Bool} {fe : Rho → R W} {b : Md × W} {ρe : Rho} : ∀ {ws acc : List W} {ρ : Rho}, compL vs put c fe acc ws ρ = .ok b ρe → ∃ L, b = (.fre, .lst L)
  | [], acc, ρ, h => by
    unfold compL at h
    split at h
    · cases h; exact ⟨_, rfl⟩
    · cases h
  | w :: ws, acc, ρ, h => by
    unfold compL at h
    split at h
    · obtain ⟨t, ρ2, _, h2⟩ := bind_ok h
      split at h2
      · obtain ⟨y, ρ3, _, h3⟩ := bind_ok h2
        split at h3
        · exact compL_fre h3
        · cases h3
      · exact compL_fre h2
    · cases h
/-- readings whatever is built meanwhile -/
def tMx (K : PySem.W.Frag) (ct : Str → Addr) (I : List Nat) (f : Rho → R (Md × W)) : TE := fun σ H Q => ∃ (Y : Yx I), Y.ct = ct ∧ (Y.wx = fun _ _ _ _ => False) ∧ tM K Y f σ H Q
def tMTx (K : PySem.W.Frag) (ct : Str → Addr) (I : List Nat) (f : Rho → R Bool) : TT := fun σ H Q => ∃ (Y : Yx I), Y.ct = ct ∧ (Y.wx = fun _ _ _ _ => False) ∧ tMT K Y f σ H Q
theorem pe_x {X : Cx} {ct : Str → Addr} {e : Expr} {f : Rho → R (Md × W)} (h : ∀ Y : Yx I, Y.ct = ct → (Y.wx = fun _ _ _ _ => False) → PEM X Y e f) : PE X e (tMx X.K ct I f) := ⟨fun pins s σ H Q J ⟨Y, e1, e2, hq⟩ => (h Y e1 e2).run pins s σ H Q J hq⟩
theorem pts_x {X : Cx} {ct : Str → Addr} {e : Expr} {f : Rho → R Bool} (h : ∀ Y : Yx I, Y.ct = ct → (Y.wx = fun _ _ _ _ => False) → PTM X Y e f) : PTs X [e] (tMTx X.K ct I f) := pts_one ⟨fun pins s σ H Q J ⟨Y, e1, e2, hq⟩ => (h Y e1 e2).run pins s σ H Q J hq⟩
/-- the clause's tests: none or one -/
def PCs (X : Cx) (ct : Str → Addr) (I : List Nat) (ifs : List Expr) (c : Rho → R Bool) : Prop := PTs X ifs (tMTx X.K ct I c)
theorem pcs_nil {X : Cx} {ct : Str → Addr} : PCs X ct I [] mYes := ⟨fun pins s σ H Q J ⟨Y, _, _, F, ρ, S, q⟩ => pts_nil.run pins s σ H Q J (q F H S .refl)⟩
theorem pcs_one {X : Cx} {ct : Str → Addr} {e : Expr} {c : Rho → R Bool} (h : ∀ Y : Yx I, Y.ct = ct → (Y.wx = fun _ _ _ _ => False) → PTM X Y e c) : PCs X ct I [e] c := pts_x h
section
variable {K : PySem.W.Frag} {B : Bd} {F F' : Fz} {H H' : Hp} {σ : L2.St} {ρ ρ' : Rho}
theorem sets_ok : ∀ {is : List Nat} {l : List W} {xs : List V} {σ : L2.St} {ρ ρ' : Rho} {Q : L2.St → Hp → Prop}, SR K B F H σ ρ → RepL K F H l xs → (∀ i ∈ is, unlent B i) → setsR is l ρ = some ρ' →
    (∀ σ', SR K B F H σ' ρ' → σ'.length = σ.length → (∀ j, j ∉ is → σ'[j]? = σ[j]?) → Q σ' H) → xs.length = is.length ∧ gNames is xs σ H Q
  | [], [], xs, σ, ρ, ρ', Q, S, r, _, e, q => by
    have ex : xs = [] := r
    subst ex
    cases e
    exact ⟨rfl, rfl, q σ S rfl fun _ _ => rfl⟩
  | i :: is, w :: l, xs, σ, ρ, ρ', Q, S, r, u, e, q => by
    obtain ⟨v, vs, rfl, r1, r2⟩ := r
    have := sets_ok (is := is) (l := l) (xs := vs) (σ := σ.set i (some v)) (ρ := ρ.set i (.val w)) (ρ' := ρ') (Q := Q) (S.setVal (u i List.mem_cons_self) r1) r2 (fun j hj => u j (List.mem_cons_of_mem _ hj)) e fun σ' S' hl hs => q σ' S' (by rw [hl, List.length_set]) fun j hj => by
      rw [hs j fun z => hj (List.mem_cons_of_mem _ z), set_ne fun z => hj (by rw [z]; exact List.mem_cons_self)]
    exact ⟨by rw [List.length_cons, List.length_cons, this.1], v, vs, rfl, this.2⟩
  | [], _ :: _, _, _, _, _, _, _, _, _, e, _ => by cases e
  | _ :: _, [], _, _, _, _, _, _, _, _, e, _ => by cases e
theorem wipe_in {σ : L2.St} {i : Nat} : ∀ {vs : List Nat}, i ∈ vs → i < σ.length → (wipe σ vs)[i]? = some none
  | v :: vs, h, l => by
    unfold wipe
    by_cases e : i = v
    · subst e
      exact set_eq (by rw [wipe_length]; exact l)
    · rw [set_ne e]
      cases h with
      | head => exact absurd rfl e
      | tail _ h => exact wipe_in h l
theorem wipe_same {σ σ' : L2.St} {vs : List Nat} (hl : σ'.length = σ.length) (h : ∀ j, j ∉ vs → σ'[j]? = σ[j]?) : wipe σ' vs = wipe σ vs := by
  apply List.ext_getElem?
  intro j
  by_cases hj : j ∈ vs
  · by_cases l : j < σ.length
    · rw [wipe_in hj l, wipe_in hj (by rw [hl]; exact l)]
    · rw [List.getElem?_eq_none (by rw [wipe_length]; omega), List.getElem?_eq_none (by rw [wipe_length]; omega)]
  · rw [wipe_ne hj, wipe_ne hj, h j hj]
theorem put_ok {t : CT} {w : W} {v : V} {Q : L2.St → Hp → Prop} (S : SR K B F H (wipe σ t.ix) ρ) (r : Rep K F H w v) (u : ∀ i ∈ t.ix, unlent B i) (e : t.put w ρ = some ρ')
    (q : ∀ σ', SR K B F H σ' ρ' → wipe σ' t.ix = wipe σ t.ix → Q σ' H) : t.tg K v (wipe σ t.ix) H Q := by
  have fin : ∀ σ', σ'.length = (wipe σ t.ix).length → (∀ j, j ∉ t.ix → σ'[j]? = (wipe σ t.ix)[j]?) → wipe σ' t.ix = wipe σ t.ix := fun σ' hl hs => wipe_same (by rw [hl, wipe_length]) fun j hj => by rw [hs j hj, wipe_ne hj]
  cases t with
  | nm i =>
    cases e
    exact q _ (S.setVal (u i List.mem_cons_self) r) (fin _ (by rw [List.length_set]) fun j hj => set_ne fun z => hj (by rw [z]; exact List.mem_cons_self))
  | tp is =>
    cases w with
    | tup l =>
      obtain ⟨a, vs, rfl, hs, rl⟩ := r
      have := sets_ok S rl u e fun σ' S' hl hx => q σ' S' (fin σ' hl hx)
      exact ⟨a, vs, rfl, hs.seq, this.1, this.2⟩
    | _ => cases e
end
theorem lc_of {K : PySem.W.Frag} {Y : Yx I} {it : Rho → R (List W)} {t : CT} {c : Rho → R Bool} {fe : Rho → R (Md × W)} {σ : L2.St} {H : Hp} {Q : VK} (hq : tM K Y (mLc I it t c fe) σ H Q) :
    tLc (tMI K Y it) (t.tg K) (tMTx K Y.ct I c) (tMx K Y.ct I fe) t.ix σ H Q := by
  obtain ⟨F, ρ, S, q⟩ := hq
  refine ⟨F, ρ, S, (RunG.bind q).imp fun ws ρ1 F1 H1 S1 k1 q1 J hJ D nD => ?_⟩
  split at q1
  · rename_i hix
    have un : ∀ i ∈ t.ix, i ∉ I := fun i hi => of_decide_eq_true (List.all_eq_true.mp hix i hi)
    have u : ∀ i ∈ t.ix, unlent Y.B i := fun i hi => Y.un (un i hi)
    cases er : compL t.ix t.put c (mEl I fe) [] ws ρ1 with
    | exc cc ns us ρ' => rw [er] at q1; exact q1.elim
    | stk => rw [er] at q1; exact q1.elim
    | ok b ρe =>
      rw [er] at q1
      obtain ⟨L, rfl⟩ := compL_fre er
      obtain ⟨S2, k2⟩ := S1.enter nD
      have nd : ∀ p ∈ Y.B.I, p.2 ≠ D := fun p hp z => by
        obtain ⟨h1, w, h2⟩ := S1.lent p hp
        obtain ⟨a, ea, o, _⟩ := S1.slot _ _ h2
        rw [h1] at ea
        cases ea
        obtain ⟨x, hx, _⟩ := o.some
        rw [z, nD] at hx
        cases hx
      have nf : ¬ Y.B.F0 D := fun z => S1.f2 D (S1.f0 D z) nD
      have h0 : Y.B.H0 D = none := by
        cases q : Y.B.H0 D with
        | none => rfl
        | some x => exact absurd nD (S1.alive D (by rw [q]; exact (fun z => nomatch z)))
      refine ⟨fun i m H => ∃ F ρ acc vacc, SR K (Y.B.wit D vacc) F H (wipe σ t.ix) (wipeR ρ t.ix) ∧ RepL K F H acc vacc ∧ Keeps F1 H1 F H ∧ compL t.ix t.put c (mEl I fe) acc (ws.drop i) ρ = .ok (.fre, .lst L) ρe ∧ m = ws.length - i,
        ⟨_, F1, ρ1, [], [], S2.wiped u, rfl, k2, er, rfl⟩, ?_⟩
      rintro i m H ⟨F, ρ, acc, vacc, S, ra, k, ec, rfl⟩
      have hi := hJ F H k S.f2 i
      cases ed : ws.drop i with
      | nil =>
        rw [ed] at ec
        unfold compL at ec
        split at ec
        · cases ec
          obtain ⟨S3, fr⟩ := S.leave nd nf h0 ra
          have S4 := S3.unwiped u
          refine .inl ⟨hi.2 (List.drop_eq_nil_iff.mp ed), ?_⟩
          have ew : wipeR (wipeR ρ t.ix) t.ix = wipeR ρ t.ix := by
            apply List.ext_getElem?
            intro j
            by_cases hj : j ∈ t.ix
            · have g : ∀ (ρ : Rho) (vs : List Nat), j ∈ vs → (wipeR ρ vs)[j]? = if j < ρ.length then some .no else none := fun ρ vs => by
                induction vs with
                | nil => intro h; cases h
                | cons v vs ih =>
                  intro h
                  unfold wipeR
                  by_cases e : j = v
                  · subst e
                    rw [List.getElem?_set, if_pos rfl, wipeR_len]
                  · rw [set_ne e]
                    cases h with
                    | head => exact absurd rfl e
                    | tail _ h => exact ih h
              rw [g _ _ hj, g _ _ hj, wipeR_len]
            · rw [wipeR_ne hj]
          rw [ew] at S4
          refine q1 F H S4 k _ ?_
          obtain ⟨a, ea, o, n1, n2, n3⟩ := fr
          refine ⟨a, ea, o, n1, n2, fun j w' hj ej => ?_⟩
          rcases wipeR_get hj with z | ⟨z1, z2⟩
          · cases z
          · exact n3 j w' hj (by rw [wipe_ne z1]; exact ej)
        · cases ec
      | cons w r =>
        obtain ⟨ew, er2⟩ := drop_get ed
        obtain ⟨go, yl⟩ := hi.1 w ew
        have lt := (List.getElem?_eq_some_iff.mp ew).1
        refine .inr ⟨go, fun H' => ∃ F ρ acc vacc, SR K (Y.B.wit D vacc) F H' (wipe σ t.ix) (wipeR ρ t.ix) ∧ RepL K F H' acc vacc ∧ Keeps F1 H1 F H' ∧ compL t.ix t.put c (mEl I fe) acc (ws.drop (i + 1)) ρ = .ok (.fre, .lst L) ρe,
          fun H' ⟨F', ρ', acc', vacc', a1, a2, a3, a4⟩ => ⟨ws.length - (i + 1), by omega, F', ρ', acc', vacc', a1, a2, a3, a4, rfl⟩, fun x H'' y => ?_⟩
        obtain ⟨F2, ex, rx⟩ := yl x H'' y
        rw [ed] at ec
        unfold compL at ec
        split at ec
        · rename_i ρ3 ep
          obtain ⟨b, ρ4, ecb, ec2⟩ := bind_ok ec
          have u' : ∀ i ∈ t.ix, unlent (Y.B.wit D vacc) i := u
          refine put_ok (S.grow ex) rx u' ep fun σ' S5 hw => ⟨hw, ?_⟩
          have kx : Keeps F1 H1 F2 H'' := k.trans ex.keeps
          have ra2 : RepL K F2 H'' acc vacc := ra.mono ex.keeps
          refine ⟨⟨Y.ct, Y.B.wit D vacc, fun _ _ _ _ => False, Y.hI⟩, rfl, rfl, F2, ρ3, S5, ?_⟩
          rw [ecb]
          intro F6 H6 S6 k6
          cases b with
          | false =>
            rw [if_neg Bool.false_ne_true] at ec2
            rw [if_neg Bool.false_ne_true]
            have S7 := SR.wiped (vs := t.ix) S6 u'
            rw [hw] at S7
            exact ⟨F6, ρ4, acc, vacc, S7, ra2.mono k6, kx.trans k6, by rw [er2]; exact ec2⟩
          | true =>
            rw [if_pos rfl] at ec2
            rw [if_pos rfl]
            obtain ⟨yw, ρ7, ey, ec3⟩ := bind_ok ec2
            obtain ⟨bm, ρ6, e6, e7⟩ := bind_ok (show (fe ρ4).bind (toVal I) = .ok yw ρ7 from ey)
            refine ⟨⟨Y.ct, Y.B.wit D vacc, fun _ _ _ _ => False, Y.hI⟩, rfl, rfl, F6, ρ4, S6, ?_⟩
            rw [e6]
            intro F8 H8 S8 k8 v8 hv8
            split at ec3
            · rename_i hsz
              have qv : RunG K (⟨Y.ct, Y.B.wit D vacc, fun _ _ _ _ => False, Y.hI⟩ : Yx I) F8 H8 σ' (toVal I bm ρ6) fun w ρ _ _ => w = yw ∧ ρ = ρ7 := by
                rw [e7]
                exact fun _ _ _ _ => ⟨rfl, rfl⟩
              obtain ⟨F9, yw', ρ9, S9, k9, r9, ⟨e9, e10⟩⟩ := S8.toVal hv8 qv
              subst e9
              subst e10
              obtain ⟨hD, fD, _⟩ := S9.wit_at nd nf
              have ra9 := (ra2.mono k6).mono (k8.trans k9)
              obtain ⟨Sa, ka⟩ := S9.witPut (us := vacc ++ [v8]) nd nf
              refine ⟨vacc, hD, by rw [← ra9.len]; exact hsz, F9, ρ9, acc ++ [yw'], vacc ++ [v8], ?_, RepL.mono ka _ (ra9.append (.cons r9 .nil)), ((kx.trans k6).trans (k8.trans k9)).trans ka, by rw [er2]; exact ec3⟩
              have Sb := SR.wiped (vs := t.ix) Sa u'
              rw [hw] at Sb
              exact Sb
            · cases ec3
        · cases ec
  · exact q1.elim
section
variable {X : Cx} {Y : Yx I} {elt tg iter : Expr} {ifs : List Expr} {scope : Scope} {own : List (Str × Nat)} {pos : Pos} {it : Rho → R (List W)} {t : CT} {c : Rho → R Bool} {fe : Rho → R (Md × W)}
theorem pem_lc (hc : X.calm = true) (hN : X.N.Nodup) (hi : PIM X Y tg iter it) (ok : BlkOk X.N X.env.scope scope own) (ho : own.map (·.2) = t.ix)
    (hg : ∀ (s : Shared) (H : Hp) (C : Addr) (cl : List (Str × Addr)) (fp : List Addr), PG (X.blk s H scope (compEnvC scope cl C X.env) fp) tg (t.tg X.K))
    (ht : ∀ (s : Shared) (H : Hp) (C : Addr) (cl : List (Str × Addr)) (fp : List Addr), PCs (X.blk s H scope (compEnvC scope cl C X.env) fp) Y.ct I ifs c)
    (he : ∀ (s : Shared) (H : Hp) (C : Addr) (cl : List (Str × Addr)) (fp : List Addr) (Y' : Yx I), Y'.ct = Y.ct → (Y'.wx = fun _ _ _ _ => False) → PEM (X.blk s H scope (compEnvC scope cl C X.env) fp) Y' elt fe)
    (hs : ∀ x, foldedSetIterable iter X.env x = pure x := by intro _; rfl) : PEM X Y (.ListComp elt [⟨tg, iter, ifs, 0⟩] scope pos) (mLc I it t c fe) :=
  pe_weak (pe_lc (tt := tMTx X.K Y.ct I c) (te := tMx X.K Y.ct I fe) hc hN hi ok hg ht (fun s H C cl fp => pe_x (he s H C cl fp)) hs) fun σ H Q hq => by
    rw [ho]
    exact lc_of hq
/-- x = [..] on one line -/
theorem psm_setLc {i : Nat} {y : Str} {py spos : Pos} (hc : X.calm = true) (hN : X.N.Nodup) (hy : X.N[i]? = some y) (hyl : X.env.scope.names.lookup y = some .local)
    (hsw : swapsWith (.ListComp elt [⟨tg, iter, ifs, 0⟩] scope pos) (some (.Name y py)) spos.line X.env = pure true) (hi : PIM X Y tg iter it) (ok : BlkOk X.N X.env.scope scope own) (ho : own.map (·.2) = t.ix)
    (hg : ∀ (s : Shared) (H : Hp) (C : Addr) (cl : List (Str × Addr)) (fp : List Addr), PG (X.blk s H scope (compEnvC scope cl C X.env) fp) tg (t.tg X.K))
    (ht : ∀ (s : Shared) (H : Hp) (C : Addr) (cl : List (Str × Addr)) (fp : List Addr), PCs (X.blk s H scope (compEnvC scope cl C X.env) fp) Y.ct I ifs c)
    (he : ∀ (s : Shared) (H : Hp) (C : Addr) (cl : List (Str × Addr)) (fp : List Addr) (Y' : Yx I), Y'.ct = Y.ct → (Y'.wx = fun _ _ _ _ => False) → PEM (X.blk s H scope (compEnvC scope cl C X.env) fp) Y' elt fe)
    (hs : ∀ x, foldedSetIterable iter X.env x = pure x := by intro _; rfl) : PSM X Y (.Assign [.Name y py] (.ListComp elt [⟨tg, iter, ifs, 0⟩] scope pos) spos) (mSet I i (mLc I it t c fe)) :=
  ps_weak (ps_setLc (tt := tMTx X.K Y.ct I c) (te := tMx X.K Y.ct I fe) hc hN hy hyl hsw hi ok hg ht (fun s H C cl fp => pe_x (he s H C cl fp)) hs) fun D σ H hq => by
    obtain ⟨F, ρ, S, q⟩ := hq
    rw [ho]
    exact lc_of ⟨F, ρ, S, (RunS.bindE q).imp fun b ρ1 F1 H1 S1 k1 q1 v hv => store_of S1 hv q1⟩
end
end ML

set_option maxHeartbeats 4000000
namespace ML
open PySem PySem.Spec PyProof.Rows L2
variable {I : List Nat}
/-! ### built-ins -/
theorem CallR.or {X : Cx} {f : Value} {r r' : List V → Hp → VK → Prop} (h : CallR X f r) (h' : CallR X f r') : CallR X f (fun xs H Q => r xs H Q ∨ r' xs H Q) := by
  intro pins s σ H xs us Q I rs q
  rcases q with q | q
  · exact h pins s σ H xs us Q I rs q
  · exact h' pins s σ H xs us Q I rs q
section
variable {K : PySem.W.Frag} {F : Fz} {H : Hp}
theorem PkL.one {w : W} {vs : List V} (h : PkL K F H [w] vs) : ∃ v, vs = [v] ∧ PkR K F H w v := by
  obtain ⟨v, r, e, h1, h2⟩ := h
  have e2 : r = [] := h2
  exact ⟨v, by rw [e, e2], h1⟩
theorem PkL.two {w u : W} {vs : List V} (h : PkL K F H [w, u] vs) : ∃ v x, vs = [v, x] ∧ PkR K F H w v ∧ PkR K F H u x := by
  obtain ⟨v, r, e, h1, h2⟩ := h
  obtain ⟨x, e2, h3⟩ := PkL.one h2
  exact ⟨v, x, by rw [e, e2], h1, h3⟩
end
def gInt : GC
  | [.int i] => some (.val, .int i)
  | [.bl k] => some (.val, .int (if k then 1 else 0))
  | [.str a] => if a.length ≤ 640 then (PySem.intText? a).map fun n => (.val, .int n) else none
  | _ => none
abbrev rInt1 : List V → Hp → VK → Prop := fun xs H Q => (∃ i, xs = [.int i] ∧ Q (.int i) H) ∨ ∃ k, xs = [.bl k] ∧ Q (.int (if k then 1 else 0)) H
abbrev rIntS : List V → Hp → VK → Prop := fun xs H Q => ∃ a n, xs = [.str a] ∧ PySem.intText? a = some n ∧ a.length ≤ 640 ∧ Q (.int n) H
theorem c_int {X : Cx} : CallR X (.type "int") (fun xs H Q => rInt1 xs H Q ∨ rIntS xs H Q) := CallR.or call_int1 call_int_str
theorem g_int {K : PySem.W.Frag} : CallW K (fun xs H Q => rInt1 xs H Q ∨ rIntS xs H Q) gInt := by
  intro xs m z e F H vs Q t p q
  unfold gInt at e
  split at e
  · cases e
    obtain ⟨v, rfl, h⟩ := p.one
    cases h.int
    exact .inl (.inl ⟨_, rfl, old_val t (K := K) (z := .int _) rfl q⟩)
  · cases e
    obtain ⟨v, rfl, h⟩ := p.one
    cases h.bl
    exact .inl (.inr ⟨_, rfl, old_val t (K := K) (z := .int _) rfl q⟩)
  · split at e
    · rename_i a hl
      obtain ⟨n, en, e2⟩ := Option.map_eq_some_iff.mp e
      cases e2
      obtain ⟨v, rfl, h⟩ := p.one
      cases h.str
      exact .inr ⟨_, n, rfl, en, hl, old_val t (K := K) (z := .int _) rfl q⟩
    · cases e
  · cases e
def gStr : GC
  | [.int i] => if i.natAbs.log2 < 1920 then some (.val, .str (toString i)) else none
  | [.str a] => some (.val, .str a)
  | _ => none
abbrev rStrI : List V → Hp → VK → Prop := fun xs H Q => ∃ i, xs = [.int i] ∧ i.natAbs.log2 < 1920 ∧ Q (.str (toString i)) H
abbrev rStrS : List V → Hp → VK → Prop := fun xs H Q => ∃ a, xs = [.str a] ∧ Q (.str a) H
theorem c_str {X : Cx} : CallR X (.type "str") (fun xs H Q => rStrI xs H Q ∨ rStrS xs H Q) := CallR.or call_str_int SkE.call_str_str
theorem g_str {K : PySem.W.Frag} : CallW K (fun xs H Q => rStrI xs H Q ∨ rStrS xs H Q) gStr := by
  intro xs m z e F H vs Q t p q
  unfold gStr at e
  split at e
  · split at e
    · rename_i hl
      cases e
      obtain ⟨v, rfl, h⟩ := p.one
      cases h.int
      exact .inl ⟨_, rfl, hl, old_val t (K := K) (z := .str _) rfl q⟩
    · cases e
  · cases e
    obtain ⟨v, rfl, h⟩ := p.one
    cases h.str
    exact .inr ⟨_, rfl, old_val t (K := K) (z := .str _) rfl q⟩
  · cases e
def gLen : GC
  | [.str a] => if a.length ≤ sizeLine then some (.val, .int a.length) else none
  | [w] => (itemsW w).map fun l => (.val, .int l.length)
  | _ => none
theorem g_len {K : PySem.W.Frag} : CallW K (fun xs H Q => ∃ x n, xs = [x] ∧ LenV K x H n ∧ Q (.int n) H) gLen := by
  intro xs m z e F H vs Q t p q
  unfold gLen at e
  split at e
  · split at e
    · rename_i hl
      cases e
      obtain ⟨v, rfl, h⟩ := p.one
      cases h.str
      exact ⟨_, _, rfl, ⟨hl, rfl⟩, old_val t (K := K) (z := .int _) rfl q⟩
    · cases e
  · obtain ⟨l, el, e2⟩ := Option.map_eq_some_iff.mp e
    cases e2
    obtain ⟨v, rfl, h⟩ := p.one
    obtain ⟨a, us, rfl, hs, r⟩ := h.seq el
    refine ⟨_, l.length, rfl, ?_, old_val t (K := K) (z := .int _) rfl q⟩
    rcases hs with hs | hs
    · exact .inl ⟨us, hs, r.len⟩
    · exact .inr ⟨us, hs, r.len⟩
  · cases e
def gMin : GC
  | [.int i, .int j] => some (.val, .int (if j < i then j else i))
  | _ => none
theorem g_min {K : PySem.W.Frag} : CallW K (fun xs H Q => ∃ i j, xs = [.int i, .int j] ∧ Q (.int (if j < i then j else i)) H) gMin := by
  intro xs m z e F H vs Q t p q
  unfold gMin at e
  split at e
  · cases e
    obtain ⟨v, x, rfl, h, h'⟩ := p.two
    cases h.int
    cases h'.int
    exact ⟨_, _, rfl, old_val t (K := K) (z := .int _) rfl q⟩
  · cases e
def gMax : GC
  | [.int i, .int j] => some (.val, .int (if j > i then j else i))
  | _ => none
theorem g_max {K : PySem.W.Frag} : CallW K (fun xs H Q => ∃ i j, xs = [.int i, .int j] ∧ Q (.int (if j > i then j else i)) H) gMax := by
  intro xs m z e F H vs Q t p q
  unfold gMax at e
  split at e
  · cases e
    obtain ⟨v, x, rfl, h, h'⟩ := p.two
    cases h.int
    cases h'.int
    exact ⟨_, _, rfl, old_val t (K := K) (z := .int _) rfl q⟩
  · cases e
def gTupC : GC
  | [.tup l] => some (.val, .tup l)
  | [.lst l] => some (.val, .tup l)
  | [.frl l] => some (.val, .tup l)
  | _ => none
theorem g_tupC {K : PySem.W.Frag} : CallW K (fun xs H Q => ∃ p ys, xs = [.ref p] ∧ ((SqL K H p ys ∧ ∀ l, H l = none → Q (.ref l) (upd H l (.tup ys))) ∨ (SqT K H p ys ∧ Q (.ref p) H))) gTupC := by
  intro xs m z e F H vs Q t p q
  unfold gTupC at e
  split at e
  · cases e
    obtain ⟨v, rfl, h⟩ := p.one
    obtain ⟨a, us, rfl, hs, r⟩ := h.tup
    exact ⟨a, us, rfl, .inr ⟨hs.seq, old_val t (show Rep K F H (.tup _) (.ref a) from ⟨a, us, rfl, hs, r⟩) q⟩⟩
  · cases e
    obtain ⟨v, rfl, h⟩ := p.one
    obtain ⟨a, us, rfl, hs, r⟩ := h.lst
    exact ⟨a, us, rfl, .inl ⟨.of hs, fun l hl => new_tup t r q hl⟩⟩
  · cases e
    obtain ⟨v, rfl, h⟩ := p.one
    obtain ⟨a, us, rfl, hs, r⟩ := h.frl
    exact ⟨a, us, rfl, .inl ⟨hs.seq, fun l hl => new_tup t r q hl⟩⟩
  · cases e
def gLstC : GC
  | [w] => (itemsW w).map fun l => (.fre, .lst l)
  | _ => none
theorem g_lstC {K : PySem.W.Frag} : CallW K (fun xs H Q => ∃ p ys, xs = [.ref p] ∧ (SqL K H p ys ∨ SqT K H p ys) ∧ ∀ l, H l = none → Q (.ref l) (upd H l (.lst ys))) gLstC := by
  intro xs m z e F H vs Q t p q
  unfold gLstC at e
  split at e
  · obtain ⟨l, el, e2⟩ := Option.map_eq_some_iff.mp e
    cases e2
    obtain ⟨v, rfl, h⟩ := p.one
    obtain ⟨a, us, rfl, hs, r⟩ := h.seq el
    exact ⟨a, us, rfl, hs, fun l hl => new_lst t r q hl⟩
  · cases e
/-! isinstance -/
def tyN : W → Option String
  | .non => some "NoneType"
  | .bl _ => some "bool"
  | .int _ => some "int"
  | .str _ => some "str"
  | .tup _ => some "tuple"
  | .lst _ => some "list"
  | .frl _ => some "list"
  | .dK _ _ => some "dict"
  | _ => none
def isB : String → String → Option Bool
  | "NoneType", "bool" => some false | "NoneType", "int" => some false | "NoneType", "str" => some false | "NoneType", "tuple" => some false | "NoneType", "list" => some false
  | "bool", "bool" => some true | "bool", "int" => some true | "bool", "str" => some false | "bool", "tuple" => some false | "bool", "list" => some false
  | "int", "bool" => some false | "int", "int" => some true | "int", "str" => some false | "int", "tuple" => some false | "int", "list" => some false
  | "str", "bool" => some false | "str", "int" => some false | "str", "str" => some true | "str", "tuple" => some false | "str", "list" => some false
  | "tuple", "bool" => some false | "tuple", "int" => some false | "tuple", "str" => some false | "tuple", "tuple" => some true | "tuple", "list" => some false
  | "list", "bool" => some false | "list", "int" => some false | "list", "str" => some false | "list", "tuple" => some false | "list", "list" => some true
  | _, _ => none
theorem isB_ok {a b : String} {r : Bool} (h : isB a b = some r) : kitB a b = some r := by
  unfold isB at h
  split at h <;> first | (cases h; decide +kernel) | cases h
theorem tyN_ok {K : PySem.W.Frag} {F : Fz} {H : Hp} {w : W} {v : V} {n : String} (h : PkR K F H w v) (e : tyN w = some n) : TyX K H v (.type n) := by
  cases w with
  | non => cases e; cases h.non; exact .base .non
  | bl b => cases e; cases h.bl; exact .base (.bl b)
  | int b => cases e; cases h.int; exact .base (.int b)
  | str b => cases e; cases h.str; exact .base (.str b)
  | tup l =>
    cases e
    obtain ⟨a, us, rfl, hs, r⟩ := h.tup
    rcases hs with hs | ⟨o, its, k, ho, hc, _⟩
    · exact .base (.tup hs)
    · exact .kTuple ho hc
  | lst l => cases e; obtain ⟨a, us, rfl, hs, r⟩ := h.lst; exact .base (.lst hs)
  | frl l =>
    cases e
    obtain ⟨a, us, rfl, hs, r⟩ := h.frl
    rcases hs with ⟨o, hs⟩ | ⟨o, its, k, ho, hc, _⟩
    · exact .base (.frz hs)
    · exact .kList ho hc
  | dK ks l => cases e; obtain ⟨a, us, rfl, hs, _⟩ := h.dK; exact .base (.dK hs)
  | _ => cases e
def isAny (n : String) : List W → Option Bool
  | [] => some false
  | .ty c :: r => match isB n c, isAny n r with
    | some a, some b => some (a || b)
    | _, _ => none
  | _ => none
def gIsi : GC
  | [x, .ty c] => (tyN x).bind fun n => (isB n c).map fun b => (.val, .bl b)
  | [x, .tup cs] => (tyN x).bind fun n => (isAny n cs).map fun b => (.val, .bl b)
  | _ => none
theorem isAny_ok {K : PySem.W.Frag} {F : Fz} {H : Hp} {n : String} : ∀ {cs : List W} {vs : List V} {b : Bool}, RepL K F H cs vs → isAny n cs = some b → ∃ us, Paired ClsV vs us ∧ PySem.W.kitAny K (.type n) us = some b
  | [], _, _, r, e => by
    cases r
    cases e
    exact ⟨[], .nil, rfl⟩
  | .ty c :: cs, _, b, r, e => by
    obtain ⟨v, vs, rfl, r1, r2⟩ := r
    cases r1
    have e1 : (match isB n c, isAny n cs with
      | some a, some b => some (a || b)
      | _, _ => none) = some b := e
    cases q : isB n c with
    | none => rw [q] at e1; cases e1
    | some t =>
      cases q2 : isAny n cs with
      | none => rw [q, q2] at e1; cases e1
      | some t2 =>
        rw [q, q2] at e1
        cases e1
        obtain ⟨us, hu, hk2⟩ := isAny_ok r2 q2
        exact ⟨.type c :: us, .cons (.ty c) hu, kitAny_cons (kit_ty (isB_ok q)) (fun z => by rw [z]; exact hk2) fun z => by rw [z]; rfl⟩
  | .non :: _, _, _, _, e => by cases e
  | .bl _ :: _, _, _, _, e => by cases e
  | .int _ :: _, _, _, _, e => by cases e
  | .str _ :: _, _, _, _, e => by cases e
  | .fn _ :: _, _, _, _, e => by cases e
  | .tup _ :: _, _, _, _, e => by cases e
  | .lst _ :: _, _, _, _, e => by cases e
  | .frl _ :: _, _, _, _, e => by cases e
  | .dK _ _ :: _, _, _, _, e => by cases e
theorem g_isi {K : PySem.W.Frag} : CallW K (fun xs H Q => rIsi K xs H Q ∨ rIsiT K xs H Q ∨ rIsiK K xs H Q) gIsi := by
  intro xs m z e F H vs Q t p q
  unfold gIsi at e
  split at e
  · obtain ⟨n, en, e1⟩ := Option.bind_eq_some_iff.mp e
    obtain ⟨b, eb, e2⟩ := Option.map_eq_some_iff.mp e1
    cases e2
    obtain ⟨v, x, rfl, h, h'⟩ := p.two
    cases h'.rep (fun _ => W.noConfusion) fun _ _ => W.noConfusion
    exact .inl ⟨v, _, _, _, b, rfl, .ty _, tyN_ok h en, kit_ty (isB_ok eb), old_val t (K := K) (z := .bl _) rfl q⟩
  · obtain ⟨n, en, e1⟩ := Option.bind_eq_some_iff.mp e
    obtain ⟨b, eb, e2⟩ := Option.map_eq_some_iff.mp e1
    cases e2
    obtain ⟨v, x, rfl, h, h'⟩ := p.two
    obtain ⟨a, us, rfl, hs, r⟩ := h'.tup
    obtain ⟨ws, hp, hk⟩ := isAny_ok r eb
    have fin : Q (.bl b) H := old_val t (K := K) (z := .bl _) rfl q
    rcases hs with hs | ⟨o, its, k, ho, hc, hd, _, hv⟩
    · exact .inr (.inl ⟨v, a, us, _, ws, b, rfl, hs, hp, tyN_ok h en, hk, fin⟩)
    · obtain ⟨oc, od, dt, osl⟩ := o
      cases hc
      cases hd
      have e3 := ClsV.all hp hv
      refine .inr (.inr ⟨v, a, od, ws, k, osl, _, b, rfl, ?_, tyN_ok h en, hk, fin⟩)
      rw [ho, ← e3]
  · cases e
theorem c_isi {X : Cx} : CallR X (.builtin "isinstance") (fun xs H Q => rIsi X.K xs H Q ∨ rIsiT X.K xs H Q ∨ rIsiK X.K xs H Q) := CallR.or call_isi (CallR.or call_isiT call_isiK)
section
variable {X : Cx} {Y : Yx I} {x : Str} {p pos : Pos} {e : Expr} {es : List Expr} {fs : List (Rho → R (Md × W))} {r : List V → Hp → VK → Prop} {g : GC} {id T : String}
theorem pem_callB (hc : CallR X (.builtin id) r) (hg : Gl X x) (hm : X.mg x = none) (hv : bootBuiltins x = some (.builtin id)) (hw : CallW X.K r g) (ha : PAM X Y (e :: es) fs) (hn : x ≠ "__name__" := by decide) (hdb : (x == ("__debug__" : Str)) = false := by decide)
    (he : starEach (e :: es) X.env = (false, eval e X.env) :: starEach es X.env := by rfl) (hpl : (backTo pos (starEach es X.env)).any (·.1) = false := by rfl) : PEM X Y (.Call (.Name x p) (e :: es) [] pos) (mCB g fs) :=
  pe_weak (pe_callB hc hg hm hv ha hn hdb he hpl) fun _ _ _ hq => tCB_of hw hq
theorem pem_callTy (hc : CallR X (.type T) r) (hg : Gl X x) (hm : X.mg x = none) (hv : bootBuiltins x = some (.type T)) (hw : CallW X.K r g) (ha : PAM X Y (e :: es) fs) (hn : x ≠ "__name__" := by decide) (hdb : (x == ("__debug__" : Str)) = false := by decide)
    (he : starEach (e :: es) X.env = (false, eval e X.env) :: starEach es X.env := by rfl) (hpl : (backTo pos (starEach es X.env)).any (·.1) = false := by rfl) : PEM X Y (.Call (.Name x p) (e :: es) [] pos) (mCB g fs) :=
  pe_weak (pe_callTy hc hg hm hv ha hn hdb he hpl) fun _ _ _ hq => tCB_of hw hq
theorem pem_ty (hg : Gl X x) (hm : X.mg x = none) (hv : bootBuiltins x = some (.type T)) (hn : x ≠ "__name__" := by decide) (hdb : (x == ("__debug__" : Str)) = false := by decide) : PEM X Y (.Name x pos) (mC (.ty T)) := pem_c (pe_bltn (v := .ty T) hg hm hv rfl hn hdb) fun _ _ => rfl
theorem pem_glob {v : V} {u : Value} {w : W} (hg : Gl X x) (hm : X.mg x = some u) (r : RelV v u) (h : ∀ F H, Rep X.K F H w v) (hdb : (x == ("__debug__" : Str)) = false := by decide) : PEM X Y (.Name x pos) (mC w) := pem_c (pe_glob hg hm r hdb) h
end
/-! ### subscripts -/
theorem atI_rep {K : PySem.W.Frag} {F : Fz} {H : Hp} {l : List W} {vs : List V} {i : Int} {w : W} (r : RepL K F H l vs) (e : atI l i = some w) : ∃ v, atI vs i = some v ∧ Rep K F H w v := by
  unfold atI at e ⊢
  rw [← r.len]
  obtain ⟨j, ej, e2⟩ := Option.bind_eq_some_iff.mp e
  obtain ⟨v, ev, rv⟩ := r.get e2
  exact ⟨v, by rw [ej]; exact ev, rv⟩
def gIx : GW := fun x y => match x, y with
  | .str z, .int i => if z.length ≤ sizeLine then (atI z.cps.toList i).map fun c => (.val, .str ⟨#[c]⟩) else none
  | x, .int i => (itemsW x).bind fun l => (atI l i).map fun w => (.val, w)
  | _, _ => none
theorem g_ix {K : PySem.W.Frag} : OpW K (rIx K) gIx := by
  intro x y m z e F H vx vy Q t px py q
  unfold gIx at e
  split at e
  · split at e
    · rename_i hl
      obtain ⟨c, ec, e2⟩ := Option.map_eq_some_iff.mp e
      cases e2
      cases px.str
      cases py.int
      exact .inr (.inr ⟨_, _, c, rfl, rfl, hl, ec, old_val t (K := K) (z := .str _) rfl q⟩)
    · cases e
  · obtain ⟨l, el, e1⟩ := Option.bind_eq_some_iff.mp e
    obtain ⟨w, ew, e2⟩ := Option.map_eq_some_iff.mp e1
    cases e2
    cases py.int
    obtain ⟨a, vs, rfl, hs, r⟩ := px.seq el
    obtain ⟨v, ev, rv⟩ := atI_rep r ew
    rcases hs with hs | hs
    · exact .inl ⟨a, vs, _, v, rfl, rfl, hs, ev, old_val t rv q⟩
    · exact .inr (.inl ⟨a, vs, _, v, rfl, rfl, hs, ev, old_val t rv q⟩)
  · cases e
theorem pem_ix {X : Cx} {Y : Yx I} {a b : Expr} {pos : Pos} {fa fb : Rho → R (Md × W)} (ha : PEM X Y a fa) (hb : PEM X Y b fb) (hs : PlainIx b := by exact fun _ _ => rfl) : PEM X Y (.Subscript a b pos) (mOp gIx fa fb) := pe_weak (pe_ix ix_seq ha hb hs) fun _ _ _ hq => tOp_of g_ix hq
end ML

set_option maxHeartbeats 4000000
namespace ML
open PySem PySem.Spec PyProof.Rows L2
variable {I : List Nat}
/-! ### slices -/
def cutW (xs : List W) (lo hi : Option Int) : List W := (xs.drop (HT.sIx xs.length 0 lo)).take (HT.sIx xs.length xs.length hi - HT.sIx xs.length 0 lo)
theorem RepL.cut {K : PySem.W.Frag} {F : Fz} {H : Hp} {l : List W} {vs : List V} (r : RepL K F H l vs) (lo hi : Option Int) : RepL K F H (cutW l lo hi) (cutV vs lo hi) := by
  unfold cutW cutV
  rw [r.len]
  exact (r.drop _).take _
def gSl (x : W) (lo hi : Option Int) : Option (Md × W) := match x with
  | .str z => if z.length ≤ sizeLine then some (.val, .str (cutS z lo hi)) else none
  | .tup l => some (.val, .tup (cutW l lo hi))
  | .lst l => some (.fre, .lst (cutW l lo hi))
  | .frl l => some (.fre, .lst (cutW l lo hi))
  | _ => none
def mPart : Option (Rho → R (Md × W)) → Rho → R (Option Int)
  | none, ρ => .ok none ρ
  | some f, ρ => (f ρ).bind fun b ρ1 => match b.1, b.2 with
    | .val, .int i => .ok (some i) ρ1
    | _, _ => .stk
def mSl (fa : Rho → R (Md × W)) (lo hi : Option (Rho → R (Md × W))) : Rho → R (Md × W) := fun ρ => (fa ρ).bind fun x ρ1 => (mPart lo ρ1).bind fun l ρ2 => (mPart hi ρ2).bind fun h ρ3 => match peek x.1 x.2 ρ3 with
  | some u => lift (gSl u l h) ρ3
  | none => .stk
def tMO (K : PySem.W.Frag) (Y : Yx I) (f : Option (Rho → R (Md × W))) : TO := fun σ H Q => ∃ F ρ, SR K Y.B F H σ ρ ∧ RunG K Y F H σ (mPart f ρ) fun o ρ' F' H' => Q o H'
def POM (X : Cx) (Y : Yx I) (e : Option Expr) (f : Option (Rho → R (Md × W))) : Prop := PO X e (tMO X.K Y f)
theorem po_weak {X : Cx} {e : Option Expr} {t t' : TO} (h : PO X e t) (q : ∀ σ H Q, t' σ H Q → t σ H Q) : PO X e t' := ⟨fun pins s σ H Q J hq => h.run pins s σ H Q J (q _ _ _ hq)⟩
theorem pom_none {X : Cx} {Y : Yx I} : POM X Y none none := po_weak po_none fun σ H Q hq => by
  obtain ⟨F, ρ, S, q⟩ := hq
  exact q F H S .refl
theorem pom_some {X : Cx} {Y : Yx I} {e : Expr} {f : Rho → R (Md × W)} (h : PEM X Y e f) : POM X Y (some e) (some f) := po_weak (po_some h) fun σ H Q hq => by
  obtain ⟨F, ρ, S, q⟩ := hq
  refine ⟨F, ρ, S, (RunG.bind q).imp fun b ρ1 F1 H1 S1 k1 q1 v hv => ?_⟩
  obtain ⟨m, w⟩ := b
  dsimp only at q1
  split at q1
  · exact ⟨_, hv, q1 F1 H1 S1 .refl⟩
  · exact q1.elim
def rSlM (K : PySem.W.Frag) : V → Option Int → Option Int → Hp → VK → Prop := fun x lo hi H Q => rSlL K x lo hi H Q ∨ rSlA K x lo hi H Q ∨ rSlS x lo hi H Q
theorem sl_m {X : Cx} : L2.SlR X (rSlM X.K) := L2.SlR.or sl_list (L2.SlR.or sl_tupA sl_str)
theorem cut_all {xs : List W} {lo hi : Option Int} (h : HT.sIx xs.length 0 lo = 0 ∧ HT.sIx xs.length xs.length hi = xs.length) : cutW xs lo hi = xs := by
  unfold cutW
  rw [h.1, h.2, Nat.sub_zero, List.drop_zero, List.take_length]
theorem g_sl {K : PySem.W.Frag} {x z : W} {lo hi : Option Int} {m : Md} (e : gSl x lo hi = some (m, z)) {F : Fz} {H : Hp} {vx : V} {Q : VK} (t : Tight F H) (px : PkR K F H x vx)
    (q : ∀ F' H' v, Ext [] F H F' H' → NewR K H F' H' m z v → Q v H') : rSlM K vx lo hi H Q := by
  unfold gSl at e
  split at e
  · split at e
    · rename_i hl
      cases e
      cases px.str
      exact .inr (.inr ⟨_, rfl, hl, old_val t (K := K) (z := .str _) rfl q⟩)
    · cases e
  · cases e
    obtain ⟨a, vs, rfl, hs, r⟩ := px.tup
    refine .inr (.inl ⟨a, vs, rfl, hs.seq, fun hw => ?_, fun _ p hp => new_tup t (r.cut lo hi) q hp⟩)
    rw [← r.len] at hw
    rw [cut_all hw] at q
    exact old_val t (show Rep K F H (.tup _) (.ref a) from ⟨a, vs, rfl, hs, r⟩) q
  · cases e
    obtain ⟨a, vs, rfl, hs, r⟩ := px.lst
    exact .inl ⟨a, vs, rfl, .of hs, fun p hp => new_lst t (r.cut lo hi) q hp⟩
  · cases e
    obtain ⟨a, vs, rfl, hs, r⟩ := px.frl
    exact .inl ⟨a, vs, rfl, hs.seq, fun p hp => new_lst t (r.cut lo hi) q hp⟩
  · cases e
theorem pem_slice {X : Cx} {Y : Yx I} {e : Expr} {lo hi : Option Expr} {pos p2 : Pos} {f : Rho → R (Md × W)} {fl fh : Option (Rho → R (Md × W))} (he : PEM X Y e f) (hl : POM X Y lo fl) (hh : POM X Y hi fh) : PEM X Y (.Subscript e (.Slice lo hi none p2) pos) (mSl f fl fh) :=
  pe_weak (pe_slice sl_m he hl hh) fun σ H Q hq => by
    obtain ⟨F, ρ, S, q⟩ := hq
    refine ⟨F, ρ, S, (RunG.bind q).imp fun x ρ1 F1 H1 S1 k1 q1 v1 hv1 => ?_⟩
    obtain ⟨F1', S1', k1', hd1⟩ := S1.hold hv1
    refine ⟨F1', ρ1, S1', (RunG.bind (q1.rebase k1')).imp fun l ρ2 F2 H2 S2 k2 q2 => ?_⟩
    refine ⟨F2, ρ2, S2, (RunG.bind q2).imp fun h ρ3 F3 H3 S3 k3 q3 => ?_⟩
    cases e1 : peek x.1 x.2 ρ3 with
    | none => rw [e1] at q3; exact q3.elim
    | some u =>
      rw [e1] at q3
      obtain ⟨⟨m, z⟩, ez, qz⟩ := lift_ok q3
      exact g_sl ez S3.f2 (S3.peek hd1 (k2.trans k3) e1) fun F' H' v ee hn => qz F' H' (S3.grow ee) ee.keeps v (S3.newR ee hn)
/-! ### methods of an own list -/
/-- x.append(e) -/
def mAppend (i : Nat) (I : List Nat) (fe : Rho → R (Md × W)) : Rho → R (Md × W) := fun ρ => match ownAt ρ i with
  | some (.lst _) => (fe ρ).bind fun b ρ1 => (toVal I b ρ1).bind fun w ρ2 => match ownAt ρ2 i with
    | some (.lst l) => if l.length < sizeLine then .ok (.val, .non) (ρ2.set i (.own (.lst (l ++ [w])))) else .stk
    | _ => .stk
  | _ => .stk
theorem own_list {K : PySem.W.Frag} {B : Bd} {F : Fz} {H : Hp} {σ : L2.St} {ρ : Rho} (S : SR K B F H σ ρ) {i : Nat} {w : W} (h : ownAt ρ i = some w) : ∃ a, σ[i]? = some (some (.ref a)) ∧ OwnR K F H w a := by
  obtain ⟨a, e, o, _⟩ := S.slot i _ (ownAt_get h)
  exact ⟨a, e, o⟩
section
variable {X : Cx} {Y : Yx I} {e o : Expr} {pos apos : Pos} {fe : Rho → R (Md × W)} {i : Nat}
theorem pem_append (ho : PE X o (tVar i)) (he : PEM X Y e fe) (hbase : attributeBase o "append" X.env (eval o X.env) = eval o X.env := by rfl)
    (hfew : ((backTo pos (starEach (e :: []) X.env)).all (fun x => !x.1) && (backToKw pos (keywordEach [] X.env)).all (fun x => x.1.isSome) && decide ((e :: []).length + ([] : List Keyword).length + (if ([] : List Keyword).isEmpty then 0 else 1) < 30)) = true := by rfl)
    (hline : (apos.endLine == pos.line) = true := by rfl) (hs : starEach (e :: []) X.env = (false, eval e X.env) :: starEach [] X.env := by rfl) (hplain : (backTo pos (starEach [] X.env)).any (·.1) = false := by rfl) :
    PEM X Y (.Call (.Attribute o "append" apos) [e] [] pos) (mAppend i I fe) :=
  pe_weak (pe_bm PySem.F.plainAttrs_list PySem.F.slot_list_append PySem.F.type_list_append mt_append ho (pa_cons (te := tM X.K Y fe) he pa_nil hs) hbase hfew hline hs hplain) fun σ H Q hq => by
    obtain ⟨F, ρ, S, q⟩ := hq
    unfold mAppend at q
    cases e0 : ownAt ρ i with
    | none => rw [e0] at q; exact q.elim
    | some w0 =>
      rw [e0] at q
      obtain ⟨a, ea, ow⟩ := own_list S e0
      have ty : ∀ {ρ2 F2 H2 w}, SR X.K Y.B F2 H2 σ ρ2 → ownAt ρ2 i = some (.lst w) → ∃ vs, H2 a = some (.lst vs) ∧ RepL X.K F2 H2 w vs := fun {ρ2 F2 H2 w} S2 e2 => by
        obtain ⟨b, eb, ob⟩ := own_list S2 e2
        rw [ea] at eb
        cases eb
        exact ob
      refine ⟨.ref a, ea, ?_, ?_⟩
      · cases w0 with
        | lst l => obtain ⟨vs, h1, _⟩ := ow; exact .inl ⟨rfl, vs, .of h1⟩
        | dK ks l => exact q.elim
        | _ => exact ow.elim
      · have q : RunG X.K Y F H σ ((fe ρ).bind fun b ρ1 => (toVal I b ρ1).bind fun w ρ2 => match ownAt ρ2 i with
          | some (.lst l) => if l.length < sizeLine then .ok (.val, .non) (ρ2.set i (.own (.lst (l ++ [w])))) else .stk
          | _ => .stk) fun b ρ' F' H' => ∀ v, VR X.K Y.B F' H' σ ρ' b.1 b.2 v → Q v H' := by
          cases w0 with
          | lst l => exact q
          | dK ks l => exact q.elim
          | _ => exact ow.elim
        refine ⟨F, ρ, S, (RunG.bind q).imp fun b ρ1 F1 H1 S1 k1 q1 v hv => ?_⟩
        obtain ⟨F2, w, ρ2, S2, k2, r, q2⟩ := S1.toVal hv (RunG.bind q1)
        cases e2 : ownAt ρ2 i with
        | none => rw [e2] at q2; exact q2.elim
        | some u =>
          rw [e2] at q2
          cases u with
          | lst l =>
            dsimp only at q2
            split at q2
            · rename_i hl
              obtain ⟨vs, h1, r1⟩ := ty S2 e2
              refine ⟨a, vs, v, rfl, rfl, h1, by rw [← r1.len]; exact hl, ?_⟩
              have ka : Keeps F2 H1 F2 (upd H1 a (.lst (vs ++ [v]))) := by
                obtain ⟨b, eb, ob, nf, nk⟩ := S2.slot i _ (ownAt_get e2)
                rw [ea] at eb
                cases eb
                exact ⟨fun _ h => h, fun x o ho c => by
                  have nx : x ≠ a := fun z => by
                    subst z
                    rcases c with c | c
                    · exact nf c
                    · rw [h1] at ho; cases ho; exact c trivial
                  rw [upd_ne nx]
                  exact ho⟩
              obtain ⟨S3, k3⟩ := S2.put (w' := .lst (l ++ [w])) (o := .lst (vs ++ [v])) (ownAt_get e2) ea trivial ⟨vs ++ [v], upd_same, (RepL.mono ka _ r1).append (.cons (r.mono ka) .nil)⟩
              exact q2 F2 _ S3 k3 .non rfl
            · exact q2.elim
          | _ => exact q2.elim
end
end ML

set_option maxHeartbeats 4000000
namespace ML
open PySem PySem.Spec PyProof.Rows L2
variable {I : List Nat}
section
variable {K : PySem.W.Frag} {B : Bd} {F : Fz} {H : Hp} {σ : L2.St} {ρ : Rho}
/-- an own list's items are changed -/
theorem SR.putL (S : SR K B F H σ ρ) {i : Nat} {w : W} {a : Addr} {l' : List W} {vs' : List V} (h : ownAt ρ i = some w) (e : σ[i]? = some (some (.ref a))) (r : RepL K F H l' vs') :
    SR K B F (upd H a (.lst vs')) σ (ρ.set i (.own (.lst l'))) ∧ Keeps F H F (upd H a (.lst vs')) := by
  obtain ⟨b, eb, ob, nf, nk⟩ := S.slot i _ (ownAt_get h)
  rw [e] at eb
  cases eb
  obtain ⟨u, hu, mu⟩ := ob.some
  have ka : Keeps F H F (upd H a (.lst vs')) := ⟨fun _ h => h, fun x o ho c => by
    have nx : x ≠ a := fun z => by
      subst z
      rcases c with c | c
      · exact nf c
      · rw [hu] at ho; cases ho; exact c mu
    rw [upd_ne nx]
    exact ho⟩
  exact S.put (w' := .lst l') (o := .lst vs') (ownAt_get h) e trivial ⟨vs', upd_same, r.mono ka⟩
theorem own_lst (S : SR K B F H σ ρ) {i : Nat} {l : List W} (h : ownAt ρ i = some (.lst l)) : ∃ a vs, σ[i]? = some (some (.ref a)) ∧ H a = some (.lst vs) ∧ RepL K F H l vs := by
  obtain ⟨a, e, vs, h1, h2⟩ := own_list S h
  exact ⟨a, vs, e, h1, h2⟩
end
/-! ### x.pop(), x.pop(k) -/
def mPop (i : Nat) : Rho → R (Md × W) := fun ρ => match ownAt ρ i with
  | some (.lst l) => (match l[l.length - 1]? with
    | some w => .ok (.val, w) (ρ.set i (.own (.lst l.dropLast)))
    | none => .stk)
  | _ => .stk
theorem RepL.dropLast {K : PySem.W.Frag} {F : Fz} {H : Hp} {l : List W} {vs : List V} (r : RepL K F H l vs) : RepL K F H l.dropLast vs.dropLast := by
  rw [List.dropLast_eq_take, List.dropLast_eq_take, r.len]
  exact r.take _
theorem RepL.erase {K : PySem.W.Frag} {F : Fz} {H : Hp} : ∀ {l : List W} {vs : List V} (k : Nat), RepL K F H l vs → RepL K F H (l.eraseIdx k) (vs.eraseIdx k)
  | [], _, _, h => by cases h; rfl
  | w :: l, _, 0, ⟨v, r, e, _, h2⟩ => by rw [e]; exact h2
  | w :: l, _, k + 1, ⟨v, r, e, h1, h2⟩ => by rw [e]; exact ⟨v, _, rfl, h1, RepL.erase k h2⟩
section
variable {X : Cx} {Y : Yx I} {e o : Expr} {pos apos : Pos} {fe : Rho → R (Md × W)} {i : Nat}
theorem pem_pop (ho : PE X o (tVar i)) (hbase : attributeBase o "pop" X.env (eval o X.env) = eval o X.env := by rfl) (hline : (apos.endLine == pos.line) = true := by rfl) :
    PEM X Y (.Call (.Attribute o "pop" apos) [] [] pos) (mPop i) :=
  pe_weak (pe_bm0 PySem.F.plainAttrs_list PySem.F.slot_list_pop PySem.F.type_list_pop mt_pop ho hbase hline) fun σ H Q hq => by
    obtain ⟨F, ρ, S, q⟩ := hq
    unfold mPop at q
    split at q
    · rename_i l e0
      obtain ⟨a, vs, ea, h1, r⟩ := own_lst S e0
      split at q
      · rename_i w ew
        obtain ⟨v, ev, rv⟩ := r.get ew
        rw [r.len] at ev
        obtain ⟨S2, k2⟩ := S.putL e0 ea r.dropLast
        exact ⟨.ref a, ea, .inl ⟨rfl, vs, .of h1⟩, a, vs, v, rfl, rfl, h1, ev, q F _ S2 k2 v (rv.mono k2)⟩
      · exact q.elim
    · exact q.elim
/-- x.pop(k), k a written place -/
def mPopAt (i : Nat) (k : Int) : Rho → R (Md × W) := fun ρ => match ownAt ρ i with
  | some (.lst l) => (match seqIndex? k l.length with
    | some j => (match l[j]? with
      | some w => if -(2 ^ 63) ≤ k ∧ k < 2 ^ 63 then .ok (.val, w) (ρ.set i (.own (.lst (l.eraseIdx j)))) else .stk
      | none => .stk)
    | none => .stk)
  | _ => .stk
theorem pem_popAt {k : Int} {jj : Nat} {kp : Pos} (ho : PE X o (tVar i)) (hbase : attributeBase o "pop" X.env (eval o X.env) = eval o X.env := by rfl)
    (hfew : ((backTo pos (starEach ((.Constant (.int k) jj kp) :: []) X.env)).all (fun x => !x.1) && (backToKw pos (keywordEach [] X.env)).all (fun x => x.1.isSome) && decide (((.Constant (.int k) jj kp : Expr) :: []).length + ([] : List Keyword).length + (if ([] : List Keyword).isEmpty then 0 else 1) < 30)) = true := by rfl)
    (hline : (apos.endLine == pos.line) = true := by rfl) (hs : starEach ((.Constant (.int k) jj kp) :: []) X.env = (false, eval (.Constant (.int k) jj kp) X.env) :: starEach [] X.env := by rfl) (hplain : (backTo pos (starEach [] X.env)).any (·.1) = false := by rfl) :
    PEM X Y (.Call (.Attribute o "pop" apos) [.Constant (.int k) jj kp] [] pos) (mPopAt i k) :=
  pe_weak (pe_bm PySem.F.plainAttrs_list PySem.F.slot_list_pop PySem.F.type_list_pop mt_popAt ho (pa_cons pe_int pa_nil hs) hbase hfew hline hs hplain) fun σ H Q hq => by
    obtain ⟨F, ρ, S, q⟩ := hq
    unfold mPopAt at q
    split at q
    · rename_i l e0
      obtain ⟨a, vs, ea, h1, r⟩ := own_lst S e0
      split at q
      · rename_i j ej
        split at q
        · rename_i w ew
          split at q
          · rename_i hk
            obtain ⟨v, ev, rv⟩ := r.get ew
            rw [r.len] at ej
            obtain ⟨S2, k2⟩ := S.putL e0 ea (r.erase j)
            exact ⟨.ref a, ea, .inl ⟨rfl, vs, .of h1⟩, a, vs, k, j, v, rfl, rfl, h1, hk.1, hk.2, ej, ev, q F _ S2 k2 v (rv.mono k2)⟩
          · exact q.elim
        · exact q.elim
      · exact q.elim
    · exact q.elim
/-- x[k] = e, x an own list -/
def mStoreAt (i : Nat) (I : List Nat) (fk fe : Rho → R (Md × W)) : Rho → R Fl := fun ρ => (fe ρ).bind fun b ρ1 => (toVal I b ρ1).bind fun w ρ2 => match ownAt ρ2 i with
  | some (.lst _) => (fk ρ2).bind fun kb ρ3 => (match kb.1, kb.2, ownAt ρ3 i with
    | .val, .int k, some (.lst l) => (match ixN l.length k with
      | some j => .ok .nx (ρ3.set i (.own (.lst (l.set j w))))
      | none => .stk)
    | _, _, _ => .stk)
  | _ => .stk
theorem psm_storeAt {st : Stmt} {fk : Rho → R (Md × W)} (h : PS X st (tAsg (tM X.K Y fe) (L2.gSub (tVar i) (tM X.K Y fk) rSetL))) : PSM X Y st (mStoreAt i I fk fe) := ps_weak h fun D σ H hq => by
  obtain ⟨F, ρ, S, q⟩ := hq
  refine ⟨F, ρ, S, (RunS.bindE q).imp fun b ρ1 F1 H1 S1 k1 q1 v hv => ?_⟩
  obtain ⟨F2, w, ρ2, S2, k2, r, q2⟩ := S1.toVal hv (RunS.bindE (σ := σ) q1)
  split at q2
  · rename_i l0 e0
    obtain ⟨a, vs0, ea, h1, r1⟩ := own_lst S2 e0
    refine ⟨.ref a, ea, F2, ρ2, S2, (RunS.bindE (σ := σ) q2).imp fun kb ρ3 F3 H3 S3 k3 q3 kv hkv => ?_⟩
    obtain ⟨km, kw⟩ := kb
    dsimp only at q3
    split at q3
    · rename_i k l ek
      split at q3
      · rename_i j ej
        obtain ⟨b, vs, eb, h2, r2⟩ := own_lst S3 ek
        rw [ea] at eb
        cases eb
        cases (show kv = .int k from hkv)
        obtain ⟨S4, k4⟩ := S3.putL ek ea (r2.set j (r.mono k3))
        exact ⟨a, vs, k, j, rfl, rfl, h2, by rw [← r2.len]; exact ej, q3 F3 _ σ S4 k4⟩
      · exact q3.elim
    · exact q3.elim
  · exact q2.elim
/-! ### x += e of ints -/
def mAugI (f : Int → Int → Int) (i : Nat) (I : List Nat) (fe : Rho → R (Md × W)) : Rho → R Fl := fun ρ => match ρ[i]? with
  | some (.val (.int x)) => (fe ρ).bind fun b ρ1 => (match b.1, b.2 with
    | .val, .int y => if i ∈ I then .stk else .ok .nx (ρ1.set i (.val (.int (f x y))))
    | _, _ => .stk)
  | _ => .stk
theorem psm_augI {st : Stmt} {f : Int → Int → Int} (h : PS X st (tAug i (tM X.K Y fe) (ipI f))) : PSM X Y st (mAugI f i I fe) := ps_weak h fun D σ H hq => by
  obtain ⟨F, ρ, S, q⟩ := hq
  unfold mAugI at q
  split at q
  · rename_i x ex
    obtain ⟨v, ev, rv⟩ := S.slot i _ ex
    cases rv
    refine ⟨_, ev, F, ρ, S, (RunS.bindE (σ := σ) q).imp fun b ρ1 F1 H1 S1 k1 q1 v hv => ?_⟩
    obtain ⟨m, w⟩ := b
    dsimp only at q1
    split at q1
    · split at q1
      · exact q1.elim
      · rename_i y n
        cases (show v = .int y from hv)
        exact ⟨x, y, rfl, rfl, q1 F1 H1 _ (S1.setVal (Y.un n) (w := .int (f x y)) rfl) .refl⟩
    · exact q1.elim
  · exact q.elim
end
/-! ### ranges, backwards -/
theorem it_ints {K : PySem.W.Frag} {F : Fz} {H : Hp} {J : It} {n : Nat} {f : Nat → Int} (hg : ∀ i H, i < n → J.go i H) (hy : ∀ i H x H', J.yld i H x H' → H' = H ∧ x = .int (f i)) (hs : ∀ i H, n ≤ i → J.stop i H) :
    ItR K J F H ((List.range n).map fun i => .int (f i)) := by
  intro F' H' k t i
  refine ⟨fun w ew => ?_, fun h => hs i H' (by rw [List.length_map, List.length_range] at h; exact h)⟩
  rw [List.getElem?_map] at ew
  obtain ⟨j, ej, e⟩ := Option.map_eq_some_iff.mp ew
  have lt := (List.getElem?_eq_some_iff.mp ej).1
  rw [List.length_range] at lt
  rw [List.getElem?_range lt] at ej
  cases ej
  refine ⟨hg i H' lt, fun x H'' y => ?_⟩
  obtain ⟨e1, e2⟩ := hy i H' x H'' y
  rw [e1, e2, ← e]
  exact ⟨F', .refl t, rfl⟩
def intsW (lo : Int) (n : Nat) : List W := (List.range n).map fun i => .int (lo + (i : Nat))
def okR (i : Int) : Bool := decide (-(2 ^ 62) ≤ i) && decide (i < 2 ^ 62)
theorem okR_is {i : Int} (h : okR i = true) : -(2 ^ 62) ≤ i ∧ i < 2 ^ 62 := by
  have h' : (decide (-(2 ^ 62) ≤ i) && decide (i < 2 ^ 62)) = true := h
  rw [Bool.and_eq_true_iff] at h'
  exact ⟨of_decide_eq_true h'.1, of_decide_eq_true h'.2⟩
def mRange1 (fs : List (Rho → R (Md × W))) : Rho → R (List W) := fun ρ => (mHold fs ρ).bind fun bs ρ1 => match bs with
  | [(.val, .int j)] => if okR j then .ok (intsW 0 j.toNat) ρ1 else .stk
  | _ => .stk
def mRange2 (fs : List (Rho → R (Md × W))) : Rho → R (List W) := fun ρ => (mHold fs ρ).bind fun bs ρ1 => match bs with
  | [(.val, .int i), (.val, .int j)] => if okR i && okR j then .ok (intsW i (j - i).toNat) ρ1 else .stk
  | _ => .stk
section
variable {X : Cx} {Y : Yx I} {tg a b e : Expr} {fs : List (Rho → R (Md × W))} {fe fa fb : Rho → R (Md × W)} {p pos p2 pos2 : Pos}
theorem pim_range1 (hg : Gl X "range") (hm : X.mg "range" = none) (ha : PAM X Y [a] fs) (hs : starEach [a] X.env = [(false, eval a X.env)] := by rfl) : PIM X Y tg (.Call (.Name "range" p) [a] [] pos) (mRange1 fs) := pi_weak (pi_range1 hg hm ha hs) fun σ H Q hq => by
  obtain ⟨F, ρ, S, q⟩ := hq
  refine ⟨F, ρ, S, (RunG.bind q).imp fun bs ρ1 F1 H1 S1 k1 q1 F2 vs S2 k2 hvs => ?_⟩
  split at q1
  · split at q1
    · rename_i j hj
      obtain ⟨v, r, rfl, h1, h2⟩ := hvs
      cases (show v = .int j from h1)
      cases (show r = [] from h2)
      obtain ⟨o1, o2⟩ := okR_is hj
      exact ⟨j, rfl, o1, o2, q1 F2 H1 S2 k2 _ (it_ints (fun _ _ h => h) (fun _ _ _ _ h => h) fun _ _ h => h)⟩
    · exact q1.elim
  · exact q1.elim
theorem pim_range2 (hg : Gl X "range") (hm : X.mg "range" = none) (ha : PAM X Y [a, b] fs) (hs : starEach [a, b] X.env = [(false, eval a X.env), (false, eval b X.env)] := by rfl) (hs2 : starEach [b] X.env = [(false, eval b X.env)] := by rfl) : PIM X Y tg (.Call (.Name "range" p) [a, b] [] pos) (mRange2 fs) :=
  pi_weak (pi_range2 hg hm ha hs hs2) fun σ H Q hq => by
    obtain ⟨F, ρ, S, q⟩ := hq
    refine ⟨F, ρ, S, (RunG.bind q).imp fun bs ρ1 F1 H1 S1 k1 q1 F2 vs S2 k2 hvs => ?_⟩
    split at q1
    · split at q1
      · rename_i i j hj
        rw [Bool.and_eq_true_iff] at hj
        obtain ⟨v, r, rfl, h1, u, r2, rfl, h3, h4⟩ := hvs
        cases (show v = .int i from h1)
        cases (show u = .int j from h3)
        cases (show r2 = [] from h4)
        exact ⟨i, j, rfl, ⟨(okR_is hj.1).1, (okR_is hj.1).2, (okR_is hj.2).1, (okR_is hj.2).2⟩, q1 F2 H1 S2 k2 _ (it_ints (fun _ _ h => h) (fun _ _ _ _ h => h) fun _ _ h => h)⟩
      · exact q1.elim
    · exact q1.elim
/-- reversed(x) of a list, a tuple -/
def mRev (I : List Nat) (f : Rho → R (Md × W)) : Rho → R (List W) := fun ρ => (f ρ).bind fun b ρ1 => (toVal I b ρ1).bind fun w ρ2 => lift ((itemsW w).map List.reverse) ρ2
theorem pim_rev (hg : Gl X "reversed") (hm : X.mg "reversed" = none) (he : PEM X Y e fe) (hs : starEach [e] X.env = (false, eval e X.env) :: starEach [] X.env := by rfl) : PIM X Y tg (.Call (.Name "reversed" p) [e] [] pos) (mRev I fe) := pi_weak (RT.pi_revA hg hm he hs) fun σ H Q hq => by
  obtain ⟨F, ρ, S, q⟩ := hq
  refine ⟨F, ρ, S, (RunG.bind q).imp fun b ρ1 F1 H1 S1 k1 q1 v hv => ?_⟩
  obtain ⟨F2, w, ρ2, S2, k2, r, q2⟩ := S1.toVal hv (RunG.bind q1)
  obtain ⟨ws, ew, q3⟩ := lift_ok q2
  obtain ⟨l, el, rfl⟩ := Option.map_eq_some_iff.mp ew
  have q4 := q3 F2 H1 S2 .refl
  have rev : ∀ {l : List W} {vs : List V} {i : Nat} {w : W}, l.length = vs.length → l.reverse[i]? = some w → i < vs.length ∧ l[vs.length - 1 - i]? = some w := fun {l vs i w} el ew => by
    have lt := (List.getElem?_eq_some_iff.mp ew).1
    rw [List.length_reverse] at lt
    rw [List.getElem?_reverse lt, el] at ew
    exact ⟨by omega, ew⟩
  cases w with
  | tup l' =>
    cases el
    obtain ⟨a, vs, rfl, hs, rl⟩ := r
    refine ⟨a, vs, rfl, .inr ⟨hs.seq, q4 _ fun F' H' k t i => ⟨fun w ew => ?_, fun h => by rw [List.length_reverse, rl.len] at h; exact h⟩⟩⟩
    obtain ⟨lt, eg⟩ := rev rl.len ew
    obtain ⟨v, ev, rv⟩ := rl.get eg
    refine ⟨⟨lt, vs, v, (k.sqU hs).seq, ev⟩, ?_⟩
    rintro x H'' ⟨rfl, y⟩
    have e := y vs (k.sqU hs).seq
    rw [ev] at e
    cases e
    exact ⟨F', .refl t, rv.mono k⟩
  | lst l' =>
    cases el
    obtain ⟨a, vs, rfl, fa, hs, rl⟩ := r
    refine ⟨a, vs, rfl, .inl ⟨.of hs, q4 _ fun F' H' k t i => ⟨fun w ew => ?_, fun h => by rw [List.length_reverse, rl.len] at h; exact h⟩⟩⟩
    obtain ⟨lt, eg⟩ := rev rl.len ew
    obtain ⟨v, ev, rv⟩ := rl.get eg
    have hs' : SqL X.K H' a vs := .of (k.h a _ hs (.inl fa))
    refine ⟨⟨lt, vs, v, hs', ev⟩, ?_⟩
    rintro x H'' ⟨rfl, y⟩
    have e := y vs hs'
    rw [ev] at e
    cases e
    exact ⟨F', .refl t, rv.mono k⟩
  | frl l' =>
    cases el
    obtain ⟨a, vs, rfl, hs, rl⟩ := r
    refine ⟨a, vs, rfl, .inl ⟨hs.seq, q4 _ fun F' H' k t i => ⟨fun w ew => ?_, fun h => by rw [List.length_reverse, rl.len] at h; exact h⟩⟩⟩
    obtain ⟨lt, eg⟩ := rev rl.len ew
    obtain ⟨v, ev, rv⟩ := rl.get eg
    have hs' : SqL X.K H' a vs := (k.frl hs).seq
    refine ⟨⟨lt, vs, v, hs', ev⟩, ?_⟩
    rintro x H'' ⟨rfl, y⟩
    have e := y vs hs'
    rw [ev] at e
    cases e
    exact ⟨F', .refl t, rv.mono k⟩
  | _ => cases el
/-! ### texts -/
def strsW : List W → Option (List Str)
  | [] => some []
  | .str s :: l => (strsW l).map (s :: ·)
  | _ => none
/-- x.join(l) -/
def gJoin : GW := fun x y => match x, itemsW y with
  | .str a, some l => (strsW l).bind fun ys => if (ys.map (·.length)).sum + ys.length * a.length ≤ 16777216 then some (.val, .str (Txt.join a ys)) else none
  | _, _ => none
theorem strs_rep {K : PySem.W.Frag} {F : Fz} {H : Hp} : ∀ {l : List W} {vs : List V} {ys : List Str}, RepL K F H l vs → strsW l = some ys → vs = ys.map V.str
  | [], _, _, r, e => by cases e; exact r
  | w :: l, _, ys, ⟨v, r, e0, h1, h2⟩, e => by
    cases w with
    | str s =>
      obtain ⟨zs, ez, rfl⟩ := Option.map_eq_some_iff.mp (show (strsW l).map _ = some ys from e)
      cases h1
      rw [e0, strs_rep h2 ez]
      rfl
    | _ => cases e
def mJoin (fx fl : Rho → R (Md × W)) : Rho → R (Md × W) := fun ρ => (fx ρ).bind fun x ρ1 => match x.1, x.2 with
  | .val, .str a => (mHold [fl] ρ1).bind fun bs ρ2 => (match peekL bs ρ2 with
    | some [y] => lift (gJoin (.str a) y) ρ2
    | _ => .stk)
  | _, _ => .stk
theorem pem_join {o : Expr} {apos : Pos} {fx : Rho → R (Md × W)} (ho : PEM X Y o fx) (he : PEM X Y e fe) (hbase : attributeBase o "join" X.env (eval o X.env) = eval o X.env := by rfl)
    (hfew : ((backTo pos (starEach (e :: []) X.env)).all (fun x => !x.1) && (backToKw pos (keywordEach [] X.env)).all (fun x => x.1.isSome) && decide ((e :: []).length + ([] : List Keyword).length + (if ([] : List Keyword).isEmpty then 0 else 1) < 30)) = true := by rfl)
    (hline : (apos.endLine == pos.line) = true := by rfl) (hs : starEach (e :: []) X.env = (false, eval e X.env) :: starEach [] X.env := by rfl) (hplain : (backTo pos (starEach [] X.env)).any (·.1) = false := by rfl) :
    PEM X Y (.Call (.Attribute o "join" apos) [e] [] pos) (mJoin fx fe) :=
  pe_weak (pe_bm PySem.F.plainAttrs_str PySem.F.slot_str_join PySem.F.type_str_join mt_join ho (pam_cons he pam_nil hs) hbase hfew hline hs hplain) fun σ H Q hq => by
    obtain ⟨F, ρ, S, q⟩ := hq
    refine ⟨F, ρ, S, (RunG.bind q).imp fun x ρ1 F1 H1 S1 k1 q1 v hv => ?_⟩
    obtain ⟨m, w⟩ := x
    dsimp only at q1
    split at q1
    · rename_i a
      cases (show v = .str a from hv)
      refine ⟨rfl, F1, ρ1, S1, (RunG.bind q1).imp fun bs ρ2 F2 H2 S2 k2 q2 F3 vs S3 k3 hvs => ?_⟩
      have q3 := q2.rebase k3
      split at q3
      · rename_i y ey
        obtain ⟨⟨m, z⟩, ez, qz⟩ := lift_ok q3
        obtain ⟨u, rfl, hu⟩ := PkL.one (S3.peekL hvs ey)
        unfold gJoin at ez
        split at ez
        · rename_i l ea el
          cases ea
          obtain ⟨ys, eys, e1⟩ := Option.bind_eq_some_iff.mp ez
          split at e1
          · rename_i hz
            cases e1
            obtain ⟨b, us, rfl, hs, r⟩ := hu.seq el
            have e2 := strs_rep r eys
            rw [e2] at hs
            exact ⟨_, b, ys, rfl, rfl, hs, hz, old_val S3.f2 (K := X.K) (z := .str _) rfl fun F' H' v ee hn => qz F' H' (S3.grow ee) ee.keeps v (S3.newR ee hn)⟩
          · cases e1
        · cases ez
      · exact q3.elim
    · exact q1.elim
/-! ### a def without arguments, a statement that is never reached, a try that runs through -/
theorem pem_call0 {k : Nat} {f : Addr} {fd : FuncData} {ps : List Str} {fm : List W → FR} {x : Str} (F : FnOk X.prog X.w X.K X.mg X.base (L2.CX X.prog X.w) k f fd ps (spM X.K Y.ct [] 0 fm)) (hr : Room k X.A) (hE : ∀ args, match fm args with
      | .exc _ _ _ _ => False
      | _ => True) (hg : Gl X x) (hm : X.mg x = some (.ref f)) (hk : PySem.W.keepIn X.K (.ref f) = true) (hb : Binds X.K fd ps []) (hdb : (x == ("__debug__" : Str)) = false := by decide) : PEM X Y (.Call (.Name x p) [] [] pos) (mCall I [] fm []) :=
  pe_weak (pe_call0 F hr hg hm hk hb .nil passL hdb) fun σ H Q hq => by
    have h1 := call_of (np := 0) rfl hq
    obtain ⟨F0, ρ, S, q⟩ := h1
    have q2 := q F0 H S .refl F0 [] S .refl rfl
    show spM X.K Y.ct [] 0 fm [] H Q E0
    obtain ⟨F1, args, a1, a2, a3, a4, a5⟩ := q2
    refine ⟨F1, args, a1, a2, a3, a4, ?_⟩
    have hx := hE args
    cases e : fm args with
    | ok fr w outs => rw [e] at a5; exact a5
    | exc c ns ws outs => rw [e] at hx; exact hx.elim
    | stk => rw [e] at a5; exact a5
def mStk {α : Type} : Rho → R α := fun _ => .stk
theorem psm_never {st : Stmt} : PSM X Y st mStk := ps_weak ps_never fun D σ H hq => by
  obtain ⟨F, ρ, S, q⟩ := hq
  exact q
theorem psms_never {st : List Stmt} : PSMs X Y st mStk := pss_weak pss_never fun D σ H hq => by
  obtain ⟨F, ρ, S, q⟩ := hq
  exact q
def mThru (g : Rho → R Fl) : Rho → R Fl := fun ρ => noExc (g ρ)
theorem psm_thru {body : List Stmt} {h0 : ExceptHandler} {hs : List ExceptHandler} {g : Rho → R Fl} (hb : ∀ Y' : Yx I, Y'.ct = Y.ct → (Y'.wx = fun _ _ _ _ => False) → PSMs X.nox Y' body g) : PSM X Y (.Try body (h0 :: hs) [] [] pos) (mThru g) :=
  ps_weak (ps_try_thru0 (hb ⟨Y.ct, Y.B, fun _ _ _ _ => False, Y.hI⟩ rfl rfl)) fun D σ H hq => by
    obtain ⟨F, ρ, S, q⟩ := hq
    refine ⟨F, ρ, S, ?_⟩
    unfold mThru at q
    cases e : g ρ with
    | ok fl ρ' => rw [e] at q; exact q
    | exc c ns ws ρ' => rw [e] at q; exact q.elim
    | stk => rw [e] at q; exact q
end
end ML

set_option maxHeartbeats 4000000
namespace ML
open PySem PySem.Spec PyProof.Rows L2
variable {I : List Nat}
/-! ### defs by names -/
/-- a def of the text, under its name -/
def Src (K : PySem.W.Frag) (mg : Str → Option Value) (x : Str) (st : Stmt) : Prop := ∃ fd, FunD K x x (defArgs st) (defBody st) (defScope st) [] [] (He.ga K x) fd ∧ mg x = some (.ref (He.ga K x))
/-- the def x keeps its mirror's promise, called with room k -/
def Def (P : Program) (w : World) (K : PySem.W.Frag) (mg : Str → Option Value) (base : Heap) (ct : Str → Addr) (k : Nat) (x : Str) (ps : List Str) (J : List Nat) (fm : List W → FR) : Prop :=
  ∃ f fd, mg x = some (.ref f) ∧ PySem.W.keepIn K (.ref f) = true ∧ Binds K fd ps [] ∧ FnOk P w K mg base (L2.CX P w) k f fd ps (spM K ct J ps.length fm) ∧ ∃ oc od osl, K.lookup f = some ⟨oc, od, .func fd, osl⟩
section
variable {P : Program} {w : World} {K : PySem.W.Frag} {mg : Str → Option Value} {base : Heap} {ct : Str → Addr} {j k : Nat} {x : Str} {ps : List Str} {J : List Nat} {fm : List W → FR}
theorem Def.mono (D : Def P w K mg base ct j x ps J fm) (h : j ≤ k) : Def P w K mg base ct k x ps J fm := by
  obtain ⟨f, fd, h1, h2, h3, h4, h5⟩ := D
  exact ⟨f, fd, h1, h2, h3, h4.mono h, h5⟩
theorem Def.congr {fm' : List W → FR} (D : Def P w K mg base ct k x ps J fm) (h : ∀ args, args.length = ps.length → fm' args = .stk ∨ fm' args = fm args) : Def P w K mg base ct k x ps J fm' := by
  obtain ⟨f, fd, h1, h2, h3, h4, h5⟩ := D
  refine ⟨f, fd, h1, h2, h3, h4.imp fun vs H Q E ⟨F, args, a1, a2, a3, a4, a5⟩ => ⟨F, args, a1, a2, a3, a4, ?_⟩, h5⟩
  rcases h args (by rw [a3.len, a1]) with e | e
  · rw [e] at a5; exact a5.elim
  · rw [e] at a5; exact a5
/-- from the text -/
theorem def_mk {st : Stmt} {N : List Str} {g : Rho → R Fl} (T : Src K mg x st) (S : FnScope N ps (defScope st)) (hn : ps.length ≤ N.length)
    (hbi : ∀ (kV doc pm : Value) (an : Option Addr) (cdv ct : Value) (us : List Value), us.length = ps.length → bindArgs (PySem.W.fnOf x x (defArgs st) (defBody st) (defScope st) .none kV doc pm an cdv ct) ⟨us, []⟩ = pure (ps.zip us))
    (hb : ∀ (f : Addr) (cdv : Value) (A : Around) (outer : List Env) (s : Shared) (H : Hp) (E : XK) (Y : Yx J), Room k (cxOf (L2.CX P w) P w K mg base N x (defScope st) f cdv A outer s H E).A → Y.ct = ct → Takes (cxOf (L2.CX P w) P w K mg base N x (defScope st) f cdv A outer s H E) Y.wx →
      PSMs (cxOf (L2.CX P w) P w K mg base N x (defScope st) f cdv A outer s H E) Y (defBody st) g) : Def P w K mg base ct (k + 1) x ps J (mFun J N.length g) := by
  obtain ⟨fd, F, hm⟩ := T
  obtain ⟨oc, od, dV, kV, doc, pm, an, cdv, ct, osl, _, lk, _⟩ := F.ex
  exact ⟨_, fd, hm, F.kp, F.bindsN hbi, fn_ok F S hn (fun _ _ => rfl) (hb _), oc, od, osl, lk⟩
end
section
variable {X : Cx} {Y : Yx I} {ct : Str → Addr} {k : Nat} {x : Str} {ps : List Str} {J : List Nat} {fm : List W → FR} {p pos : Pos} {e : Expr} {es : List Expr} {fs : List (Rho → R (Md × W))}
theorem pem_callD (D : Def X.prog X.w X.K X.mg X.base ct k x ps J fm) (hct : Y.ct = ct) (hr : Room k X.A) (tk : Takes X Y.wx) (hg : Gl X x) (ha : PAM X Y (e :: es) fs) (hn : fs.length = ps.length)
    (hdb : (x == ("__debug__" : Str)) = false := by decide) (he : starEach (e :: es) X.env = (false, eval e X.env) :: starEach es X.env := by rfl) (hpl : (backTo pos (starEach es X.env)).any (·.1) = false := by rfl) :
    PEM X Y (.Call (.Name x p) (e :: es) [] pos) (mCall I J fm fs) := by
  obtain ⟨f, fd, h1, h2, h3, h4, _⟩ := D
  subst hct
  exact pem_call h4 hr tk hg h1 h2 h3 ha hn hdb he hpl
theorem pem_callD0 (D : Def X.prog X.w X.K X.mg X.base ct k x [] [] fm) (hE : ∀ args, match fm args with
      | .exc _ _ _ _ => False
      | _ => True) (hct : Y.ct = ct) (hr : Room k X.A) (hg : Gl X x) (hdb : (x == ("__debug__" : Str)) = false := by decide) : PEM X Y (.Call (.Name x p) [] [] pos) (mCall I [] fm []) := by
  obtain ⟨f, fd, h1, h2, h3, h4, _⟩ := D
  subst hct
  exact pem_call0 h4 hr hE hg h1 h2 h3 hdb
theorem takesF (h : Y.wx = fun _ _ _ _ => False) : Takes X Y.wx := by
  rw [h]
  exact takes0
theorem hu200 {A : Around} (hr : Room k A) : A.units + 200 < cLine := by have := hr.un; omega
/-- a module's text or whole number, a module's tuple -/
theorem pem_gc {v : V} {w : W} (h : ∃ u, X.mg x = some u ∧ RelV v u) (hg : Gl X x) (r : ∀ F H, Rep X.K F H w v) (hdb : (x == ("__debug__" : Str)) = false := by decide) : PEM X Y (.Name x pos) (mC w) := by
  obtain ⟨u, h1, h2⟩ := h
  exact pem_glob hg h1 h2 r hdb
theorem pem_gt {ws : List W} {vs : List V} (h : ∃ a, X.mg x = some (.ref a) ∧ TupK X.K a vs ∧ RepL X.K (fun _ => False) (fun _ => none) ws vs) (hg : Gl X x) (hdb : (x == ("__debug__" : Str)) = false := by decide) : PEM X Y (.Name x pos) (mC (.tup ws)) := by
  obtain ⟨a, h1, h2, h3⟩ := h
  have k : ∀ F H, Keeps (fun _ => False) (fun _ => none) F H := fun F H => ⟨fun _ h => h.elim, fun _ _ h _ => by cases h⟩
  exact pem_glob (v := .ref a) hg h1 rfl (fun F H => ⟨a, vs, rfl, .inr h2, h3.mono (k F H)⟩) hdb
end
end ML

set_option maxHeartbeats 4000000
namespace ML
open PySem PySem.Spec PyProof.Rows L2
variable {I : List Nat}
/-! ### all, any -/
def boolsW : List W → Option (List Bool)
  | [] => some []
  | .bl b :: l => (boolsW l).map (b :: ·)
  | _ => none
theorem bools_rep {K : PySem.W.Frag} {F : Fz} {H : Hp} : ∀ {l : List W} {vs : List V} {ys : List Bool}, RepL K F H l vs → boolsW l = some ys → vs = ys.map V.bl
  | [], _, _, r, e => by cases e; exact r
  | w :: l, _, ys, ⟨v, r, e0, h1, h2⟩, e => by
    cases w with
    | bl s =>
      obtain ⟨zs, ez, rfl⟩ := Option.map_eq_some_iff.mp (show (boolsW l).map _ = some ys from e)
      cases h1
      rw [e0, bools_rep h2 ez]
      rfl
    | _ => cases e
def gAll : GC
  | [.lst l] => (boolsW l).map fun bs => (.val, .bl (bs.all id))
  | _ => none
def gAny : GC
  | [.lst l] => (boolsW l).map fun bs => (.val, .bl (bs.any id))
  | _ => none
theorem g_all {K : PySem.W.Frag} : CallW K (rAll K) gAll := by
  intro xs m z e F H vs Q t p q
  unfold gAll at e
  split at e
  · obtain ⟨bs, eb, e2⟩ := Option.map_eq_some_iff.mp e
    cases e2
    obtain ⟨v, rfl, h⟩ := p.one
    obtain ⟨a, us, rfl, hs, r⟩ := h.lst
    rw [bools_rep r eb] at hs
    exact ⟨a, bs, rfl, .of hs, old_val t (K := K) (z := .bl _) rfl q⟩
  · cases e
theorem g_any {K : PySem.W.Frag} : CallW K (rAny K) gAny := by
  intro xs m z e F H vs Q t p q
  unfold gAny at e
  split at e
  · obtain ⟨bs, eb, e2⟩ := Option.map_eq_some_iff.mp e
    cases e2
    obtain ⟨v, rfl, h⟩ := p.one
    obtain ⟨a, us, rfl, hs, r⟩ := h.lst
    rw [bools_rep r eb] at hs
    exact ⟨a, bs, rfl, .of hs, old_val t (K := K) (z := .bl _) rfl q⟩
  · cases e
/-! ### a dict of the text with text keys -/
structure DctK (K : PySem.W.Frag) (w : World) (d : Addr) (ks : List Str) (vs : List V) : Prop where
  at_ : ∃ es n, K.lookup d = some ⟨.type "dict", none, .dict es n, #[]⟩ ∧ es.toList.map He.keyOf = He.keysIn w.params ks ∧ Vals vs (es.toList.map (·.val)) ∧ (d == sysModules) = false
def lookS (z : Str) : List Str → List V → Option V
  | k :: ks, v :: vs => if k = z then some v else lookS z ks vs
  | _, _ => none
theorem find_lit {P : Params} {z : Str} : ∀ {l : List DictEntry} {ks : List Str} {vs : List V}, l.map He.keyOf = He.keysIn P ks → Vals vs (l.map (·.val)) →
    l.any (·.refKey) = false ∧ match lookS z ks vs with
      | some v => ∃ e, l.find? (·.key.isStr z) = some e ∧ RelV v e.val
      | none => l.find? (·.key.isStr z) = none
  | [], [], vs, _, r => by cases r; exact ⟨rfl, rfl⟩
  | [], k :: ks, _, h, _ => by cases h
  | e :: l, [], _, h, _ => by cases h
  | e :: l, k :: ks, vs, h, r => by
    cases r with
    | cons r1 r2 =>
      rename_i v vs'
      have h1 : He.keyOf e :: l.map He.keyOf = some (k, PyData.keyHash P k) :: He.keysIn P ks := h
      injection h1 with h2 h3
      obtain ⟨g1, g2⟩ := find_lit (z := z) h3 r2
      have hk : ∃ t, e.key = .str k t := by
        unfold He.keyOf at h2
        split at h2
        · rename_i x t q
          obtain ⟨h5, _⟩ := Prod.mk.inj (Option.some.inj h2)
          exact ⟨t, by rw [q, h5]⟩
        · cases h2
      obtain ⟨t, et⟩ := hk
      have is : e.key.isStr z = decide (k = z) := by
        rw [et]
        show (k == z) = decide (k = z)
        by_cases q : k = z
        · subst q; simp
        · rw [decide_eq_false q]; exact beq_eq_false_iff_ne.mpr q
      refine ⟨?_, ?_⟩
      · rw [List.any_cons, g1]
        have : e.refKey = false := by unfold DictEntry.refKey; rw [et]
        rw [this]
        rfl
      · unfold lookS
        by_cases q : k = z
        · rw [if_pos q]
          refine ⟨e, ?_, r1⟩
          rw [List.find?_cons, is, decide_eq_true q]
        · rw [if_neg q]
          have e2 : (e :: l).find? (·.key.isStr z) = l.find? (·.key.isStr z) := by rw [List.find?_cons, is, decide_eq_false q]
          rw [e2]
          exact g2
theorem DctK.at {K : PySem.W.Frag} {w : World} {d : Addr} {ks : List Str} {vs : List V} (D : DctK K w d ks vs) (z : Str) : match lookS z ks vs with
    | some v => KDct K w d z v
    | none => PySem.W.nsIn K d z = some none := by
  obtain ⟨es, n, h1, h2, h3, h4⟩ := D.at_
  obtain ⟨g1, g2⟩ := find_lit (z := z) h2 h3
  have lit := He.keysLit_of h2
  cases q : lookS z ks vs with
  | some v =>
    rw [q] at g2
    obtain ⟨e, e1, e2⟩ := g2
    refine ⟨es, n, e.val, h1, lit, ?_, e2⟩
    unfold PySem.W.nsIn
    rw [h1]
    show (match es.toList.find? (·.key.isStr z) with
      | some e => some (some e.val)
      | none => if es.toList.any (·.refKey) then none else some none) = _
    rw [e1]
  | none =>
    rw [q] at g2
    unfold PySem.W.nsIn
    rw [h1]
    show (match es.toList.find? (·.key.isStr z) with
      | some e => some (some e.val)
      | none => if es.toList.any (·.refKey) then none else some none) = _
    rw [g2, g1]
    rfl
def lookW (z : Str) : List Str → List W → Option W
  | k :: ks, v :: vs => if k = z then some v else lookW z ks vs
  | _, _ => none
theorem look_rep {K : PySem.W.Frag} {F : Fz} {H : Hp} {z : Str} : ∀ {ks : List Str} {ws : List W} {vs : List V}, RepL K F H ws vs → match lookW z ks ws with
    | some w => ∃ v, lookS z ks vs = some v ∧ Rep K F H w v
    | none => lookS z ks vs = none
  | [], _, _, _ => rfl
  | k :: ks, [], _, r => by cases r; rfl
  | k :: ks, w :: ws, _, ⟨v, r, e, h1, h2⟩ => by
    rw [e]
    unfold lookW lookS
    by_cases q : k = z
    · rw [if_pos q, if_pos q]
      exact ⟨v, rfl, h1⟩
    · rw [if_neg q, if_neg q]
      exact look_rep h2
/-- what a global dict is: its keys, its values -/
def GDctF (w : World) (K : PySem.W.Frag) (mg : Str → Option Value) (x : Str) (ks : List Str) (ws : List W) : Prop := ∃ d vs, mg x = some (.ref d) ∧ DctK K w d ks vs ∧ RepL K (fun _ => False) (fun _ => none) ws vs
abbrev GDct (X : Cx) (x : Str) (ks : List Str) (ws : List W) : Prop := GDctF X.w X.K X.mg x ks ws
def mInK (neg : Bool) (ks : List Str) (fa : Rho → R (Md × W)) : Rho → R (Md × W) := fun ρ => (fa ρ).bind fun b ρ1 => match b.1, b.2 with
  | .val, .str z => .ok (.val, .bl (if neg then !(ks.contains z) else ks.contains z)) ρ1
  | _, _ => .stk
def mIxK (ks : List Str) (ws : List W) (fa : Rho → R (Md × W)) : Rho → R (Md × W) := fun ρ => (fa ρ).bind fun b ρ1 => match b.1, b.2 with
  | .val, .str z => (match lookW z ks ws with
    | some w => .ok (.val, w) ρ1
    | none => .stk)
  | _, _ => .stk
theorem lookS_has {z : Str} : ∀ {ks : List Str} {vs : List V}, ks.length = vs.length → (lookS z ks vs).isSome = ks.contains z
  | [], [], _ => rfl
  | [], _ :: _, h => by cases h
  | k :: ks, [], h => by cases h
  | k :: ks, v :: vs, h => by
    unfold lookS
    have ih := lookS_has (z := z) (ks := ks) (vs := vs) (by simpa using h)
    rw [List.contains_cons]
    by_cases q : k = z
    · subst q
      rw [if_pos rfl]
      simp
    · rw [if_neg q, ih]
      have : (z == k) = false := beq_eq_false_iff_ne.mpr fun e => q e.symm
      rw [this, Bool.false_or]
section
variable {X : Cx} {Y : Yx I} {a : Expr} {x : Str} {ks : List Str} {ws : List W} {fa : Rho → R (Md × W)} {pos p : Pos}
theorem dct_len (D : GDct X x ks ws) : ks.length = ws.length := by
  obtain ⟨d, vs, _, ⟨es, n, _, h2, h3, _⟩, r⟩ := D
  have e1 : (es.toList.map He.keyOf).length = ks.length := by rw [h2]; unfold He.keysIn; rw [List.length_map]
  have e2 := h3.length
  rw [List.length_map] at e1 e2
  rw [r.len, e2, e1]
/-- x in D, x not in D -/
theorem pem_inK (D : GDct X x ks ws) (hg : Gl X x) (ha : PEM X Y a fa) (hdb : (x == ("__debug__" : Str)) = false := by decide) (hb : behindInMarks .In (.Name x p) = false := by rfl) : PEM X Y (.Compare a [.In] [.Name x p] pos) (mInK false ks fa) := by
  have hl := dct_len D
  obtain ⟨d, vs, h1, h2, h3⟩ := D
  obtain ⟨es, n, g1, g2, g3, g4⟩ := h2.at_
  have KD : KDict X.K X.w d es n := ⟨g1, He.keysLit_of g2, g4⟩
  refine pe_weak (pe_cmpR (op_in_kd KD) ha (pe_glob (v := .ref d) hg h1 rfl hdb) hb) fun σ H Q hq => ?_
  obtain ⟨F, ρ, S, q⟩ := hq
  refine ⟨F, ρ, S, (RunG.bind q).imp fun b ρ1 F1 H1 S1 k1 q1 v hv => ?_⟩
  obtain ⟨m, w⟩ := b
  dsimp only at q1
  split at q1
  · rename_i z
    cases (show v = .str z from hv)
    have D := h2.at z
    have hs := lookS_has (z := z) (ks := ks) (vs := vs) (by rw [hl, h3.len])
    cases e : lookS z ks vs with
    | some v =>
      rw [e] at D hs
      obtain ⟨es', n', u, _, _, e3, _⟩ := D
      refine ⟨z, _, rfl, rfl, e3, ?_⟩
      exact q1 F1 H1 S1 .refl _ (by show V.bl true = V.bl (ks.contains z); rw [← hs]; rfl)
    | none =>
      rw [e] at D hs
      refine ⟨z, _, rfl, rfl, D, ?_⟩
      exact q1 F1 H1 S1 .refl _ (by show V.bl false = V.bl (ks.contains z); rw [← hs]; rfl)
  · exact q1.elim
theorem pem_notInK (D : GDct X x ks ws) (hg : Gl X x) (ha : PEM X Y a fa) (hdb : (x == ("__debug__" : Str)) = false := by decide) (hb : behindInMarks .NotIn (.Name x p) = false := by rfl) : PEM X Y (.Compare a [.NotIn] [.Name x p] pos) (mInK true ks fa) := by
  have hl := dct_len D
  obtain ⟨d, vs, h1, h2, h3⟩ := D
  obtain ⟨es, n, g1, g2, g3, g4⟩ := h2.at_
  have KD : KDict X.K X.w d es n := ⟨g1, He.keysLit_of g2, g4⟩
  refine pe_weak (pe_cmpR (op_notIn_kd KD) ha (pe_glob (v := .ref d) hg h1 rfl hdb) hb) fun σ H Q hq => ?_
  obtain ⟨F, ρ, S, q⟩ := hq
  refine ⟨F, ρ, S, (RunG.bind q).imp fun b ρ1 F1 H1 S1 k1 q1 v hv => ?_⟩
  obtain ⟨m, w⟩ := b
  dsimp only at q1
  split at q1
  · rename_i z
    cases (show v = .str z from hv)
    have D := h2.at z
    have hs := lookS_has (z := z) (ks := ks) (vs := vs) (by rw [hl, h3.len])
    cases e : lookS z ks vs with
    | some v =>
      rw [e] at D hs
      obtain ⟨es', n', u, _, _, e3, _⟩ := D
      refine ⟨z, _, rfl, rfl, e3, ?_⟩
      exact q1 F1 H1 S1 .refl _ (by show V.bl false = V.bl (!(ks.contains z)); rw [← hs]; rfl)
    | none =>
      rw [e] at D hs
      refine ⟨z, _, rfl, rfl, D, ?_⟩
      exact q1 F1 H1 S1 .refl _ (by show V.bl true = V.bl (!(ks.contains z)); rw [← hs]; rfl)
  · exact q1.elim
/-- as a test -/
theorem ptm_inK (D : GDct X x ks ws) (hg : Gl X x) (ha : PEM X Y a fa) (hdb : (x == ("__debug__" : Str)) = false := by decide) (hb : behindInMarks .In (.Name x p) = false := by rfl) : PTM X Y (.Compare a [.In] [.Name x p] pos) (mTest (mInK false ks fa)) := by
  have hl := dct_len D
  obtain ⟨d, vs, h1, h2, h3⟩ := D
  obtain ⟨es, n, g1, g2, g3, g4⟩ := h2.at_
  have KD : KDict X.K X.w d es n := ⟨g1, He.keysLit_of g2, g4⟩
  refine pt_weak (pt_cmpR (op_in_kd KD) ha (pe_glob (v := .ref d) hg h1 rfl hdb) hb) fun σ H Q hq => ?_
  obtain ⟨F, ρ, S, q⟩ := test_of hq
  refine ⟨F, ρ, S, (RunG.bind q).imp fun b ρ1 F1 H1 S1 k1 q1 v hv => ?_⟩
  obtain ⟨m, w⟩ := b
  dsimp only at q1
  split at q1
  · rename_i z
    cases (show v = .str z from hv)
    have D := h2.at z
    have hs := lookS_has (z := z) (ks := ks) (vs := vs) (by rw [hl, h3.len])
    cases e : lookS z ks vs with
    | some v =>
      rw [e] at D hs
      obtain ⟨es', n', u, _, _, e3, _⟩ := D
      refine ⟨z, _, rfl, rfl, e3, ?_⟩
      exact q1 F1 H1 S1 .refl (.bl true) (by show V.bl true = V.bl (ks.contains z); rw [← hs]; rfl)
    | none =>
      rw [e] at D hs
      refine ⟨z, _, rfl, rfl, D, ?_⟩
      exact q1 F1 H1 S1 .refl (.bl false) (by show V.bl false = V.bl (ks.contains z); rw [← hs]; rfl)
  · exact q1.elim
theorem ptm_notInK (D : GDct X x ks ws) (hg : Gl X x) (ha : PEM X Y a fa) (hdb : (x == ("__debug__" : Str)) = false := by decide) (hb : behindInMarks .NotIn (.Name x p) = false := by rfl) : PTM X Y (.Compare a [.NotIn] [.Name x p] pos) (mTest (mInK true ks fa)) := by
  have hl := dct_len D
  obtain ⟨d, vs, h1, h2, h3⟩ := D
  obtain ⟨es, n, g1, g2, g3, g4⟩ := h2.at_
  have KD : KDict X.K X.w d es n := ⟨g1, He.keysLit_of g2, g4⟩
  refine pt_weak (pt_cmpR (op_notIn_kd KD) ha (pe_glob (v := .ref d) hg h1 rfl hdb) hb) fun σ H Q hq => ?_
  obtain ⟨F, ρ, S, q⟩ := test_of hq
  refine ⟨F, ρ, S, (RunG.bind q).imp fun b ρ1 F1 H1 S1 k1 q1 v hv => ?_⟩
  obtain ⟨m, w⟩ := b
  dsimp only at q1
  split at q1
  · rename_i z
    cases (show v = .str z from hv)
    have D := h2.at z
    have hs := lookS_has (z := z) (ks := ks) (vs := vs) (by rw [hl, h3.len])
    cases e : lookS z ks vs with
    | some v =>
      rw [e] at D hs
      obtain ⟨es', n', u, _, _, e3, _⟩ := D
      refine ⟨z, _, rfl, rfl, e3, ?_⟩
      exact q1 F1 H1 S1 .refl (.bl false) (by show V.bl false = V.bl (!(ks.contains z)); rw [← hs]; rfl)
    | none =>
      rw [e] at D hs
      refine ⟨z, _, rfl, rfl, D, ?_⟩
      exact q1 F1 H1 S1 .refl (.bl true) (by show V.bl true = V.bl (!(ks.contains z)); rw [← hs]; rfl)
  · exact q1.elim
/-- D[x] -/
theorem pem_ixK (D : GDct X x ks ws) (hg : Gl X x) (ha : PEM X Y a fa) (hs : PlainIx a := by exact fun _ _ => rfl) (hdb : (x == ("__debug__" : Str)) = false := by decide) : PEM X Y (.Subscript (.Name x p) a pos) (mIxK ks ws fa) := by
  obtain ⟨d, vs, h1, h2, h3⟩ := D
  refine pe_weak (pe_ix ix_kdict (pe_glob (v := .ref d) hg h1 rfl hdb) ha hs) fun σ H Q hq => ?_
  obtain ⟨F, ρ, S, q⟩ := hq
  refine ⟨F, ρ, S, (RunG.bind q).imp fun b ρ1 F1 H1 S1 k1 q1 v hv => ?_⟩
  obtain ⟨m, w⟩ := b
  dsimp only at q1
  split at q1
  · rename_i z
    cases (show v = .str z from hv)
    split at q1
    · rename_i w2 e
      have kk : Keeps (fun _ => False) (fun _ => none) F1 H1 := ⟨fun _ h => h.elim, fun _ _ h _ => by cases h⟩
      have L := look_rep (z := z) (ks := ks) (h3.mono kk)
      rw [e] at L
      obtain ⟨v2, e2, r2⟩ := L
      have D2 := h2.at z
      rw [e2] at D2
      exact ⟨d, z, v2, rfl, rfl, D2, q1 F1 H1 S1 .refl v2 r2⟩
    · exact q1.elim
  · exact q1.elim
end
/-! ### a local name that holds one of some defs -/
def mCallL (I : List Nat) (i : Nat) (cs : List (Str × (List W → FR))) (fs : List (Rho → R (Md × W))) : Rho → R (Md × W) := fun ρ => match ρ[i]? with
  | some (.val (.fn x)) => (match cs.lookup x with
    | some fm => mCall I [] fm fs ρ
    | none => .stk)
  | _ => .stk
/-- the defs that it may hold -/
def Cands (X : Cx) (ct : Str → Addr) (k : Nat) (ps : List Str) (cs : List (Str × (List W → FR))) : Prop := ∀ (x : Str) (fm : List W → FR), cs.lookup x = some fm → X.mg x = some (.ref (He.ga X.K x)) ∧ Def X.prog X.w X.K X.mg X.base ct k x ps [] fm
theorem cands_nil {X : Cx} {ct : Str → Addr} {k : Nat} {ps : List Str} : Cands X ct k ps [] := fun x fm e => by cases e
theorem cands_cons {X : Cx} {ct : Str → Addr} {k : Nat} {ps : List Str} {cs : List (Str × (List W → FR))} {y : Str} {st : Stmt} {gm : List W → FR} (T : Src X.K X.mg y st) (D : Def X.prog X.w X.K X.mg X.base ct k y ps [] gm) (C : Cands X ct k ps cs) : Cands X ct k ps ((y, gm) :: cs) := fun x fm e => by
  have e1 : (match x == y with
    | true => some gm
    | false => cs.lookup x) = some fm := e
  cases q : x == y with
  | true =>
    rw [q] at e1
    cases e1
    have := beq_iff_eq.mp q
    subst this
    obtain ⟨fd, _, hm⟩ := T
    exact ⟨hm, D⟩
  | false =>
    rw [q] at e1
    exact C x fm e1
section
variable {X : Cx} {Y : Yx I} {ct : Str → Addr} {k i np : Nat} {x : Str} {ps : List Str} {cs : List (Str × (List W → FR))} {p pos : Pos} {e : Expr} {es : List Expr} {fs : List (Rho → R (Md × W))}
theorem pem_callL (C : Cands X ct k ps cs) (hct : Y.ct = ct) (hr : Room k X.A) (tk : Takes X Y.wx) (hv : PE X (.Name x p) (tVar i)) (ha : PAM X Y (e :: es) fs) (hn : fs.length = ps.length)
    (he : starEach (e :: es) X.env = (false, eval e X.env) :: starEach es X.env := by rfl) (hpl : (backTo pos (starEach es X.env)).any (·.1) = false := by rfl) :
    PEM X Y (.Call (.Name x p) (e :: es) [] pos) (mCallL I i cs fs) := ⟨fun pins s σ H Q J hq => by
  obtain ⟨F, ρ, S, q⟩ := hq
  unfold mCallL at q
  split at q
  · rename_i y ey
    split at q
    · rename_i fm ef
      obtain ⟨hga, f, fd, h1, h2, h3, h4, _⟩ := C y fm ef
      rw [hga] at h1
      cases h1
      subst hct
      obtain ⟨v, ev, rv⟩ := S.slot i _ ey
      cases (show v = .ref (He.ga X.K y) from rv)
      refine wpAny_Call_Name_kw (thn (hv.run pins s σ H (fun u H2 => u = .ref (He.ga X.K y) ∧ H2 = H) J ⟨_, ev, rfl, rfl⟩) fun u s1 ⟨v1, H1, J1, r1, e1, e2⟩ => ?_)
      subst e1 e2
      cases r1
      have hw := call_of hn (Y := Y) (J := []) (fm := fm) (σ := σ) (Q := Q) ⟨F, ρ, S, q⟩
      refine PySem.W.callWith_K (h₀ := X.base) J1.ok.mod.kin h2 (thn (ha.run pos pins s1 σ _ _ J1 hw) fun us s2 ⟨vs, H2, J2, r2, q2⟩ => ⟨J2.kIn, ?_⟩) he hpl
      exact run_fnS h4 hr h3 (passAt tk σ) J2 r2 q2
    · exact q.elim
  · exact q.elim⟩
end
end ML

set_option maxHeartbeats 4000000
namespace ML
open PySem PySem.Spec PyProof.Rows L2 He
/-! ### the head's facts -/
def tupAtB (K : PySem.W.Frag) (p : PySem.W.Frag → Addr) (vs : List Dv) : Bool := match K.lookup (p K) with
  | some ⟨.type c, _, .seq its _, _⟩ => decide (c = "tuple") && (decide (its.size ≤ sizeLine) && relAll (vs.map (Dv.v K)) its.toList)
  | _ => false
theorem tupAtB_ok {K : PySem.W.Frag} {p : PySem.W.Frag → Addr} {vs : List Dv} (h : tupAtB K p vs = true) : TupK K (p K) (vs.map (Dv.v K)) := by
  unfold tupAtB at h
  split at h
  · rename_i oc od its n osl q
    obtain ⟨h1, h2⟩ := ba h
    obtain ⟨h3, h4⟩ := ba h2
    exact ⟨_, its, n, q, congrArg Value.type (of_decide_eq_true h1), rfl, of_decide_eq_true h3, relAll_ok h4⟩
  · cases h
def lstAtB (K : PySem.W.Frag) (p : PySem.W.Frag → Addr) (vs : List Dv) : Bool := match K.lookup (p K) with
  | some ⟨.type c, none, .seq its _, _⟩ => decide (c = "list") && (decide (its.size ≤ sizeLine) && relAll (vs.map (Dv.v K)) its.toList)
  | _ => false
theorem lstAtB_ok {K : PySem.W.Frag} {p : PySem.W.Frag → Addr} {vs : List Dv} (h : lstAtB K p vs = true) : LstK K (p K) (vs.map (Dv.v K)) := by
  unfold lstAtB at h
  split at h
  · rename_i oc its n osl q
    obtain ⟨h1, h2⟩ := ba h
    obtain ⟨h3, h4⟩ := ba h2
    exact ⟨_, its, n, q, congrArg Value.type (of_decide_eq_true h1), rfl, rfl, of_decide_eq_true h3, relAll_ok h4⟩
  · cases h
/-- the i-th value of the dict x, of the tuple at p -/
def dvAt (x : Str) (i : Nat) (K : PySem.W.Frag) : Addr := match K.lookup (ga K x) with
  | some ⟨_, _, .dict es _, _⟩ => (match es.toList[i]? with
    | some e => (match e.val with
      | .ref a => a
      | _ => 0)
    | none => 0)
  | _ => 0
def sqAt (p : PySem.W.Frag → Addr) (i : Nat) (K : PySem.W.Frag) : Addr := match K.lookup (p K) with
  | some ⟨_, _, .seq its _, _⟩ => (match its.toList[i]? with
    | some (.ref a) => a
    | _ => 0)
  | _ => 0
def gaP (x : Str) (K : PySem.W.Frag) : Addr := ga K x
def dctB (K : PySem.W.Frag) (x : Str) (vs : List Dv) : Bool := match K.lookup (ga K x) with
  | some ⟨.type c, none, .dict es n, sl⟩ => decide (c = "dict") && (sl.isEmpty && (!(ga K x == sysModules) && relAll (vs.map (Dv.v K)) (es.toList.map (·.val))))
  | _ => false
theorem dctK_ok {K : PySem.W.Frag} {w : World} {x : Str} {vs : List Dv} {ks : List Str} (h : dctB K x vs = true) (hk : dicW K (ga K x) = some (keysIn w.params ks)) : DctK K w (ga K x) ks (vs.map (Dv.v K)) := by
  unfold dctB at h
  split at h
  · rename_i c es n sl q
    obtain ⟨h1, h2⟩ := ba h
    obtain ⟨h3, h4⟩ := ba h2
    obtain ⟨h5, h6⟩ := ba h4
    have e1 : c = "dict" := of_decide_eq_true h1
    have e2 : sl = #[] := Array.isEmpty_iff.mp h3
    have e5 : (ga K x == sysModules) = false := by
      cases z : (ga K x == sysModules) with
      | false => rfl
      | true => rw [z] at h5; cases h5
    subst e1
    subst e2
    refine ⟨es, n, q, ?_, relAll_ok h6, e5⟩
    unfold dicW at hk
    rw [q] at hk
    dsimp only at hk
    split at hk
    · exact Option.some.inj hk
    · cases hk
  · cases h
/-- a Hook with one more Bool -/
abbrev AlM : Type := AlT × Bool
def obsM (fa : List Fa) (fn : List DefD) (ts : List Tab) (more : PySem.W.Frag → Bool) (K : PySem.W.Frag) : AlM := (obsT fa fn ts K, more K)
def valM (fn : List DefD) (ts : List Tab) (w : World) : AlM := (valT fn ts w, true)
def obsMG (n : Nat) (fa : List Fa) (fn : List DefD) (ts : List Tab) (more : PySem.W.Frag → Bool) (g : Addr → Option Obj) : AlM := obsM fa fn ts more (frG g (asD g n))
def SaysM (fa : List Fa) (fn : List DefD) (ts : List Tab) (more : PySem.W.Frag → Bool) (w : World) (K : PySem.W.Frag) : Prop := obsM fa fn ts more K = valM fn ts w
def hookM (n : Nat) (fa : List Fa) (fn : List DefD) (ts : List Tab) (more : PySem.W.Frag → Bool) : PySem.W.Hook where
  α := AlM
  obs := fun s => obsMG n fa fn ts more s.heap.get?
  val := fun w => valM fn ts w
  says := fun w h => ∃ K : PySem.W.Frag, K.In h ∧ SaysM fa fn ts more w K
  of := fun _ _ e => ⟨_, frG_in, e⟩
  keeps := fun _ _ _ ⟨K, hK, c⟩ k => ⟨K, PySem.W.Frag.In.keeps hK k, c⟩
theorem obsMG_eq {n : Nat} {fa : List Fa} {fn : List DefD} {ts : List Tab} {more : PySem.W.Frag → Bool} {g : Addr → Option Obj} {s : Shared} (h : ∀ a, g a = s.heap.get? a) : obsMG n fa fn ts more g = (hookM n fa fn ts more).obs s := by
  have e : g = s.heap.get? := funext h
  rw [e] <;> rfl
section
variable {fa : List Fa} {fn : List DefD} {ts : List Tab} {more : PySem.W.Frag → Bool} {w : World} {K : PySem.W.Frag}
theorem SaysM.t (c : SaysM fa fn ts more w K) : SaysT fa fn ts w K := congrArg (fun z : AlM => z.1) c
theorem SaysM.m (c : SaysM fa fn ts more w K) : more K = true := congrArg (fun z : AlM => z.2) c
theorem SaysM.fact (c : SaysM fa fn ts more w K) (i : Nat) {f : Fa} (h : fa[i]? = some f := by rfl) : f.ok K = true := c.t.d.fact i h
theorem SaysM.tabK (c : SaysM fa fn ts more w K) (i : Nat) {t : Tab} (h : ts[i]? = some t := by rfl) : dicW K (t.1 K) = some (keysIn w.params t.2) := by
  have e : ts.map (fun t => dicW K (t.1 K)) = ts.map fun t => some (keysIn w.params t.2) := congrArg (fun z : AlT => z.2) c.t
  have e2 : (ts.map fun t => dicW K (t.1 K))[i]? = (ts.map fun t => some (keysIn w.params t.2))[i]? := by rw [e]
  rw [List.getElem?_map, List.getElem?_map, h] at e2
  exact Option.some.inj e2
/-- all of some checks -/
theorem all_at {l : List (PySem.W.Frag → Bool)} (h : (l.all fun f => f K) = true) (i : Nat) {f : PySem.W.Frag → Bool} (e : l[i]? = some f := by rfl) : f K = true := List.all_eq_true.mp h f (List.mem_of_getElem? e)
theorem src_ok {h : Heap} {mg : Str → Option Value} (X : K.In h) (G : h.Ns mainGlobals mg) (c : SaysM fa fn ts more w K) (i j : Nat) {x : Str} {st : Stmt} (e : fn[i]? = some ⟨(x, none), x, x, defArgs st, defBody st, defScope st, [], []⟩ := by rfl) (e2 : fa[j]? = some (.glo x) := by rfl) : Src K mg x st := by
  obtain ⟨fd, F⟩ := c.t.d.def_ i e
  exact ⟨fd, F, glo_ok X G (c.fact j e2)⟩
end
/-! ### the law -/
theorem fn0 {P : Program} {w : World} {K : PySem.W.Frag} {mg : Str → Option Value} {base : Heap} {k : Nat} {f : Addr} {fd : FuncData} {ps : List Str} {sp : Sp} (F : FnOk P w K mg base (L2.CX P w) k f fd ps sp) : FnOk P w K mg base CX0 k f fd ps (fun vs H Q _ => sp vs H Q fun _ _ _ => False) :=
  ⟨fun vs H Q _ h => F.len vs H Q _ h, fun A outer s H args us vs Q E hr he hb hv hs => codeAny_mono (F.run A outer s H args us vs Q _ hr he hb hv hs) fun r s' hq => by
    cases r with
    | ok fl => cases fl <;> exact hq
    | error e =>
      obtain ⟨_, _, _, _, _, _, _, _, _, _, _, _, z⟩ := (show L2.CX P w outer H s (fun _ _ _ => False) e s' from hq)
      exact z.elim⟩
/-- what is wanted of the law's mirror -/
def spEnd (K : PySem.W.Frag) (fm : List W → FR) : Sp := fun vs H Q _ => spM K (He.ga K) [] 1 fm vs H Q fun _ _ _ => False
theorem end_sp {K : PySem.W.Frag} {fm : List W → FR} (hfm : ∀ ns : List Int, ns.length ≤ 63 → fm [.frl (ns.map W.int)] = .ok false (.bl true) []) (H : Hp) (a : Addr) (ns : List Int) (hn : ns.length ≤ 63) (hO : Only H) (hS : SqL K H a (ns.map V.int)) :
    spEnd K fm [.ref a] H (fun v _ => v = .bl true) fun _ _ _ => False := by
  have reps : ∀ (F : Fz) (H : Hp) (l : List Int), RepL K F H (l.map W.int) (l.map V.int) := fun F H l => by
    induction l with
    | nil => rfl
    | cons i l ih => exact ⟨_, _, rfl, rfl, ih⟩
  have hF : FrlL K H a (ns.map V.int) := by
    rcases hS with (h | h) | h
    · rcases hO a with q | ⟨o, xs, q⟩
      · rw [q] at h; cases h
      · rw [q] at h; cases h
    · exact .inl h
    · exact .inr h
  refine ⟨fun _ => False, [.frl (ns.map W.int)], rfl, fun _ h => h.elim, ⟨.ref a, [], rfl, ⟨a, _, rfl, hF, reps _ _ _⟩, rfl⟩, ⟨rfl, fun p hp => by cases hp⟩, ?_⟩
  rw [hfm ns hn]
  intro F' H' v _ _ h
  exact h
/-- the law's def as the end wants it -/
theorem end_fn {P : Program} {w : World} {K : PySem.W.Frag} {mg : Str → Option Value} {k : Nat} {x p : Str} {st : Stmt} {f : Addr} {fm : List W → FR} (T : Src K mg x st) (hfa : mg x = some (.ref f))
    (hb : ∀ (fd : FuncData), FunD K x x (defArgs st) (defBody st) (defScope st) [] [] (He.ga K x) fd → ∀ (s : Shared) (v : Value), BindsTo s fd ⟨[v], []⟩ [(p, v)])
    (D : ∀ base : Heap, K.In base → base.Ns mainGlobals mg → Def P w K mg base (He.ga K) k x [p] [] fm) :
    ∃ fd : FuncData, (∀ (s : Shared) (v : Value), BindsTo s fd ⟨[v], []⟩ [(p, v)]) ∧ ∀ base : Heap, K.In base → base.Ns mainGlobals mg → FnOk P w K mg base CX0 k f fd [p] (spEnd K fm) := by
  obtain ⟨fd, F, hm⟩ := T
  refine ⟨fd, hb fd F, fun base hK hG => ?_⟩
  obtain ⟨f', fd', h1, _, _, h4, oc, od, osl, lk⟩ := D base hK hG
  rw [hfa] at h1 hm
  cases h1
  have e : f = He.ga K x := by cases hm; rfl
  obtain ⟨oc2, od2, _, _, _, _, _, _, _, osl2, _, lk2, _⟩ := F.ex
  rw [e, lk2] at lk
  cases lk
  exact fn0 h4
end ML

set_option maxHeartbeats 4000000
namespace ML
open PySem PySem.Spec PyProof.Rows L2
/-! ### reckoning with mirrors: what each does at a frame that is known -/
section
variable {α β : Type} {I J : List Nat} {ρ : Rho}
@[simp] theorem ev_bo (a : α) (ρ : Rho) (k : α → Rho → R β) : R.bind (.ok a ρ) k = k a ρ := rfl
@[simp] theorem ev_bs (k : α → Rho → R β) : R.bind .stk k = .stk := rfl
@[simp] theorem ev_bx (c : Str) (ns : List Str) (ws : List W) (ρ : Rho) (k : α → Rho → R β) : R.bind (.exc c ns ws ρ) k = .exc c ns ws ρ := rfl
@[simp] theorem ev_ls (a : α) : lift (some a) ρ = .ok a ρ := rfl
@[simp] theorem ev_ln : lift (none : Option α) ρ = .stk := rfl
theorem ev_var (i : Nat) : mVar i ρ = (match ρ[i]? with
  | some (.val w) => .ok (.val, w) ρ
  | some (.own w) => .ok (.bor i, w) ρ
  | _ => .stk) := rfl
@[simp] theorem ev_c (w : W) : mC w ρ = .ok (.val, w) ρ := rfl
@[simp] theorem ev_op (g : GW) (fa fb : Rho → R (Md × W)) : mOp g fa fb ρ = (fa ρ).bind fun x ρ1 => (fb ρ1).bind fun y ρ2 => (match peek x.1 x.2 ρ2, peek y.1 y.2 ρ2 with
  | some u, some v => lift (g u v) ρ2
  | _, _ => .stk) := rfl
@[simp] theorem ev_pv (w : W) : peek .val w ρ = some w := rfl
@[simp] theorem ev_pf (w : W) : peek .fre w ρ = some w := rfl
@[simp] theorem ev_pb (i : Nat) (w : W) : peek (.bor i) w ρ = (match ρ[i]? with
  | some (.own u) => some u
  | some (.val u) => some u
  | _ => none) := rfl
@[simp] theorem ev_tv (w : W) : toVal I (.val, w) ρ = .ok w ρ := rfl
@[simp] theorem ev_tf (w : W) : toVal I (.fre, w) ρ = .ok w ρ := rfl
@[simp] theorem ev_tb (i : Nat) (w : W) : toVal I (.bor i, w) ρ = (match ρ[i]? with
  | some (.own u) => if i ∈ I then .stk else .ok u (ρ.set i (.val u))
  | some (.val u) => .ok u ρ
  | _ => .stk) := rfl
@[simp] theorem ev_seq (g g' : Rho → R Fl) : mSeq g g' ρ = thenF (g ρ) g' := rfl
@[simp] theorem ev_tn (k : Rho → R Fl) : thenF (.ok .nx ρ) k = k ρ := rfl
@[simp] theorem ev_tr (m : Md) (w : W) (k : Rho → R Fl) : thenF (.ok (.rt m w) ρ) k = .ok (.rt m w) ρ := rfl
@[simp] theorem ev_tbk (k : Rho → R Fl) : thenF (.ok .bk ρ) k = .ok .bk ρ := rfl
@[simp] theorem ev_tct (k : Rho → R Fl) : thenF (.ok .ct ρ) k = .ok .ct ρ := rfl
@[simp] theorem ev_ts (k : Rho → R Fl) : thenF .stk k = .stk := rfl
@[simp] theorem ev_tx (c : Str) (ns : List Str) (ws : List W) (k : Rho → R Fl) : thenF (.exc c ns ws ρ) k = .exc c ns ws ρ := rfl
@[simp] theorem ev_lpn (k : Rho → R Fl) : loopF (.ok .nx ρ) k = k ρ := rfl
@[simp] theorem ev_lpc (k : Rho → R Fl) : loopF (.ok .ct ρ) k = k ρ := rfl
@[simp] theorem ev_lpb (k : Rho → R Fl) : loopF (.ok .bk ρ) k = .ok .nx ρ := rfl
@[simp] theorem ev_lpr (m : Md) (w : W) (k : Rho → R Fl) : loopF (.ok (.rt m w) ρ) k = .ok (.rt m w) ρ := rfl
@[simp] theorem ev_next : mNext ρ = .ok .nx ρ := rfl
@[simp] theorem ev_set (i : Nat) (f : Rho → R (Md × W)) : mSet I i f ρ = (f ρ).bind fun b ρ1 => mStore I i b ρ1 := rfl
@[simp] theorem ev_sv (i : Nat) (w : W) : mStore I i (.val, w) ρ = if i ∈ I then .stk else .ok .nx (ρ.set i (.val w)) := by
  unfold mStore
  rfl
@[simp] theorem ev_sf (i : Nat) (w : W) : mStore I i (.fre, w) ρ = if i ∈ I then .stk else .ok .nx (ρ.set i (.own w)) := by
  unfold mStore
  rfl
@[simp] theorem ev_sb (i j : Nat) (w : W) : mStore I i (.bor j, w) ρ = if i ∈ I then .stk else (toVal I (.bor j, w) ρ).bind fun w ρ1 => .ok .nx (ρ1.set i (.val w)) := by
  unfold mStore
  rfl
@[simp] theorem ev_drop (f : Rho → R (Md × W)) : mDrop f ρ = (f ρ).bind fun _ ρ1 => .ok .nx ρ1 := rfl
def retB (I : List Nat) (b : Md × W) (ρ1 : Rho) : R Fl := match b.1 with
  | .val => .ok (.rt .val b.2) ρ1
  | .fre => .ok (.rt .fre b.2) ρ1
  | .bor i => if i ∈ I then .stk else .ok (.rt .fre b.2) (ρ1.set i .no)
@[simp] theorem ev_retv (f : Rho → R (Md × W)) : mRet I f ρ = (f ρ).bind (retB I) := rfl
@[simp] theorem ev_rbv (w : W) : retB I (.val, w) ρ = .ok (.rt .val w) ρ := rfl
@[simp] theorem ev_rbf (w : W) : retB I (.fre, w) ρ = .ok (.rt .fre w) ρ := rfl
@[simp] theorem ev_rbb (i : Nat) (w : W) : retB I (.bor i, w) ρ = if i ∈ I then .stk else .ok (.rt .fre w) (ρ.set i .no) := rfl
@[simp] theorem ev_retn : mRetN ρ = .ok (.rt .val .non) ρ := rfl
@[simp] theorem ev_bool (m : Md) (c : Bool) : boolOf (m, .bl c) ρ = .ok c ρ := rfl
@[simp] theorem ev_test (f : Rho → R (Md × W)) : mTest f ρ = (f ρ).bind boolOf := rfl
@[simp] theorem ev_not (c : Rho → R Bool) : mNot c ρ = (c ρ).bind fun b ρ1 => .ok (!b) ρ1 := rfl
@[simp] theorem ev_and (c c' : Rho → R Bool) : mAnd c c' ρ = (c ρ).bind fun b ρ1 => if b then c' ρ1 else .ok false ρ1 := rfl
@[simp] theorem ev_or (c c' : Rho → R Bool) : mOr c c' ρ = (c ρ).bind fun b ρ1 => if b then .ok true ρ1 else c' ρ1 := rfl
@[simp] theorem ev_notv (f : Rho → R (Md × W)) : mNotV f ρ = ((f ρ).bind boolOf).bind fun b ρ1 => .ok (.val, .bl (!b)) ρ1 := rfl
@[simp] theorem ev_andv (f g : Rho → R (Md × W)) : mAndV f g ρ = ((f ρ).bind boolOf).bind fun b ρ1 => if b then g ρ1 else .ok (.val, .bl false) ρ1 := rfl
@[simp] theorem ev_orv (f g : Rho → R (Md × W)) : mOrV f g ρ = ((f ρ).bind boolOf).bind fun b ρ1 => if b then .ok (.val, .bl true) ρ1 else g ρ1 := rfl
@[simp] theorem ev_ife (c : Rho → R Bool) (f g : Rho → R (Md × W)) : mIfE c f g ρ = (c ρ).bind fun b ρ1 => if b then f ρ1 else g ρ1 := rfl
@[simp] theorem ev_if (c : Rho → R Bool) (f g : Rho → R Fl) : mIf c f g ρ = (c ρ).bind fun b ρ1 => if b then f ρ1 else g ρ1 := rfl
@[simp] theorem ev_isn (n : Bool) (f : Rho → R (Md × W)) : mIsN n f ρ = (f ρ).bind fun x ρ1 => .ok (.val, .bl (if n then !nonW x.2 else nonW x.2)) ρ1 := rfl
@[simp] theorem ev_gset (i : Nat) (w : W) : gSet I i w ρ = if i ∈ I then none else some (ρ.set i (.val w)) := rfl
@[simp] theorem ev_gts (t : W → Rho → Option Rho) (ts : List (W → Rho → Option Rho)) (w : W) (ws : List W) : gTups (t :: ts) (w :: ws) ρ = (t w ρ).bind fun ρ1 => gTups ts ws ρ1 := rfl
@[simp] theorem ev_gtn : gTups [] [] ρ = some ρ := rfl
@[simp] theorem ev_gtup (ts : List (W → Rho → Option Rho)) (l : List W) : gTup ts (.tup l) ρ = gTups ts l ρ := rfl
@[simp] theorem ev_asgt (t : W → Rho → Option Rho) (f : Rho → R (Md × W)) : mAsgT I t f ρ = (f ρ).bind fun b ρ1 => (toVal I b ρ1).bind fun w ρ2 => (match t w ρ2 with
  | some ρ3 => .ok .nx ρ3
  | none => .stk) := rfl
@[simp] theorem ev_forn (tg : W → Rho → Option Rho) (g : Rho → R Fl) : forL tg g [] ρ = .ok .nx ρ := rfl
theorem ev_forc (tg : W → Rho → Option Rho) (g : Rho → R Fl) (w : W) (ws : List W) : forL tg g (w :: ws) ρ = (match tg w ρ with
  | some ρ1 => loopF (g ρ1) (forL tg g ws)
  | none => .stk) := rfl
@[simp] theorem ev_for (it : Rho → R (List W)) (tg : W → Rho → Option Rho) (g : Rho → R Fl) : mFor it tg g ρ = (it ρ).bind fun ws ρ1 => forL tg g ws ρ1 := rfl
@[simp] theorem ev_itt (l : List W) : itemsW (.tup l) = some l := rfl
@[simp] theorem ev_itl (l : List W) : itemsW (.lst l) = some l := rfl
@[simp] theorem ev_itf (l : List W) : itemsW (.frl l) = some l := rfl
@[simp] theorem ev_items (f : Rho → R (Md × W)) : mItems I f ρ = (f ρ).bind fun b ρ1 => (toVal I b ρ1).bind fun w ρ2 => lift (itemsX w) ρ2 := rfl
@[simp] theorem ev_ixt (l : List W) : itemsX (.tup l) = some l := rfl
@[simp] theorem ev_ixl (l : List W) : itemsX (.lst l) = some l := rfl
@[simp] theorem ev_ixf (l : List W) : itemsX (.frl l) = some l := rfl
@[simp] theorem ev_rev (f : Rho → R (Md × W)) : mRev I f ρ = (f ρ).bind fun b ρ1 => (toVal I b ρ1).bind fun w ρ2 => lift ((itemsW w).map List.reverse) ρ2 := rfl
@[simp] theorem ev_hn : mHold [] ρ = .ok [] ρ := rfl
@[simp] theorem ev_hc (f : Rho → R (Md × W)) (fs : List (Rho → R (Md × W))) : mHold (f :: fs) ρ = (f ρ).bind fun b ρ1 => (mHold fs ρ1).bind fun bs ρ2 => .ok (b :: bs) ρ2 := rfl
@[simp] theorem ev_pn : peekL [] ρ = some [] := rfl
@[simp] theorem ev_pc (b : Md × W) (bs : List (Md × W)) : peekL (b :: bs) ρ = (match peek b.1 b.2 ρ, peekL bs ρ with
  | some w, some ws => some (w :: ws)
  | _, _ => none) := rfl
@[simp] theorem ev_vn : valsL I [] ρ = .ok [] ρ := rfl
@[simp] theorem ev_vc (b : Md × W) (bs : List (Md × W)) : valsL I (b :: bs) ρ = (toVal I b ρ).bind fun w ρ1 => (valsL I bs ρ1).bind fun ws ρ2 => .ok (w :: ws) ρ2 := rfl
@[simp] theorem ev_tup (fs : List (Rho → R (Md × W))) : mTup I fs ρ = (mHold fs ρ).bind fun bs ρ1 => (valsL I bs ρ1).bind fun ws ρ2 => if ws.length ≤ sizeLine then .ok (.val, .tup ws) ρ2 else .stk := rfl
@[simp] theorem ev_lst (fs : List (Rho → R (Md × W))) : mLst I fs ρ = (mHold fs ρ).bind fun bs ρ1 => (valsL I bs ρ1).bind fun ws ρ2 => if ws.length ≤ sizeLine then .ok (.fre, .lst ws) ρ2 else .stk := rfl
@[simp] theorem ev_cb (g : GC) (fs : List (Rho → R (Md × W))) : mCB g fs ρ = (mHold fs ρ).bind fun bs ρ1 => (match peekL bs ρ1 with
  | some ws => lift (g ws) ρ1
  | none => .stk) := rfl
@[simp] theorem ev_fun (n : Nat) (g : Rho → R Fl) (args : List W) : mFun J n g args = finF J (g (rho0 J args n)) := rfl
@[simp] theorem ev_fn : finF J (.ok .nx ρ) = (match outsOf J ρ with
  | some outs => .ok false .non outs
  | none => .stk) := rfl
@[simp] theorem ev_fv (w : W) : finF J (.ok (.rt .val w) ρ) = (match outsOf J ρ with
  | some outs => .ok false w outs
  | none => .stk) := by
  unfold finF
  cases h : outsOf J ρ <;> simp [h]
@[simp] theorem ev_ff (w : W) : finF J (.ok (.rt .fre w) ρ) = (match outsOf J ρ with
  | some outs => .ok true w outs
  | none => .stk) := by
  unfold finF
  cases h : outsOf J ρ <;> simp [h]
@[simp] theorem ev_on : outsOf [] ρ = some [] := rfl
@[simp] theorem ev_oc (i : Nat) (is : List Nat) : outsOf (i :: is) ρ = (match ownAt ρ i, outsOf is ρ with
  | some w, some ws => some (w :: ws)
  | _, _ => none) := rfl
theorem ev_own (i : Nat) : ownAt ρ i = (match ρ[i]? with
  | some (.own w) => some w
  | _ => none) := rfl
@[simp] theorem ev_call (fm : List W → FR) (fs : List (Rho → R (Md × W))) : mCall I J fm fs ρ = (mHold fs ρ).bind fun bs ρ1 => (callA I J 0 bs ρ1).bind fun xs ρ2 =>
  if (slotsX xs).Nodup ∧ posX 0 xs = J then (match resX ρ2 xs with
    | some args => (match fm args with
      | .ok fr w outs => .ok (if fr then .fre else .val, w) (putOuts (slotsX xs) outs ρ2)
      | .exc c ns ws outs => .exc c ns ws (putOuts (slotsX xs) outs ρ2)
      | .stk => .stk)
    | none => .stk)
  else .stk := rfl
@[simp] theorem ev_can (k : Nat) : callA I J k [] ρ = .ok [] ρ := rfl
@[simp] theorem ev_cac (k : Nat) (b : Md × W) (bs : List (Md × W)) : callA I J k (b :: bs) ρ = if k ∈ J then (match b.1 with
      | .bor i => (callA I J (k + 1) bs ρ).bind fun xs ρ1 => .ok (.inr i :: xs) ρ1
      | _ => .stk)
    else (toVal I b ρ).bind fun w ρ1 => (callA I J (k + 1) bs ρ1).bind fun xs ρ2 => .ok (.inl w :: xs) ρ2 := rfl
@[simp] theorem ev_sxn : slotsX [] = [] := rfl
@[simp] theorem ev_sxl (w : W) (xs : List (W ⊕ Nat)) : slotsX (.inl w :: xs) = slotsX xs := rfl
@[simp] theorem ev_sxr (i : Nat) (xs : List (W ⊕ Nat)) : slotsX (.inr i :: xs) = i :: slotsX xs := rfl
@[simp] theorem ev_pxn (k : Nat) : posX k [] = [] := rfl
@[simp] theorem ev_pxl (k : Nat) (w : W) (xs : List (W ⊕ Nat)) : posX k (.inl w :: xs) = posX (k + 1) xs := rfl
@[simp] theorem ev_pxr (k i : Nat) (xs : List (W ⊕ Nat)) : posX k (.inr i :: xs) = k :: posX (k + 1) xs := rfl
@[simp] theorem ev_rxn : resX ρ [] = some [] := rfl
@[simp] theorem ev_rxl (w : W) (xs : List (W ⊕ Nat)) : resX ρ (.inl w :: xs) = (resX ρ xs).map (w :: ·) := rfl
@[simp] theorem ev_rxr (i : Nat) (xs : List (W ⊕ Nat)) : resX ρ (.inr i :: xs) = (match ownAt ρ i, resX ρ xs with
    | some w, some ws => some (w :: ws)
    | _, _ => none) := rfl
@[simp] theorem ev_pon (ws : List W) : putOuts [] ws ρ = ρ := by
  unfold putOuts
  rfl
@[simp] theorem ev_poc (i : Nat) (is : List Nat) (w : W) (ws : List W) : putOuts (i :: is) (w :: ws) ρ = putOuts is ws (ρ.set i (.own w)) := rfl
@[simp] theorem ev_app (i : Nat) (fe : Rho → R (Md × W)) : mAppend i I fe ρ = (match ownAt ρ i with
  | some (.lst _) => (fe ρ).bind fun b ρ1 => (toVal I b ρ1).bind fun w ρ2 => (match ownAt ρ2 i with
    | some (.lst l) => if l.length < sizeLine then .ok (.val, .non) (ρ2.set i (.own (.lst (l ++ [w])))) else .stk
    | _ => .stk)
  | _ => .stk) := rfl
@[simp] theorem ev_r1 (fs : List (Rho → R (Md × W))) : mRange1 fs ρ = (mHold fs ρ).bind fun bs ρ1 => (match bs with
  | [(.val, .int j)] => if okR j then .ok (intsW 0 j.toNat) ρ1 else .stk
  | _ => .stk) := rfl
@[simp] theorem ev_r2 (fs : List (Rho → R (Md × W))) : mRange2 fs ρ = (mHold fs ρ).bind fun bs ρ1 => (match bs with
  | [(.val, .int i), (.val, .int j)] => if okR i && okR j then .ok (intsW i (j - i).toNat) ρ1 else .stk
  | _ => .stk) := rfl
@[simp] theorem ev_sl (fa : Rho → R (Md × W)) (lo hi : Option (Rho → R (Md × W))) : mSl fa lo hi ρ = (fa ρ).bind fun x ρ1 => (mPart lo ρ1).bind fun l ρ2 => (mPart hi ρ2).bind fun h ρ3 => (match peek x.1 x.2 ρ3 with
  | some u => lift (gSl u l h) ρ3
  | none => .stk) := rfl
@[simp] theorem ev_mpn : mPart none ρ = .ok none ρ := rfl
@[simp] theorem ev_mps (f : Rho → R (Md × W)) : mPart (some f) ρ = (f ρ).bind fun b ρ1 => (match b.1, b.2 with
    | .val, .int i => .ok (some i) ρ1
    | _, _ => .stk) := rfl
@[simp] theorem ev_join (fx fl : Rho → R (Md × W)) : mJoin fx fl ρ = (fx ρ).bind fun x ρ1 => (match x.1, x.2 with
  | .val, .str a => (mHold [fl] ρ1).bind fun bs ρ2 => (match peekL bs ρ2 with
    | some [y] => lift (gJoin (.str a) y) ρ2
    | _ => .stk)
  | _, _ => .stk) := rfl
@[simp] theorem ev_ink (neg : Bool) (ks : List Str) (fa : Rho → R (Md × W)) : mInK neg ks fa ρ = (fa ρ).bind fun b ρ1 => (match b.1, b.2 with
  | .val, .str z => .ok (.val, .bl (if neg then !(ks.contains z) else ks.contains z)) ρ1
  | _, _ => .stk) := rfl
@[simp] theorem ev_ixk (ks : List Str) (vs : List W) (fa : Rho → R (Md × W)) : mIxK ks vs fa ρ = (fa ρ).bind fun b ρ1 => (match b.1, b.2 with
  | .val, .str z => (match lookW z ks vs with
    | some w => .ok (.val, w) ρ1
    | none => .stk)
  | _, _ => .stk) := rfl
@[simp] theorem ev_storeAt (i : Nat) (fk fe : Rho → R (Md × W)) : mStoreAt i I fk fe ρ = (fe ρ).bind fun b ρ1 => (toVal I b ρ1).bind fun w ρ2 => (match ownAt ρ2 i with
  | some (.lst _) => (fk ρ2).bind fun kb ρ3 => (match kb.1, kb.2, ownAt ρ3 i with
    | .val, .int k, some (.lst l) => (match ixN l.length k with
      | some j => .ok .nx (ρ3.set i (.own (.lst (l.set j w))))
      | none => .stk)
    | _, _, _ => .stk)
  | _ => .stk) := rfl
@[simp] theorem ev_el (f : Rho → R (Md × W)) : mEl I f ρ = (f ρ).bind (toVal I) := rfl
theorem ev_lc (it : Rho → R (List W)) (t : CT) (c : Rho → R Bool) (fe : Rho → R (Md × W)) : mLc I it t c fe ρ = (it ρ).bind fun ws ρ1 => if t.ix.all (fun i => decide (i ∉ I)) then noExc (compL t.ix t.put c (mEl I fe) [] ws ρ1) else .stk := rfl
@[simp] theorem ev_nx (a : α) : noExc (.ok a ρ) = .ok a ρ := rfl
@[simp] theorem ev_yes : mYes ρ = .ok true ρ := rfl
@[simp] theorem ev_thru (g : Rho → R Fl) : mThru g ρ = noExc (g ρ) := rfl
@[simp] theorem ev_rhoA (k : Nat) (w : W) (ws : List W) : rhoA J k (w :: ws) = (if k ∈ J then .own w else .val w) :: rhoA J (k + 1) ws := rfl
@[simp] theorem ev_rhoN (k : Nat) : rhoA J k [] = [] := rfl
@[simp] theorem ev_rho0 (args : List W) (n : Nat) : rho0 J args n = rhoA J 0 args ++ List.replicate (n - args.length) .no := rfl
end
/-! ### operators at known values -/
@[simp] theorem ev_addI (i j : Int) : gAdd (.int i) (.int j) = some (.val, .int (i + j)) := rfl
theorem ev_addS (x y : Str) : gAdd (.str x) (.str y) = if x.length + y.length ≤ sizeLine then some (.val, .str (x ++ y)) else none := rfl
@[simp] theorem ev_addL (x y : List W) : gAdd (.lst x) (.lst y) = if x.length + y.length ≤ sizeLine then some (.fre, .lst (x ++ y)) else none := rfl
@[simp] theorem ev_addT (x y : List W) : gAdd (.tup x) (.tup y) = if x.length + y.length ≤ sizeLine then some (.val, .tup (x ++ y)) else none := rfl
@[simp] theorem ev_sub (i j : Int) : gSub (.int i) (.int j) = some (.val, .int (i - j)) := rfl
@[simp] theorem ev_mulI (i j : Int) : gMul (.int i) (.int j) = if okMul i j then some (.val, .int (i * j)) else none := rfl
theorem ev_mod {i j : Int} (h : 0 < j) : gMod (.int i) (.int j) = some (.val, .int (i % j)) := by
  unfold gMod gI
  simp [h]
theorem ev_div {i j : Int} (h : 0 < j) (h' : j < 1073741824) : gFdiv (.int i) (.int j) = some (.val, .int (i / j)) := by
  unfold gFdiv gI
  simp [h, h']
@[simp] theorem ev_cmp (p : Int → Int → Bool) (i j : Int) : gCmp p (.int i) (.int j) = some (.val, .bl (p i j)) := rfl
@[simp] theorem ev_intI (i : Int) : gInt [.int i] = some (.val, .int i) := rfl
@[simp] theorem ev_intB (k : Bool) : gInt [.bl k] = some (.val, .int (if k then 1 else 0)) := rfl
@[simp] theorem ev_strS (a : Str) : gStr [.str a] = some (.val, .str a) := rfl
@[simp] theorem ev_lenT (l : List W) : gLen [.tup l] = some (.val, .int l.length) := rfl
@[simp] theorem ev_lenL (l : List W) : gLen [.lst l] = some (.val, .int l.length) := rfl
@[simp] theorem ev_lenF (l : List W) : gLen [.frl l] = some (.val, .int l.length) := rfl
theorem ev_lenS (a : Str) : gLen [.str a] = if a.length ≤ sizeLine then some (.val, .int a.length) else none := rfl
@[simp] theorem ev_min (i j : Int) : gMin [.int i, .int j] = some (.val, .int (if j < i then j else i)) := rfl
@[simp] theorem ev_max (i j : Int) : gMax [.int i, .int j] = some (.val, .int (if j > i then j else i)) := rfl
@[simp] theorem ev_tcT (l : List W) : gTupC [.tup l] = some (.val, .tup l) := rfl
@[simp] theorem ev_tcL (l : List W) : gTupC [.lst l] = some (.val, .tup l) := rfl
@[simp] theorem ev_tcF (l : List W) : gTupC [.frl l] = some (.val, .tup l) := rfl
@[simp] theorem ev_ixT (l : List W) (i : Int) : gIx (.tup l) (.int i) = (atI l i).map fun w => (.val, w) := rfl
@[simp] theorem ev_ixL (l : List W) (i : Int) : gIx (.lst l) (.int i) = (atI l i).map fun w => (.val, w) := rfl
@[simp] theorem ev_ixF (l : List W) (i : Int) : gIx (.frl l) (.int i) = (atI l i).map fun w => (.val, w) := rfl
theorem ev_ixS (z : Str) (i : Int) : gIx (.str z) (.int i) = if z.length ≤ sizeLine then (atI z.cps.toList i).map fun c => (.val, .str ⟨#[c]⟩) else none := rfl
section
variable {α : Type}
theorem atI_nat (l : List α) (n : Nat) : atI l (n : Int) = l[n]? := by
  unfold atI ixN
  rw [if_pos (Int.natCast_nonneg n)]
  by_cases h : n < l.length
  · rw [if_pos (by omega)]
    simp
  · rw [if_neg (by omega)]
    simp [List.getElem?_eq_none (Nat.le_of_not_lt h)]
@[simp] theorem atI_0 (l : List α) : atI l 0 = l[0]? := atI_nat l 0
@[simp] theorem atI_1 (l : List α) : atI l 1 = l[1]? := atI_nat l 1
@[simp] theorem atI_lit (l : List α) (n : Nat) : atI l (no_index (OfNat.ofNat n) : Int) = l[n]? := atI_nat l n
theorem atI_of {l : List α} {i : Int} {n : Nat} (h : i = n) : atI l i = l[n]? := by rw [h, atI_nat]
end
/-! ### == on texts, whole numbers; in -/
theorem ev_eqS (x y : Str) : eqW (.str x) (.str y) = some (decide (x = y)) := by
  have h : eqW (.str x) (.str y) = some (decide (V.str x = V.str y)) := rfl
  rw [h]
  simp
theorem ev_eqI (x y : Int) : eqW (.int x) (.int y) = some (decide (x = y)) := by
  have h : eqW (.int x) (.int y) = some (decide (V.int x = V.int y)) := rfl
  rw [h]
  simp
@[simp] theorem ev_gEqS (x y : Str) : gEq (.str x) (.str y) = some (.val, .bl (decide (x = y))) := by
  unfold gEq
  rw [ev_eqS]
  rfl
@[simp] theorem ev_gEqI (x y : Int) : gEq (.int x) (.int y) = some (.val, .bl (decide (x = y))) := by
  unfold gEq
  rw [ev_eqI]
  rfl
@[simp] theorem ev_gNeS (x y : Str) : gNe (.str x) (.str y) = some (.val, .bl (!decide (x = y))) := by
  unfold gNe
  rw [ev_eqS]
  rfl
@[simp] theorem ev_gNeI (x y : Int) : gNe (.int x) (.int y) = some (.val, .bl (!decide (x = y))) := by
  unfold gNe
  rw [ev_eqI]
  rfl
theorem inV_str (x : Str) (l : List Str) : inV (V.str x) (l.map V.str) = decide (x ∈ l) := by
  unfold inV
  induction l with
  | nil => rfl
  | cons y l ih =>
    rw [List.map_cons, List.any_cons, ih]
    have e : eqV (V.str y) (V.str x) = decide (y = x) := by
      have : eqV (V.str y) (V.str x) = (y == x) := rfl
      rw [this]
      by_cases h : y = x <;> simp [h]
    rw [e]
    by_cases h : y = x
    · simp [h]
    · have h' : ¬ x = y := fun z => h z.symm
      simp [h, h']
theorem in_strs (neg : Bool) (x : Str) (l : List Str) (w : W) (h : itemsW w = some (l.map W.str)) (hw : ∀ z, w ≠ .str z) : inW neg (.str x) w = some (if neg then !decide (x ∈ l) else decide (x ∈ l)) := by
  have e1 : (l.map W.str).all flatW = true := by simp [flatW]
  have e2 : (l.map W.str).map toV = l.map V.str := by simp [toV]
  have e3 : inW neg (.str x) w = (match itemsW w with
    | some l => if flatW (.str x) && l.all flatW then some (if neg then !inV (toV (.str x)) (l.map toV) else inV (toV (.str x)) (l.map toV)) else none
    | none => none) := by
    cases w with
    | str z => exact (hw z rfl).elim
    | _ => rfl
  rw [e3, h]
  dsimp only
  rw [e1, e2, show toV (.str x) = V.str x from rfl, inV_str]
  rfl
end ML

set_option maxHeartbeats 4000000
namespace ML
open PySem PySem.Spec PyProof.Rows L2
/-! ### texts as lists of code points -/
def S (l : List Nat) : Str := ⟨l.toArray⟩
theorem S_is (l : List Nat) : S l = SX.S l := rfl
theorem S_of (x : Str) : x = S x.cps.toList := rfl
@[simp] theorem S_eq (a b : List Nat) : (S a = S b) = (a = b) := propext ⟨fun h => SX.S_inj h, fun h => by rw [h]⟩
@[simp] theorem S_ite (p : Prop) [Decidable p] (a b : List Nat) : (if p then S a else S b) = S (if p then a else b) := by split <;> rfl
@[simp] theorem S_beq (a b : List Nat) : (S a == S b) = decide (a = b) := SX.S_beq_eq
@[simp] theorem S_cps (a : List Nat) : (S a).cps.toList = a := rfl
@[simp] theorem S_len (a : List Nat) : (S a).length = a.length := SX.S_len a
@[simp] theorem S_cat (a b : List Nat) : S a ++ S b = S (a ++ b) := SX.S_cat a b
theorem line_is : sizeLine = 16777216 := rfl
theorem ev_addSS {a b : List Nat} (h : a.length + b.length ≤ 16777216) : gAdd (.str (S a)) (.str (S b)) = some (.val, .str (S (a ++ b))) := by
  rw [ev_addS, S_len, S_len, S_cat, line_is, if_pos h]
theorem ev_lenSS {a : List Nat} (h : a.length ≤ 16777216) : gLen [.str (S a)] = some (.val, .int a.length) := by
  rw [ev_lenS, S_len, line_is, if_pos h]
theorem ev_ixSS {a : List Nat} {i : Int} (h : a.length ≤ 16777216) : gIx (.str (S a)) (.int i) = (atI a i).map fun c => (.val, .str (S [c])) := by
  rw [ev_ixS, S_len, S_cps, line_is, if_pos h]
  rfl
theorem ev_strI {n : Nat} (h : n < 1000) : gStr [.int n] = some (.val, .str (S (TL.numL n))) := by
  have h1 : ((n : Int)).natAbs.log2 < 1920 := by
    rw [Int.natAbs_natCast]
    have := Nat.log2_le_self n
    omega
  have h2 : gStr [.int n] = if ((n : Int)).natAbs.log2 < 1920 then some (.val, .str (toString (n : Int))) else none := rfl
  rw [h2, if_pos h1]
  exact congrArg (fun z => some (Md.val, W.str z)) (SX.num_S n)
theorem in_SS (neg : Bool) (c : Nat) (l : List Nat) : gIn neg (.str (S [c])) (.str (S l)) = some (.val, .bl (if neg then !decide (c ∈ l) else decide (c ∈ l))) := rfl
theorem in_ST (neg : Bool) (x : List Nat) (l : List (List Nat)) (w : W) (h : itemsW w = some (l.map fun z => W.str (S z))) (hw : ∀ z, w ≠ .str z) : gIn neg (.str (S x)) w = some (.val, .bl (if neg then !decide (x ∈ l) else decide (x ∈ l))) := by
  unfold gIn
  rw [in_strs neg (S x) (l.map S) w (by rw [h, List.map_map]; rfl) hw]
  have e : (S x ∈ l.map S) = (x ∈ l) := propext ⟨fun h => by
    obtain ⟨y, hy, e⟩ := List.mem_map.mp h
    rw [S_eq] at e
    rw [← e]; exact hy, fun h => List.mem_map.mpr ⟨x, h, rfl⟩⟩
  simp only [e]
  rfl
theorem strsW_S : ∀ l : List (List Nat), strsW (l.map fun z => W.str (S z)) = some (l.map S)
  | [] => rfl
  | z :: l => by
    rw [List.map_cons, List.map_cons]
    show (strsW _).map _ = _
    rw [strsW_S l]
    rfl
theorem ev_joinS {a : List Nat} {l : List (List Nat)} {w : W} (hw : itemsW w = some (l.map fun z => W.str (S z))) (h : (l.map List.length).sum + l.length * a.length ≤ 16777216) : gJoin (.str (S a)) w = some (.val, .str (S (TL.joinL a l))) := by
  have e : gJoin (.str (S a)) w = (match itemsW w with
    | some l => (strsW l).bind fun ys => if (ys.map (·.length)).sum + ys.length * (S a).length ≤ 16777216 then some (.val, .str (Txt.join (S a) ys)) else none
    | none => none) := by
    unfold gJoin
    rw [hw]
  rw [e, hw]
  dsimp only
  rw [strsW_S, Option.bind_some, List.map_map, List.length_map, S_len]
  have e2 : (l.map ((fun x : Str => x.length) ∘ S)) = l.map List.length := List.map_congr_left fun x _ => S_len x
  rw [e2, if_pos h]
  have := SX.join_S a l
  exact congrArg (fun z => some (Md.val, W.str z)) this
@[simp] theorem ev_ixs (l : List Nat) : itemsX (.str (S l)) = some (l.map fun c => .str (S [c])) := rfl
/-! ### two lists side by side -/
inductive All2 {α β : Type} (R : α → β → Prop) : List α → List β → Prop
  | nil : All2 R [] []
  | cons {a : α} {b : β} {l : List α} {m : List β} : R a b → All2 R l m → All2 R (a :: l) (b :: m)
theorem All2.imp {α β : Type} {R Q : α → β → Prop} (f : ∀ a b, R a b → Q a b) {l : List α} {m : List β} (h : All2 R l m) : All2 Q l m := by
  induction h with
  | nil => exact .nil
  | cons h _ ih => exact .cons (f _ _ h) ih
theorem All2.len {α β : Type} {R : α → β → Prop} {l : List α} {m : List β} (h : All2 R l m) : l.length = m.length := by
  induction h with
  | nil => rfl
  | cons _ _ ih => rw [List.length_cons, List.length_cons, ih]
theorem All2.same {α : Type} {R : α → α → Prop} : ∀ {l : List α}, (∀ a ∈ l, R a a) → All2 R l l
  | [], _ => .nil
  | a :: l, h => .cons (h a (List.mem_cons_self ..)) (All2.same fun b hb => h b (List.mem_cons_of_mem _ hb))
/-- a comprehension over one name that leaves the frame alone -/
theorem comp2 {α : Type} {i : Nat} {fe : Rho → R W} {g : α → W} {Q : W → α → Prop} {ρ : Rho} (h : ∀ w z, Q w z → fe (ρ.set i (.val w)) = .ok (g z) (ρ.set i (.val w))) :
    ∀ {ws : List W} {zs : List α} {acc : List W} {ρ' : Rho}, All2 Q ws zs → acc.length + ws.length ≤ sizeLine → ρ'.set i .no = ρ → compL [i] (CT.put (.nm i)) mYes fe acc ws ρ' = .ok (.fre, .lst (acc ++ zs.map g)) ρ
  | [], _, acc, ρ', .nil, hl, hr => by
    unfold compL
    rw [if_pos (show acc.length ≤ sizeLine from hl)]
    show R.ok _ (wipeR ρ' [i]) = _
    rw [show wipeR ρ' [i] = ρ'.set i .no from rfl, hr, List.map_nil, List.append_nil]
  | w :: ws, z :: zs, acc, ρ', .cons q qs, hl, hr => by
    have hl' : acc.length + (ws.length + 1) ≤ sizeLine := hl
    unfold compL
    rw [show wipeR ρ' [i] = ρ'.set i .no from rfl, hr]
    show (R.bind (mYes (ρ.set i (.val w))) _) = _
    rw [ev_yes, ev_bo, if_pos rfl, h w z q, ev_bo, if_pos (by omega)]
    rw [comp2 h qs (by rw [List.length_append, List.length_singleton]; omega) (by rw [List.set_set, ← hr, List.set_set]), List.append_assoc]
    rfl
/-- for over one name, an invariant along two lists -/
theorem for_inv {α : Type} {i : Nat} {g : Rho → R Fl} {Q : W → α → Prop} {P : List α → Rho → Prop} (hi : i ∉ ([] : List Nat) ∨ True) : ∀ {ws : List W} {zs : List α} {ρ : Rho}, All2 Q ws zs →
    (∀ w z zs' ρ, Q w z → P (z :: zs') ρ → ∃ ρ1, g (ρ.set i (.val w)) = .ok .nx ρ1 ∧ P zs' ρ1) → P zs ρ → ∃ ρ1, forL (fun w ρ => some (ρ.set i (.val w))) g ws ρ = .ok .nx ρ1 ∧ P [] ρ1
  | [], _, ρ, .nil, _, hp => ⟨ρ, rfl, hp⟩
  | w :: ws, z :: zs, ρ, .cons q qs, h, hp => by
    obtain ⟨ρ1, e, hp1⟩ := h w z zs ρ q hp
    obtain ⟨ρ2, e2, hp2⟩ := for_inv hi qs h hp1
    refine ⟨ρ2, ?_, hp2⟩
    show loopF (g (ρ.set i (.val w))) (forL _ g ws) = _
    rw [e]
    exact e2
theorem gset_is {I : List Nat} {i : Nat} (h : i ∉ I) : gSet I i = fun w ρ => some (ρ.set i (.val w)) := by
  funext w ρ
  unfold gSet
  rw [if_neg h]
@[simp] theorem cut_from (xs : List W) (n : Nat) : cutW xs (some (no_index (OfNat.ofNat n) : Int)) none = xs.drop n := by
  have e : ∀ n : Nat, cutW xs (some (n : Int)) none = xs.drop n := fun n => by
    unfold cutW
    rw [HT.sIx_nat, HT.sIx_none]
    by_cases h : n ≤ xs.length
    · rw [Nat.min_eq_left h, List.take_of_length_le (by rw [List.length_drop]; omega)]
    · rw [Nat.min_eq_right (by omega), List.drop_eq_nil_of_le (Nat.le_refl _), List.drop_eq_nil_of_le (by omega), List.take_nil]
  exact e n
@[simp] theorem cut_from1 (xs : List W) : cutW xs (some 1) none = xs.drop 1 := cut_from xs 1
@[simp] theorem ev_slT (l : List W) (lo hi : Option Int) : gSl (.tup l) lo hi = some (.val, .tup (cutW l lo hi)) := rfl
@[simp] theorem ev_slL (l : List W) (lo hi : Option Int) : gSl (.lst l) lo hi = some (.fre, .lst (cutW l lo hi)) := rfl
/-- [m(x) for x in ..] -/
theorem e_lc1 {α : Type} {m : List W → FR} {i : Nat} {f : Rho → R (Md × W)} {bs : List W} {zs : List α} {g : α → W} {ρ : Rho} (h : All2 (fun b z => m [b] = .ok false (g z) []) bs zs) (hf : f ρ = .ok (.val, .tup bs) ρ) (hi : i < ρ.length) (hn : ρ.set i .no = ρ) (hl : bs.length ≤ sizeLine) :
    mLc [] (mItems [] f) (.nm i) mYes (mCall [] [] m [mVar i]) ρ = .ok (.fre, .lst (zs.map g)) ρ := by
  have e1 : mLc [] (mItems [] f) (.nm i) mYes (mCall [] [] m [mVar i]) ρ = noExc (compL [i] (CT.put (.nm i)) mYes (mEl [] (mCall [] [] m [mVar i])) [] bs ρ) := by
    rw [ev_lc, ev_items, hf]
    simp [CT.ix]
  rw [e1, comp2 (g := g) (Q := fun b z => m [b] = .ok false (g z) []) (ρ := ρ) ?_ h (by simpa using hl) hn]
  · rfl
  · intro w z q
    have e2 : (ρ.set i (.val w))[i]? = some (.val w) := by rw [List.getElem?_set_self hi]
    simp [ev_var, e2, q]
end ML

set_option maxHeartbeats 4000000
namespace ML
open PySem PySem.Spec PyProof.Rows L2
variable {I : List Nat}
/-! ### a text many times -/
def rRepS : R2 := fun x y H Q => ∃ s n, x = .str s ∧ y = .int n ∧ 0 ≤ n ∧ n ≤ 10000 ∧ s.length ≤ 1000 ∧ Q (.str (Txt.mul s n)) H
theorem mulOk_small {s : Str} {n : Int} (h0 : 0 ≤ n) (h1 : n ≤ 10000) (h2 : s.length ≤ 1000) : MulOk s n := by
  refine ⟨by simp; omega, fun h3 _ => ?_, fun h3 _ => ?_⟩
  · have h4 : (92233720368547 : Int) ≤ (2 ^ 63 - 1) / n := by
      refine (Int.le_ediv_iff_mul_le (by omega)).mpr ?_
      omega
    omega
  · obtain ⟨k, rfl⟩ := Int.eq_ofNat_of_zero_le h0
    have h4 : s.length * k ≤ 1000 * 10000 := Nat.mul_le_mul h2 (by omega)
    have h5 : ((k : Int)).toNat = k := rfl
    rw [h5]
    have h6 : 1000 * 10000 ≤ (sizeLine : Nat) := by decide
    exact decide_eq_false (by omega)
theorem op_repS {X : Cx} : OpR X (binaryOp .Mult) rRepS := by
  intro pins s σ H x y v u Q I rx ry h
  obtain ⟨z, n, rfl, rfl, h0, h1, h2, q⟩ := h
  obtain ⟨t, rfl⟩ := rx
  obtain ⟨t2, rfl⟩ := ry
  exact SB.mul (mulOk_small h0 h1 h2) fun t' k => ⟨.str (Txt.mul z n), H, I.tok _, ⟨_, rfl⟩, q⟩
def gMulS : GW
  | .str s, .int n => if 0 ≤ n ∧ n ≤ 10000 ∧ s.length ≤ 1000 then some (.val, .str (Txt.mul s n)) else none
  | x, y => gMul x y
def rMulS : R2 := fun x y H Q => rRepS x y H Q ∨ rMulM x y H Q
theorem o_mulS {X : Cx} : OpR X (binaryOp .Mult) rMulS := OpR.or op_repS o_mul
theorem g_mulS {K : PySem.W.Frag} : OpW K rMulS gMulS := by
  intro x y m z e F H vx vy Q t px py q
  unfold gMulS at e
  split at e
  · split at e
    · rename_i h
      cases e; cases px.str; cases py.int
      exact .inl ⟨_, _, rfl, rfl, h.1, h.2.1, h.2.2, old_val t (K := K) (z := .str _) rfl q⟩
    · cases e
  · exact .inr (g_mul x y m z e F H vx vy Q t px py q)
/-! ### a fresh list, lent as the last argument -/
def finFr (I J : List Nat) (fm : List W → FR) (n : Nat) (ρ : Rho) (bs : List (Md × W)) : R (Md × W) := match callA I J 0 bs ρ with
  | .ok xs ρ3 => if (slotsX xs).Nodup ∧ posX 0 xs = J then (match resX ρ3 xs with
    | some args => (match fm args with
      | .ok fr w outs => .ok (if fr then .fre else .val, w) ((putOuts (slotsX xs) outs ρ3).take n)
      | .exc c ns ws outs => .exc c ns ws ((putOuts (slotsX xs) outs ρ3).take n)
      | .stk => .stk)
    | none => .stk) else .stk
  | _ => .stk
def mCallF (I J : List Nat) (fm : List W → FR) (fs : List (Rho → R (Md × W))) (fl : Rho → R (Md × W)) : Rho → R (Md × W) := fun ρ => (mHold fs ρ).bind fun bs ρ1 => (fl ρ1).bind fun b ρ2 => match b with
  | (.fre, w) => finFr I J fm ρ2.length (ρ2 ++ [.own w]) (bs ++ [(.bor ρ2.length, w)])
  | _ => .stk
def tMAF (K : PySem.W.Frag) (Y : Yx I) (fs : List (Rho → R (Md × W))) (fl : Rho → R (Md × W)) : TA := fun σ H Q => ∃ F ρ, SR K Y.B F H σ ρ ∧ RunG K Y F H σ (mHold fs ρ) fun bs ρ1 F1 H1 => RunG K Y F1 H1 σ (fl ρ1) fun b ρ2 F2 H2 =>
  ∀ F3 vs v, SR K Y.B F3 H2 σ ρ2 → Keeps F2 H2 F3 H2 → HeldL σ K F3 H2 bs vs → VR K Y.B F3 H2 σ ρ2 b.1 b.2 v → Q (vs ++ [v]) H2
def PAMF (X : Cx) (Y : Yx I) (es : List Expr) (fs : List (Rho → R (Md × W))) (fl : Rho → R (Md × W)) : Prop := PA X es (tMAF X.K Y fs fl)
section
variable {X : Cx} {Y : Yx I} {e : Expr} {es : List Expr} {f fl : Rho → R (Md × W)} {fs : List (Rho → R (Md × W))}
theorem pamf_one (h1 : PEM X Y e fl) (hs : starEach [e] X.env = (false, eval e X.env) :: starEach [] X.env := by rfl) : PAMF X Y [e] [] fl := pa_weak (pa_cons h1 pa_nil hs) fun σ H Q hq => by
  obtain ⟨F, ρ, S, q⟩ := hq
  refine ⟨F, ρ, S, (show RunG _ Y F H σ (fl ρ) _ from q F H S .refl).imp fun b ρ1 F1 H1 S1 k1 q1 v hv => ?_⟩
  exact q1 F1 [] v S1 .refl rfl hv
theorem pamf_cons (h1 : PEM X Y e f) (h2 : PAMF X Y es fs fl) (hs : starEach (e :: es) X.env = (false, eval e X.env) :: starEach es X.env := by rfl) : PAMF X Y (e :: es) (f :: fs) fl := pa_weak (pa_cons h1 h2 hs) fun σ H Q hq => by
  obtain ⟨F, ρ, S, q⟩ := hq
  refine ⟨F, ρ, S, (RunG.bind q).imp fun b ρ1 F1 H1 S1 k1 q1 v hv => ?_⟩
  obtain ⟨F1', S1', k1', hd1⟩ := S1.hold hv
  refine ⟨F1', ρ1, S1', (RunG.bind (q1.rebase k1')).imp fun bs ρ2 F2 H2 S2 k2 q2 => ?_⟩
  exact (show RunG _ Y F2 H2 σ (fl ρ2) _ from q2 F2 H2 S2 .refl).imp fun c ρ3 F3 H3 S3 k3 q3 F4 vs u S4 k4 hvs hu => q3 F4 (v :: vs) u S4 k4 ⟨v, vs, rfl, hd1.mono ((k2.trans k3).trans k4), hvs⟩ hu
end
section
variable {K : PySem.W.Frag} {B : Bd} {F : Fz} {H : Hp} {σ : L2.St} {ρ : Rho}
theorem SR.plus (S : SR K B F H σ ρ) {w : W} {v : V} (h : Fre K B F H σ ρ w v) : SR K B F H (σ ++ [some v]) (ρ ++ [.own w]) := by
  obtain ⟨a, rfl, o, nf, h0, hs⟩ := h
  have new : ∀ {j : Nat} {u : W}, (ρ ++ [Sl.own w])[j]? = some (.own u) → (σ ++ [some (.ref a)])[j]? = some (some (.ref a)) → j = ρ.length := fun {j u} h1 h2 => by
    by_cases lt : j < ρ.length
    · rw [List.getElem?_append_left lt] at h1
      rw [List.getElem?_append_left (by rw [S.len]; exact lt)] at h2
      exact absurd h2 (hs j u h1)
    · have : j < (ρ ++ [Sl.own w]).length := (List.getElem?_eq_some_iff.mp h1).1
      simp at this
      omega
  refine ⟨by simp [S.len], fun i s h => ?_, fun i j u u' b h1 h2 e1 e2 => ?_, fun p hp => ?_, S.ext, S.alive, S.f0, S.f1, S.f2⟩
  · by_cases lt : i < ρ.length
    · rw [List.getElem?_append_left lt] at h
      rw [List.getElem?_append_left (by rw [S.len]; exact lt)]
      exact S.slot i s h
    · have : i < (ρ ++ [Sl.own w]).length := (List.getElem?_eq_some_iff.mp h).1
      have e : i = ρ.length := by simp at this; omega
      subst e
      rw [List.getElem?_append_right (Nat.le_refl _), Nat.sub_self] at h
      cases (Option.some.inj h)
      rw [← S.len, List.getElem?_append_right (Nat.le_refl _), Nat.sub_self]
      exact ⟨a, rfl, o, nf, fun k => k.1 h0⟩
  · by_cases li : i < ρ.length
    · by_cases lj : j < ρ.length
      · rw [List.getElem?_append_left li] at h1
        rw [List.getElem?_append_left lj] at h2
        rw [List.getElem?_append_left (by rw [S.len]; exact li)] at e1
        rw [List.getElem?_append_left (by rw [S.len]; exact lj)] at e2
        exact S.sep i j u u' b h1 h2 e1 e2
      · have : j < (ρ ++ [Sl.own w]).length := (List.getElem?_eq_some_iff.mp h2).1
        have e : j = ρ.length := by simp at this; omega
        have e2' := e2
        rw [e, ← S.len, List.getElem?_append_right (Nat.le_refl _), Nat.sub_self] at e2'
        have eb : a = b := by simpa using e2'
        subst eb
        rw [e]
        exact new h1 e1
    · have : i < (ρ ++ [Sl.own w]).length := (List.getElem?_eq_some_iff.mp h1).1
      have e : i = ρ.length := by simp at this; omega
      have e1' := e1
      rw [e, ← S.len, List.getElem?_append_right (Nat.le_refl _), Nat.sub_self] at e1'
      have eb : a = b := by simpa using e1'
      subst eb
      rw [e, new h2 e2]
  · obtain ⟨h1, u, h2⟩ := S.lent p hp
    have l1 : p.1 < σ.length := (List.getElem?_eq_some_iff.mp h1).1
    have l2 : p.1 < ρ.length := (List.getElem?_eq_some_iff.mp h2).1
    exact ⟨by rw [List.getElem?_append_left l1]; exact h1, u, by rw [List.getElem?_append_left l2]; exact h2⟩
theorem SR.minus {F' : Fz} {H' : Hp} {σ' : L2.St} {ρ' : Rho} (S : SR K B F' H' (σ ++ σ') ρ') (hI : ∀ p ∈ B.I, p.1 < σ.length) : SR K B F' H' σ (ρ'.take σ.length) := by
  have at_ : ∀ {i : Nat} {s : Sl}, (ρ'.take σ.length)[i]? = some s → i < σ.length ∧ ρ'[i]? = some s := fun {i s} h => by
    rw [List.getElem?_take] at h
    split at h
    · exact ⟨by assumption, h⟩
    · cases h
  refine ⟨?_, fun i s h => ?_, fun i j u u' b h1 h2 e1 e2 => ?_, fun p hp => ?_, S.ext, S.alive, S.f0, S.f1, S.f2⟩
  · rw [List.length_take, ← S.len, List.length_append]; omega
  · obtain ⟨l, h1⟩ := at_ h
    have := S.slot i s h1
    rwa [List.getElem?_append_left l] at this
  · obtain ⟨l1, g1⟩ := at_ h1
    obtain ⟨l2, g2⟩ := at_ h2
    exact S.sep i j u u' b g1 g2 (by rw [List.getElem?_append_left l1]; exact e1) (by rw [List.getElem?_append_left l2]; exact e2)
  · obtain ⟨h1, u, h2⟩ := S.lent p hp
    have l := hI p hp
    rw [List.getElem?_append_left l] at h1
    exact ⟨h1, u, by rw [List.getElem?_take, if_pos l]; exact h2⟩
end
theorem HeldL.plus {σ : L2.St} {K : PySem.W.Frag} {F : Fz} {H : Hp} {v : V} : ∀ {bs : List (Md × W)} {vs : List V}, HeldL σ K F H bs vs → HeldL (σ ++ [some v]) K F H bs vs
  | [], _, h => h
  | (m, w) :: bs, _, ⟨u, r, e, h1, h2⟩ => ⟨u, r, e, by
      cases m with
      | val => exact h1
      | fre => exact h1
      | bor i =>
        have h3 : σ[i]? = some (some u) := h1
        show (σ ++ [some v])[i]? = some (some u)
        rw [List.getElem?_append_left (List.getElem?_eq_some_iff.mp h3).1]
        exact h3, HeldL.plus h2⟩
theorem HeldL.snoc {σ : L2.St} {K : PySem.W.Frag} {F : Fz} {H : Hp} {b : Md × W} {v : V} (hb : Held σ K F H b.1 b.2 v) : ∀ {bs : List (Md × W)} {vs : List V}, HeldL σ K F H bs vs → HeldL σ K F H (bs ++ [b]) (vs ++ [v])
  | [], _, h => by
    have e : _ = [] := h
    subst e
    exact ⟨v, [], rfl, hb, rfl⟩
  | c :: bs, _, ⟨u, r, e, h1, h2⟩ => ⟨u, r ++ [v], by rw [e]; rfl, h1, HeldL.snoc hb h2⟩
theorem HeldL.len {σ : L2.St} {K : PySem.W.Frag} {F : Fz} {H : Hp} : ∀ {bs : List (Md × W)} {vs : List V}, HeldL σ K F H bs vs → vs.length = bs.length
  | [], _, h => by have e : _ = [] := h; rw [e]; rfl
  | b :: bs, _, ⟨v, r, e, _, h⟩ => by rw [e, List.length_cons, List.length_cons, HeldL.len h]
theorem mHold_len : ∀ {fs : List (Rho → R (Md × W))} {ρ ρ' : Rho} {bs : List (Md × W)}, mHold fs ρ = .ok bs ρ' → bs.length = fs.length
  | [], _, _, _, e => by cases e; rfl
  | f :: fs, ρ, ρ', bs, e => by
    have e1 : (f ρ).bind (fun b ρ1 => (mHold fs ρ1).bind fun bs ρ2 => .ok (b :: bs) ρ2) = .ok bs ρ' := e
    cases q1 : f ρ with
    | ok b ρ1 =>
      rw [q1] at e1
      have e2 : (mHold fs ρ1).bind (fun bs ρ2 => R.ok (b :: bs) ρ2) = .ok bs ρ' := e1
      cases q2 : mHold fs ρ1 with
      | ok bs1 ρ2 =>
        rw [q2] at e2
        cases e2
        rw [List.length_cons, List.length_cons, mHold_len q2]
      | exc c ns ws ρ2 => rw [q2] at e2; cases e2
      | stk => rw [q2] at e2; cases e2
    | exc c ns ws ρ1 => rw [q1] at e1; cases e1
    | stk => rw [q1] at e1; cases e1
theorem callF_of {K : PySem.W.Frag} {Y : Yx I} {J : List Nat} {np : Nat} {fm : List W → FR} {fs : List (Rho → R (Md × W))} {fl : Rho → R (Md × W)} {σ : L2.St} {H : Hp} {Q : VK} (hnp : fs.length + 1 = np) (hq : tM K Y (mCallF I J fm fs fl) σ H Q) :
    tMAF K Y fs fl σ H fun vs H1 => spM K Y.ct J np fm vs H1 Q (WE Y.wx σ) := by
  obtain ⟨F, ρ, S, q⟩ := hq
  have hb := RunG.bind q
  have hb2 := RunG.withP (p := fun bs => bs.length + 1 = np) (fun bs ρ1 e => by rw [mHold_len e, hnp]) hb
  refine ⟨F, ρ, S, hb2.imp fun bs ρ1 F1 H1 S1 k1 ⟨hlen, q1⟩ => (RunG.bind q1).imp fun b ρb Fb Hb Sb kb q2 F2 vs v S2 k2 hvs hv => ?_⟩
  replace q2 := q2.rebase k2
  obtain ⟨m, wl⟩ := b
  cases m with
  | val => exact q2.elim
  | bor i => exact q2.elim
  | fre =>
    have SP := S2.plus hv
    have hn : σ.length = ρb.length := S2.len
    have hI : ∀ p ∈ Y.B.I, p.1 < σ.length := fun p hp => (List.getElem?_eq_some_iff.mp (S2.lent p hp).1).1
    have HV : HeldL (σ ++ [some v]) K F2 Hb (bs ++ [(.bor ρb.length, wl)]) (vs ++ [v]) := (hvs.plus).snoc (b := (.bor ρb.length, wl)) (by
      show (σ ++ [some v])[ρb.length]? = some (some v)
      rw [← hn, List.getElem?_append_right (Nat.le_refl _), Nat.sub_self]
      rfl)
    have vl : (vs ++ [v]).length = np := by rw [HV.len, List.length_append]; exact hlen
    replace q2 : RunG K Y F2 Hb σ (finFr I J fm ρb.length (ρb ++ [.own wl]) (bs ++ [(.bor ρb.length, wl)])) _ := q2
    unfold finFr at q2
    cases ec : callA I J 0 (bs ++ [(.bor ρb.length, wl)]) (ρb ++ [.own wl]) with
    | stk => rw [ec] at q2; exact q2.elim
    | exc c ns ws ρx => rw [ec] at q2; exact q2.elim
    | ok xs ρ3 =>
      rw [ec] at q2
      dsimp only at q2
      obtain ⟨F3, xs', ρ3', S3, k3, xr, e1, e2⟩ := callA_ok (Y := Y) (J := J) (P := fun xs' ρ' _ _ => xs' = xs ∧ ρ' = ρ3) SP HV (by rw [ec]; exact fun _ _ _ _ => ⟨rfl, rfl⟩)
      subst e1 e2
      replace q2 := q2.rebase k3
      split at q2
      · rename_i hc
        cases er : resX ρ3' xs' with
        | none => rw [er] at q2; exact q2.elim
        | some args =>
          rw [er] at q2
          dsimp only at q2
          obtain ⟨g1, g2, g3⟩ := x_lent S3 (k := 0) xr er
          have el : lentA J (vs ++ [v]) = (lentX 0 xs' (vs ++ [v])).map fun t => (t.1, t.2.2) := by
            rw [← hc.2, ← g1]
            exact lentA_eq fun t ht => by have := (g3 t ht).2.1; rwa [Nat.sub_zero] at this
          have hl : ∀ (t : Nat × Nat × Addr), t ∈ lentX 0 xs' (vs ++ [v]) → (σ ++ [some v])[t.2.1]? = some (some (.ref t.2.2)) ∧ ∃ w, ρ3'[t.2.1]? = some (.own w) := fun t ht => (g3 t ht).2.2
          have nd : ((lentX 0 xs' (vs ++ [v])).map (·.2.1)).Nodup := by rw [g2]; exact hc.1
          refine ⟨F3, args, vl, S3.f2, x_args S3 xr er (fun j hj _ => by rw [hc.2]; exact hj) (fun j hj => by rw [hc.2] at hj; exact hj), ⟨?_, ?_⟩, ?_⟩
          · rw [el, List.map_map]
            show (lentX 0 xs' (vs ++ [v])).map (·.1) = J
            rw [g1, hc.2]
          · rw [el]
            intro p hp q hq epq
            obtain ⟨t, ht, et⟩ := List.mem_map.mp hp
            obtain ⟨u, hu, eu⟩ := List.mem_map.mp hq
            subst et
            subst eu
            obtain ⟨h1, w1, h2⟩ := hl t ht
            obtain ⟨h3, w2, h4⟩ := hl u hu
            have e1 : t.2.2 = u.2.2 := epq
            rw [← e1] at h3
            have es := S3.sep _ _ _ _ _ h2 h4 h1 h3
            obtain ⟨n, en⟩ := List.mem_iff_getElem?.mp ht
            obtain ⟨m, em⟩ := List.mem_iff_getElem?.mp hu
            have nm := nodup_get nd (i := n) (j := m) (x := t.2.1) (by rw [List.getElem?_map, en]; rfl) (by rw [List.getElem?_map, em, es]; rfl)
            subst nm
            rw [en] at em
            cases em
            rfl
          · have eA : (lentA J (vs ++ [v])).map (·.2) = (lentX 0 xs' (vs ++ [v])).map (·.2.2) := by
              rw [el, List.map_map]
              rfl
            rw [eA, el]
            cases ef : fm args with
            | stk => rw [ef] at q2; exact q2.elim
            | exc c ns ws outs =>
              rw [ef] at q2
              intro F' H' d ee oo x
              obtain ⟨S4, k4⟩ := sr_called S3 hl nd ee oo
              rw [g2] at S4
              have S5 := S4.minus hI
              rw [hn] at S5
              exact q2 F' H' d S5 x
            | ok fr w outs =>
              rw [ef] at q2
              intro F' H' u ee oo hu
              obtain ⟨S4, k4⟩ := sr_called S3 hl nd ee oo
              rw [g2] at S4
              have S5 := S4.minus hI
              rw [hn] at S5
              refine q2 F' H' S5 k4 u ?_
              cases fr with
              | false => exact hu
              | true =>
                obtain ⟨a, ea, o, nf, h0⟩ := hu
                refine ⟨a, ea, o, nf, ?_, fun i w' hi ei => ?_⟩
                · cases q5 : Y.B.H0 a with
                  | none => rfl
                  | some u => exact absurd h0 (S3.alive a (by rw [q5]; exact (fun z => nomatch z)))
                · have li : i < σ.length := (List.getElem?_eq_some_iff.mp ei).1
                  rw [List.getElem?_take, if_pos (by rw [← hn]; exact li)] at hi
                  have ei2 : (σ ++ [some v])[i]? = some (some (.ref a)) := by rw [List.getElem?_append_left li]; exact ei
                  have q6 : ∃ w0, ρ3'[i]? = some (.own w0) := by
                    have hlen2 : outs.length = (slotsX xs').length := by rw [oo.1, ← g2, List.length_map, List.length_map]
                    obtain ⟨_, p2⟩ := putOuts_get (ρ := ρ3') hc.1 hlen2 fun i hi => by
                      rw [← g2] at hi
                      obtain ⟨t, ht, et⟩ := List.mem_map.mp hi
                      obtain ⟨_, w, h2⟩ := hl t ht
                      rw [← et]
                      exact (List.getElem?_eq_some_iff.mp h2).1
                    rcases p2 i with ⟨n, u, e1, _, _⟩ | ⟨_, e1⟩
                    · rw [← g2, List.getElem?_map] at e1
                      obtain ⟨t, et, e1⟩ := Option.map_eq_some_iff.mp e1
                      obtain ⟨_, w0, h2⟩ := hl t (List.mem_of_getElem? et)
                      rw [e1] at h2
                      exact ⟨w0, h2⟩
                    · rw [e1] at hi
                      exact ⟨w', hi⟩
                  obtain ⟨w0, h6⟩ := q6
                  obtain ⟨b, eb, ob, _⟩ := S3.slot i _ h6
                  rw [ei2] at eb
                  cases eb
                  obtain ⟨u, hu, _⟩ := ob.some
                  rw [h0] at hu
                  cases hu
      · exact q2.elim
section
variable {X : Cx} {Y : Yx I} {J : List Nat} {k : Nat} {f : Addr} {fd : FuncData} {ps : List Str} {np : Nat} {fm : List W → FR} {x : Str} {p pos : Pos} {e : Expr} {es : List Expr} {fs : List (Rho → R (Md × W))} {fl : Rho → R (Md × W)}
theorem pem_callF (F : FnOk X.prog X.w X.K X.mg X.base (L2.CX X.prog X.w) k f fd ps (spM X.K Y.ct J np fm)) (hr : Room k X.A) (tk : Takes X Y.wx) (hg : Gl X x) (hm : X.mg x = some (.ref f)) (hk : PySem.W.keepIn X.K (.ref f) = true) (hb : Binds X.K fd ps [])
    (ha : PAMF X Y (e :: es) fs fl) (hn : fs.length + 1 = np) (hdb : (x == ("__debug__" : Str)) = false := by decide) (he : starEach (e :: es) X.env = (false, eval e X.env) :: starEach es X.env := by rfl) (hpl : (backTo pos (starEach es X.env)).any (·.1) = false := by rfl) :
    PEM X Y (.Call (.Name x p) (e :: es) [] pos) (mCallF I J fm fs fl) := pe_weak (pe_callS F hr hg hm hk hb (fun σ => passAt tk σ) ha hdb he hpl) fun _ _ _ hq => callF_of hn hq
end
section
variable {X : Cx} {Y : Yx I} {ct : Str → Addr} {k : Nat} {x : Str} {ps : List Str} {J : List Nat} {fm : List W → FR} {p pos : Pos} {e : Expr} {es : List Expr} {fs : List (Rho → R (Md × W))} {fl : Rho → R (Md × W)}
theorem pem_callFD (D : Def X.prog X.w X.K X.mg X.base ct k x ps J fm) (hct : Y.ct = ct) (hr : Room k X.A) (tk : Takes X Y.wx) (hg : Gl X x) (ha : PAMF X Y (e :: es) fs fl) (hn : fs.length + 1 = ps.length)
    (hdb : (x == ("__debug__" : Str)) = false := by decide) (he : starEach (e :: es) X.env = (false, eval e X.env) :: starEach es X.env := by rfl) (hpl : (backTo pos (starEach es X.env)).any (·.1) = false := by rfl) :
    PEM X Y (.Call (.Name x p) (e :: es) [] pos) (mCallF I J fm fs fl) := by
  obtain ⟨f, fd, h1, h2, h3, h4, _⟩ := D
  subst hct
  exact pem_callF h4 hr tk hg h1 h2 h3 ha hn hdb he hpl
end
end ML

set_option maxHeartbeats 4000000
namespace ML
open PySem PySem.Spec PyProof.Rows L2
variable {I : List Nat}
/-! ### an own class of errors: its __init__ stores its arguments -/
def spI (C : Addr) (ns : List Str) : Sp := fun vs H Q E => ∃ (a : Addr) (ys : List V), vs = .ref a :: ys ∧ ys.length = ns.length ∧ H a = some (exo a C none) ∧ ∀ d, H d = none → d ≠ a → Q .non (upd (upd H d (exd d (ns.zip ys).reverse)) a (exo a C (some d)))
inductive InitB (N : List Str) (sc : Scope) : Nat → List Str → List Stmt → Prop
  | nil {k : Nat} : InitB N sc k [] []
  | cons {k : Nat} {f x : Str} {fs : List Str} {ss : List Stmt} {p p' p2 pos : Pos} : N[k]? = some x → Vis sc x → (x == ("__debug__" : Str)) = false → (x == ("__classdict__" : Str)) = false → InitB N sc (k + 1) fs ss → InitB N sc k (f :: fs) (.Assign [.Attribute (.Name "self" p) f p'] (.Name x p2) pos :: ss)
def tIn (K : PySem.W.Frag) (C : Addr) (k : Nat) (fs : List Str) : TS := fun D σ H => OexC K C ∧ (∀ f ∈ fs, PySem.W.findIn K (.ref C) f = some none) ∧ ∃ (a : Addr) (ys : List V), ys.length = fs.length ∧ σ[0]? = some (some (.ref a)) ∧ (∀ i y, ys[i]? = some y → σ[k + i]? = some (some y)) ∧
  ((H a = some (exo a C none) ∧ fs ≠ [] ∧ fs.length ≤ 900 ∧ ∀ dx, H dx = none → dx ≠ a → D.nx σ (upd (upd H dx (exd dx (fs.zip ys).reverse)) a (exo a C (some dx)))) ∨
    ∃ (dx : Addr) (acc : List (Str × V)), H a = some (exo a C (some dx)) ∧ H dx = some (exd dx acc) ∧ dx ≠ a ∧ acc.length + fs.length ≤ 900 ∧ D.nx σ (upd H dx (exd dx ((fs.zip ys).reverse ++ acc))))
theorem upd_same2 {H : Hp} {a : Addr} {o o' : HO} : upd (upd H a o) a o' = upd H a o' := by
  funext b
  by_cases h : b = a
  · rw [h, upd_same, upd_same]
  · rw [upd_ne h, upd_ne h, upd_ne h]
theorem upd_comm {H : Hp} {a b : Addr} {o o' : HO} (n : a ≠ b) : upd (upd H a o) b o' = upd (upd H b o') a o := by
  funext c
  by_cases h : c = a
  · subst h
    rw [upd_ne n, upd_same, upd_same]
  · by_cases g : c = b
    · subst g
      rw [upd_same, upd_ne h, upd_same]
    · rw [upd_ne g, upd_ne h, upd_ne h, upd_ne g]
theorem upd_id {H : Hp} {a : Addr} {o : HO} (h : H a = some o) : upd H a o = H := by
  funext b
  by_cases g : b = a
  · rw [g, upd_same, h]
  · rw [upd_ne g]
theorem pss_init {X : Cx} {C : Addr} (h0 : X.N[0]? = some ("self" : Str)) (hv : Vis X.env.scope "self") : ∀ {k : Nat} {fs : List Str} {ss : List Stmt}, InitB X.N X.env.scope k fs ss → PSs X ss (tIn X.K C k fs)
  | k, _, _, .nil => by
    refine pss_weak pss_nil fun D σ H ⟨_, _, a, ys, hy, _, _, h⟩ => ?_
    have e : ys = [] := List.length_eq_zero_iff.mp hy
    subst e
    rcases h with ⟨_, n, _⟩ | ⟨dx, acc, _, h2, _, _, h3⟩
    · exact absurd rfl n
    · have : upd H dx (exd dx ((([] : List Str).zip ([] : List V)).reverse ++ acc)) = H := upd_id h2
      rw [this] at h3
      exact h3
  | k, _, _, .cons (f := f) (x := x) (fs := fs) (p := p) (p' := p') (p2 := p2) (pos := pos) g1 g2 g3 g4 t => by
    have ih := pss_init (C := C) h0 hv t
    refine pss_weak (pss_cons (ps_ost (pe_var (i := 0) h0 hv) (pe_var (i := k) g1 g2 g3 g4) (by rfl)) ih) fun D σ H ⟨T, hf, a, ys, hy, s0, sk, h⟩ => ?_
    cases ys with
    | nil => cases hy
    | cons y ys =>
      have hy' : ys.length = fs.length := Nat.succ.inj hy
      have y0 : σ[k]? = some (some y) := sk 0 y rfl
      have sk' : ∀ i z, ys[i]? = some z → σ[k + 1 + i]? = some (some z) := fun i z e => by
        have := sk (i + 1) z e
        rwa [show k + (i + 1) = k + 1 + i by omega] at this
      have hf' : ∀ g ∈ fs, PySem.W.findIn X.K (.ref C) g = some none := fun g hg => hf g (List.mem_cons_of_mem _ hg)
      refine ⟨y, y0, .ref a, s0, a, C, rfl, T, hf f (List.mem_cons_self ..), ?_⟩
      have ez : ((f :: fs).zip (y :: ys)).reverse = (fs.zip ys).reverse ++ [(f, y)] := by simp
      rw [ez] at h
      rcases h with ⟨h1, _, hl, h2⟩ | ⟨dx, acc, h1, h2, h3, hl, h4⟩
      · refine .inl ⟨h1, fun dx nd ne => ⟨T, hf', a, ys, hy', s0, sk', .inr ⟨dx, [(f, y)], upd_same, ?_, ne, ?_, ?_⟩⟩⟩
        · rw [upd_ne ne, upd_same]
        · simp at hl ⊢
          omega
        · have h9 := h2 dx nd ne
          rw [upd_comm (a := a) (b := dx) (Ne.symm ne), upd_same2]
          exact h9
      · refine .inr ⟨dx, acc, h1, h2, by simp at hl; omega, T, hf', a, ys, hy', s0, sk', .inr ⟨dx, (f, y) :: acc, ?_, upd_same, h3, ?_, ?_⟩⟩
        · rw [upd_ne (Ne.symm h3)]
          exact h1
        · simp at hl ⊢
          omega
        · rw [upd_same2]
          rw [List.append_assoc] at h4
          exact h4
/-- the class c of errors with the fields ns can be raised with room k -/
def Exc (P : Program) (w : World) (K : PySem.W.Frag) (mg : Str → Option Value) (base : Heap) (ct : Str → Addr) (k : Nat) (c : Str) (ns : List Str) : Prop :=
  mg c = some (.ref (ct c)) ∧ OexC K (ct c) ∧ ∃ (fI : Addr) (fd : FuncData) (ps : List Str), PySem.W.findIn K (.ref (ct c)) "__init__" = some (some (.ref fI)) ∧ PySem.W.typeIn K (.ref fI) = some (.type "function") ∧ Binds K fd ps [] ∧ FnOk P w K mg base (L2.CX P w) k fI fd ps (spI (ct c) ns)
theorem Exc.mono {P : Program} {w : World} {K : PySem.W.Frag} {mg : Str → Option Value} {base : Heap} {ct : Str → Addr} {j k : Nat} {c : Str} {ns : List Str} (D : Exc P w K mg base ct j c ns) (h : j ≤ k) : Exc P w K mg base ct k c ns := by
  obtain ⟨h1, h2, fI, fd, ps, h3, h4, h5, h6⟩ := D
  exact ⟨h1, h2, fI, fd, ps, h3, h4, h5, h6.mono h⟩
theorem init_ok {P : Program} {w : World} {K : PySem.W.Frag} {mg : Str → Option Value} {base : Heap} {x qual : Str} {params : Arguments} {body : List Stmt} {scope : Scope} {dvs : List V} {kws : List (Str × V)} {f : Addr} {fd : FuncData} {xs : List Str} {k : Nat} {C : Addr} {ns : List Str}
    (F : FunD K x qual params body scope dvs kws f fd) (S : FnScope (("self" : Str) :: xs) (("self" : Str) :: xs) scope) (hx : xs.length = ns.length) (hne : ns ≠ []) (hl : ns.length ≤ 900) (hb : InitB (("self" : Str) :: xs) scope 1 ns body) (hv : Vis scope "self") (T : OexC K C) (hf : ∀ g ∈ ns, PySem.W.findIn K (.ref C) g = some none) :
    FnOk P w K mg base (L2.CX P w) (k + 1) f fd (("self" : Str) :: xs) (spI C ns) := by
  refine F.ok S (fun vs H Q E ⟨a, ys, e, hy, _⟩ => by rw [e]; simp [hy, hx]) fun cdv A outer s H vs Q E hr ⟨a, ys, e, hy, h1, h2⟩ => ?_
  subst e
  refine ⟨_, pss_init (X := cxOf (L2.CX P w) P w K mg base (("self" : Str) :: xs) qual scope f cdv A outer s H E) (C := C) rfl hv hb, T, hf, a, ys, hy, rfl, fun i y hi => ?_, .inl ⟨h1, hne, hl, fun dx nd ne => h2 dx nd ne⟩⟩
  unfold L2.start
  have lt : i < ys.length := (List.getElem?_eq_some_iff.mp hi).1
  rw [List.getElem?_append_left (by simp; omega), List.getElem?_map, show 1 + i = i + 1 by omega, List.getElem?_cons_succ, hi]
  rfl
end ML
namespace ML
open PySem PySem.Spec PyProof.Rows L2
variable {I : List Nat}
/-! ### raise -/
def mRaise (I : List Nat) (c : Str) (ns : List Str) (fs : List (Rho → R (Md × W))) : Rho → R Fl := fun ρ => (mHold fs ρ).bind fun bs ρ1 => (valsL I bs ρ1).bind fun ws ρ2 => if ws.length = ns.length ∧ ns ≠ [] ∧ ns.length ≤ 900 then .exc c ns.reverse ws.reverse ρ2 else .stk
theorem zip_rev {α β : Type} : ∀ {l : List α} {m : List β}, l.length = m.length → (l.zip m).reverse = l.reverse.zip m.reverse
  | [], [], _ => rfl
  | a :: l, b :: m, h => by
    have h' : l.length = m.length := Nat.succ.inj h
    rw [List.zip_cons_cons, List.reverse_cons, List.reverse_cons, List.reverse_cons, zip_rev h', List.zip_append (by simp [h'])]
    rfl
section
variable {X : Cx} {Y : Yx I} {ct : Str → Addr} {k : Nat} {c : Str} {ns : List Str} {p pos pos' : Pos} {e : Expr} {es : List Expr} {fs : List (Rho → R (Md × W))}
theorem psm_raise (hc : X.calm = true) (tk : Takes X Y.wx) (D : Exc X.prog X.w X.K X.mg X.base ct k c ns) (hct : Y.ct = ct) (hr : Room (k + 1) X.A) (hg : Gl X c) (ha : PAM X Y (e :: es) fs)
    (hdb : (c == ("__debug__" : Str)) = false := by decide) (he : starEach (e :: es) X.env = (false, eval e X.env) :: starEach es X.env := by rfl) (hpl : (backTo pos (starEach es X.env)).any (·.1) = false := by rfl) :
    PSM X Y (.Raise (some (.Call (.Name c p) (e :: es) [] pos)) none pos') (mRaise I c ns fs) := by
  obtain ⟨hm, T, fI, fd, ps, h3, h4, h5, h6⟩ := D
  subst hct
  refine ps_weak (ps_raise hc tk (pmk_oex (dvs := []) (ds := []) T h3 h4 h6 hr h5 .nil (fun _ _ _ _ _ _ _ ⟨_, _, _, _, _, _, _, _, _, _, _, _, f⟩ => f.elim) hg hm ha hdb he hpl)) fun D σ H hq => ?_
  obtain ⟨F, ρ, S, q⟩ := hq
  refine ⟨F, ρ, S, (RunS.bindE q).imp fun bs ρ1 F1 H1 S1 k1 q1 F2 vs S2 k2 hvs => ?_⟩
  obtain ⟨F3, ws, ρ3, S3, k3, r3, q3⟩ := S2.valsL hvs (P := fun ws ρ3 F3 H3 => RunS X.K Y F3 H3 (if ws.length = ns.length ∧ ns ≠ [] ∧ ns.length ≤ 900 then .exc c ns.reverse ws.reverse ρ3 else .stk) D) (RunS.bindE (q1.rebase k2))
  split at q3
  · rename_i hl
    obtain ⟨l1, l2, l3⟩ := hl
    have lv : vs.length = ns.length := by rw [← r3.len, l1]
    refine ⟨by omega, fun a na => ⟨a, vs ++ [], rfl, by simpa using lv, upd_same, fun d nd ne => ?_⟩⟩
    have nd1 : H1 d = none := by rwa [upd_ne ne] at nd
    refine ⟨rfl, d, (ns.zip (vs ++ [])).reverse, upd_same, by rw [upd_ne ne, upd_same], nd1, ?_⟩
    have eH : upd (del (upd (upd (upd H1 a (exo a (Y.ct c) none)) d (exd d (ns.zip (vs ++ [])).reverse)) a (exo a (Y.ct c) (some d))) a) d (.xd (ns.zip (vs ++ [])).reverse) = upd H1 d (.xd (ns.zip (vs ++ [])).reverse) := by
      funext b
      by_cases hb : b = d
      · rw [hb, upd_same, upd_same]
      · rw [upd_ne hb, upd_ne hb]
        by_cases hba : b = a
        · rw [hba, del_same, na]
        · rw [del_ne hba, upd_ne hba, upd_ne hb, upd_ne hba]
    rw [eH, List.append_nil]
    have ex : Ext [] F3 H1 F3 (upd H1 d (.xd (ns.zip vs).reverse)) := by
      refine ⟨fun b o _ h => ?_, fun _ h => h, fun _ h => .inl h, fun b h => ?_⟩
      · have nb : b ≠ d := fun z => by rw [z, nd1] at h; cases h
        rw [upd_ne nb]
        exact h
      · have hb := S3.f2 b h
        have nb : b ≠ d := fun z => hb (by rw [z]; exact nd1)
        rw [upd_ne nb]
        exact hb
    refine q3 F3 _ σ (some d) (S3.grow ex) ?_
    have hz : (ns.zip vs).reverse = ns.reverse.zip vs.reverse := zip_rev lv.symm
    have hex : ∃ x l, ns.reverse = x :: l := by
      cases hh : ns.reverse with
      | nil => exact absurd (List.reverse_eq_nil_iff.mp hh) l2
      | cons x l => exact ⟨x, l, rfl⟩
    obtain ⟨x, l, hx⟩ := hex
    have r4 := (r3.mono ex.keeps).reverse
    unfold ExF
    rw [hz, hx] at r4 ⊢
    exact ⟨d, vs.reverse, rfl, upd_same, by rw [← hx]; simp [lv], r4⟩
  · exact q3.elim
end
end ML
namespace ML
open PySem PySem.Spec PyProof.Rows L2
variable {I : List Nat}
/-! ### try .. except C as e -/
def noX (ρ : Rho) : Rho := ρ.map fun s => match s with
  | .exn => .no
  | s => s
theorem noX_get {ρ : Rho} {j : Nat} {s : Sl} (h : (noX ρ)[j]? = some s) : s = .no ∨ (s ≠ .exn ∧ ρ[j]? = some s) := by
  unfold noX at h
  rw [List.getElem?_map] at h
  obtain ⟨z, hz, e⟩ := Option.map_eq_some_iff.mp h
  cases z with
  | no => exact .inl e.symm
  | exn => exact .inl e.symm
  | val w => have e' : Sl.val w = s := e; rw [← e']; exact .inr ⟨(fun z => nomatch z), hz⟩
  | own w => have e' : Sl.own w = s := e; rw [← e']; exact .inr ⟨(fun z => nomatch z), hz⟩
theorem noX_own {ρ : Rho} {j : Nat} {w : W} (h : (noX ρ)[j]? = some (.own w)) : ρ[j]? = some (.own w) := by
  rcases noX_get h with e | ⟨_, e⟩
  · cases e
  · exact e
theorem noX_len (ρ : Rho) : (noX ρ).length = ρ.length := by unfold noX; rw [List.length_map]
theorem noX_keep {ρ : Rho} {j : Nat} {w : W} (h : ρ[j]? = some (.own w)) : (noX ρ)[j]? = some (.own w) := by
  unfold noX
  rw [List.getElem?_map, h]
  rfl
open Classical in
noncomputable def suiteH (B : Bd) (F : Fz) (H : Hp) : Hp := fun b => if F b ∨ ¬ Mut (H b) then (match H b with
    | some o => some o
    | none => B.H0 b) else B.H0 b
/-- the base of a suite: all that does not change stays -/
noncomputable def Bd.suite (B : Bd) (F : Fz) (H : Hp) (a : Addr) : Bd := { H0 := suiteH B F H, F0 := F, I := B.I, ea := a }
section
variable {K : PySem.W.Frag} {B : Bd} {F F' : Fz} {H H' : Hp} {σ σ' : L2.St} {ρ ρ' : Rho} {a : Addr}
theorem suite_yes {b : Addr} {o : HO} (h : H b = some o) (m : F b ∨ ¬ Mut (some o)) : (B.suite F H a).H0 b = some o := by
  show suiteH B F H b = _
  unfold suiteH
  rw [if_pos (by rw [h]; exact m), h]
theorem suite_no {b : Addr} (h : ¬ (F b ∨ ¬ Mut (H b))) : (B.suite F H a).H0 b = B.H0 b := by
  show suiteH B F H b = _
  unfold suiteH
  rw [if_neg h]
theorem suite_cases (b : Addr) : (∃ o, H b = some o ∧ (F b ∨ ¬ Mut (some o)) ∧ (B.suite F H a).H0 b = some o) ∨ (B.suite F H a).H0 b = B.H0 b := by
  by_cases h : F b ∨ ¬ Mut (H b)
  · cases e : H b with
    | none =>
      right
      show suiteH B F H b = _
      unfold suiteH
      rw [if_pos h, e]
    | some o => exact .inl ⟨o, rfl, by rw [← e]; exact h, suite_yes e (by rw [← e]; exact h)⟩
  · exact .inr (suite_no h)
theorem suite_kept (S : SR K B F H σ ρ) {b : Addr} (h : B.kept b) : (B.suite F H a).kept b := by
  refine ⟨?_, h.2⟩
  rcases suite_cases (B := B) (F := F) (H := H) (a := a) b with ⟨o, _, _, e⟩ | e
  · rw [e]; exact (fun z => nomatch z)
  · rw [e]; exact h.1
theorem suite_sr (S : SR K B F H σ ρ) {i : Nat} (u : unlent B i) (lt : i < ρ.length) : SR K (B.suite F H a) F H (σ.set i (some (.ref a))) ((noX ρ).set i .exn) := by
  have own : ∀ {j : Nat} {w : W}, ((noX ρ).set i .exn)[j]? = some (.own w) → j ≠ i ∧ ρ[j]? = some (.own w) := fun {j w} h => by
    rcases set_cases h with ⟨_, e, _⟩ | ⟨n, e⟩
    · cases e
    · exact ⟨n, noX_own e⟩
  refine ⟨by rw [List.length_set, List.length_set, noX_len]; exact S.len, fun j s h => ?_, fun j k w w' c h1 h2 e1 e2 => ?_, fun p hp => ?_, fun b o kb hb => ?_, fun b hb => ?_, fun b h => h, fun b h => .inl h, S.f2⟩
  · rcases set_cases h with ⟨e, e', _⟩ | ⟨n, e⟩
    · rw [e, e', set_eq (by rw [S.len]; exact lt)]
      rfl
    · rw [set_ne n]
      rcases noX_get e with e | ⟨_, e⟩
      · subst e; trivial
      · have q := S.slot j s e
        cases s with
        | no => trivial
        | exn => rename_i hx; exact absurd rfl hx
        | val w => exact q
        | own w =>
          obtain ⟨c, ec, o, nf, nk⟩ := q
          refine ⟨c, ec, o, nf, fun kc => nk ⟨?_, kc.2⟩⟩
          obtain ⟨u, hu, mu⟩ := o.some
          rcases suite_cases (B := B) (F := F) (H := H) (a := a) c with ⟨o2, h2, m2, _⟩ | e2
          · rw [hu] at h2
            cases h2
            rcases m2 with m2 | m2
            · exact absurd m2 nf
            · exact absurd mu m2
          · rw [← e2]; exact kc.1
  · obtain ⟨n1, g1⟩ := own h1
    obtain ⟨n2, g2⟩ := own h2
    rw [set_ne n1] at e1
    rw [set_ne n2] at e2
    exact S.sep j k w w' c g1 g2 e1 e2
  · obtain ⟨h1, w, h2⟩ := S.lent p hp
    have n : p.1 ≠ i := fun e => u (List.mem_map.mpr ⟨p, hp, e⟩)
    exact ⟨by rw [set_ne n]; exact h1, w, by rw [set_ne n]; exact noX_keep h2⟩
  · rcases suite_cases (B := B) (F := F) (H := H) (a := a) b with ⟨o2, h2, _, e2⟩ | e2
    · rw [e2] at hb
      rw [h2]
      exact hb
    · rw [e2] at hb
      exact S.ext b o ⟨by rw [hb]; exact (fun z => nomatch z), kb.2⟩ hb
  · rcases suite_cases (B := B) (F := F) (H := H) (a := a) b with ⟨o2, h2, _, _⟩ | e2
    · rw [h2]; exact (fun z => nomatch z)
    · rw [e2] at hb
      exact S.alive b hb
/-- in the suite all that did not change at its entry still stands -/
theorem suite_keeps (S : SR K B F H σ ρ) (S' : SR K (B.suite F H a) F' H' σ' ρ') : Keeps F H F' H' := by
  refine ⟨fun b h => S'.f0 b h, fun b o h m => ?_⟩
  have e : (B.suite F H a).H0 b = some o := suite_yes h m
  refine S'.ext b o ⟨by rw [e]; exact (fun z => nomatch z), fun p hp z => ?_⟩ e
  obtain ⟨h1, w, h2⟩ := S.lent p hp
  obtain ⟨c, ec, ow, nf, _⟩ := S.slot _ _ h2
  rw [h1] at ec
  cases ec
  obtain ⟨u, hu, mu⟩ := ow.some
  rw [z, h] at hu
  cases hu
  rcases m with m | m
  · exact nf (by rw [z]; exact m)
  · exact m mu
theorem suite_leave (S : SR K B F H σ ρ) (S' : SR K (B.suite F H a) F' H' σ' ρ') : SR K B F' H' σ' (noX ρ') := by
  refine ⟨by rw [noX_len]; exact S'.len, fun j s h => ?_, fun j k w w' c h1 h2 e1 e2 => S'.sep j k w w' c (noX_own h1) (noX_own h2) e1 e2, fun p hp => ?_, fun b o kb hb => ?_, fun b hb => ?_, fun b h => S'.f0 b (S.f0 b h), fun b h => ?_, S'.f2⟩
  · rcases noX_get h with e | ⟨nx, e⟩
    · subst e; trivial
    · have q := S'.slot j s e
      cases s with
      | no => trivial
      | exn => exact absurd rfl nx
      | val w => exact q
      | own w =>
        obtain ⟨c, ec, o, nf, nk⟩ := q
        exact ⟨c, ec, o, nf, fun kc => nk (suite_kept S kc)⟩
  · obtain ⟨h1, w, h2⟩ := S'.lent p hp
    exact ⟨h1, w, noX_keep h2⟩
  · refine S'.ext b o (suite_kept S kb) ?_
    rcases suite_cases (B := B) (F := F) (H := H) (a := a) b with ⟨o2, h2, _, e2⟩ | e2
    · have := S.ext b o kb hb
      rw [h2] at this
      rw [e2, this]
    · rw [e2]; exact hb
  · refine S'.alive b ?_
    rcases suite_cases (B := B) (F := F) (H := H) (a := a) b with ⟨o2, _, _, e2⟩ | e2
    · rw [e2]; exact (fun z => nomatch z)
    · rw [e2]; exact hb
  · rcases S'.f1 b h with h | h
    · exact S.f1 b h
    · right
      rcases suite_cases (B := B) (F := F) (H := H) (a := a) b with ⟨o2, _, _, e2⟩ | e2
      · rw [e2] at h; cases h
      · rw [← e2]; exact h
end
end ML
namespace ML
open PySem PySem.Spec PyProof.Rows L2
variable {I : List Nat}
/-- what a suite knows of its exception -/
structure Sui (K : PySem.W.Frag) (ct : Str → Addr) (Y' : Yx I) (a : Addr) (cls : Value) (d : Option Addr) (c : Str) (ns : List Str) (ws : List W) : Prop where
  cls : cls = .ref (ct c)
  ea : Y'.B.ea = a
  ct : Y'.ct = ct
  wx : Y'.wx = fun _ _ _ _ => False
  fld : ∀ F H σ ρ, SR K Y'.B F H σ ρ → ExF K F H ns ws d
def mTry (I : List Nat) (i : Nat) (cm : Str → Option Bool) (g : Rho → R Fl) (h : Str → List Str → List W → Rho → R Fl) : Rho → R Fl := fun ρ => match g (noX ρ) with
  | .exc c ns ws ρ1 => (match cm c with
    | some true => if i ∉ I ∧ i < ρ1.length then (match h c ns ws ((noX ρ1).set i .exn) with
      | .ok (.rt (.bor _) _) _ => .stk
      | .ok fl ρ2 => .ok fl (noX ((noX ρ2).set i .no))
      | _ => .stk) else .stk
    | some false => .exc c ns ws (noX ρ1)
    | none => .stk)
  | .ok fl ρ1 => .ok fl (noX ρ1)
  | .stk => .stk
section
variable {K : PySem.W.Frag} {B : Bd} {F F' : Fz} {H H' : Hp} {σ σ' : L2.St} {ρ ρ' : Rho} {a : Addr}
theorem suite_in (S : SR K B F H σ ρ) : SR K (B.suite F H a) F H σ (noX ρ) := by
  refine ⟨by rw [noX_len]; exact S.len, fun j s h => ?_, fun j k w w' c h1 h2 e1 e2 => S.sep j k w w' c (noX_own h1) (noX_own h2) e1 e2, fun p hp => ?_, fun b o kb hb => ?_, fun b hb => ?_, fun b h => h, fun b h => .inl h, S.f2⟩
  · rcases noX_get h with e | ⟨nx, e⟩
    · subst e; trivial
    · have q := S.slot j s e
      cases s with
      | no => trivial
      | exn => exact absurd rfl nx
      | val w => exact q
      | own w =>
        obtain ⟨c, ec, o, nf, nk⟩ := q
        refine ⟨c, ec, o, nf, fun kc => nk ⟨?_, kc.2⟩⟩
        obtain ⟨u, hu, mu⟩ := o.some
        rcases suite_cases (B := B) (F := F) (H := H) (a := a) c with ⟨o2, h2, m2, _⟩ | e2
        · rw [hu] at h2
          cases h2
          rcases m2 with m2 | m2
          · exact absurd m2 nf
          · exact absurd mu m2
        · rw [← e2]; exact kc.1
  · obtain ⟨h1, w, h2⟩ := S.lent p hp
    exact ⟨h1, w, noX_keep h2⟩
  · rcases suite_cases (B := B) (F := F) (H := H) (a := a) b with ⟨o2, h2, _, e2⟩ | e2
    · rw [e2] at hb
      rw [h2]
      exact hb
    · rw [e2] at hb
      exact S.ext b o ⟨by rw [hb]; exact (fun z => nomatch z), kb.2⟩ hb
  · rcases suite_cases (B := B) (F := F) (H := H) (a := a) b with ⟨o2, h2, _, _⟩ | e2
    · rw [h2]; exact (fun z => nomatch z)
    · rw [e2] at hb
      exact S.alive b hb
theorem suite_h0 {b : Addr} (h : (B.suite F H a).H0 b = none) : B.H0 b = none := by
  rcases suite_cases (B := B) (F := F) (H := H) (a := a) b with ⟨o2, _, _, e2⟩ | e2
  · rw [e2] at h; cases h
  · rw [← e2]; exact h
theorem suite_vr {ρ2 : Rho} (ho : ∀ (j : Nat) (w : W), ρ2[j]? = some (.own w) → ρ'[j]? = some (.own w)) {m : Md} {w : W} {v : V} (hb : ∀ j, m = .bor j → ρ'[j]? = some (.own w) → ρ2[j]? = some (.own w)) (h : VR K (B.suite F H a) F' H' σ' ρ' m w v) : VR K B F' H' σ' ρ2 m w v := by
  cases m with
  | val => exact h
  | fre =>
    obtain ⟨c, ec, o, nf, h0, hs⟩ := h
    exact ⟨c, ec, o, nf, suite_h0 h0, fun j w' hj => hs j w' (ho j w' hj)⟩
  | bor j => exact ⟨hb j rfl h.1, h.2⟩
end
theorem ExF.mono {K : PySem.W.Frag} {F F' : Fz} {H H' : Hp} {ns : List Str} {ws : List W} {d : Option Addr} (k : Keeps F H F' H') (h : ExF K F H ns ws d) : ExF K F' H' ns ws d := by
  cases ns with
  | nil => exact h
  | cons n ns =>
    obtain ⟨dd, vs, e, h1, h2, h3⟩ := h
    exact ⟨dd, vs, e, k.h dd _ h1 (.inr fun q => q), h2, h3.mono k⟩
theorem SR.out {K : PySem.W.Frag} {B : Bd} {F : Fz} {H : Hp} {σ : L2.St} {ρ : Rho} (S : SR K B F H σ ρ) {i : Nat} (u : unlent B i) : SR K B F H (σ.set i none) (ρ.set i .no) := by
  have own : ∀ {j : Nat} {w : W}, (ρ.set i .no)[j]? = some (.own w) → j ≠ i ∧ ρ[j]? = some (.own w) := fun {j w} h => by
    rcases set_cases h with ⟨_, e, _⟩ | ⟨n, e⟩
    · cases e
    · exact ⟨n, e⟩
  refine ⟨by rw [List.length_set, List.length_set]; exact S.len, fun j s h => ?_, fun j k w w' c h1 h2 e1 e2 => ?_, fun p hp => ?_, S.ext, S.alive, S.f0, S.f1, S.f2⟩
  · rcases set_cases h with ⟨_, e, _⟩ | ⟨n, e⟩
    · rw [e]; trivial
    · rw [set_ne n]; exact S.slot j s e
  · obtain ⟨n1, g1⟩ := own h1
    obtain ⟨n2, g2⟩ := own h2
    rw [set_ne n1] at e1
    rw [set_ne n2] at e2
    exact S.sep j k w w' c g1 g2 e1 e2
  · obtain ⟨h1, w, h2⟩ := S.lent p hp
    have n : p.1 ≠ i := fun e => u (List.mem_map.mpr ⟨p, hp, e⟩)
    exact ⟨by rw [set_ne n]; exact h1, w, by rw [set_ne n]; exact h2⟩
section
variable {X : Cx} {Y : Yx I} {x n : Str} {i : Nat} {body suite : List Stmt} {b0 : Stmt} {np pos pos' : Pos} {g : Rho → R Fl} {h : Str → List Str → List W → Rho → R Fl} {cm : Str → Option Bool} {C : Value}
theorem psm_try (hs : X.stack = X.env :: X.outer) (hf : X.env.frame = some X.env.locals) (hN : X.N.Nodup) (hi : X.N[i]? = some n) (hln : X.env.kindOf n = some .local) (hc : Names X x C) (tk : Takes X Y.wx)
    (hcm : ∀ c b, cm c = some b → PySem.W.exmOne X.K (.ref (Y.ct c)) C = some b)
    (hb : ∀ (Y' : Yx I) (pn : List (Addr × Obj)) (xe : Value → Shared → Prop), Y'.ct = Y.ct → Takes (X.tr pn xe) Y'.wx → PassesOwn (model X.prog X.w) X.A X.env xe → PSMs (X.tr pn xe) Y' body g)
    (hsu : ∀ (a : Addr) (oe : Obj) (cls : Value) (d : Option Addr) (pn : List (Addr × Obj)) (Y' : Yx I) (c : Str) (ns : List Str) (ws : List W), Zc cls d oe → (∃ vs, oe.data = .fields vs) → Sui X.K Y.ct Y' a cls d c ns ws → PSMs (X.suite a ((a, oe) :: pn)) Y' (b0 :: suite) (h c ns ws)) :
    PSM X Y (.Try body [.ExceptHandler (some (.Name x np)) (some n) (b0 :: suite) pos'] [] [] pos) (mTry I i cm g h) := by
  let tb : WX → TS := fun W D σ H => ∃ B1 : Bd, ∃ hI : B1.I.map (·.1) = I, tMS X.K ⟨Y.ct, B1, W, hI⟩ g D σ H
  let ts : Addr → Value → Option Addr → TS := fun a cls d D σ H => ∃ (Y' : Yx I) (c : Str) (ns : List Str) (ws : List W), Sui X.K Y.ct Y' a cls d c ns ws ∧ tMS X.K Y' (h c ns ws) D σ H
  refine ps_weak (ps_try_as (tb := tb) (ts := ts) hs hf hN hi hln hc tk (fun W pn xe t p => ⟨fun pins s σ H D J ⟨B1, hI, q⟩ => (hb ⟨Y.ct, B1, W, hI⟩ pn xe rfl t p).run pins s σ H D J q⟩) (fun a oe cls d pn z f => ⟨fun pins s σ H D J ⟨Y', c, ns, ws, su, q⟩ => (hsu a oe cls d pn Y' c ns ws z f su).run pins s σ H D J q⟩)) fun D σ H hq => ?_
  obtain ⟨F, ρ, S, q⟩ := hq
  refine ⟨Y.B.suite F H 0, Y.hI, F, noX ρ, suite_in (a := 0) S, ?_⟩
  unfold mTry at q
  cases e : g (noX ρ) with
  | stk => rw [e] at q; exact q.elim
  | ok fl ρ1 =>
    rw [e] at q
    cases fl with
    | nx => exact fun F1 H1 σ1 S3 k3 => q F1 H1 _ (suite_leave S S3) k3
    | bk => exact fun F1 H1 σ1 S3 k3 => q F1 H1 _ (suite_leave S S3) k3
    | ct => exact fun F1 H1 σ1 S3 k3 => q F1 H1 _ (suite_leave S S3) k3
    | rt m w => exact fun F1 H1 σ1 v S3 hv => q F1 H1 _ v (suite_leave S S3) (suite_vr (fun j w => noX_own) (fun j _ => noX_keep) hv)
  | exc c ns ws ρ1 =>
    rw [e] at q
    dsimp only at q
    intro F' H' σ' d S' x'
    cases ec : cm c with
    | none => rw [ec] at q; exact q.elim
    | some b =>
      rw [ec] at q
      refine ⟨b, hcm c b ec, fun hbt a na => ?_, fun hbf => ?_⟩
      · subst hbt
        dsimp only at q
        split at q
        · rename_i hi2
          obtain ⟨hiI, hlt⟩ := hi2
          have u : unlent Y.B i := Y.un hiI
          have u1 : unlent (Y.B.suite F H 0) i := u
          have S2 := suite_sr (a := a) S' u1 hlt
          refine ⟨⟨Y.ct, (Y.B.suite F H 0).suite F' H' a, fun _ _ _ _ => False, Y.hI⟩, c, ns, ws, ⟨rfl, rfl, rfl, rfl, fun F1 H1 σ1 ρ2 S3 => x'.mono (suite_keeps S' S3)⟩, F', _, S2, ?_⟩
          cases eh : h c ns ws ((noX ρ1).set i .exn) with
          | stk => rw [eh] at q; exact q.elim
          | exc c2 ns2 ws2 ρ2 => rw [eh] at q; exact q.elim
          | ok fl ρ2 =>
            rw [eh] at q
            have lv : ∀ {F1 H1 σ1}, SR X.K ((Y.B.suite F H 0).suite F' H' a) F1 H1 σ1 ρ2 → SR X.K (Y.B.suite F H 0) F1 H1 (σ1.set i none) ((noX ρ2).set i .no) := fun S3 => (suite_leave S' S3).out u1
            have lk : ∀ {F1 H1 σ1}, SR X.K ((Y.B.suite F H 0).suite F' H' a) F1 H1 σ1 ρ2 → SR X.K Y.B F1 H1 (σ1.set i none) (noX ((noX ρ2).set i .no)) ∧ Keeps F H F1 H1 := fun S3 => ⟨suite_leave S (lv S3), suite_keeps S (lv S3)⟩
            cases fl with
            | nx => exact fun F1 H1 σ1 S3 k3 => q F1 H1 _ (lk S3).1 (lk S3).2
            | bk => exact fun F1 H1 σ1 S3 k3 => q F1 H1 _ (lk S3).1 (lk S3).2
            | ct => exact fun F1 H1 σ1 S3 k3 => q F1 H1 _ (lk S3).1 (lk S3).2
            | rt m w =>
              intro F1 H1 σ1 v S3 hv
              have S4 : SR X.K Y.B F1 H1 σ1 (noX ((noX ρ2).set i .no)) := suite_leave S ((suite_leave S' S3).drop u1)
              have ho : ∀ (j : Nat) (w : W), (noX ((noX ρ2).set i .no))[j]? = some (.own w) → ρ2[j]? = some (.own w) := fun j w hj => by
                have h1 := noX_own hj
                rcases set_cases h1 with ⟨_, z, _⟩ | ⟨_, z⟩
                · cases z
                · exact noX_own z
              cases m with
              | bor j => exact q.elim
              | val => exact q F1 H1 σ1 v S4 hv
              | fre =>
                obtain ⟨c2, ec2, o, nf, h0, hs⟩ := hv
                exact q F1 H1 σ1 v S4 ⟨c2, ec2, o, nf, suite_h0 (suite_h0 h0), fun j w' hj => hs j w' (ho j w' hj)⟩
        · exact q.elim
      · subst hbf
        exact q F' H' σ' d (suite_leave S S') x'
end
end ML
namespace ML
open PySem PySem.Spec PyProof.Rows L2
variable {I : List Nat}
/-! ### the exception in its suite: e.f, isinstance(e, D) -/
def mXf (cl : List Str) (i : Nat) (f c : Str) (ns : List Str) (ws : List W) : Rho → R (Md × W) := fun ρ => if c ∈ cl ∧ ns.length = ws.length then (match ρ[i]? with
  | some .exn => (match (ns.zip ws).lookup f with
    | some w => .ok (.val, w) ρ
    | none => .stk)
  | _ => .stk) else .stk
theorem lookup_rep {K : PySem.W.Frag} {F : Fz} {H : Hp} {f : Str} {w : W} : ∀ {ns : List Str} {ws : List W} {vs : List V}, RepL K F H ws vs → (ns.zip ws).lookup f = some w → ∃ v, (ns.zip vs).lookup f = some v ∧ Rep K F H w v
  | [], _, _, _, e => by cases e
  | n :: ns, [], _, _, e => by cases e
  | n :: ns, u :: ws, _, ⟨v, r, ev, h1, h2⟩, e => by
    subst ev
    rw [List.zip_cons_cons] at e ⊢
    unfold List.lookup at e ⊢
    cases hb : (f == n) with
    | true =>
      rw [hb] at e
      cases e
      exact ⟨v, rfl, h1⟩
    | false =>
      rw [hb] at e
      exact lookup_rep h2 e
section
variable {X : Cx} {ct : Str → Addr} {Y' : Yx I} {a : Addr} {oe : Obj} {cls : Value} {d : Option Addr} {pn : List (Addr × Obj)} {i : Nat} {f c x : Str} {ns : List Str} {ws : List W} {cl : List Str} {p pos : Pos}
theorem pem_xf (su : Sui X.K ct Y' a cls d c ns ws) (hz : Zc cls d oe) (hf : ∃ vs, oe.data = .fields vs) (hcl : ∀ c ∈ cl, XfC X.K (ct c) ∧ PySem.W.findIn X.K (.ref (ct c)) f = some none) (hv : PE (X.suite a ((a, oe) :: pn)) (.Name x p) (tVar i)) :
    PEM (X.suite a ((a, oe) :: pn)) Y' (.Attribute (.Name x p) f pos) (mXf cl i f c ns ws) := by
  by_cases hc : c ∈ cl
  · obtain ⟨T, hno⟩ := hcl c hc
    refine pe_weak (pe_xf (C := ct c) (cls := cls) (d := d) T hno hz hf hv (by rfl)) fun σ H Q hq => ?_
    obtain ⟨F, ρ, S, q⟩ := hq
    unfold mXf at q
    split at q
    · rename_i hh
      cases g : ρ[i]? with
      | none => rw [g] at q; exact q.elim
      | some sl =>
        rw [g] at q
        cases sl with
        | no => exact q.elim
        | val w => exact q.elim
        | own w => exact q.elim
        | exn =>
          dsimp only at q
          have hs := S.slot i _ g
          have hs' : σ[i]? = some (some (.ref Y'.B.ea)) := hs
          rw [su.ea] at hs'
          refine ⟨.ref a, hs', rfl, su.cls, ?_⟩
          have x' := su.fld F H σ ρ S
          cases e : (ns.zip ws).lookup f with
          | none => rw [e] at q; exact q.elim
          | some w =>
            rw [e] at q
            cases ns with
            | nil => cases e
            | cons n ns =>
              obtain ⟨dd, vs, ed, h1, h2, h3⟩ := x'
              obtain ⟨v, hv2, r⟩ := lookup_rep h3 e
              exact ⟨dd, _, v, ed, h1, hv2, q F H S .refl v r⟩
    · exact q.elim
  · refine pe_weak (t := fun _ _ _ => False) ⟨fun _ _ _ _ _ _ h => h.elim⟩ fun σ H Q hq => ?_
    obtain ⟨F, ρ, S, q⟩ := hq
    unfold mXf at q
    rw [if_neg (fun z => hc z.1)] at q
    exact q
def mIsE (i : Nat) (t : Option Bool) : Rho → R (Md × W) := fun ρ => match ρ[i]?, t with
  | some .exn, some b => .ok (.val, .bl b) ρ
  | _, _ => .stk
def rIsX (K : PySem.W.Frag) (C a : Addr) (d : Option Addr) : List V → Hp → VK → Prop := fun xs H Q => ∃ (c : V) (cv : Value) (b : Bool), xs = [.ref a, c] ∧ (∀ u, RelV c u → u = cv) ∧ PySem.W.kitOne K (.ref C) cv = some b ∧ (d = none ∨ ∃ (dd : Addr) (fs : List (Str × V)), d = some dd ∧ H dd = some (.xd fs)) ∧ Q (.bl b) H
theorem call_isX {C : Addr} (E : ExcC X.K C) (hz : Zc (.ref C) d oe) (hf : ∃ vs, oe.data = .fields vs) : CallR (X.suite a ((a, oe) :: pn)) (.builtin "isinstance") (rIsX X.K C a d) := by
  intro pins s σ H xs us Q I r h
  obtain ⟨c, cv, b, rfl, hcv, e, hd, q⟩ := h
  cases r with
  | cons rx rr =>
    cases rr with
    | cons rt rr =>
      cases rr
      cases rx
      have ec := hcv _ rt
      subst ec
      obtain ⟨hget, _⟩ := I.pin (a, oe) (List.mem_append.mpr (.inl List.mem_cons_self))
      obtain ⟨vs, hv⟩ := hf
      obtain ⟨od, J⟩ : ∃ od, PySem.W.InstAt s.heap a oe C od := by
        rcases hd with hd | ⟨dd, fs, hd, hH⟩
        · refine ⟨none, hget, hz.1, by unfold PySem.W.notCls; rw [hv] <;> rfl, ?_⟩
          rw [hz.2, hd]
          trivial
        · have hx : ObjOk X.prog X.w H s.heap dd (.xd fs) := I.hok dd _ hH
          obtain ⟨mA, hns, _⟩ := hx
          obtain ⟨od, ho, _⟩ := lookIn_ns hns
          refine ⟨some od, hget, hz.1, by unfold PySem.W.notCls; rw [hv] <;> rfl, ?_⟩
          rw [hz.2, hd]
          exact ho
      have hcl : (PySem.W.clsIn X.K C).isSome = true := by
        obtain ⟨cd, hc, _⟩ := PySem.W.any_some E.hd
        rw [hc]
        rfl
      exact PySem.W.kia_one (PySem.W.kitx_exc hcl E.hg E.hk E.hs E.ha E.hn E.ht E.hm) I.kIn J e (fun z => nomatch z) fun tk => ⟨.bl b, H, I.kept (t' := tk) fun _ _ z => z, rfl, q⟩
theorem pem_isX {D : Str} {p1 p2 pos : Pos} {cv : V} {cw : Value} (su : Sui X.K ct Y' a cls d c ns ws) (hz : Zc cls d oe) (hf : ∃ vs, oe.data = .fields vs) (hcl : ∀ c ∈ cl, ExcC X.K (ct c)) (hg : Gl X "isinstance") (hm : X.mg "isinstance" = none) (hv : PE (X.suite a ((a, oe) :: pn)) (.Name x p) (tVar i))
    (hD : PE (X.suite a ((a, oe) :: pn)) (.Name D p2) (tC cv)) (hcw : ∀ u, RelV cv u → u = cw) {t : Option Bool} (ht : ∀ b, t = some b → c ∈ cl ∧ PySem.W.kitOne X.K (.ref (ct c)) cw = some b) :
    PEM (X.suite a ((a, oe) :: pn)) Y' (.Call (.Name "isinstance" p1) [.Name x p, .Name D p2] [] pos) (mIsE i t) := by
  cases t with
  | none =>
    refine pe_weak (t := fun _ _ _ => False) ⟨fun _ _ _ _ _ _ h => h.elim⟩ fun σ H Q hq => ?_
    obtain ⟨F, ρ, S, q⟩ := hq
    unfold mIsE at q
    split at q
    · rename_i hh
      cases hh
    · exact q
  | some b =>
    obtain ⟨hc, hk⟩ := ht b rfl
    have hz' : Zc (.ref (ct c)) d oe := by rw [← su.cls]; exact hz
    refine pe_weak (pe_callB (call_isX (hcl c hc) hz' hf) hg hm (by rfl) (pa_cons hv (pa_cons hD pa_nil)) (by decide) (by decide) (by rfl) (by rfl)) fun σ H Q hq => ?_
    obtain ⟨F, ρ, S, q⟩ := hq
    unfold mIsE at q
    cases g : ρ[i]? with
    | none => rw [g] at q; exact q.elim
    | some sl =>
      rw [g] at q
      cases sl with
      | no => exact q.elim
      | val w => exact q.elim
      | own w => exact q.elim
      | exn =>
        have hs' : σ[i]? = some (some (.ref Y'.B.ea)) := S.slot i _ g
        rw [su.ea] at hs'
        refine ⟨.ref a, hs', cv, cw, b, rfl, hcw, hk, ?_, q F H S .refl _ rfl⟩
        have x' := su.fld F H σ ρ S
        cases ns with
        | nil => exact .inl x'.1
        | cons n ns =>
          obtain ⟨dd, vs, ed, h1, _⟩ := x'
          exact .inr ⟨dd, _, ed, h1⟩
end
end ML

set_option maxHeartbeats 4000000
namespace ML
open PySem PySem.Spec PyProof.Rows L2
variable {I : List Nat}
/-! ### an own class of errors without __init__, made of nothing -/
/-- the class c of errors without fields can be raised -/
structure Exc0 (K : PySem.W.Frag) (mg : Str → Option Value) (ct : Str → Addr) (c : Str) : Prop where
  g : mg c = some (.ref (ct c))
  q : PySem.W.excIn K (ct c) He.veBase "ValueError.__new__" = true
  k : PySem.W.keepIn K (.ref (ct c)) = true
  s : PySem.W.subIn K (.ref (ct c)) (.type "BaseException") = some true
  t : PySem.W.typeIn K (.ref (ct c)) = some (.type "type")
def mRaise0 (c : Str) : Rho → R Fl := fun ρ => .exc c [] [] ρ
section
variable {X : Cx} {Y : Yx I} {ct : Str → Addr} {c : Str} {p pos pos' : Pos}
theorem pmk_none (D : Exc0 X.K X.mg ct c) (hg : Gl X c) (hdb : (c == ("__debug__" : Str)) = false := by decide) : PMk X (.Call (.Name c p) [] [] pos) (fun _ H Q => Q (.ref (ct c)) none H) := by
  intro pins s0 σ H Q J hQ
  refine wpAny_Call_Name_kw (ld_glob J hg D.g ?_ hdb)
  refine PySem.W.callWith_K0 J.kIn D.k ?_
  show wpAny _ _ (call (.ref (ct c)) []) _ _ _
  obtain ⟨x1, x2, x3, x4, x5, x6, x7, x8, x9, xa, xb, xc, xd, xe, xf, xg, xh, e1, e2, e3, e4⟩ := exc_obj J.kIn D.q
  exact wpAny_call_exc_subT PySem.F.excBase_ValueError e4 e1 e2 e3 (fun h' b mk => mk_of J mk (raises_own D.s D.t) hQ (J.hok.gone mk.new)) (by simp)
theorem psm_raise0 (hc : X.calm = true) (tk : Takes X Y.wx) (D : Exc0 X.K X.mg ct c) (hct : Y.ct = ct) (hg : Gl X c) (hdb : (c == ("__debug__" : Str)) = false := by decide) : PSM X Y (.Raise (some (.Call (.Name c p) [] [] pos)) none pos') (mRaise0 c) := by
  subst hct
  refine ps_weak (ps_raise hc tk (pmk_none D hg hdb)) fun D σ H hq => ?_
  obtain ⟨F, ρ, S, q⟩ := hq
  exact q F H σ none S ⟨rfl, rfl⟩
end
/-! ### checks of a class, for the head -/
def oexB (K : PySem.W.Frag) (C : Addr) : Bool := (match K.lookup C with
  | some ⟨.type "type", _, .cls cd, sl⟩ => (match cd.mro, sl.toList with
    | .ref D :: bm, [_, _, _, _, some (.builtin n), _] => decide (D = C) && (decide (n = "ValueError.__new__") && (cd.hasDict && (!cd.hasDel && PySem.HandSPX.refsVE bm)))
    | _, _ => false)
  | _ => false) && (decide (PySem.W.findIn K (.ref C) "__setattr__" = some (some (.builtin "object.__setattr__"))) && (decide (PySem.W.subIn K (.ref C) (.type "BaseException") = some true) && (decide (PySem.W.typeIn K (.ref C) = some (.type "type")) && PySem.W.keepIn K (.ref C))))
theorem oexB_ok {K : PySem.W.Frag} {C : Addr} (h : oexB K C = true) : OexC K C := by
  unfold oexB at h
  rw [Bool.and_eq_true_iff, Bool.and_eq_true_iff, Bool.and_eq_true_iff, Bool.and_eq_true_iff] at h
  obtain ⟨h1, h2, h3, h4, h5⟩ := h
  refine ⟨?_, of_decide_eq_true h2, of_decide_eq_true h3, of_decide_eq_true h4, h5⟩
  split at h1
  · rename_i dd cd sl hl
    split at h1
    · rename_i D bm k0 k1 k2 k3 n k5 hm hs
      simp only [Bool.and_eq_true, decide_eq_true_eq, Bool.not_eq_true'] at h1
      obtain ⟨g1, g2, g3, g4, g5⟩ := h1
      subst g1 g2
      obtain ⟨nm, bs, mro, ns, qn, hd, sn, sub, ab, col, de⟩ := cd
      dsimp only at hm g3 g4
      subst hm g3 g4
      obtain ⟨sl⟩ := sl
      simp only at hs
      subst hs
      exact ⟨nm, qn, ns, bs, bm, sn, sub, ab, col, dd, k0, k1, k2, k3, k5, hl, g5⟩
    · cases h1
  · cases h1
def excB (K : PySem.W.Frag) (D : Addr) : Bool := decide (PySem.W.findIn K (.ref D) "__getattribute__" = some (some (.builtin "BaseException.__getattribute__"))) && (decide (PySem.W.findIn K (.ref D) "__getattr__" = some none) && (decide (PySem.W.subIn K (.ref D) (.type "BaseException") = some true) && (PySem.W.hasDictIn K D &&
  (decide (PySem.W.findIn K (.ref D) "__class__" = some (some (.builtin "object.__class__"))) && (decide (PySem.W.specialIn K (.builtin "object.__class__") "__get__" = some (some (.builtin "getset_descriptor.__get__"))) && (decide (PySem.W.takesIn K (.builtin "object.__class__") = some true) && decide (PySem.W.mroIn K D (.type "object") = some true)))))))
theorem excB_ok {K : PySem.W.Frag} {D : Addr} (h : excB K D = true) : ExcC K D := by
  unfold excB at h
  simp only [Bool.and_eq_true, decide_eq_true_eq] at h
  obtain ⟨h1, h2, h3, h4, h5, h6, h7, h8⟩ := h
  exact ⟨h1, h2, h3, h4, h5, h6, h7, h8⟩
/-- what the text gives of the class C, whose __init__ is st -/
def ErrT (K : PySem.W.Frag) (mg : Str → Option Value) (C q : Str) (ns : List Str) (st : Stmt) : Prop :=
  mg C = some (.ref (He.ga K C)) ∧ OexC K (He.ga K C) ∧ (∀ f ∈ ns, PySem.W.findIn K (.ref (He.ga K C)) f = some none) ∧ ∃ (fI : Addr) (fd : FuncData), PySem.W.findIn K (.ref (He.ga K C)) "__init__" = some (some (.ref fI)) ∧ PySem.W.typeIn K (.ref fI) = some (.type "function") ∧ FunD K "__init__" q (defArgs st) (defBody st) (defScope st) [] [] fI fd
theorem exc_mk {P : Program} {w : World} {K : PySem.W.Frag} {mg : Str → Option Value} {base : Heap} {k : Nat} {C q : Str} {ns xs : List Str} {st : Stmt} (T : ErrT K mg C q ns st) (S : FnScope (("self" : Str) :: xs) (("self" : Str) :: xs) (defScope st)) (hx : xs.length = ns.length) (hne : ns ≠ []) (hl : ns.length ≤ 900)
    (hbi : ∀ (kV doc pm : Value) (an : Option Addr) (cdv ct : Value) (us : List Value), us.length = (("self" : Str) :: xs).length → bindArgs (PySem.W.fnOf "__init__" q (defArgs st) (defBody st) (defScope st) .none kV doc pm an cdv ct) ⟨us, []⟩ = pure ((("self" : Str) :: xs).zip us))
    (hb : InitB (("self" : Str) :: xs) (defScope st) 1 ns (defBody st)) (hv : Vis (defScope st) "self") : Exc P w K mg base (He.ga K) (k + 1) C ns := by
  obtain ⟨h1, h2, h3, fI, fd, h4, h5, F⟩ := T
  exact ⟨h1, h2, fI, fd, _, h4, h5, F.bindsN hbi, init_ok F S hx hne hl hb hv h2 h3⟩
theorem errT_ok {h : Heap} {w : World} {K : PySem.W.Frag} {mg : Str → Option Value} {fa : List He.Fa} {fn : List He.DefD} {ts : List He.Tab} {more : PySem.W.Frag → Bool} (X : K.In h) (G : h.Ns mainGlobals mg) (c : SaysM fa fn ts more w K) (i j m : Nat) {C q : Str} {ns : List Str} {st : Stmt}
    (e : fn[i]? = some ⟨(C, some "__init__"), "__init__", q, defArgs st, defBody st, defScope st, [], []⟩ := by rfl) (e2 : fa[j]? = some (.glo C) := by rfl) (e3 : fa[m]? = some (.meth C "__init__") := by rfl) (ho : oexB K (He.ga K C) = true) (hf : (ns.all fun f => decide (PySem.W.findIn K (.ref (He.ga K C)) f = some none)) = true) : ErrT K mg C q ns st := by
  obtain ⟨fd, F⟩ := c.t.d.def_ i e
  have hm : (He.eqO (PySem.W.findIn K (.ref (He.ga K C)) "__init__") (some (some (.ref (He.ma K (He.ga K C) "__init__")))) && (PySem.W.isFn K (.ref (He.ma K (He.ga K C) "__init__")) && PySem.W.keepIn K (.ref (He.ma K (He.ga K C) "__init__")))) = true := c.fact m e3
  rw [Bool.and_eq_true_iff, Bool.and_eq_true_iff] at hm
  obtain ⟨m1, m2, m3⟩ := hm
  refine ⟨He.glo_ok X G (c.fact j e2), oexB_ok ho, fun f hfm => of_decide_eq_true (List.all_eq_true.mp hf f hfm), _, fd, He.eqO_ok m1, ?_, F⟩
  unfold PySem.W.isFn at m2
  exact beq_iff_eq.mp m2
end ML

set_option maxHeartbeats 4000000
namespace K96
open PySem PySem.Spec PyProof.Rows L2 ML

def top (i : Nat) : Stmt := PySem.Challenge.pw_heardsaid_k96_errors_apart.main.body.getD i (.Pass ⟨0, 0, 0, 0⟩)
abbrev s__law_cell : Stmt := top 31
abbrev s__law_digits : Stmt := top 32
abbrev s__law_same : Stmt := top 33
abbrev s__law_text : Stmt := top 34
abbrev s__law_drawn : Stmt := top 35
abbrev s__law_raise : Stmt := top 36
abbrev s__law_due_fields : Stmt := top 37
abbrev s__law_told : Stmt := top 38
abbrev s_law : Stmt := top 39
abbrev s_BadSize___init__ : Stmt := inClass (top 2) 0
abbrev s_BadName___init__ : Stmt := inClass (top 3) 0
abbrev s_RepeatedName___init__ : Stmt := inClass (top 4) 0
abbrev s_BadProcedure___init__ : Stmt := inClass (top 5) 0
abbrev s_NoSuchName___init__ : Stmt := inClass (top 6) 0
abbrev s_BadBlock___init__ : Stmt := inClass (top 7) 0
abbrev s_OutOfRange___init__ : Stmt := inClass (top 8) 0
abbrev s_UnknownName___init__ : Stmt := inClass (top 9) 0
abbrev s_WrongName___init__ : Stmt := inClass (top 10) 0
abbrev s_WrongCount___init__ : Stmt := inClass (top 11) 0
abbrev s_WrongKind___init__ : Stmt := inClass (top 12) 0
abbrev s_QuitInside___init__ : Stmt := inClass (top 13) 0
abbrev s_FreeCell___init__ : Stmt := inClass (top 14) 0
abbrev s_NoPlace___init__ : Stmt := inClass (top 15) 0
abbrev s_TooLarge___init__ : Stmt := inClass (top 16) 0
abbrev s_BadText___init__ : Stmt := inClass (top 17) 0
abbrev s_BadMove___init__ : Stmt := inClass (top 18) 0
abbrev s_BadTable___init__ : Stmt := inClass (top 19) 0
abbrev s_Clash___init__ : Stmt := inClass (top 22) 0
abbrev s_BadNumber___init__ : Stmt := inClass (top 23) 0
abbrev s_WrongMachine___init__ : Stmt := inClass (top 24) 0
abbrev s_BadHole___init__ : Stmt := inClass (top 25) 0
abbrev s_BadManner___init__ : Stmt := inClass (top 27) 0

def cl_all : List Str := ["BadSize", "BadName", "RepeatedName", "BadProcedure", "NoSuchName", "BadBlock", "OutOfRange", "UnknownName", "WrongName", "WrongCount", "WrongKind", "QuitInside", "FreeCell", "NoPlace", "TooLarge", "BadText", "BadMove", "BadTable", "SignaturesDiffer", "KindsDiffer", "Clash", "BadNumber", "WrongMachine", "BadHole", "NotFinished", "BadManner", "BadTest", "NotSingle"]
def cm_all : Str → Option Bool := fun c => if c ∈ cl_all then some true else none
def kiT (D : Str) : Str → Option Bool := fun c => if c ∈ cl_all then some (decide (c = D)) else none
def kiV : Str → Option Bool := fun c => if c ∈ cl_all then some true else none
def fl_index : List Str := ["BadText", "BadMove", "WrongMachine"]
def fl_most : List Str := ["TooLarge"]
def fl_moves : List Str := ["Clash"]
def fl_name : List Str := ["BadName", "RepeatedName", "BadProcedure", "NoSuchName", "UnknownName", "WrongName", "FreeCell"]
def fl_number : List Str := ["BadNumber"]
def fl_place : List Str := ["BadBlock", "OutOfRange", "UnknownName", "WrongName", "WrongCount", "WrongKind", "QuitInside", "NoPlace", "BadHole"]
def fl_size : List Str := ["BadSize"]
def fl_standing : List Str := ["BadTable"]
def fl_state : List Str := ["BadManner"]
structure Txt (w : World) (K : PySem.W.Frag) (mg : Str → Option Value) : Prop where
  s__law_cell : Src K mg "_law_cell" s__law_cell
  s__law_digits : Src K mg "_law_digits" s__law_digits
  s__law_same : Src K mg "_law_same" s__law_same
  s__law_text : Src K mg "_law_text" s__law_text
  s__law_drawn : Src K mg "_law_drawn" s__law_drawn
  s__law_raise : Src K mg "_law_raise" s__law_raise
  s__law_due_fields : Src K mg "_law_due_fields" s__law_due_fields
  s__law_told : Src K mg "_law_told" s__law_told
  s_law : Src K mg "law" s_law
  e_BadSize : ErrT K mg "BadSize" "BadSize.__init__" ["size"] s_BadSize___init__
  e_BadName : ErrT K mg "BadName" "BadName.__init__" ["name"] s_BadName___init__
  e_RepeatedName : ErrT K mg "RepeatedName" "RepeatedName.__init__" ["name"] s_RepeatedName___init__
  e_BadProcedure : ErrT K mg "BadProcedure" "BadProcedure.__init__" ["name"] s_BadProcedure___init__
  e_NoSuchName : ErrT K mg "NoSuchName" "NoSuchName.__init__" ["name"] s_NoSuchName___init__
  e_BadBlock : ErrT K mg "BadBlock" "BadBlock.__init__" ["place"] s_BadBlock___init__
  e_OutOfRange : ErrT K mg "OutOfRange" "OutOfRange.__init__" ["place"] s_OutOfRange___init__
  e_UnknownName : ErrT K mg "UnknownName" "UnknownName.__init__" ["place", "name"] s_UnknownName___init__
  e_WrongName : ErrT K mg "WrongName" "WrongName.__init__" ["place", "name"] s_WrongName___init__
  e_WrongCount : ErrT K mg "WrongCount" "WrongCount.__init__" ["place"] s_WrongCount___init__
  e_WrongKind : ErrT K mg "WrongKind" "WrongKind.__init__" ["place"] s_WrongKind___init__
  e_QuitInside : ErrT K mg "QuitInside" "QuitInside.__init__" ["place"] s_QuitInside___init__
  e_FreeCell : ErrT K mg "FreeCell" "FreeCell.__init__" ["name"] s_FreeCell___init__
  e_NoPlace : ErrT K mg "NoPlace" "NoPlace.__init__" ["place"] s_NoPlace___init__
  e_TooLarge : ErrT K mg "TooLarge" "TooLarge.__init__" ["most"] s_TooLarge___init__
  e_BadText : ErrT K mg "BadText" "BadText.__init__" ["index"] s_BadText___init__
  e_BadMove : ErrT K mg "BadMove" "BadMove.__init__" ["index"] s_BadMove___init__
  e_BadTable : ErrT K mg "BadTable" "BadTable.__init__" ["standing"] s_BadTable___init__
  e_Clash : ErrT K mg "Clash" "Clash.__init__" ["moves"] s_Clash___init__
  e_BadNumber : ErrT K mg "BadNumber" "BadNumber.__init__" ["number"] s_BadNumber___init__
  e_WrongMachine : ErrT K mg "WrongMachine" "WrongMachine.__init__" ["index"] s_WrongMachine___init__
  e_BadHole : ErrT K mg "BadHole" "BadHole.__init__" ["place"] s_BadHole___init__
  e_BadManner : ErrT K mg "BadManner" "BadManner.__init__" ["state"] s_BadManner___init__
  z_SignaturesDiffer : Exc0 K mg (He.ga K) "SignaturesDiffer"
  z_KindsDiffer : Exc0 K mg (He.ga K) "KindsDiffer"
  z_NotFinished : Exc0 K mg (He.ga K) "NotFinished"
  z_BadTest : Exc0 K mg (He.ga K) "BadTest"
  z_NotSingle : Exc0 K mg (He.ga K) "NotSingle"
  g_HeardError : mg "HeardError" = some (.ref (He.ga K "HeardError"))
  g_BadSize : mg "BadSize" = some (.ref (He.ga K "BadSize"))
  g_BadName : mg "BadName" = some (.ref (He.ga K "BadName"))
  g_RepeatedName : mg "RepeatedName" = some (.ref (He.ga K "RepeatedName"))
  g_BadProcedure : mg "BadProcedure" = some (.ref (He.ga K "BadProcedure"))
  g_NoSuchName : mg "NoSuchName" = some (.ref (He.ga K "NoSuchName"))
  g_BadBlock : mg "BadBlock" = some (.ref (He.ga K "BadBlock"))
  g_OutOfRange : mg "OutOfRange" = some (.ref (He.ga K "OutOfRange"))
  g_UnknownName : mg "UnknownName" = some (.ref (He.ga K "UnknownName"))
  g_WrongName : mg "WrongName" = some (.ref (He.ga K "WrongName"))
  g_WrongCount : mg "WrongCount" = some (.ref (He.ga K "WrongCount"))
  g_WrongKind : mg "WrongKind" = some (.ref (He.ga K "WrongKind"))
  g_QuitInside : mg "QuitInside" = some (.ref (He.ga K "QuitInside"))
  g_FreeCell : mg "FreeCell" = some (.ref (He.ga K "FreeCell"))
  g_NoPlace : mg "NoPlace" = some (.ref (He.ga K "NoPlace"))
  g_TooLarge : mg "TooLarge" = some (.ref (He.ga K "TooLarge"))
  g_BadText : mg "BadText" = some (.ref (He.ga K "BadText"))
  g_BadMove : mg "BadMove" = some (.ref (He.ga K "BadMove"))
  g_BadTable : mg "BadTable" = some (.ref (He.ga K "BadTable"))
  g_SignaturesDiffer : mg "SignaturesDiffer" = some (.ref (He.ga K "SignaturesDiffer"))
  g_KindsDiffer : mg "KindsDiffer" = some (.ref (He.ga K "KindsDiffer"))
  g_Clash : mg "Clash" = some (.ref (He.ga K "Clash"))
  g_BadNumber : mg "BadNumber" = some (.ref (He.ga K "BadNumber"))
  g_WrongMachine : mg "WrongMachine" = some (.ref (He.ga K "WrongMachine"))
  g_BadHole : mg "BadHole" = some (.ref (He.ga K "BadHole"))
  g_NotFinished : mg "NotFinished" = some (.ref (He.ga K "NotFinished"))
  g_BadManner : mg "BadManner" = some (.ref (He.ga K "BadManner"))
  g_BadTest : mg "BadTest" = some (.ref (He.ga K "BadTest"))
  g_NotSingle : mg "NotSingle" = some (.ref (He.ga K "NotSingle"))
  cm : ∀ c b, cm_all c = some b → PySem.W.exmOne K (.ref (He.ga K c)) (.ref (He.ga K "HeardError")) = some b
  i_all : ∀ c ∈ cl_all, ExcC K (He.ga K c)
  kit : ∀ D ∈ cl_all, ∀ c b, kiT D c = some b → c ∈ cl_all ∧ PySem.W.kitOne K (.ref (He.ga K c)) (.ref (He.ga K D)) = some b
  kit_ValueError : ∀ c b, kiV c = some b → c ∈ cl_all ∧ PySem.W.kitOne K (.ref (He.ga K c)) (.type "ValueError") = some b
  f_index : ∀ c ∈ fl_index, XfC K (He.ga K c) ∧ PySem.W.findIn K (.ref (He.ga K c)) "index" = some none
  f_most : ∀ c ∈ fl_most, XfC K (He.ga K c) ∧ PySem.W.findIn K (.ref (He.ga K c)) "most" = some none
  f_moves : ∀ c ∈ fl_moves, XfC K (He.ga K c) ∧ PySem.W.findIn K (.ref (He.ga K c)) "moves" = some none
  f_name : ∀ c ∈ fl_name, XfC K (He.ga K c) ∧ PySem.W.findIn K (.ref (He.ga K c)) "name" = some none
  f_number : ∀ c ∈ fl_number, XfC K (He.ga K c) ∧ PySem.W.findIn K (.ref (He.ga K c)) "number" = some none
  f_place : ∀ c ∈ fl_place, XfC K (He.ga K c) ∧ PySem.W.findIn K (.ref (He.ga K c)) "place" = some none
  f_size : ∀ c ∈ fl_size, XfC K (He.ga K c) ∧ PySem.W.findIn K (.ref (He.ga K c)) "size" = some none
  f_standing : ∀ c ∈ fl_standing, XfC K (He.ga K c) ∧ PySem.W.findIn K (.ref (He.ga K c)) "standing" = some none
  f_state : ∀ c ∈ fl_state, XfC K (He.ga K c) ∧ PySem.W.findIn K (.ref (He.ga K c)) "state" = some none
  b_int : mg "int" = none
  b_str : mg "str" = none
  b_tuple : mg "tuple" = none
  b_bool : mg "bool" = none
  b_len : mg "len" = none
  b_isinstance : mg "isinstance" = none
  b_range : mg "range" = none
  b_ValueError : mg "ValueError" = none
theorem sc_BadSize___init__ : FnScope ["self", "size"] ["self", "size"] (defScope s_BadSize___init__) := ⟨rfl, rfl, rfl, by decide +kernel, rfl, by decide +kernel, by decide +kernel⟩
theorem exc_BadSize {P : Program} {w : World} {K : PySem.W.Frag} {mg : Str → Option Value} {base : Heap} {k : Nat} (T : Txt w K mg) : Exc P w K mg base (He.ga K) (k + 1) "BadSize" ["size"] :=
  exc_mk (xs := ["size"]) T.e_BadSize sc_BadSize___init__ rfl (by decide) (by decide) (fun _ _ _ _ _ _ us hl => match us, hl with | [_, _], _ => rfl) (InitB.cons rfl (Or.inl rfl) (by decide) (by decide) InitB.nil) (Or.inl rfl)
theorem sc_BadName___init__ : FnScope ["self", "name"] ["self", "name"] (defScope s_BadName___init__) := ⟨rfl, rfl, rfl, by decide +kernel, rfl, by decide +kernel, by decide +kernel⟩
theorem exc_BadName {P : Program} {w : World} {K : PySem.W.Frag} {mg : Str → Option Value} {base : Heap} {k : Nat} (T : Txt w K mg) : Exc P w K mg base (He.ga K) (k + 1) "BadName" ["name"] :=
  exc_mk (xs := ["name"]) T.e_BadName sc_BadName___init__ rfl (by decide) (by decide) (fun _ _ _ _ _ _ us hl => match us, hl with | [_, _], _ => rfl) (InitB.cons rfl (Or.inl rfl) (by decide) (by decide) InitB.nil) (Or.inl rfl)
theorem sc_RepeatedName___init__ : FnScope ["self", "name"] ["self", "name"] (defScope s_RepeatedName___init__) := ⟨rfl, rfl, rfl, by decide +kernel, rfl, by decide +kernel, by decide +kernel⟩
theorem exc_RepeatedName {P : Program} {w : World} {K : PySem.W.Frag} {mg : Str → Option Value} {base : Heap} {k : Nat} (T : Txt w K mg) : Exc P w K mg base (He.ga K) (k + 1) "RepeatedName" ["name"] :=
  exc_mk (xs := ["name"]) T.e_RepeatedName sc_RepeatedName___init__ rfl (by decide) (by decide) (fun _ _ _ _ _ _ us hl => match us, hl with | [_, _], _ => rfl) (InitB.cons rfl (Or.inl rfl) (by decide) (by decide) InitB.nil) (Or.inl rfl)
theorem sc_BadProcedure___init__ : FnScope ["self", "name"] ["self", "name"] (defScope s_BadProcedure___init__) := ⟨rfl, rfl, rfl, by decide +kernel, rfl, by decide +kernel, by decide +kernel⟩
theorem exc_BadProcedure {P : Program} {w : World} {K : PySem.W.Frag} {mg : Str → Option Value} {base : Heap} {k : Nat} (T : Txt w K mg) : Exc P w K mg base (He.ga K) (k + 1) "BadProcedure" ["name"] :=
  exc_mk (xs := ["name"]) T.e_BadProcedure sc_BadProcedure___init__ rfl (by decide) (by decide) (fun _ _ _ _ _ _ us hl => match us, hl with | [_, _], _ => rfl) (InitB.cons rfl (Or.inl rfl) (by decide) (by decide) InitB.nil) (Or.inl rfl)
theorem sc_NoSuchName___init__ : FnScope ["self", "name"] ["self", "name"] (defScope s_NoSuchName___init__) := ⟨rfl, rfl, rfl, by decide +kernel, rfl, by decide +kernel, by decide +kernel⟩
theorem exc_NoSuchName {P : Program} {w : World} {K : PySem.W.Frag} {mg : Str → Option Value} {base : Heap} {k : Nat} (T : Txt w K mg) : Exc P w K mg base (He.ga K) (k + 1) "NoSuchName" ["name"] :=
  exc_mk (xs := ["name"]) T.e_NoSuchName sc_NoSuchName___init__ rfl (by decide) (by decide) (fun _ _ _ _ _ _ us hl => match us, hl with | [_, _], _ => rfl) (InitB.cons rfl (Or.inl rfl) (by decide) (by decide) InitB.nil) (Or.inl rfl)
theorem sc_BadBlock___init__ : FnScope ["self", "place"] ["self", "place"] (defScope s_BadBlock___init__) := ⟨rfl, rfl, rfl, by decide +kernel, rfl, by decide +kernel, by decide +kernel⟩
theorem exc_BadBlock {P : Program} {w : World} {K : PySem.W.Frag} {mg : Str → Option Value} {base : Heap} {k : Nat} (T : Txt w K mg) : Exc P w K mg base (He.ga K) (k + 1) "BadBlock" ["place"] :=
  exc_mk (xs := ["place"]) T.e_BadBlock sc_BadBlock___init__ rfl (by decide) (by decide) (fun _ _ _ _ _ _ us hl => match us, hl with | [_, _], _ => rfl) (InitB.cons rfl (Or.inl rfl) (by decide) (by decide) InitB.nil) (Or.inl rfl)
theorem sc_OutOfRange___init__ : FnScope ["self", "place"] ["self", "place"] (defScope s_OutOfRange___init__) := ⟨rfl, rfl, rfl, by decide +kernel, rfl, by decide +kernel, by decide +kernel⟩
theorem exc_OutOfRange {P : Program} {w : World} {K : PySem.W.Frag} {mg : Str → Option Value} {base : Heap} {k : Nat} (T : Txt w K mg) : Exc P w K mg base (He.ga K) (k + 1) "OutOfRange" ["place"] :=
  exc_mk (xs := ["place"]) T.e_OutOfRange sc_OutOfRange___init__ rfl (by decide) (by decide) (fun _ _ _ _ _ _ us hl => match us, hl with | [_, _], _ => rfl) (InitB.cons rfl (Or.inl rfl) (by decide) (by decide) InitB.nil) (Or.inl rfl)
theorem sc_UnknownName___init__ : FnScope ["self", "place", "name"] ["self", "place", "name"] (defScope s_UnknownName___init__) := ⟨rfl, rfl, rfl, by decide +kernel, rfl, by decide +kernel, by decide +kernel⟩
theorem exc_UnknownName {P : Program} {w : World} {K : PySem.W.Frag} {mg : Str → Option Value} {base : Heap} {k : Nat} (T : Txt w K mg) : Exc P w K mg base (He.ga K) (k + 1) "UnknownName" ["place", "name"] :=
  exc_mk (xs := ["place", "name"]) T.e_UnknownName sc_UnknownName___init__ rfl (by decide) (by decide) (fun _ _ _ _ _ _ us hl => match us, hl with | [_, _, _], _ => rfl) (InitB.cons rfl (Or.inl rfl) (by decide) (by decide) (InitB.cons rfl (Or.inl rfl) (by decide) (by decide) InitB.nil)) (Or.inl rfl)
theorem sc_WrongName___init__ : FnScope ["self", "place", "name"] ["self", "place", "name"] (defScope s_WrongName___init__) := ⟨rfl, rfl, rfl, by decide +kernel, rfl, by decide +kernel, by decide +kernel⟩
theorem exc_WrongName {P : Program} {w : World} {K : PySem.W.Frag} {mg : Str → Option Value} {base : Heap} {k : Nat} (T : Txt w K mg) : Exc P w K mg base (He.ga K) (k + 1) "WrongName" ["place", "name"] :=
  exc_mk (xs := ["place", "name"]) T.e_WrongName sc_WrongName___init__ rfl (by decide) (by decide) (fun _ _ _ _ _ _ us hl => match us, hl with | [_, _, _], _ => rfl) (InitB.cons rfl (Or.inl rfl) (by decide) (by decide) (InitB.cons rfl (Or.inl rfl) (by decide) (by decide) InitB.nil)) (Or.inl rfl)
theorem sc_WrongCount___init__ : FnScope ["self", "place"] ["self", "place"] (defScope s_WrongCount___init__) := ⟨rfl, rfl, rfl, by decide +kernel, rfl, by decide +kernel, by decide +kernel⟩
theorem exc_WrongCount {P : Program} {w : World} {K : PySem.W.Frag} {mg : Str → Option Value} {base : Heap} {k : Nat} (T : Txt w K mg) : Exc P w K mg base (He.ga K) (k + 1) "WrongCount" ["place"] :=
  exc_mk (xs := ["place"]) T.e_WrongCount sc_WrongCount___init__ rfl (by decide) (by decide) (fun _ _ _ _ _ _ us hl => match us, hl with | [_, _], _ => rfl) (InitB.cons rfl (Or.inl rfl) (by decide) (by decide) InitB.nil) (Or.inl rfl)
theorem sc_WrongKind___init__ : FnScope ["self", "place"] ["self", "place"] (defScope s_WrongKind___init__) := ⟨rfl, rfl, rfl, by decide +kernel, rfl, by decide +kernel, by decide +kernel⟩
theorem exc_WrongKind {P : Program} {w : World} {K : PySem.W.Frag} {mg : Str → Option Value} {base : Heap} {k : Nat} (T : Txt w K mg) : Exc P w K mg base (He.ga K) (k + 1) "WrongKind" ["place"] :=
  exc_mk (xs := ["place"]) T.e_WrongKind sc_WrongKind___init__ rfl (by decide) (by decide) (fun _ _ _ _ _ _ us hl => match us, hl with | [_, _], _ => rfl) (InitB.cons rfl (Or.inl rfl) (by decide) (by decide) InitB.nil) (Or.inl rfl)
theorem sc_QuitInside___init__ : FnScope ["self", "place"] ["self", "place"] (defScope s_QuitInside___init__) := ⟨rfl, rfl, rfl, by decide +kernel, rfl, by decide +kernel, by decide +kernel⟩
theorem exc_QuitInside {P : Program} {w : World} {K : PySem.W.Frag} {mg : Str → Option Value} {base : Heap} {k : Nat} (T : Txt w K mg) : Exc P w K mg base (He.ga K) (k + 1) "QuitInside" ["place"] :=
  exc_mk (xs := ["place"]) T.e_QuitInside sc_QuitInside___init__ rfl (by decide) (by decide) (fun _ _ _ _ _ _ us hl => match us, hl with | [_, _], _ => rfl) (InitB.cons rfl (Or.inl rfl) (by decide) (by decide) InitB.nil) (Or.inl rfl)
theorem sc_FreeCell___init__ : FnScope ["self", "name"] ["self", "name"] (defScope s_FreeCell___init__) := ⟨rfl, rfl, rfl, by decide +kernel, rfl, by decide +kernel, by decide +kernel⟩
theorem exc_FreeCell {P : Program} {w : World} {K : PySem.W.Frag} {mg : Str → Option Value} {base : Heap} {k : Nat} (T : Txt w K mg) : Exc P w K mg base (He.ga K) (k + 1) "FreeCell" ["name"] :=
  exc_mk (xs := ["name"]) T.e_FreeCell sc_FreeCell___init__ rfl (by decide) (by decide) (fun _ _ _ _ _ _ us hl => match us, hl with | [_, _], _ => rfl) (InitB.cons rfl (Or.inl rfl) (by decide) (by decide) InitB.nil) (Or.inl rfl)
theorem sc_NoPlace___init__ : FnScope ["self", "place"] ["self", "place"] (defScope s_NoPlace___init__) := ⟨rfl, rfl, rfl, by decide +kernel, rfl, by decide +kernel, by decide +kernel⟩
theorem exc_NoPlace {P : Program} {w : World} {K : PySem.W.Frag} {mg : Str → Option Value} {base : Heap} {k : Nat} (T : Txt w K mg) : Exc P w K mg base (He.ga K) (k + 1) "NoPlace" ["place"] :=
  exc_mk (xs := ["place"]) T.e_NoPlace sc_NoPlace___init__ rfl (by decide) (by decide) (fun _ _ _ _ _ _ us hl => match us, hl with | [_, _], _ => rfl) (InitB.cons rfl (Or.inl rfl) (by decide) (by decide) InitB.nil) (Or.inl rfl)
theorem sc_TooLarge___init__ : FnScope ["self", "most"] ["self", "most"] (defScope s_TooLarge___init__) := ⟨rfl, rfl, rfl, by decide +kernel, rfl, by decide +kernel, by decide +kernel⟩
theorem exc_TooLarge {P : Program} {w : World} {K : PySem.W.Frag} {mg : Str → Option Value} {base : Heap} {k : Nat} (T : Txt w K mg) : Exc P w K mg base (He.ga K) (k + 1) "TooLarge" ["most"] :=
  exc_mk (xs := ["most"]) T.e_TooLarge sc_TooLarge___init__ rfl (by decide) (by decide) (fun _ _ _ _ _ _ us hl => match us, hl with | [_, _], _ => rfl) (InitB.cons rfl (Or.inl rfl) (by decide) (by decide) InitB.nil) (Or.inl rfl)
theorem sc_BadText___init__ : FnScope ["self", "index"] ["self", "index"] (defScope s_BadText___init__) := ⟨rfl, rfl, rfl, by decide +kernel, rfl, by decide +kernel, by decide +kernel⟩
theorem exc_BadText {P : Program} {w : World} {K : PySem.W.Frag} {mg : Str → Option Value} {base : Heap} {k : Nat} (T : Txt w K mg) : Exc P w K mg base (He.ga K) (k + 1) "BadText" ["index"] :=
  exc_mk (xs := ["index"]) T.e_BadText sc_BadText___init__ rfl (by decide) (by decide) (fun _ _ _ _ _ _ us hl => match us, hl with | [_, _], _ => rfl) (InitB.cons rfl (Or.inl rfl) (by decide) (by decide) InitB.nil) (Or.inl rfl)
theorem sc_BadMove___init__ : FnScope ["self", "index"] ["self", "index"] (defScope s_BadMove___init__) := ⟨rfl, rfl, rfl, by decide +kernel, rfl, by decide +kernel, by decide +kernel⟩
theorem exc_BadMove {P : Program} {w : World} {K : PySem.W.Frag} {mg : Str → Option Value} {base : Heap} {k : Nat} (T : Txt w K mg) : Exc P w K mg base (He.ga K) (k + 1) "BadMove" ["index"] :=
  exc_mk (xs := ["index"]) T.e_BadMove sc_BadMove___init__ rfl (by decide) (by decide) (fun _ _ _ _ _ _ us hl => match us, hl with | [_, _], _ => rfl) (InitB.cons rfl (Or.inl rfl) (by decide) (by decide) InitB.nil) (Or.inl rfl)
theorem sc_BadTable___init__ : FnScope ["self", "standing"] ["self", "standing"] (defScope s_BadTable___init__) := ⟨rfl, rfl, rfl, by decide +kernel, rfl, by decide +kernel, by decide +kernel⟩
theorem exc_BadTable {P : Program} {w : World} {K : PySem.W.Frag} {mg : Str → Option Value} {base : Heap} {k : Nat} (T : Txt w K mg) : Exc P w K mg base (He.ga K) (k + 1) "BadTable" ["standing"] :=
  exc_mk (xs := ["standing"]) T.e_BadTable sc_BadTable___init__ rfl (by decide) (by decide) (fun _ _ _ _ _ _ us hl => match us, hl with | [_, _], _ => rfl) (InitB.cons rfl (Or.inl rfl) (by decide) (by decide) InitB.nil) (Or.inl rfl)
theorem sc_Clash___init__ : FnScope ["self", "moves"] ["self", "moves"] (defScope s_Clash___init__) := ⟨rfl, rfl, rfl, by decide +kernel, rfl, by decide +kernel, by decide +kernel⟩
theorem exc_Clash {P : Program} {w : World} {K : PySem.W.Frag} {mg : Str → Option Value} {base : Heap} {k : Nat} (T : Txt w K mg) : Exc P w K mg base (He.ga K) (k + 1) "Clash" ["moves"] :=
  exc_mk (xs := ["moves"]) T.e_Clash sc_Clash___init__ rfl (by decide) (by decide) (fun _ _ _ _ _ _ us hl => match us, hl with | [_, _], _ => rfl) (InitB.cons rfl (Or.inl rfl) (by decide) (by decide) InitB.nil) (Or.inl rfl)
theorem sc_BadNumber___init__ : FnScope ["self", "number"] ["self", "number"] (defScope s_BadNumber___init__) := ⟨rfl, rfl, rfl, by decide +kernel, rfl, by decide +kernel, by decide +kernel⟩
theorem exc_BadNumber {P : Program} {w : World} {K : PySem.W.Frag} {mg : Str → Option Value} {base : Heap} {k : Nat} (T : Txt w K mg) : Exc P w K mg base (He.ga K) (k + 1) "BadNumber" ["number"] :=
  exc_mk (xs := ["number"]) T.e_BadNumber sc_BadNumber___init__ rfl (by decide) (by decide) (fun _ _ _ _ _ _ us hl => match us, hl with | [_, _], _ => rfl) (InitB.cons rfl (Or.inl rfl) (by decide) (by decide) InitB.nil) (Or.inl rfl)
theorem sc_WrongMachine___init__ : FnScope ["self", "index"] ["self", "index"] (defScope s_WrongMachine___init__) := ⟨rfl, rfl, rfl, by decide +kernel, rfl, by decide +kernel, by decide +kernel⟩
theorem exc_WrongMachine {P : Program} {w : World} {K : PySem.W.Frag} {mg : Str → Option Value} {base : Heap} {k : Nat} (T : Txt w K mg) : Exc P w K mg base (He.ga K) (k + 1) "WrongMachine" ["index"] :=
  exc_mk (xs := ["index"]) T.e_WrongMachine sc_WrongMachine___init__ rfl (by decide) (by decide) (fun _ _ _ _ _ _ us hl => match us, hl with | [_, _], _ => rfl) (InitB.cons rfl (Or.inl rfl) (by decide) (by decide) InitB.nil) (Or.inl rfl)
theorem sc_BadHole___init__ : FnScope ["self", "place"] ["self", "place"] (defScope s_BadHole___init__) := ⟨rfl, rfl, rfl, by decide +kernel, rfl, by decide +kernel, by decide +kernel⟩
theorem exc_BadHole {P : Program} {w : World} {K : PySem.W.Frag} {mg : Str → Option Value} {base : Heap} {k : Nat} (T : Txt w K mg) : Exc P w K mg base (He.ga K) (k + 1) "BadHole" ["place"] :=
  exc_mk (xs := ["place"]) T.e_BadHole sc_BadHole___init__ rfl (by decide) (by decide) (fun _ _ _ _ _ _ us hl => match us, hl with | [_, _], _ => rfl) (InitB.cons rfl (Or.inl rfl) (by decide) (by decide) InitB.nil) (Or.inl rfl)
theorem sc_BadManner___init__ : FnScope ["self", "state"] ["self", "state"] (defScope s_BadManner___init__) := ⟨rfl, rfl, rfl, by decide +kernel, rfl, by decide +kernel, by decide +kernel⟩
theorem exc_BadManner {P : Program} {w : World} {K : PySem.W.Frag} {mg : Str → Option Value} {base : Heap} {k : Nat} (T : Txt w K mg) : Exc P w K mg base (He.ga K) (k + 1) "BadManner" ["state"] :=
  exc_mk (xs := ["state"]) T.e_BadManner sc_BadManner___init__ rfl (by decide) (by decide) (fun _ _ _ _ _ _ us hl => match us, hl with | [_, _], _ => rfl) (InitB.cons rfl (Or.inl rfl) (by decide) (by decide) InitB.nil) (Or.inl rfl)
section
variable {X : Cx} {I : List Nat} {Y : Yx I} {pos : Pos}
end

end K96

namespace K96
open PySem PySem.Spec PyProof.Rows L2 ML
def d__law_cell : He.DefD := ⟨("_law_cell", none), "_law_cell", "_law_cell", defArgs s__law_cell, defBody s__law_cell, defScope s__law_cell, [], []⟩
def d__law_digits : He.DefD := ⟨("_law_digits", none), "_law_digits", "_law_digits", defArgs s__law_digits, defBody s__law_digits, defScope s__law_digits, [], []⟩
def d__law_same : He.DefD := ⟨("_law_same", none), "_law_same", "_law_same", defArgs s__law_same, defBody s__law_same, defScope s__law_same, [], []⟩
def d__law_text : He.DefD := ⟨("_law_text", none), "_law_text", "_law_text", defArgs s__law_text, defBody s__law_text, defScope s__law_text, [], []⟩
def d__law_drawn : He.DefD := ⟨("_law_drawn", none), "_law_drawn", "_law_drawn", defArgs s__law_drawn, defBody s__law_drawn, defScope s__law_drawn, [], []⟩
def d__law_raise : He.DefD := ⟨("_law_raise", none), "_law_raise", "_law_raise", defArgs s__law_raise, defBody s__law_raise, defScope s__law_raise, [], []⟩
def d__law_due_fields : He.DefD := ⟨("_law_due_fields", none), "_law_due_fields", "_law_due_fields", defArgs s__law_due_fields, defBody s__law_due_fields, defScope s__law_due_fields, [], []⟩
def d__law_told : He.DefD := ⟨("_law_told", none), "_law_told", "_law_told", defArgs s__law_told, defBody s__law_told, defScope s__law_told, [], []⟩
def d_law : He.DefD := ⟨("law", none), "law", "law", defArgs s_law, defBody s_law, defScope s_law, [], []⟩
def d_BadSize___init__ : He.DefD := ⟨("BadSize", some "__init__"), "__init__", "BadSize.__init__", defArgs s_BadSize___init__, defBody s_BadSize___init__, defScope s_BadSize___init__, [], []⟩
def d_BadName___init__ : He.DefD := ⟨("BadName", some "__init__"), "__init__", "BadName.__init__", defArgs s_BadName___init__, defBody s_BadName___init__, defScope s_BadName___init__, [], []⟩
def d_RepeatedName___init__ : He.DefD := ⟨("RepeatedName", some "__init__"), "__init__", "RepeatedName.__init__", defArgs s_RepeatedName___init__, defBody s_RepeatedName___init__, defScope s_RepeatedName___init__, [], []⟩
def d_BadProcedure___init__ : He.DefD := ⟨("BadProcedure", some "__init__"), "__init__", "BadProcedure.__init__", defArgs s_BadProcedure___init__, defBody s_BadProcedure___init__, defScope s_BadProcedure___init__, [], []⟩
def d_NoSuchName___init__ : He.DefD := ⟨("NoSuchName", some "__init__"), "__init__", "NoSuchName.__init__", defArgs s_NoSuchName___init__, defBody s_NoSuchName___init__, defScope s_NoSuchName___init__, [], []⟩
def d_BadBlock___init__ : He.DefD := ⟨("BadBlock", some "__init__"), "__init__", "BadBlock.__init__", defArgs s_BadBlock___init__, defBody s_BadBlock___init__, defScope s_BadBlock___init__, [], []⟩
def d_OutOfRange___init__ : He.DefD := ⟨("OutOfRange", some "__init__"), "__init__", "OutOfRange.__init__", defArgs s_OutOfRange___init__, defBody s_OutOfRange___init__, defScope s_OutOfRange___init__, [], []⟩
def d_UnknownName___init__ : He.DefD := ⟨("UnknownName", some "__init__"), "__init__", "UnknownName.__init__", defArgs s_UnknownName___init__, defBody s_UnknownName___init__, defScope s_UnknownName___init__, [], []⟩
def d_WrongName___init__ : He.DefD := ⟨("WrongName", some "__init__"), "__init__", "WrongName.__init__", defArgs s_WrongName___init__, defBody s_WrongName___init__, defScope s_WrongName___init__, [], []⟩
def d_WrongCount___init__ : He.DefD := ⟨("WrongCount", some "__init__"), "__init__", "WrongCount.__init__", defArgs s_WrongCount___init__, defBody s_WrongCount___init__, defScope s_WrongCount___init__, [], []⟩
def d_WrongKind___init__ : He.DefD := ⟨("WrongKind", some "__init__"), "__init__", "WrongKind.__init__", defArgs s_WrongKind___init__, defBody s_WrongKind___init__, defScope s_WrongKind___init__, [], []⟩
def d_QuitInside___init__ : He.DefD := ⟨("QuitInside", some "__init__"), "__init__", "QuitInside.__init__", defArgs s_QuitInside___init__, defBody s_QuitInside___init__, defScope s_QuitInside___init__, [], []⟩
def d_FreeCell___init__ : He.DefD := ⟨("FreeCell", some "__init__"), "__init__", "FreeCell.__init__", defArgs s_FreeCell___init__, defBody s_FreeCell___init__, defScope s_FreeCell___init__, [], []⟩
def d_NoPlace___init__ : He.DefD := ⟨("NoPlace", some "__init__"), "__init__", "NoPlace.__init__", defArgs s_NoPlace___init__, defBody s_NoPlace___init__, defScope s_NoPlace___init__, [], []⟩
def d_TooLarge___init__ : He.DefD := ⟨("TooLarge", some "__init__"), "__init__", "TooLarge.__init__", defArgs s_TooLarge___init__, defBody s_TooLarge___init__, defScope s_TooLarge___init__, [], []⟩
def d_BadText___init__ : He.DefD := ⟨("BadText", some "__init__"), "__init__", "BadText.__init__", defArgs s_BadText___init__, defBody s_BadText___init__, defScope s_BadText___init__, [], []⟩
def d_BadMove___init__ : He.DefD := ⟨("BadMove", some "__init__"), "__init__", "BadMove.__init__", defArgs s_BadMove___init__, defBody s_BadMove___init__, defScope s_BadMove___init__, [], []⟩
def d_BadTable___init__ : He.DefD := ⟨("BadTable", some "__init__"), "__init__", "BadTable.__init__", defArgs s_BadTable___init__, defBody s_BadTable___init__, defScope s_BadTable___init__, [], []⟩
def d_Clash___init__ : He.DefD := ⟨("Clash", some "__init__"), "__init__", "Clash.__init__", defArgs s_Clash___init__, defBody s_Clash___init__, defScope s_Clash___init__, [], []⟩
def d_BadNumber___init__ : He.DefD := ⟨("BadNumber", some "__init__"), "__init__", "BadNumber.__init__", defArgs s_BadNumber___init__, defBody s_BadNumber___init__, defScope s_BadNumber___init__, [], []⟩
def d_WrongMachine___init__ : He.DefD := ⟨("WrongMachine", some "__init__"), "__init__", "WrongMachine.__init__", defArgs s_WrongMachine___init__, defBody s_WrongMachine___init__, defScope s_WrongMachine___init__, [], []⟩
def d_BadHole___init__ : He.DefD := ⟨("BadHole", some "__init__"), "__init__", "BadHole.__init__", defArgs s_BadHole___init__, defBody s_BadHole___init__, defScope s_BadHole___init__, [], []⟩
def d_BadManner___init__ : He.DefD := ⟨("BadManner", some "__init__"), "__init__", "BadManner.__init__", defArgs s_BadManner___init__, defBody s_BadManner___init__, defScope s_BadManner___init__, [], []⟩
def hfn0 : List He.DefD := [d__law_cell, d__law_digits, d__law_same, d__law_text, d__law_drawn, d__law_raise, d__law_due_fields, d__law_told, d_law, d_BadSize___init__, d_BadName___init__, d_RepeatedName___init__]
def hfn1 : List He.DefD := [d_BadProcedure___init__, d_NoSuchName___init__, d_BadBlock___init__, d_OutOfRange___init__, d_UnknownName___init__, d_WrongName___init__, d_WrongCount___init__, d_WrongKind___init__, d_QuitInside___init__, d_FreeCell___init__, d_NoPlace___init__, d_TooLarge___init__]
def hfn2 : List He.DefD := [d_BadText___init__, d_BadMove___init__, d_BadTable___init__, d_Clash___init__, d_BadNumber___init__, d_WrongMachine___init__, d_BadHole___init__, d_BadManner___init__]
def hfn : List He.DefD := hfn0 ++ hfn1 ++ hfn2
def hfa0 : List He.Fa := [.glo "_law_cell", .glo "_law_digits", .glo "_law_same", .glo "_law_text", .glo "_law_drawn", .glo "_law_raise", .glo "_law_due_fields", .glo "_law_told", .glo "law", .free "int", .free "str", .free "tuple"]
def hfa1 : List He.Fa := [.free "bool", .free "len", .free "isinstance", .free "range", .free "ValueError", .glo "HeardError", .glo "BadSize", .glo "BadName", .glo "RepeatedName", .glo "BadProcedure", .glo "NoSuchName", .glo "BadBlock"]
def hfa2 : List He.Fa := [.glo "OutOfRange", .glo "UnknownName", .glo "WrongName", .glo "WrongCount", .glo "WrongKind", .glo "QuitInside", .glo "FreeCell", .glo "NoPlace", .glo "TooLarge", .glo "BadText", .glo "BadMove", .glo "BadTable"]
def hfa3 : List He.Fa := [.glo "SignaturesDiffer", .glo "KindsDiffer", .glo "Clash", .glo "BadNumber", .glo "WrongMachine", .glo "BadHole", .glo "NotFinished", .glo "BadManner", .glo "BadTest", .glo "NotSingle", .meth "BadSize" "__init__", .meth "BadName" "__init__"]
def hfa4 : List He.Fa := [.meth "RepeatedName" "__init__", .meth "BadProcedure" "__init__", .meth "NoSuchName" "__init__", .meth "BadBlock" "__init__", .meth "OutOfRange" "__init__", .meth "UnknownName" "__init__", .meth "WrongName" "__init__", .meth "WrongCount" "__init__", .meth "WrongKind" "__init__", .meth "QuitInside" "__init__", .meth "FreeCell" "__init__", .meth "NoPlace" "__init__"]
def hfa5 : List He.Fa := [.meth "TooLarge" "__init__", .meth "BadText" "__init__", .meth "BadMove" "__init__", .meth "BadTable" "__init__", .meth "Clash" "__init__", .meth "BadNumber" "__init__", .meth "WrongMachine" "__init__", .meth "BadHole" "__init__", .meth "BadManner" "__init__"]
def hfa : List He.Fa := hfa0 ++ hfa1 ++ hfa2 ++ hfa3 ++ hfa4 ++ hfa5
def hts : List He.Tab := []
def hms0 : List (PySem.W.Frag → Bool) := [(fun K => cl_all.all fun c => decide (PySem.W.exmOne K (.ref (He.ga K c)) (.ref (He.ga K "HeardError")) = some true)), (fun K => cl_all.all fun c => excB K (He.ga K c)), (fun K => cl_all.all fun D => cl_all.all fun c => decide (PySem.W.kitOne K (.ref (He.ga K c)) (.ref (He.ga K D)) = some (decide (c = D)))), (fun K => cl_all.all fun c => decide (PySem.W.kitOne K (.ref (He.ga K c)) (.type "ValueError") = some true))]
def hms1 : List (PySem.W.Frag → Bool) := [(fun K => fl_index.all fun c => xfB K (He.ga K c) && decide (PySem.W.findIn K (.ref (He.ga K c)) "index" = some none)), (fun K => fl_most.all fun c => xfB K (He.ga K c) && decide (PySem.W.findIn K (.ref (He.ga K c)) "most" = some none)), (fun K => fl_moves.all fun c => xfB K (He.ga K c) && decide (PySem.W.findIn K (.ref (He.ga K c)) "moves" = some none)), (fun K => fl_name.all fun c => xfB K (He.ga K c) && decide (PySem.W.findIn K (.ref (He.ga K c)) "name" = some none))]
def hms2 : List (PySem.W.Frag → Bool) := [(fun K => fl_number.all fun c => xfB K (He.ga K c) && decide (PySem.W.findIn K (.ref (He.ga K c)) "number" = some none)), (fun K => fl_place.all fun c => xfB K (He.ga K c) && decide (PySem.W.findIn K (.ref (He.ga K c)) "place" = some none)), (fun K => fl_size.all fun c => xfB K (He.ga K c) && decide (PySem.W.findIn K (.ref (He.ga K c)) "size" = some none)), (fun K => fl_standing.all fun c => xfB K (He.ga K c) && decide (PySem.W.findIn K (.ref (He.ga K c)) "standing" = some none))]
def hms3 : List (PySem.W.Frag → Bool) := [(fun K => fl_state.all fun c => xfB K (He.ga K c) && decide (PySem.W.findIn K (.ref (He.ga K c)) "state" = some none)), (fun K => oexB K (He.ga K "BadSize") && ["size"].all fun f => decide (PySem.W.findIn K (.ref (He.ga K "BadSize")) f = some none)), (fun K => oexB K (He.ga K "BadName") && ["name"].all fun f => decide (PySem.W.findIn K (.ref (He.ga K "BadName")) f = some none)), (fun K => oexB K (He.ga K "RepeatedName") && ["name"].all fun f => decide (PySem.W.findIn K (.ref (He.ga K "RepeatedName")) f = some none))]
def hms4 : List (PySem.W.Frag → Bool) := [(fun K => oexB K (He.ga K "BadProcedure") && ["name"].all fun f => decide (PySem.W.findIn K (.ref (He.ga K "BadProcedure")) f = some none)), (fun K => oexB K (He.ga K "NoSuchName") && ["name"].all fun f => decide (PySem.W.findIn K (.ref (He.ga K "NoSuchName")) f = some none)), (fun K => oexB K (He.ga K "BadBlock") && ["place"].all fun f => decide (PySem.W.findIn K (.ref (He.ga K "BadBlock")) f = some none)), (fun K => oexB K (He.ga K "OutOfRange") && ["place"].all fun f => decide (PySem.W.findIn K (.ref (He.ga K "OutOfRange")) f = some none))]
def hms5 : List (PySem.W.Frag → Bool) := [(fun K => oexB K (He.ga K "UnknownName") && ["place", "name"].all fun f => decide (PySem.W.findIn K (.ref (He.ga K "UnknownName")) f = some none)), (fun K => oexB K (He.ga K "WrongName") && ["place", "name"].all fun f => decide (PySem.W.findIn K (.ref (He.ga K "WrongName")) f = some none)), (fun K => oexB K (He.ga K "WrongCount") && ["place"].all fun f => decide (PySem.W.findIn K (.ref (He.ga K "WrongCount")) f = some none)), (fun K => oexB K (He.ga K "WrongKind") && ["place"].all fun f => decide (PySem.W.findIn K (.ref (He.ga K "WrongKind")) f = some none))]
def hms6 : List (PySem.W.Frag → Bool) := [(fun K => oexB K (He.ga K "QuitInside") && ["place"].all fun f => decide (PySem.W.findIn K (.ref (He.ga K "QuitInside")) f = some none)), (fun K => oexB K (He.ga K "FreeCell") && ["name"].all fun f => decide (PySem.W.findIn K (.ref (He.ga K "FreeCell")) f = some none)), (fun K => oexB K (He.ga K "NoPlace") && ["place"].all fun f => decide (PySem.W.findIn K (.ref (He.ga K "NoPlace")) f = some none)), (fun K => oexB K (He.ga K "TooLarge") && ["most"].all fun f => decide (PySem.W.findIn K (.ref (He.ga K "TooLarge")) f = some none))]
def hms7 : List (PySem.W.Frag → Bool) := [(fun K => oexB K (He.ga K "BadText") && ["index"].all fun f => decide (PySem.W.findIn K (.ref (He.ga K "BadText")) f = some none)), (fun K => oexB K (He.ga K "BadMove") && ["index"].all fun f => decide (PySem.W.findIn K (.ref (He.ga K "BadMove")) f = some none)), (fun K => oexB K (He.ga K "BadTable") && ["standing"].all fun f => decide (PySem.W.findIn K (.ref (He.ga K "BadTable")) f = some none)), (fun K => oexB K (He.ga K "Clash") && ["moves"].all fun f => decide (PySem.W.findIn K (.ref (He.ga K "Clash")) f = some none))]
def hms8 : List (PySem.W.Frag → Bool) := [(fun K => oexB K (He.ga K "BadNumber") && ["number"].all fun f => decide (PySem.W.findIn K (.ref (He.ga K "BadNumber")) f = some none)), (fun K => oexB K (He.ga K "WrongMachine") && ["index"].all fun f => decide (PySem.W.findIn K (.ref (He.ga K "WrongMachine")) f = some none)), (fun K => oexB K (He.ga K "BadHole") && ["place"].all fun f => decide (PySem.W.findIn K (.ref (He.ga K "BadHole")) f = some none)), (fun K => oexB K (He.ga K "BadManner") && ["state"].all fun f => decide (PySem.W.findIn K (.ref (He.ga K "BadManner")) f = some none))]
def hms9 : List (PySem.W.Frag → Bool) := [(fun K => PySem.W.excIn K (He.ga K "SignaturesDiffer") He.veBase "ValueError.__new__" && (PySem.W.keepIn K (.ref (He.ga K "SignaturesDiffer")) && (decide (PySem.W.subIn K (.ref (He.ga K "SignaturesDiffer")) (.type "BaseException") = some true) && decide (PySem.W.typeIn K (.ref (He.ga K "SignaturesDiffer")) = some (.type "type"))))), (fun K => PySem.W.excIn K (He.ga K "KindsDiffer") He.veBase "ValueError.__new__" && (PySem.W.keepIn K (.ref (He.ga K "KindsDiffer")) && (decide (PySem.W.subIn K (.ref (He.ga K "KindsDiffer")) (.type "BaseException") = some true) && decide (PySem.W.typeIn K (.ref (He.ga K "KindsDiffer")) = some (.type "type"))))), (fun K => PySem.W.excIn K (He.ga K "NotFinished") He.veBase "ValueError.__new__" && (PySem.W.keepIn K (.ref (He.ga K "NotFinished")) && (decide (PySem.W.subIn K (.ref (He.ga K "NotFinished")) (.type "BaseException") = some true) && decide (PySem.W.typeIn K (.ref (He.ga K "NotFinished")) = some (.type "type"))))), (fun K => PySem.W.excIn K (He.ga K "BadTest") He.veBase "ValueError.__new__" && (PySem.W.keepIn K (.ref (He.ga K "BadTest")) && (decide (PySem.W.subIn K (.ref (He.ga K "BadTest")) (.type "BaseException") = some true) && decide (PySem.W.typeIn K (.ref (He.ga K "BadTest")) = some (.type "type")))))]
def hms10 : List (PySem.W.Frag → Bool) := [(fun K => PySem.W.excIn K (He.ga K "NotSingle") He.veBase "ValueError.__new__" && (PySem.W.keepIn K (.ref (He.ga K "NotSingle")) && (decide (PySem.W.subIn K (.ref (He.ga K "NotSingle")) (.type "BaseException") = some true) && decide (PySem.W.typeIn K (.ref (He.ga K "NotSingle")) = some (.type "type")))))]
def hms : List (PySem.W.Frag → Bool) := hms0 ++ hms1 ++ hms2 ++ hms3 ++ hms4 ++ hms5 ++ hms6 ++ hms7 ++ hms8 ++ hms9 ++ hms10
def hmore (K : PySem.W.Frag) : Bool := hms.all fun f => f K
abbrev hR : PySem.W.OpenRow := PySem.W.OpenLaw.row PySem.Challenge.rw_heardsaid_k96_errors_apart
abbrev hhk : PySem.W.Hook := hookM 5 hfa hfn hts hmore
def hob (s : PySem.W.SharedT) : AlM := obsMG 5 hfa hfn hts hmore (HandSHeadRun.getT s)
theorem hob_eq (s : PySem.W.SharedT) : hob s = hhk.obs s.abs := obsMG_eq (HandSHeadRun.getT_eq s)
def hnames0 : List Str := ["HeardError", "BadSize", "BadName", "RepeatedName", "BadProcedure", "NoSuchName", "BadBlock", "OutOfRange", "UnknownName", "WrongName", "WrongCount", "WrongKind"]
def hnames1 : List Str := ["QuitInside", "FreeCell", "NoPlace", "TooLarge", "BadText", "BadMove", "BadTable", "SignaturesDiffer", "KindsDiffer", "Clash", "BadNumber", "WrongMachine"]
def hnames2 : List Str := ["BadHole", "NotFinished", "BadManner", "BadTest", "NotSingle", "_law_cell", "_law_digits", "_law_same", "_law_text", "_law_drawn", "_law_raise", "_law_due_fields"]
def hnames3 : List Str := ["_law_told"]
def hnames : List Str := hnames0 ++ hnames1 ++ hnames2 ++ hnames3
theorem hrun (w : World) : HandSHeadRun.RunEq hR (PySem.W.view hR.prog [39]) hhk hob 20000 hnames w :=
  by intro os; kernel_rfl
theorem and_l {a b : Bool} (h : (a && b) = true) : a = true := (Bool.and_eq_true_iff.mp h).1
theorem and_r {a b : Bool} (h : (a && b) = true) : b = true := (Bool.and_eq_true_iff.mp h).2
section
variable {K : PySem.W.Frag} {x D f : Str} {b : Bool}
theorem cm_of (h : (cl_all.all fun c => decide (PySem.W.exmOne K (.ref (He.ga K c)) (.ref (He.ga K "HeardError")) = some true)) = true) (e : cm_all x = some b) : PySem.W.exmOne K (.ref (He.ga K x)) (.ref (He.ga K "HeardError")) = some b := by
  unfold cm_all at e
  split at e
  · rename_i hx
    cases e
    exact of_decide_eq_true (List.all_eq_true.mp h x hx)
  · cases e
theorem kit_of (h : (cl_all.all fun D => cl_all.all fun c => decide (PySem.W.kitOne K (.ref (He.ga K c)) (.ref (He.ga K D)) = some (decide (c = D)))) = true) (hD : D ∈ cl_all) (e : kiT D x = some b) : x ∈ cl_all ∧ PySem.W.kitOne K (.ref (He.ga K x)) (.ref (He.ga K D)) = some b := by
  unfold kiT at e
  split at e
  · rename_i hx
    cases e
    exact ⟨hx, of_decide_eq_true (List.all_eq_true.mp (List.all_eq_true.mp h D hD) x hx)⟩
  · cases e
theorem kitV_of (h : (cl_all.all fun c => decide (PySem.W.kitOne K (.ref (He.ga K c)) (.type "ValueError") = some true)) = true) (e : kiV x = some b) : x ∈ cl_all ∧ PySem.W.kitOne K (.ref (He.ga K x)) (.type "ValueError") = some b := by
  unfold kiV at e
  split at e
  · rename_i hx
    cases e
    exact ⟨hx, of_decide_eq_true (List.all_eq_true.mp h x hx)⟩
  · cases e
theorem fl_of {l : List Str} (h : (l.all fun c => xfB K (He.ga K c) && decide (PySem.W.findIn K (.ref (He.ga K c)) f = some none)) = true) (e : x ∈ l) : XfC K (He.ga K x) ∧ PySem.W.findIn K (.ref (He.ga K x)) f = some none := by
  have z := List.all_eq_true.mp h x e
  exact ⟨xfB_ok (and_l z), of_decide_eq_true (and_r z)⟩
theorem exc0_of {mg : Str → Option Value} (g : mg x = some (.ref (He.ga K x))) (h : (PySem.W.excIn K (He.ga K x) He.veBase "ValueError.__new__" && (PySem.W.keepIn K (.ref (He.ga K x)) && (decide (PySem.W.subIn K (.ref (He.ga K x)) (.type "BaseException") = some true) && decide (PySem.W.typeIn K (.ref (He.ga K x)) = some (.type "type"))))) = true) : Exc0 K mg (He.ga K) x :=
  ⟨g, and_l h, and_l (and_r h), of_decide_eq_true (and_l (and_r (and_r h))), of_decide_eq_true (and_r (and_r (and_r h)))⟩
end
theorem txt_ok {w : World} {K : PySem.W.Frag} {h : Heap} {mg : Str → Option Value} (X : K.In h) (G : h.Ns mainGlobals mg) (c : SaysM hfa hfn hts hmore w K) : Txt w K mg := by
  have M := c.m
  exact {
    s__law_cell := src_ok X G c 0 0,
    s__law_digits := src_ok X G c 1 1,
    s__law_same := src_ok X G c 2 2,
    s__law_text := src_ok X G c 3 3,
    s__law_drawn := src_ok X G c 4 4,
    s__law_raise := src_ok X G c 5 5,
    s__law_due_fields := src_ok X G c 6 6,
    s__law_told := src_ok X G c 7 7,
    s_law := src_ok X G c 8 8,
    b_int := He.free_ok X G (c.fact 9 (f := .free "int")),
    b_str := He.free_ok X G (c.fact 10 (f := .free "str")),
    b_tuple := He.free_ok X G (c.fact 11 (f := .free "tuple")),
    b_bool := He.free_ok X G (c.fact 12 (f := .free "bool")),
    b_len := He.free_ok X G (c.fact 13 (f := .free "len")),
    b_isinstance := He.free_ok X G (c.fact 14 (f := .free "isinstance")),
    b_range := He.free_ok X G (c.fact 15 (f := .free "range")),
    b_ValueError := He.free_ok X G (c.fact 16 (f := .free "ValueError")),
    g_HeardError := He.glo_ok X G (c.fact 17 (f := .glo "HeardError")),
    g_BadSize := He.glo_ok X G (c.fact 18 (f := .glo "BadSize")),
    g_BadName := He.glo_ok X G (c.fact 19 (f := .glo "BadName")),
    g_RepeatedName := He.glo_ok X G (c.fact 20 (f := .glo "RepeatedName")),
    g_BadProcedure := He.glo_ok X G (c.fact 21 (f := .glo "BadProcedure")),
    g_NoSuchName := He.glo_ok X G (c.fact 22 (f := .glo "NoSuchName")),
    g_BadBlock := He.glo_ok X G (c.fact 23 (f := .glo "BadBlock")),
    g_OutOfRange := He.glo_ok X G (c.fact 24 (f := .glo "OutOfRange")),
    g_UnknownName := He.glo_ok X G (c.fact 25 (f := .glo "UnknownName")),
    g_WrongName := He.glo_ok X G (c.fact 26 (f := .glo "WrongName")),
    g_WrongCount := He.glo_ok X G (c.fact 27 (f := .glo "WrongCount")),
    g_WrongKind := He.glo_ok X G (c.fact 28 (f := .glo "WrongKind")),
    g_QuitInside := He.glo_ok X G (c.fact 29 (f := .glo "QuitInside")),
    g_FreeCell := He.glo_ok X G (c.fact 30 (f := .glo "FreeCell")),
    g_NoPlace := He.glo_ok X G (c.fact 31 (f := .glo "NoPlace")),
    g_TooLarge := He.glo_ok X G (c.fact 32 (f := .glo "TooLarge")),
    g_BadText := He.glo_ok X G (c.fact 33 (f := .glo "BadText")),
    g_BadMove := He.glo_ok X G (c.fact 34 (f := .glo "BadMove")),
    g_BadTable := He.glo_ok X G (c.fact 35 (f := .glo "BadTable")),
    g_SignaturesDiffer := He.glo_ok X G (c.fact 36 (f := .glo "SignaturesDiffer")),
    g_KindsDiffer := He.glo_ok X G (c.fact 37 (f := .glo "KindsDiffer")),
    g_Clash := He.glo_ok X G (c.fact 38 (f := .glo "Clash")),
    g_BadNumber := He.glo_ok X G (c.fact 39 (f := .glo "BadNumber")),
    g_WrongMachine := He.glo_ok X G (c.fact 40 (f := .glo "WrongMachine")),
    g_BadHole := He.glo_ok X G (c.fact 41 (f := .glo "BadHole")),
    g_NotFinished := He.glo_ok X G (c.fact 42 (f := .glo "NotFinished")),
    g_BadManner := He.glo_ok X G (c.fact 43 (f := .glo "BadManner")),
    g_BadTest := He.glo_ok X G (c.fact 44 (f := .glo "BadTest")),
    g_NotSingle := He.glo_ok X G (c.fact 45 (f := .glo "NotSingle")),
    cm := fun x b h => cm_of (all_at M 0) h,
    i_all := fun x h => excB_ok (List.all_eq_true.mp (all_at M 1) x h),
    kit := fun D hD x b h => kit_of (all_at M 2) hD h,
    kit_ValueError := fun x b h => kitV_of (all_at M 3) h,
    f_index := fun x h => fl_of (all_at M 4) h,
    f_most := fun x h => fl_of (all_at M 5) h,
    f_moves := fun x h => fl_of (all_at M 6) h,
    f_name := fun x h => fl_of (all_at M 7) h,
    f_number := fun x h => fl_of (all_at M 8) h,
    f_place := fun x h => fl_of (all_at M 9) h,
    f_size := fun x h => fl_of (all_at M 10) h,
    f_standing := fun x h => fl_of (all_at M 11) h,
    f_state := fun x h => fl_of (all_at M 12) h,
    e_BadSize := errT_ok X G c 9 18 46 (ho := and_l (all_at M 13)) (hf := and_r (all_at M 13)),
    e_BadName := errT_ok X G c 10 19 47 (ho := and_l (all_at M 14)) (hf := and_r (all_at M 14)),
    e_RepeatedName := errT_ok X G c 11 20 48 (ho := and_l (all_at M 15)) (hf := and_r (all_at M 15)),
    e_BadProcedure := errT_ok X G c 12 21 49 (ho := and_l (all_at M 16)) (hf := and_r (all_at M 16)),
    e_NoSuchName := errT_ok X G c 13 22 50 (ho := and_l (all_at M 17)) (hf := and_r (all_at M 17)),
    e_BadBlock := errT_ok X G c 14 23 51 (ho := and_l (all_at M 18)) (hf := and_r (all_at M 18)),
    e_OutOfRange := errT_ok X G c 15 24 52 (ho := and_l (all_at M 19)) (hf := and_r (all_at M 19)),
    e_UnknownName := errT_ok X G c 16 25 53 (ho := and_l (all_at M 20)) (hf := and_r (all_at M 20)),
    e_WrongName := errT_ok X G c 17 26 54 (ho := and_l (all_at M 21)) (hf := and_r (all_at M 21)),
    e_WrongCount := errT_ok X G c 18 27 55 (ho := and_l (all_at M 22)) (hf := and_r (all_at M 22)),
    e_WrongKind := errT_ok X G c 19 28 56 (ho := and_l (all_at M 23)) (hf := and_r (all_at M 23)),
    e_QuitInside := errT_ok X G c 20 29 57 (ho := and_l (all_at M 24)) (hf := and_r (all_at M 24)),
    e_FreeCell := errT_ok X G c 21 30 58 (ho := and_l (all_at M 25)) (hf := and_r (all_at M 25)),
    e_NoPlace := errT_ok X G c 22 31 59 (ho := and_l (all_at M 26)) (hf := and_r (all_at M 26)),
    e_TooLarge := errT_ok X G c 23 32 60 (ho := and_l (all_at M 27)) (hf := and_r (all_at M 27)),
    e_BadText := errT_ok X G c 24 33 61 (ho := and_l (all_at M 28)) (hf := and_r (all_at M 28)),
    e_BadMove := errT_ok X G c 25 34 62 (ho := and_l (all_at M 29)) (hf := and_r (all_at M 29)),
    e_BadTable := errT_ok X G c 26 35 63 (ho := and_l (all_at M 30)) (hf := and_r (all_at M 30)),
    e_Clash := errT_ok X G c 27 38 64 (ho := and_l (all_at M 31)) (hf := and_r (all_at M 31)),
    e_BadNumber := errT_ok X G c 28 39 65 (ho := and_l (all_at M 32)) (hf := and_r (all_at M 32)),
    e_WrongMachine := errT_ok X G c 29 40 66 (ho := and_l (all_at M 33)) (hf := and_r (all_at M 33)),
    e_BadHole := errT_ok X G c 30 41 67 (ho := and_l (all_at M 34)) (hf := and_r (all_at M 34)),
    e_BadManner := errT_ok X G c 31 43 68 (ho := and_l (all_at M 35)) (hf := and_r (all_at M 35)),
    z_SignaturesDiffer := exc0_of (He.glo_ok X G (c.fact 36 (f := .glo "SignaturesDiffer"))) (all_at M 36),
    z_KindsDiffer := exc0_of (He.glo_ok X G (c.fact 37 (f := .glo "KindsDiffer"))) (all_at M 37),
    z_NotFinished := exc0_of (He.glo_ok X G (c.fact 42 (f := .glo "NotFinished"))) (all_at M 38),
    z_BadTest := exc0_of (He.glo_ok X G (c.fact 44 (f := .glo "BadTest"))) (all_at M 39),
    z_NotSingle := exc0_of (He.glo_ok X G (c.fact 45 (f := .glo "NotSingle"))) (all_at M 40) }
end K96

namespace K96
open PySem PySem.Spec PyProof.Rows L2 ML
section
variable {P : Program} {w : World} {K : PySem.W.Frag} {mg : Str → Option Value} {base : Heap} {k : Nat}
/-! _law_cell -/
theorem sc__law_cell : FnScope ["_law_script", "_law_k", "_law_seed", "_law_cell_here"] ["_law_script", "_law_k"] (defScope s__law_cell) := ⟨rfl, rfl, rfl, by decide +kernel, rfl, by decide +kernel, by decide +kernel⟩
def body__law_cell : Rho → ML.R Fl := mSeq (mIf (mTest (mOp (gCmp (fun i j => decide (i < j))) (mVar 1) (mCB gLen [mVar 0]))) (mRet [] (mOp gIx (mVar 0) (mVar 1))) (mNext)) (mSeq (mSet [] 2 (mC (.int 17))) (mSeq (mFor (mItems [] (mVar 0)) (gSet [] 3) (mSet [] 2 (mOp gMod (mCB gInt [mOp gAdd (mOp gMul (mVar 2) (mC (.int 31))) (mOp gMod (mCB gInt [mVar 3]) (mC (.int 1000003)))]) (mC (.int 1000003))))) (mRet [] (mOp gMod (mCB gInt [mOp gMul (mOp gMul (mOp gAdd (mVar 2) (mC (.int 7))) (mOp gAdd (mVar 1) (mC (.int 3)))) (mC (.int 69621))]) (mC (.int 2147483647))))))
def fun__law_cell : List W → FR := mFun [] 4 (body__law_cell)
theorem def__law_cell (T : Txt w K mg) : Def P w K mg base (He.ga K) (k + 1) "_law_cell" ["_law_script", "_law_k"] [] (fun__law_cell) :=
  def_mk (N := ["_law_script", "_law_k", "_law_seed", "_law_cell_here"]) (g := body__law_cell) T.s__law_cell sc__law_cell (by decide) (fun _ _ _ _ _ _ us hl => match us, hl with | [_, _], _ => rfl) fun f cdv A outer s H E Y hr hct tk =>
    (psm_cons (psm_if (ptm_cmp op_lt g_cmp (pem_var 1 (pv 1)) (pem_callB (call_len) rfl T.b_len (by rfl) g_len (pam_cons (pem_var 0 (pv 0)) (pam_nil))) (nomark _)) (psm_one (psm_ret (pem_ix (pem_var 0 (pv 0)) (pem_var 1 (pv 1))))) (psm_nil)) (psm_cons (psm_set (i := 2) sc__law_cell.nd rfl (Or.inl rfl) (pem_int)) (psm_cons (psm_for (passes_of rfl) rfl (pim_seq (pem_var 0 (pv 0))) (pgm_name (pg_name (i := 3) sc__law_cell.nd rfl (Or.inl rfl))) (psm_one (psm_set (i := 2) sc__law_cell.nd rfl (Or.inl rfl) (pem_op op_mod g_mod (pem_callTy c_int rfl T.b_int (by rfl) g_int (pam_cons (pem_op o_add g_add (pem_op o_mul g_mul (pem_var 2 (pv 2)) (pem_int)) (pem_op op_mod g_mod (pem_callTy c_int rfl T.b_int (by rfl) g_int (pam_cons (pem_var 3 (pv 3)) (pam_nil))) (pem_int))) (pam_nil))) (pem_int))))) (psm_one (psm_ret (pem_op op_mod g_mod (pem_callTy c_int rfl T.b_int (by rfl) g_int (pam_cons (pem_op o_mul g_mul (pem_op o_mul g_mul (pem_op o_add g_add (pem_var 2 (pv 2)) (pem_int)) (pem_op o_add g_add (pem_var 1 (pv 1)) (pem_int))) (pem_int)) (pam_nil))) (pem_int)))))))
/-! _law_digits -/
theorem sc__law_digits : FnScope ["_law_cell_here", "_law_sizes", "_law_row", "_law_rest", "_law_great", "_law_seed", "_law_k", "_law_twice"] ["_law_cell_here", "_law_sizes"] (defScope s__law_digits) := ⟨rfl, rfl, rfl, by decide +kernel, rfl, by decide +kernel, by decide +kernel⟩
def body__law_digits : Rho → ML.R Fl := mSeq (mSet [] 2 (mLst [] [])) (mSeq (mSet [] 3 (mCB gInt [mVar 0])) (mSeq (mSet [] 4 (mOp (gCmp (fun i j => decide (j ≤ i))) (mVar 3) (mOp gPow (mC (.int 10)) (mC (.int 18))))) (mSeq (mSet [] 5 (mOp gMod (mCB gInt [mVar 3]) (mC (.int 2147483629)))) (mSeq (mIf (mTest (mVar 4)) (mSet [] 3 (mOp gSub (mVar 3) (mOp gPow (mC (.int 10)) (mC (.int 18))))) (mNext)) (mSeq (mFor (mRange1 [mCB gLen [mVar 1]]) (gSet [] 6) (mSeq (mSet [] 5 (mOp gMod (mCB gInt [mOp gAdd (mOp gAdd (mOp gMul (mVar 5) (mC (.int 48271))) (mOp gMul (mC (.int 974711)) (mVar 6))) (mC (.int 12345))]) (mC (.int 2147483647)))) (mSeq (mSet [] 7 (mOp gMod (mCB gInt [mOp gMul (mVar 5) (mOp gAdd (mOp gFdiv (mVar 5) (mC (.int 65537))) (mC (.int 3)))]) (mC (.int 2147483629)))) (mIf (mAnd (mTest (mVar 4)) (mTest (mOp (gCmp (fun i j => decide (j < i))) (mVar 3) (mC (.int 0))))) (mSeq (mDrop (mAppend 2 [] (mOp gMod (mCB gInt [mVar 3]) (mOp gIx (mVar 1) (mVar 6))))) (mSet [] 3 (mOp gFdiv (mCB gInt [mVar 3]) (mOp gIx (mVar 1) (mVar 6))))) (mDrop (mAppend 2 [] (mOp gMod (mCB gInt [mOp gFdiv (mVar 7) (mC (.int 19))]) (mOp gIx (mVar 1) (mVar 6))))))))) (mRet [] (mVar 2)))))))
def fun__law_digits : List W → FR := mFun [] 8 (body__law_digits)
theorem def__law_digits (T : Txt w K mg) : Def P w K mg base (He.ga K) (k + 1) "_law_digits" ["_law_cell_here", "_law_sizes"] [] (fun__law_digits) :=
  def_mk (N := ["_law_cell_here", "_law_sizes", "_law_row", "_law_rest", "_law_great", "_law_seed", "_law_k", "_law_twice"]) (g := body__law_digits) T.s__law_digits sc__law_digits (by decide) (fun _ _ _ _ _ _ us hl => match us, hl with | [_, _], _ => rfl) fun f cdv A outer s H E Y hr hct tk =>
    (psm_cons (psm_set (i := 2) sc__law_digits.nd rfl (Or.inl rfl) (pem_lst (pam_nil))) (psm_cons (psm_set (i := 3) sc__law_digits.nd rfl (Or.inl rfl) (pem_callTy c_int rfl T.b_int (by rfl) g_int (pam_cons (pem_var 0 (pv 0)) (pam_nil)))) (psm_cons (psm_set (i := 4) sc__law_digits.nd rfl (Or.inl rfl) (pem_cmp op_ge g_cmp (pem_var 3 (pv 3)) (pem_op op_pow g_pow (pem_int) (pem_int)) (nomark _))) (psm_cons (psm_set (i := 5) sc__law_digits.nd rfl (Or.inl rfl) (pem_op op_mod g_mod (pem_callTy c_int rfl T.b_int (by rfl) g_int (pam_cons (pem_var 3 (pv 3)) (pam_nil))) (pem_int))) (psm_cons (psm_if (ptm_val (pem_var 4 (pv 4))) (psm_one (psm_set (i := 3) sc__law_digits.nd rfl (Or.inl rfl) (pem_op o_sub g_sub (pem_var 3 (pv 3)) (pem_op op_pow g_pow (pem_int) (pem_int))))) (psm_nil)) (psm_cons (psm_for (passes_of rfl) rfl (pim_range1 rfl T.b_range (pam_cons (pem_callB (call_len) rfl T.b_len (by rfl) g_len (pam_cons (pem_var 1 (pv 1)) (pam_nil))) (pam_nil))) (pgm_name (pg_name (i := 6) sc__law_digits.nd rfl (Or.inl rfl))) (psm_cons (psm_set (i := 5) sc__law_digits.nd rfl (Or.inl rfl) (pem_op op_mod g_mod (pem_callTy c_int rfl T.b_int (by rfl) g_int (pam_cons (pem_op o_add g_add (pem_op o_add g_add (pem_op o_mul g_mul (pem_var 5 (pv 5)) (pem_int)) (pem_op o_mul g_mul (pem_int) (pem_var 6 (pv 6)))) (pem_int)) (pam_nil))) (pem_int))) (psm_cons (psm_set (i := 7) sc__law_digits.nd rfl (Or.inl rfl) (pem_op op_mod g_mod (pem_callTy c_int rfl T.b_int (by rfl) g_int (pam_cons (pem_op o_mul g_mul (pem_var 5 (pv 5)) (pem_op o_add g_add (pem_op op_fdiv g_fdiv (pem_var 5 (pv 5)) (pem_int)) (pem_int))) (pam_nil))) (pem_int))) (psm_one (psm_if (PW.pt (pwm_and (ptm_val (pem_var 4 (pv 4))) (pwm_and1 (ptm_cmp op_gt g_cmp (pem_var 3 (pv 3)) (pem_int) (nomark _))))) (psm_cons (psm_expr (pem_append (pv 2) (pem_op op_mod g_mod (pem_callTy c_int rfl T.b_int (by rfl) g_int (pam_cons (pem_var 3 (pv 3)) (pam_nil))) (pem_ix (pem_var 1 (pv 1)) (pem_var 6 (pv 6)))))) (psm_one (psm_set (i := 3) sc__law_digits.nd rfl (Or.inl rfl) (pem_op op_fdiv g_fdiv (pem_callTy c_int rfl T.b_int (by rfl) g_int (pam_cons (pem_var 3 (pv 3)) (pam_nil))) (pem_ix (pem_var 1 (pv 1)) (pem_var 6 (pv 6))))))) (psm_one (psm_expr (pem_append (pv 2) (pem_op op_mod g_mod (pem_callTy c_int rfl T.b_int (by rfl) g_int (pam_cons (pem_op op_fdiv g_fdiv (pem_var 7 (pv 7)) (pem_int)) (pam_nil))) (pem_ix (pem_var 1 (pv 1)) (pem_var 6 (pv 6)))))))))))) (psm_one (psm_ret (pem_var 2 (pv 2))))))))))
/-! _law_same -/
theorem sc__law_same : FnScope ["_law_actual", "_law_due", "_law_k"] ["_law_actual", "_law_due"] (defScope s__law_same) := ⟨rfl, rfl, rfl, by decide +kernel, rfl, by decide +kernel, by decide +kernel⟩
def body__law_same (m__law_same : List W → FR) : Rho → ML.R Fl := mSeq (mIf (mAnd (mTest (mCB gIsi [mVar 1, mC (.ty "tuple")])) (mAnd (mTest (mCB gIsi [mVar 0, mC (.ty "tuple")])) (mTest (mOp gEq (mCB gLen [mVar 0]) (mCB gLen [mVar 1]))))) (mSeq (mFor (mRange1 [mCB gLen [mVar 1]]) (gSet [] 2) (mIf (mNot (mTest (mCall [] [] m__law_same [mOp gIx (mVar 0) (mVar 2), mOp gIx (mVar 1) (mVar 2)]))) (mRet [] (mC (.bl false))) (mNext))) (mRet [] (mC (.bl true)))) (mNext)) (mSeq (mIf (mOr (mTest (mIsN false (mVar 1))) (mTest (mCB gIsi [mVar 1, mC (.ty "tuple")]))) (mRet [] (mAndV (mIsN false (mVar 1)) (mIsN false (mVar 0)))) (mNext)) (mSeq (mIf (mTest (mCB gIsi [mVar 1, mC (.ty "str")])) (mRet [] (mAndV (mCB gIsi [mVar 0, mC (.ty "str")]) (mOp gEq (mVar 0) (mVar 1)))) (mNext)) (mRet [] (mAndV (mCB gIsi [mVar 0, mC (.ty "int")]) (mAndV (mOp gEq (mCB gIsi [mVar 0, mC (.ty "bool")]) (mCB gIsi [mVar 1, mC (.ty "bool")])) (mOp gEq (mVar 0) (mVar 1)))))))
def fun__law_same (m__law_same : List W → FR) : List W → FR := mFun [] 3 (body__law_same m__law_same)
theorem def__law_same (T : Txt w K mg) {m__law_same : List W → FR} (D__law_same : Def P w K mg base (He.ga K) k "_law_same" ["_law_actual", "_law_due"] [] m__law_same) : Def P w K mg base (He.ga K) (k + 1) "_law_same" ["_law_actual", "_law_due"] [] (fun__law_same m__law_same) :=
  def_mk (N := ["_law_actual", "_law_due", "_law_k"]) (g := body__law_same m__law_same) T.s__law_same sc__law_same (by decide) (fun _ _ _ _ _ _ us hl => match us, hl with | [_, _], _ => rfl) fun f cdv A outer s H E Y hr hct tk =>
    (psm_cons (psm_if (PW.pt (pwm_and (ptm_val (pem_callB (c_isi) rfl T.b_isinstance (by rfl) g_isi (pam_cons (pem_var 1 (pv 1)) (pam_cons (pem_ty rfl T.b_tuple (by rfl)) (pam_nil))))) (pwm_and (ptm_val (pem_callB (c_isi) rfl T.b_isinstance (by rfl) g_isi (pam_cons (pem_var 0 (pv 0)) (pam_cons (pem_ty rfl T.b_tuple (by rfl)) (pam_nil))))) (pwm_and1 (ptm_cmp (o_eq (hu200 hr)) g_eq (pem_callB (call_len) rfl T.b_len (by rfl) g_len (pam_cons (pem_var 0 (pv 0)) (pam_nil))) (pem_callB (call_len) rfl T.b_len (by rfl) g_len (pam_cons (pem_var 1 (pv 1)) (pam_nil))) (nomark _)))))) (psm_cons (psm_for (passes_of rfl) rfl (pim_range1 rfl T.b_range (pam_cons (pem_callB (call_len) rfl T.b_len (by rfl) g_len (pam_cons (pem_var 1 (pv 1)) (pam_nil))) (pam_nil))) (pgm_name (pg_name (i := 2) sc__law_same.nd rfl (Or.inl rfl))) (psm_one (psm_if (ptm_not (ptm_val (pem_callD D__law_same hct hr tk rfl (pam_cons (pem_ix (pem_var 0 (pv 0)) (pem_var 2 (pv 2))) (pam_cons (pem_ix (pem_var 1 (pv 1)) (pem_var 2 (pv 2))) (pam_nil))) rfl))) (psm_one (psm_ret (pem_bl))) (psm_nil)))) (psm_one (psm_ret (pem_bl)))) (psm_nil)) (psm_cons (psm_if (PW.pt (pwm_or (ptm_isN (pem_var 1 (pv 1))) (pwm_or1 (ptm_val (pem_callB (c_isi) rfl T.b_isinstance (by rfl) g_isi (pam_cons (pem_var 1 (pv 1)) (pam_cons (pem_ty rfl T.b_tuple (by rfl)) (pam_nil)))))))) (psm_one (psm_ret (pem_and (pem_isN (pem_var 1 (pv 1))) (pem_one (pem_isN (pem_var 0 (pv 0))))))) (psm_nil)) (psm_cons (psm_if (ptm_val (pem_callB (c_isi) rfl T.b_isinstance (by rfl) g_isi (pam_cons (pem_var 1 (pv 1)) (pam_cons (pem_ty rfl T.b_str (by rfl)) (pam_nil))))) (psm_one (psm_ret (pem_and (pem_callB (c_isi) rfl T.b_isinstance (by rfl) g_isi (pam_cons (pem_var 0 (pv 0)) (pam_cons (pem_ty rfl T.b_str (by rfl)) (pam_nil)))) (pem_one (pem_cmp (o_eq (hu200 hr)) g_eq (pem_var 0 (pv 0)) (pem_var 1 (pv 1)) (nomark _)))))) (psm_nil)) (psm_one (psm_ret (pem_and (pem_callB (c_isi) rfl T.b_isinstance (by rfl) g_isi (pam_cons (pem_var 0 (pv 0)) (pam_cons (pem_ty rfl T.b_int (by rfl)) (pam_nil)))) (pem_and (pem_cmp (o_eq (hu200 hr)) g_eq (pem_callB (c_isi) rfl T.b_isinstance (by rfl) g_isi (pam_cons (pem_var 0 (pv 0)) (pam_cons (pem_ty rfl T.b_bool (by rfl)) (pam_nil)))) (pem_callB (c_isi) rfl T.b_isinstance (by rfl) g_isi (pam_cons (pem_var 1 (pv 1)) (pam_cons (pem_ty rfl T.b_bool (by rfl)) (pam_nil)))) (nomark _)) (pem_one (pem_cmp (o_eq (hu200 hr)) g_eq (pem_var 0 (pv 0)) (pem_var 1 (pv 1)) (nomark _))))))))))
/-! _law_text -/
theorem sc__law_text : FnScope ["_law_row", "_law_chars", "_law_digit"] ["_law_row"] (defScope s__law_text) := ⟨rfl, rfl, rfl, by decide +kernel, rfl, by decide +kernel, by decide +kernel⟩
def body__law_text : Rho → ML.R Fl := mSeq (mSet [] 1 (mC (.str "abcdefghijklmnopqrstuvwxyz0123456789 !\"#$&'()*+,-./:;<=>?@ABCDEFGHIJKLMNOPQRSTUVWXYZ[\\]^_`{|}~"))) (mRet [] (mJoin (mC (.str "")) (mLc [] (mItems [] (mSl (mVar 0) (some (mC (.int 1))) (some (mOp gAdd (mC (.int 1)) (mOp gIx (mVar 0) (mC (.int 0))))))) (.nm 2) (mYes) (mOp gIx (mVar 1) (mVar 2)))))
def fun__law_text : List W → FR := mFun [] 3 (body__law_text)
theorem def__law_text (T : Txt w K mg) : Def P w K mg base (He.ga K) (k + 1) "_law_text" ["_law_row"] [] (fun__law_text) :=
  def_mk (N := ["_law_row", "_law_chars", "_law_digit"]) (g := body__law_text) T.s__law_text sc__law_text (by decide) (fun _ _ _ _ _ _ us hl => match us, hl with | [_], _ => rfl) fun f cdv A outer s H E Y hr hct tk =>
    (psm_cons (psm_set (i := 1) sc__law_text.nd rfl (Or.inr rfl) (pem_str)) (psm_one (psm_ret (pem_join (pem_str) (pem_lc (own := [("_law_digit", 2)]) (t := .nm 2) rfl sc__law_text.nd (pim_seq (pem_slice (pem_var 0 (pv 0)) (pom_some (pem_int)) (pom_some (pem_op o_add g_add (pem_int) (pem_ix (pem_var 0 (pv 0)) (pem_int)))))) (blkOk_by (N := ["_law_row", "_law_chars", "_law_digit"]) (sc := defScope s__law_text) (by decide +kernel)) rfl (fun _ _ _ _ _ => pg_name (i := 2) sc__law_text.nd rfl (by first | exact Or.inl rfl | exact Or.inr rfl) (by first | exact .inl rfl | exact .inr rfl)) (fun _ _ _ _ _ => pcs_nil) (fun _ _ _ _ _ Y1 hY1 wY1 => (pem_ix (pem_var 1 (pv 1)) (pem_var 2 (pv 2)))))))))
/-! _law_drawn -/
theorem sc__law_drawn : FnScope ["_law_script", "_law_which", "_law_raw", "_law_sizes", "_law_row", "_law_place", "_law_texts", "_law_moves", "_law_value", "_law_digit", "_law_k"] ["_law_script", "_law_which"] (defScope s__law_drawn) := ⟨rfl, rfl, rfl, by decide +kernel, rfl, by decide +kernel, by decide +kernel⟩
def body__law_drawn (m__law_cell : List W → FR) (m__law_digits : List W → FR) (m__law_text : List W → FR) : Rho → ML.R Fl := mSeq (mSet [] 2 (mOp gSub (mOp gMod (mCB gInt [mOp gAdd (mCB gInt [mCall [] [] m__law_cell [mVar 0, mOp gAdd (mC (.int 28)) (mVar 1)]]) (mOp gPow (mC (.int 10)) (mC (.int 30)))]) (mOp gMul (mC (.int 2)) (mOp gPow (mC (.int 10)) (mC (.int 30))))) (mOp gPow (mC (.int 10)) (mC (.int 30))))) (mSeq (mSet [] 3 (mOp gAdd (mLst [] [mC (.int 10)]) (mOp gMul (mLst [] [mC (.int 94)]) (mC (.int 9))))) (mSeq (mSet [] 4 (mCall [] [] m__law_digits [mCall [] [] m__law_cell [mVar 0, mVar 1], mOp gAdd (mOp gAdd (mLst [] [mC (.int 7), mC (.int 6), mC (.int 6)]) (mOp gMul (mLst [] [mC (.int 7)]) (mC (.int 6)))) (mOp gMul (mVar 3) (mC (.int 6)))])) (mSeq (mSet [] 5 (mCB gTupC [mLc [] (mItems [] (mSl (mVar 4) (some (mC (.int 3))) (some (mOp gAdd (mC (.int 3)) (mOp gIx (mVar 4) (mC (.int 0))))))) (.nm 9) (mYes) (mOp gIx (mLst [] [mVar 9, mVar 2, mNeg (mVar 2), mC (.int 0), mVar 9, mC (.int 1), mNeg (mC (.int 1))]) (mVar 9))])) (mSeq (mSet [] 6 (mLc [] (mRange1 [mC (.int 6)]) (.nm 10) (mYes) (mCall [] [] m__law_text [mSl (mVar 4) (some (mOp gAdd (mC (.int 9)) (mOp gMul (mC (.int 10)) (mVar 10)))) (some (mOp gAdd (mC (.int 19)) (mOp gMul (mC (.int 10)) (mVar 10))))]))) (mSeq (mSet [] 7 (mCB gTupC [mSl (mVar 6) none (some (mOp gIx (mVar 4) (mC (.int 1))))])) (mSeq (mSet [] 8 (mOp gIx (mLst [] [mVar 2, mC .non, mOp gIx (mVar 6) (mC (.int 5)), mC (.bl true), mVar 5, mC (.bl false)]) (mOp gIx (mVar 4) (mC (.int 2))))) (mRet [] (mLst [] [mVar 5, mOp gIx (mVar 6) (mC (.int 5)), mVar 2, mVar 7, mVar 8]))))))))
def fun__law_drawn (m__law_cell : List W → FR) (m__law_digits : List W → FR) (m__law_text : List W → FR) : List W → FR := mFun [] 11 (body__law_drawn m__law_cell m__law_digits m__law_text)
theorem def__law_drawn (T : Txt w K mg) {m__law_cell : List W → FR} (D__law_cell : Def P w K mg base (He.ga K) k "_law_cell" ["_law_script", "_law_k"] [] m__law_cell) {m__law_digits : List W → FR} (D__law_digits : Def P w K mg base (He.ga K) k "_law_digits" ["_law_cell_here", "_law_sizes"] [] m__law_digits) {m__law_text : List W → FR} (D__law_text : Def P w K mg base (He.ga K) k "_law_text" ["_law_row"] [] m__law_text) : Def P w K mg base (He.ga K) (k + 1) "_law_drawn" ["_law_script", "_law_which"] [] (fun__law_drawn m__law_cell m__law_digits m__law_text) :=
  def_mk (N := ["_law_script", "_law_which", "_law_raw", "_law_sizes", "_law_row", "_law_place", "_law_texts", "_law_moves", "_law_value", "_law_digit", "_law_k"]) (g := body__law_drawn m__law_cell m__law_digits m__law_text) T.s__law_drawn sc__law_drawn (by decide) (fun _ _ _ _ _ _ us hl => match us, hl with | [_, _], _ => rfl) fun f cdv A outer s H E Y hr hct tk =>
    (psm_cons (psm_set (i := 2) sc__law_drawn.nd rfl (Or.inr rfl) (pem_op o_sub g_sub (pem_op op_mod g_mod (pem_callTy c_int rfl T.b_int (by rfl) g_int (pam_cons (pem_op o_add g_add (pem_callTy c_int rfl T.b_int (by rfl) g_int (pam_cons (pem_callD D__law_cell hct hr tk rfl (pam_cons (pem_var 0 (pv 0)) (pam_cons (pem_op o_add g_add (pem_int) (pem_var 1 (pv 1))) (pam_nil))) rfl) (pam_nil))) (pem_op op_pow g_pow (pem_int) (pem_int))) (pam_nil))) (pem_op o_mul g_mul (pem_int) (pem_op op_pow g_pow (pem_int) (pem_int)))) (pem_op op_pow g_pow (pem_int) (pem_int)))) (psm_cons (psm_set (i := 3) sc__law_drawn.nd rfl (Or.inl rfl) (pem_op o_add g_add (pem_lst (pam_cons (pem_int) (pam_nil))) (pem_op o_mul g_mul (pem_lst (pam_cons (pem_int) (pam_nil))) (pem_int)))) (psm_cons (psm_set (i := 4) sc__law_drawn.nd rfl (Or.inr rfl) (pem_callD D__law_digits hct hr tk rfl (pam_cons (pem_callD D__law_cell hct hr tk rfl (pam_cons (pem_var 0 (pv 0)) (pam_cons (pem_var 1 (pv 1)) (pam_nil))) rfl) (pam_cons (pem_op o_add g_add (pem_op o_add g_add (pem_lst (pam_cons (pem_int) (pam_cons (pem_int) (pam_cons (pem_int) (pam_nil))))) (pem_op o_mul g_mul (pem_lst (pam_cons (pem_int) (pam_nil))) (pem_int))) (pem_op o_mul g_mul (pem_var 3 (pv 3)) (pem_int))) (pam_nil))) rfl)) (psm_cons (psm_set (i := 5) sc__law_drawn.nd rfl (Or.inl rfl) (pem_callTy call_tuple_of rfl T.b_tuple (by rfl) g_tupC (pam_cons (pem_lc (own := [("_law_digit", 9)]) (t := .nm 9) rfl sc__law_drawn.nd (pim_seq (pem_slice (pem_var 4 (pv 4)) (pom_some (pem_int)) (pom_some (pem_op o_add g_add (pem_int) (pem_ix (pem_var 4 (pv 4)) (pem_int)))))) (blkOk_by (N := ["_law_script", "_law_which", "_law_raw", "_law_sizes", "_law_row", "_law_place", "_law_texts", "_law_moves", "_law_value", "_law_digit", "_law_k"]) (sc := defScope s__law_drawn) (by decide +kernel)) rfl (fun _ _ _ _ _ => pg_name (i := 9) sc__law_drawn.nd rfl (by first | exact Or.inl rfl | exact Or.inr rfl) (by first | exact .inl rfl | exact .inr rfl)) (fun _ _ _ _ _ => pcs_nil) (fun _ _ _ _ _ Y1 hY1 wY1 => (pem_ix (pem_lst (pam_cons (pem_var 9 (pv 9)) (pam_cons (pem_var 2 (pv 2)) (pam_cons (pem_neg (pem_var 2 (pv 2))) (pam_cons (pem_int) (pam_cons (pem_var 9 (pv 9)) (pam_cons (pem_int) (pam_cons (pem_neg (pem_int)) (pam_nil))))))))) (pem_var 9 (pv 9))))) (pam_nil)))) (psm_cons (psm_setLc (i := 6) (own := [("_law_k", 10)]) (t := .nm 10) rfl sc__law_drawn.nd rfl rfl (sw_true rfl rfl rfl (by decide +kernel)) (pim_range1 rfl T.b_range (pam_cons (pem_int) (pam_nil))) (blkOk_by (N := ["_law_script", "_law_which", "_law_raw", "_law_sizes", "_law_row", "_law_place", "_law_texts", "_law_moves", "_law_value", "_law_digit", "_law_k"]) (sc := defScope s__law_drawn) (by decide +kernel)) rfl (fun _ _ _ _ _ => pg_name (i := 10) sc__law_drawn.nd rfl (by first | exact Or.inl rfl | exact Or.inr rfl) (by first | exact .inl rfl | exact .inr rfl)) (fun _ _ _ _ _ => pcs_nil) (fun _ _ _ _ _ Y1 hY1 wY1 => (pem_callD D__law_text (hY1.trans hct) hr (takesF wY1) rfl (pam_cons (pem_slice (pem_var 4 (pv 4)) (pom_some (pem_op o_add g_add (pem_int) (pem_op o_mul g_mul (pem_int) (pem_var 10 (pv 10))))) (pom_some (pem_op o_add g_add (pem_int) (pem_op o_mul g_mul (pem_int) (pem_var 10 (pv 10)))))) (pam_nil)) rfl))) (psm_cons (psm_set (i := 7) sc__law_drawn.nd rfl (Or.inl rfl) (pem_callTy call_tuple_of rfl T.b_tuple (by rfl) g_tupC (pam_cons (pem_slice (pem_var 6 (pv 6)) pom_none (pom_some (pem_ix (pem_var 4 (pv 4)) (pem_int)))) (pam_nil)))) (psm_cons (psm_set (i := 8) sc__law_drawn.nd rfl (Or.inl rfl) (pem_ix (pem_lst (pam_cons (pem_var 2 (pv 2)) (pam_cons (pem_non) (pam_cons (pem_ix (pem_var 6 (pv 6)) (pem_int)) (pam_cons (pem_bl) (pam_cons (pem_var 5 (pv 5)) (pam_cons (pem_bl) (pam_nil)))))))) (pem_ix (pem_var 4 (pv 4)) (pem_int)))) (psm_one (psm_ret (pem_lst (pam_cons (pem_var 5 (pv 5)) (pam_cons (pem_ix (pem_var 6 (pv 6)) (pem_int)) (pam_cons (pem_var 2 (pv 2)) (pam_cons (pem_var 7 (pv 7)) (pam_cons (pem_var 8 (pv 8)) (pam_nil))))))))))))))))
/-! _law_raise -/
theorem sc__law_raise : FnScope ["_law_which", "_law_place", "_law_name", "_law_number", "_law_moves", "_law_value"] ["_law_which", "_law_place", "_law_name", "_law_number", "_law_moves", "_law_value"] (defScope s__law_raise) := ⟨rfl, rfl, rfl, by decide +kernel, rfl, by decide +kernel, by decide +kernel⟩
def body__law_raise : Rho → ML.R Fl := mSeq (mIf (mTest (mOp gEq (mVar 0) (mC (.int 0)))) (mRaise [] "BadSize" ["size"] [mVar 5]) (mNext)) (mSeq (mIf (mTest (mOp gEq (mVar 0) (mC (.int 1)))) (mRaise [] "BadName" ["name"] [mVar 2]) (mNext)) (mSeq (mIf (mTest (mOp gEq (mVar 0) (mC (.int 2)))) (mRaise [] "RepeatedName" ["name"] [mVar 2]) (mNext)) (mSeq (mIf (mTest (mOp gEq (mVar 0) (mC (.int 3)))) (mRaise [] "BadProcedure" ["name"] [mVar 2]) (mNext)) (mSeq (mIf (mTest (mOp gEq (mVar 0) (mC (.int 4)))) (mRaise [] "NoSuchName" ["name"] [mVar 2]) (mNext)) (mSeq (mIf (mTest (mOp gEq (mVar 0) (mC (.int 5)))) (mRaise [] "BadBlock" ["place"] [mVar 1]) (mNext)) (mSeq (mIf (mTest (mOp gEq (mVar 0) (mC (.int 6)))) (mRaise [] "OutOfRange" ["place"] [mVar 1]) (mNext)) (mSeq (mIf (mTest (mOp gEq (mVar 0) (mC (.int 7)))) (mRaise [] "UnknownName" ["place", "name"] [mVar 1, mVar 2]) (mNext)) (mSeq (mIf (mTest (mOp gEq (mVar 0) (mC (.int 8)))) (mRaise [] "WrongName" ["place", "name"] [mVar 1, mVar 2]) (mNext)) (mSeq (mIf (mTest (mOp gEq (mVar 0) (mC (.int 9)))) (mRaise [] "WrongCount" ["place"] [mVar 1]) (mNext)) (mSeq (mIf (mTest (mOp gEq (mVar 0) (mC (.int 10)))) (mRaise [] "WrongKind" ["place"] [mVar 1]) (mNext)) (mSeq (mIf (mTest (mOp gEq (mVar 0) (mC (.int 11)))) (mRaise [] "QuitInside" ["place"] [mVar 1]) (mNext)) (mSeq (mIf (mTest (mOp gEq (mVar 0) (mC (.int 12)))) (mRaise [] "FreeCell" ["name"] [mVar 2]) (mNext)) (mSeq (mIf (mTest (mOp gEq (mVar 0) (mC (.int 13)))) (mRaise [] "NoPlace" ["place"] [mVar 1]) (mNext)) (mSeq (mIf (mTest (mOp gEq (mVar 0) (mC (.int 14)))) (mRaise [] "TooLarge" ["most"] [mVar 3]) (mNext)) (mSeq (mIf (mTest (mOp gEq (mVar 0) (mC (.int 15)))) (mRaise [] "BadText" ["index"] [mVar 3]) (mNext)) (mSeq (mIf (mTest (mOp gEq (mVar 0) (mC (.int 16)))) (mRaise [] "BadMove" ["index"] [mVar 3]) (mNext)) (mSeq (mIf (mTest (mOp gEq (mVar 0) (mC (.int 17)))) (mRaise [] "BadTable" ["standing"] [mVar 3]) (mNext)) (mSeq (mIf (mTest (mOp gEq (mVar 0) (mC (.int 18)))) (mRaise0 "SignaturesDiffer") (mNext)) (mSeq (mIf (mTest (mOp gEq (mVar 0) (mC (.int 19)))) (mRaise0 "KindsDiffer") (mNext)) (mSeq (mIf (mTest (mOp gEq (mVar 0) (mC (.int 20)))) (mRaise [] "Clash" ["moves"] [mVar 4]) (mNext)) (mSeq (mIf (mTest (mOp gEq (mVar 0) (mC (.int 21)))) (mRaise [] "BadNumber" ["number"] [mVar 5]) (mNext)) (mSeq (mIf (mTest (mOp gEq (mVar 0) (mC (.int 22)))) (mRaise [] "WrongMachine" ["index"] [mVar 3]) (mNext)) (mSeq (mIf (mTest (mOp gEq (mVar 0) (mC (.int 23)))) (mRaise [] "BadHole" ["place"] [mVar 1]) (mNext)) (mSeq (mIf (mTest (mOp gEq (mVar 0) (mC (.int 24)))) (mRaise0 "NotFinished") (mNext)) (mSeq (mIf (mTest (mOp gEq (mVar 0) (mC (.int 25)))) (mRaise [] "BadManner" ["state"] [mVar 3]) (mNext)) (mSeq (mIf (mTest (mOp gEq (mVar 0) (mC (.int 26)))) (mRaise0 "BadTest") (mNext)) (mRaise0 "NotSingle")))))))))))))))))))))))))))
def fun__law_raise : List W → FR := mFun [] 6 (body__law_raise)
theorem def__law_raise (T : Txt w K mg) : Def P w K mg base (He.ga K) ((k + 2) + 1) "_law_raise" ["_law_which", "_law_place", "_law_name", "_law_number", "_law_moves", "_law_value"] [] (fun__law_raise) :=
  def_mk (N := ["_law_which", "_law_place", "_law_name", "_law_number", "_law_moves", "_law_value"]) (g := body__law_raise) T.s__law_raise sc__law_raise (by decide) (fun _ _ _ _ _ _ us hl => match us, hl with | [_, _, _, _, _, _], _ => rfl) fun f cdv A outer s H E Y hr hct tk =>
    (psm_cons (psm_if (ptm_cmp (o_eq (hu200 hr)) g_eq (pem_var 0 (pv 0)) (pem_int) (nomark _)) (psm_one (psm_raise rfl tk (exc_BadSize T) hct hr rfl (pam_cons (pem_var 5 (pv 5)) (pam_nil)))) (psm_nil)) (psm_cons (psm_if (ptm_cmp (o_eq (hu200 hr)) g_eq (pem_var 0 (pv 0)) (pem_int) (nomark _)) (psm_one (psm_raise rfl tk (exc_BadName T) hct hr rfl (pam_cons (pem_var 2 (pv 2)) (pam_nil)))) (psm_nil)) (psm_cons (psm_if (ptm_cmp (o_eq (hu200 hr)) g_eq (pem_var 0 (pv 0)) (pem_int) (nomark _)) (psm_one (psm_raise rfl tk (exc_RepeatedName T) hct hr rfl (pam_cons (pem_var 2 (pv 2)) (pam_nil)))) (psm_nil)) (psm_cons (psm_if (ptm_cmp (o_eq (hu200 hr)) g_eq (pem_var 0 (pv 0)) (pem_int) (nomark _)) (psm_one (psm_raise rfl tk (exc_BadProcedure T) hct hr rfl (pam_cons (pem_var 2 (pv 2)) (pam_nil)))) (psm_nil)) (psm_cons (psm_if (ptm_cmp (o_eq (hu200 hr)) g_eq (pem_var 0 (pv 0)) (pem_int) (nomark _)) (psm_one (psm_raise rfl tk (exc_NoSuchName T) hct hr rfl (pam_cons (pem_var 2 (pv 2)) (pam_nil)))) (psm_nil)) (psm_cons (psm_if (ptm_cmp (o_eq (hu200 hr)) g_eq (pem_var 0 (pv 0)) (pem_int) (nomark _)) (psm_one (psm_raise rfl tk (exc_BadBlock T) hct hr rfl (pam_cons (pem_var 1 (pv 1)) (pam_nil)))) (psm_nil)) (psm_cons (psm_if (ptm_cmp (o_eq (hu200 hr)) g_eq (pem_var 0 (pv 0)) (pem_int) (nomark _)) (psm_one (psm_raise rfl tk (exc_OutOfRange T) hct hr rfl (pam_cons (pem_var 1 (pv 1)) (pam_nil)))) (psm_nil)) (psm_cons (psm_if (ptm_cmp (o_eq (hu200 hr)) g_eq (pem_var 0 (pv 0)) (pem_int) (nomark _)) (psm_one (psm_raise rfl tk (exc_UnknownName T) hct hr rfl (pam_cons (pem_var 1 (pv 1)) (pam_cons (pem_var 2 (pv 2)) (pam_nil))))) (psm_nil)) (psm_cons (psm_if (ptm_cmp (o_eq (hu200 hr)) g_eq (pem_var 0 (pv 0)) (pem_int) (nomark _)) (psm_one (psm_raise rfl tk (exc_WrongName T) hct hr rfl (pam_cons (pem_var 1 (pv 1)) (pam_cons (pem_var 2 (pv 2)) (pam_nil))))) (psm_nil)) (psm_cons (psm_if (ptm_cmp (o_eq (hu200 hr)) g_eq (pem_var 0 (pv 0)) (pem_int) (nomark _)) (psm_one (psm_raise rfl tk (exc_WrongCount T) hct hr rfl (pam_cons (pem_var 1 (pv 1)) (pam_nil)))) (psm_nil)) (psm_cons (psm_if (ptm_cmp (o_eq (hu200 hr)) g_eq (pem_var 0 (pv 0)) (pem_int) (nomark _)) (psm_one (psm_raise rfl tk (exc_WrongKind T) hct hr rfl (pam_cons (pem_var 1 (pv 1)) (pam_nil)))) (psm_nil)) (psm_cons (psm_if (ptm_cmp (o_eq (hu200 hr)) g_eq (pem_var 0 (pv 0)) (pem_int) (nomark _)) (psm_one (psm_raise rfl tk (exc_QuitInside T) hct hr rfl (pam_cons (pem_var 1 (pv 1)) (pam_nil)))) (psm_nil)) (psm_cons (psm_if (ptm_cmp (o_eq (hu200 hr)) g_eq (pem_var 0 (pv 0)) (pem_int) (nomark _)) (psm_one (psm_raise rfl tk (exc_FreeCell T) hct hr rfl (pam_cons (pem_var 2 (pv 2)) (pam_nil)))) (psm_nil)) (psm_cons (psm_if (ptm_cmp (o_eq (hu200 hr)) g_eq (pem_var 0 (pv 0)) (pem_int) (nomark _)) (psm_one (psm_raise rfl tk (exc_NoPlace T) hct hr rfl (pam_cons (pem_var 1 (pv 1)) (pam_nil)))) (psm_nil)) (psm_cons (psm_if (ptm_cmp (o_eq (hu200 hr)) g_eq (pem_var 0 (pv 0)) (pem_int) (nomark _)) (psm_one (psm_raise rfl tk (exc_TooLarge T) hct hr rfl (pam_cons (pem_var 3 (pv 3)) (pam_nil)))) (psm_nil)) (psm_cons (psm_if (ptm_cmp (o_eq (hu200 hr)) g_eq (pem_var 0 (pv 0)) (pem_int) (nomark _)) (psm_one (psm_raise rfl tk (exc_BadText T) hct hr rfl (pam_cons (pem_var 3 (pv 3)) (pam_nil)))) (psm_nil)) (psm_cons (psm_if (ptm_cmp (o_eq (hu200 hr)) g_eq (pem_var 0 (pv 0)) (pem_int) (nomark _)) (psm_one (psm_raise rfl tk (exc_BadMove T) hct hr rfl (pam_cons (pem_var 3 (pv 3)) (pam_nil)))) (psm_nil)) (psm_cons (psm_if (ptm_cmp (o_eq (hu200 hr)) g_eq (pem_var 0 (pv 0)) (pem_int) (nomark _)) (psm_one (psm_raise rfl tk (exc_BadTable T) hct hr rfl (pam_cons (pem_var 3 (pv 3)) (pam_nil)))) (psm_nil)) (psm_cons (psm_if (ptm_cmp (o_eq (hu200 hr)) g_eq (pem_var 0 (pv 0)) (pem_int) (nomark _)) (psm_one (psm_raise0 rfl tk T.z_SignaturesDiffer hct rfl)) (psm_nil)) (psm_cons (psm_if (ptm_cmp (o_eq (hu200 hr)) g_eq (pem_var 0 (pv 0)) (pem_int) (nomark _)) (psm_one (psm_raise0 rfl tk T.z_KindsDiffer hct rfl)) (psm_nil)) (psm_cons (psm_if (ptm_cmp (o_eq (hu200 hr)) g_eq (pem_var 0 (pv 0)) (pem_int) (nomark _)) (psm_one (psm_raise rfl tk (exc_Clash T) hct hr rfl (pam_cons (pem_var 4 (pv 4)) (pam_nil)))) (psm_nil)) (psm_cons (psm_if (ptm_cmp (o_eq (hu200 hr)) g_eq (pem_var 0 (pv 0)) (pem_int) (nomark _)) (psm_one (psm_raise rfl tk (exc_BadNumber T) hct hr rfl (pam_cons (pem_var 5 (pv 5)) (pam_nil)))) (psm_nil)) (psm_cons (psm_if (ptm_cmp (o_eq (hu200 hr)) g_eq (pem_var 0 (pv 0)) (pem_int) (nomark _)) (psm_one (psm_raise rfl tk (exc_WrongMachine T) hct hr rfl (pam_cons (pem_var 3 (pv 3)) (pam_nil)))) (psm_nil)) (psm_cons (psm_if (ptm_cmp (o_eq (hu200 hr)) g_eq (pem_var 0 (pv 0)) (pem_int) (nomark _)) (psm_one (psm_raise rfl tk (exc_BadHole T) hct hr rfl (pam_cons (pem_var 1 (pv 1)) (pam_nil)))) (psm_nil)) (psm_cons (psm_if (ptm_cmp (o_eq (hu200 hr)) g_eq (pem_var 0 (pv 0)) (pem_int) (nomark _)) (psm_one (psm_raise0 rfl tk T.z_NotFinished hct rfl)) (psm_nil)) (psm_cons (psm_if (ptm_cmp (o_eq (hu200 hr)) g_eq (pem_var 0 (pv 0)) (pem_int) (nomark _)) (psm_one (psm_raise rfl tk (exc_BadManner T) hct hr rfl (pam_cons (pem_var 3 (pv 3)) (pam_nil)))) (psm_nil)) (psm_cons (psm_if (ptm_cmp (o_eq (hu200 hr)) g_eq (pem_var 0 (pv 0)) (pem_int) (nomark _)) (psm_one (psm_raise0 rfl tk T.z_BadTest hct rfl)) (psm_nil)) (psm_one (psm_raise0 rfl tk T.z_NotSingle hct rfl)))))))))))))))))))))))))))))
/-! _law_due_fields -/
theorem sc__law_due_fields : FnScope ["_law_which", "_law_place", "_law_name", "_law_number", "_law_moves", "_law_value"] ["_law_which", "_law_place", "_law_name", "_law_number", "_law_moves", "_law_value"] (defScope s__law_due_fields) := ⟨rfl, rfl, rfl, by decide +kernel, rfl, by decide +kernel, by decide +kernel⟩
def body__law_due_fields : Rho → ML.R Fl := mSeq (mIf (mTest (mOp (gIn false) (mVar 0) (mTup [] [mC (.int 0), mC (.int 21)]))) (mRet [] (mTup [] [mVar 5])) (mNext)) (mSeq (mIf (mTest (mOp (gIn false) (mVar 0) (mTup [] [mC (.int 1), mC (.int 2), mC (.int 3), mC (.int 4), mC (.int 12)]))) (mRet [] (mTup [] [mVar 2])) (mNext)) (mSeq (mIf (mTest (mOp (gIn false) (mVar 0) (mTup [] [mC (.int 5), mC (.int 6), mC (.int 9), mC (.int 10), mC (.int 11), mC (.int 13), mC (.int 23)]))) (mRet [] (mTup [] [mVar 1])) (mNext)) (mSeq (mIf (mTest (mOp (gIn false) (mVar 0) (mTup [] [mC (.int 7), mC (.int 8)]))) (mRet [] (mTup [] [mVar 1, mVar 2])) (mNext)) (mSeq (mIf (mTest (mOp (gIn false) (mVar 0) (mTup [] [mC (.int 14), mC (.int 15), mC (.int 16), mC (.int 17), mC (.int 22), mC (.int 25)]))) (mRet [] (mTup [] [mVar 3])) (mNext)) (mSeq (mIf (mTest (mOp gEq (mVar 0) (mC (.int 20)))) (mRet [] (mTup [] [mVar 4])) (mNext)) (mRet [] (mTup [] [])))))))
def fun__law_due_fields : List W → FR := mFun [] 6 (body__law_due_fields)
theorem def__law_due_fields (T : Txt w K mg) : Def P w K mg base (He.ga K) (k + 1) "_law_due_fields" ["_law_which", "_law_place", "_law_name", "_law_number", "_law_moves", "_law_value"] [] (fun__law_due_fields) :=
  def_mk (N := ["_law_which", "_law_place", "_law_name", "_law_number", "_law_moves", "_law_value"]) (g := body__law_due_fields) T.s__law_due_fields sc__law_due_fields (by decide) (fun _ _ _ _ _ _ us hl => match us, hl with | [_, _, _, _, _, _], _ => rfl) fun f cdv A outer s H E Y hr hct tk =>
    (psm_cons (psm_if (ptm_cmp o_in g_in (pem_var 0 (pv 0)) (pem_tup (pam_cons (pem_int) (pam_cons (pem_int) (pam_nil)))) rfl) (psm_one (psm_ret (pem_tup (pam_cons (pem_var 5 (pv 5)) (pam_nil))))) (psm_nil)) (psm_cons (psm_if (ptm_cmp o_in g_in (pem_var 0 (pv 0)) (pem_tup (pam_cons (pem_int) (pam_cons (pem_int) (pam_cons (pem_int) (pam_cons (pem_int) (pam_cons (pem_int) (pam_nil))))))) rfl) (psm_one (psm_ret (pem_tup (pam_cons (pem_var 2 (pv 2)) (pam_nil))))) (psm_nil)) (psm_cons (psm_if (ptm_cmp o_in g_in (pem_var 0 (pv 0)) (pem_tup (pam_cons (pem_int) (pam_cons (pem_int) (pam_cons (pem_int) (pam_cons (pem_int) (pam_cons (pem_int) (pam_cons (pem_int) (pam_cons (pem_int) (pam_nil))))))))) rfl) (psm_one (psm_ret (pem_tup (pam_cons (pem_var 1 (pv 1)) (pam_nil))))) (psm_nil)) (psm_cons (psm_if (ptm_cmp o_in g_in (pem_var 0 (pv 0)) (pem_tup (pam_cons (pem_int) (pam_cons (pem_int) (pam_nil)))) rfl) (psm_one (psm_ret (pem_tup (pam_cons (pem_var 1 (pv 1)) (pam_cons (pem_var 2 (pv 2)) (pam_nil)))))) (psm_nil)) (psm_cons (psm_if (ptm_cmp o_in g_in (pem_var 0 (pv 0)) (pem_tup (pam_cons (pem_int) (pam_cons (pem_int) (pam_cons (pem_int) (pam_cons (pem_int) (pam_cons (pem_int) (pam_cons (pem_int) (pam_nil)))))))) rfl) (psm_one (psm_ret (pem_tup (pam_cons (pem_var 3 (pv 3)) (pam_nil))))) (psm_nil)) (psm_cons (psm_if (ptm_cmp (o_eq (hu200 hr)) g_eq (pem_var 0 (pv 0)) (pem_int) (nomark _)) (psm_one (psm_ret (pem_tup (pam_cons (pem_var 4 (pv 4)) (pam_nil))))) (psm_nil)) (psm_one (psm_ret (pem_tup (pam_nil))))))))))
/-! _law_told -/
theorem sc__law_told : FnScope ["_law_which", "_law_place", "_law_name", "_law_number", "_law_moves", "_law_value", "e", "_law_row", "_law_fields"] ["_law_which", "_law_place", "_law_name", "_law_number", "_law_moves", "_law_value"] (defScope s__law_told) := ⟨rfl, rfl, rfl, by decide +kernel, rfl, by decide +kernel, by decide +kernel⟩
def body__law_told (m__law_raise : List W → FR) : Rho → ML.R Fl := mSeq (mTry [] 6 cm_all (mDrop (mCall [] [] m__law_raise [mVar 0, mVar 1, mVar 2, mVar 3, mVar 4, mVar 5])) (fun c ns ws => mSeq (mSet [] 7 (mLst [] [mIsE 6 (kiT "BadSize" c), mIsE 6 (kiT "BadName" c), mIsE 6 (kiT "RepeatedName" c)])) (mSeq (mSet [] 7 (mOp gAdd (mVar 7) (mLst [] [mIsE 6 (kiT "BadProcedure" c), mIsE 6 (kiT "NoSuchName" c), mIsE 6 (kiT "BadBlock" c)]))) (mSeq (mSet [] 7 (mOp gAdd (mVar 7) (mLst [] [mIsE 6 (kiT "OutOfRange" c), mIsE 6 (kiT "UnknownName" c), mIsE 6 (kiT "WrongName" c)]))) (mSeq (mSet [] 7 (mOp gAdd (mVar 7) (mLst [] [mIsE 6 (kiT "WrongCount" c), mIsE 6 (kiT "WrongKind" c), mIsE 6 (kiT "QuitInside" c)]))) (mSeq (mSet [] 7 (mOp gAdd (mVar 7) (mLst [] [mIsE 6 (kiT "FreeCell" c), mIsE 6 (kiT "NoPlace" c), mIsE 6 (kiT "TooLarge" c)]))) (mSeq (mSet [] 7 (mOp gAdd (mVar 7) (mLst [] [mIsE 6 (kiT "BadText" c), mIsE 6 (kiT "BadMove" c), mIsE 6 (kiT "BadTable" c)]))) (mSeq (mSet [] 7 (mOp gAdd (mVar 7) (mLst [] [mIsE 6 (kiT "SignaturesDiffer" c), mIsE 6 (kiT "KindsDiffer" c), mIsE 6 (kiT "Clash" c)]))) (mSeq (mSet [] 7 (mOp gAdd (mVar 7) (mLst [] [mIsE 6 (kiT "BadNumber" c), mIsE 6 (kiT "WrongMachine" c), mIsE 6 (kiT "BadHole" c)]))) (mSeq (mSet [] 7 (mOp gAdd (mVar 7) (mLst [] [mIsE 6 (kiT "NotFinished" c), mIsE 6 (kiT "BadManner" c), mIsE 6 (kiT "BadTest" c)]))) (mSeq (mDrop (mAppend 7 [] (mIsE 6 (kiT "NotSingle" c)))) (mSeq (mSet [] 8 (mTup [] [])) (mSeq (mIf (mTest (mOp gEq (mVar 0) (mC (.int 0)))) (mSet [] 8 (mTup [] [mXf fl_size 6 "size" c ns ws])) (mNext)) (mSeq (mIf (mTest (mOp (gIn false) (mVar 0) (mTup [] [mC (.int 1), mC (.int 2), mC (.int 3), mC (.int 4), mC (.int 12)]))) (mSet [] 8 (mTup [] [mXf fl_name 6 "name" c ns ws])) (mNext)) (mSeq (mIf (mTest (mOp (gIn false) (mVar 0) (mTup [] [mC (.int 5), mC (.int 6), mC (.int 9), mC (.int 10), mC (.int 11), mC (.int 13), mC (.int 23)]))) (mSet [] 8 (mTup [] [mXf fl_place 6 "place" c ns ws])) (mNext)) (mSeq (mIf (mTest (mOp (gIn false) (mVar 0) (mTup [] [mC (.int 7), mC (.int 8)]))) (mSet [] 8 (mTup [] [mXf fl_place 6 "place" c ns ws, mXf fl_name 6 "name" c ns ws])) (mNext)) (mSeq (mIf (mTest (mOp gEq (mVar 0) (mC (.int 14)))) (mSet [] 8 (mTup [] [mXf fl_most 6 "most" c ns ws])) (mNext)) (mSeq (mIf (mTest (mOp (gIn false) (mVar 0) (mTup [] [mC (.int 15), mC (.int 16), mC (.int 22)]))) (mSet [] 8 (mTup [] [mXf fl_index 6 "index" c ns ws])) (mNext)) (mSeq (mIf (mTest (mOp gEq (mVar 0) (mC (.int 17)))) (mSet [] 8 (mTup [] [mXf fl_standing 6 "standing" c ns ws])) (mNext)) (mSeq (mIf (mTest (mOp gEq (mVar 0) (mC (.int 20)))) (mSet [] 8 (mTup [] [mXf fl_moves 6 "moves" c ns ws])) (mNext)) (mSeq (mIf (mTest (mOp gEq (mVar 0) (mC (.int 21)))) (mSet [] 8 (mTup [] [mXf fl_number 6 "number" c ns ws])) (mNext)) (mSeq (mIf (mTest (mOp gEq (mVar 0) (mC (.int 25)))) (mSet [] 8 (mTup [] [mXf fl_state 6 "state" c ns ws])) (mNext)) (mRet [] (mTup [] [mCB gTupC [mVar 7], mIsE 6 (kiV c), mVar 8])))))))))))))))))))))))) (mRet [] (mC .non))
def fun__law_told (m__law_raise : List W → FR) : List W → FR := mFun [] 9 (body__law_told m__law_raise)
theorem def__law_told (T : Txt w K mg) {m__law_raise : List W → FR} (D__law_raise : Def P w K mg base (He.ga K) k "_law_raise" ["_law_which", "_law_place", "_law_name", "_law_number", "_law_moves", "_law_value"] [] m__law_raise) : Def P w K mg base (He.ga K) (k + 1) "_law_told" ["_law_which", "_law_place", "_law_name", "_law_number", "_law_moves", "_law_value"] [] (fun__law_told m__law_raise) :=
  def_mk (N := ["_law_which", "_law_place", "_law_name", "_law_number", "_law_moves", "_law_value", "e", "_law_row", "_law_fields"]) (g := body__law_told m__law_raise) T.s__law_told sc__law_told (by decide) (fun _ _ _ _ _ _ us hl => match us, hl with | [_, _, _, _, _, _], _ => rfl) fun f cdv A outer s H E Y hr hct tk =>
    (psm_cons (psm_try (i := 6) rfl rfl sc__law_told.nd rfl rfl ⟨rfl, by decide, .inl T.g_HeardError⟩ tk (fun c b h => by rw [hct]; exact T.cm c b h) (fun Yt pn xe hYt wYt pYt => (psm_one (psm_expr (pem_callD D__law_raise (hYt.trans hct) hr wYt rfl (pam_cons (pem_var 0 (pv 0)) (pam_cons (pem_var 1 (pv 1)) (pam_cons (pem_var 2 (pv 2)) (pam_cons (pem_var 3 (pv 3)) (pam_cons (pem_var 4 (pv 4)) (pam_cons (pem_var 5 (pv 5)) (pam_nil))))))) rfl)))) (fun a oe cls d pn Ys c ns ws hz hf su => (psm_cons (psm_set (i := 7) sc__law_told.nd rfl (Or.inl rfl) (pem_lst (pam_cons (pem_isX (cl := cl_all) (D := "BadSize") (cv := .ref (He.ga K "BadSize")) (cw := .ref (He.ga K "BadSize")) (t := kiT "BadSize" c) su hz hf (fun c h => by rw [hct]; exact T.i_all c h) rfl T.b_isinstance (pv 6) (pe_glob (x := "BadSize") (v := .ref (He.ga K "BadSize")) rfl T.g_BadSize rfl) (fun _ h => h) (fun b h => by rw [hct]; exact T.kit "BadSize" (by decide) c b h)) (pam_cons (pem_isX (cl := cl_all) (D := "BadName") (cv := .ref (He.ga K "BadName")) (cw := .ref (He.ga K "BadName")) (t := kiT "BadName" c) su hz hf (fun c h => by rw [hct]; exact T.i_all c h) rfl T.b_isinstance (pv 6) (pe_glob (x := "BadName") (v := .ref (He.ga K "BadName")) rfl T.g_BadName rfl) (fun _ h => h) (fun b h => by rw [hct]; exact T.kit "BadName" (by decide) c b h)) (pam_cons (pem_isX (cl := cl_all) (D := "RepeatedName") (cv := .ref (He.ga K "RepeatedName")) (cw := .ref (He.ga K "RepeatedName")) (t := kiT "RepeatedName" c) su hz hf (fun c h => by rw [hct]; exact T.i_all c h) rfl T.b_isinstance (pv 6) (pe_glob (x := "RepeatedName") (v := .ref (He.ga K "RepeatedName")) rfl T.g_RepeatedName rfl) (fun _ h => h) (fun b h => by rw [hct]; exact T.kit "RepeatedName" (by decide) c b h)) (pam_nil)))))) (psm_cons (psm_set (i := 7) sc__law_told.nd rfl (Or.inl rfl) (pem_op o_add g_add (pem_var 7 (pv 7)) (pem_lst (pam_cons (pem_isX (cl := cl_all) (D := "BadProcedure") (cv := .ref (He.ga K "BadProcedure")) (cw := .ref (He.ga K "BadProcedure")) (t := kiT "BadProcedure" c) su hz hf (fun c h => by rw [hct]; exact T.i_all c h) rfl T.b_isinstance (pv 6) (pe_glob (x := "BadProcedure") (v := .ref (He.ga K "BadProcedure")) rfl T.g_BadProcedure rfl) (fun _ h => h) (fun b h => by rw [hct]; exact T.kit "BadProcedure" (by decide) c b h)) (pam_cons (pem_isX (cl := cl_all) (D := "NoSuchName") (cv := .ref (He.ga K "NoSuchName")) (cw := .ref (He.ga K "NoSuchName")) (t := kiT "NoSuchName" c) su hz hf (fun c h => by rw [hct]; exact T.i_all c h) rfl T.b_isinstance (pv 6) (pe_glob (x := "NoSuchName") (v := .ref (He.ga K "NoSuchName")) rfl T.g_NoSuchName rfl) (fun _ h => h) (fun b h => by rw [hct]; exact T.kit "NoSuchName" (by decide) c b h)) (pam_cons (pem_isX (cl := cl_all) (D := "BadBlock") (cv := .ref (He.ga K "BadBlock")) (cw := .ref (He.ga K "BadBlock")) (t := kiT "BadBlock" c) su hz hf (fun c h => by rw [hct]; exact T.i_all c h) rfl T.b_isinstance (pv 6) (pe_glob (x := "BadBlock") (v := .ref (He.ga K "BadBlock")) rfl T.g_BadBlock rfl) (fun _ h => h) (fun b h => by rw [hct]; exact T.kit "BadBlock" (by decide) c b h)) (pam_nil))))))) (psm_cons (psm_set (i := 7) sc__law_told.nd rfl (Or.inl rfl) (pem_op o_add g_add (pem_var 7 (pv 7)) (pem_lst (pam_cons (pem_isX (cl := cl_all) (D := "OutOfRange") (cv := .ref (He.ga K "OutOfRange")) (cw := .ref (He.ga K "OutOfRange")) (t := kiT "OutOfRange" c) su hz hf (fun c h => by rw [hct]; exact T.i_all c h) rfl T.b_isinstance (pv 6) (pe_glob (x := "OutOfRange") (v := .ref (He.ga K "OutOfRange")) rfl T.g_OutOfRange rfl) (fun _ h => h) (fun b h => by rw [hct]; exact T.kit "OutOfRange" (by decide) c b h)) (pam_cons (pem_isX (cl := cl_all) (D := "UnknownName") (cv := .ref (He.ga K "UnknownName")) (cw := .ref (He.ga K "UnknownName")) (t := kiT "UnknownName" c) su hz hf (fun c h => by rw [hct]; exact T.i_all c h) rfl T.b_isinstance (pv 6) (pe_glob (x := "UnknownName") (v := .ref (He.ga K "UnknownName")) rfl T.g_UnknownName rfl) (fun _ h => h) (fun b h => by rw [hct]; exact T.kit "UnknownName" (by decide) c b h)) (pam_cons (pem_isX (cl := cl_all) (D := "WrongName") (cv := .ref (He.ga K "WrongName")) (cw := .ref (He.ga K "WrongName")) (t := kiT "WrongName" c) su hz hf (fun c h => by rw [hct]; exact T.i_all c h) rfl T.b_isinstance (pv 6) (pe_glob (x := "WrongName") (v := .ref (He.ga K "WrongName")) rfl T.g_WrongName rfl) (fun _ h => h) (fun b h => by rw [hct]; exact T.kit "WrongName" (by decide) c b h)) (pam_nil))))))) (psm_cons (psm_set (i := 7) sc__law_told.nd rfl (Or.inl rfl) (pem_op o_add g_add (pem_var 7 (pv 7)) (pem_lst (pam_cons (pem_isX (cl := cl_all) (D := "WrongCount") (cv := .ref (He.ga K "WrongCount")) (cw := .ref (He.ga K "WrongCount")) (t := kiT "WrongCount" c) su hz hf (fun c h => by rw [hct]; exact T.i_all c h) rfl T.b_isinstance (pv 6) (pe_glob (x := "WrongCount") (v := .ref (He.ga K "WrongCount")) rfl T.g_WrongCount rfl) (fun _ h => h) (fun b h => by rw [hct]; exact T.kit "WrongCount" (by decide) c b h)) (pam_cons (pem_isX (cl := cl_all) (D := "WrongKind") (cv := .ref (He.ga K "WrongKind")) (cw := .ref (He.ga K "WrongKind")) (t := kiT "WrongKind" c) su hz hf (fun c h => by rw [hct]; exact T.i_all c h) rfl T.b_isinstance (pv 6) (pe_glob (x := "WrongKind") (v := .ref (He.ga K "WrongKind")) rfl T.g_WrongKind rfl) (fun _ h => h) (fun b h => by rw [hct]; exact T.kit "WrongKind" (by decide) c b h)) (pam_cons (pem_isX (cl := cl_all) (D := "QuitInside") (cv := .ref (He.ga K "QuitInside")) (cw := .ref (He.ga K "QuitInside")) (t := kiT "QuitInside" c) su hz hf (fun c h => by rw [hct]; exact T.i_all c h) rfl T.b_isinstance (pv 6) (pe_glob (x := "QuitInside") (v := .ref (He.ga K "QuitInside")) rfl T.g_QuitInside rfl) (fun _ h => h) (fun b h => by rw [hct]; exact T.kit "QuitInside" (by decide) c b h)) (pam_nil))))))) (psm_cons (psm_set (i := 7) sc__law_told.nd rfl (Or.inl rfl) (pem_op o_add g_add (pem_var 7 (pv 7)) (pem_lst (pam_cons (pem_isX (cl := cl_all) (D := "FreeCell") (cv := .ref (He.ga K "FreeCell")) (cw := .ref (He.ga K "FreeCell")) (t := kiT "FreeCell" c) su hz hf (fun c h => by rw [hct]; exact T.i_all c h) rfl T.b_isinstance (pv 6) (pe_glob (x := "FreeCell") (v := .ref (He.ga K "FreeCell")) rfl T.g_FreeCell rfl) (fun _ h => h) (fun b h => by rw [hct]; exact T.kit "FreeCell" (by decide) c b h)) (pam_cons (pem_isX (cl := cl_all) (D := "NoPlace") (cv := .ref (He.ga K "NoPlace")) (cw := .ref (He.ga K "NoPlace")) (t := kiT "NoPlace" c) su hz hf (fun c h => by rw [hct]; exact T.i_all c h) rfl T.b_isinstance (pv 6) (pe_glob (x := "NoPlace") (v := .ref (He.ga K "NoPlace")) rfl T.g_NoPlace rfl) (fun _ h => h) (fun b h => by rw [hct]; exact T.kit "NoPlace" (by decide) c b h)) (pam_cons (pem_isX (cl := cl_all) (D := "TooLarge") (cv := .ref (He.ga K "TooLarge")) (cw := .ref (He.ga K "TooLarge")) (t := kiT "TooLarge" c) su hz hf (fun c h => by rw [hct]; exact T.i_all c h) rfl T.b_isinstance (pv 6) (pe_glob (x := "TooLarge") (v := .ref (He.ga K "TooLarge")) rfl T.g_TooLarge rfl) (fun _ h => h) (fun b h => by rw [hct]; exact T.kit "TooLarge" (by decide) c b h)) (pam_nil))))))) (psm_cons (psm_set (i := 7) sc__law_told.nd rfl (Or.inl rfl) (pem_op o_add g_add (pem_var 7 (pv 7)) (pem_lst (pam_cons (pem_isX (cl := cl_all) (D := "BadText") (cv := .ref (He.ga K "BadText")) (cw := .ref (He.ga K "BadText")) (t := kiT "BadText" c) su hz hf (fun c h => by rw [hct]; exact T.i_all c h) rfl T.b_isinstance (pv 6) (pe_glob (x := "BadText") (v := .ref (He.ga K "BadText")) rfl T.g_BadText rfl) (fun _ h => h) (fun b h => by rw [hct]; exact T.kit "BadText" (by decide) c b h)) (pam_cons (pem_isX (cl := cl_all) (D := "BadMove") (cv := .ref (He.ga K "BadMove")) (cw := .ref (He.ga K "BadMove")) (t := kiT "BadMove" c) su hz hf (fun c h => by rw [hct]; exact T.i_all c h) rfl T.b_isinstance (pv 6) (pe_glob (x := "BadMove") (v := .ref (He.ga K "BadMove")) rfl T.g_BadMove rfl) (fun _ h => h) (fun b h => by rw [hct]; exact T.kit "BadMove" (by decide) c b h)) (pam_cons (pem_isX (cl := cl_all) (D := "BadTable") (cv := .ref (He.ga K "BadTable")) (cw := .ref (He.ga K "BadTable")) (t := kiT "BadTable" c) su hz hf (fun c h => by rw [hct]; exact T.i_all c h) rfl T.b_isinstance (pv 6) (pe_glob (x := "BadTable") (v := .ref (He.ga K "BadTable")) rfl T.g_BadTable rfl) (fun _ h => h) (fun b h => by rw [hct]; exact T.kit "BadTable" (by decide) c b h)) (pam_nil))))))) (psm_cons (psm_set (i := 7) sc__law_told.nd rfl (Or.inl rfl) (pem_op o_add g_add (pem_var 7 (pv 7)) (pem_lst (pam_cons (pem_isX (cl := cl_all) (D := "SignaturesDiffer") (cv := .ref (He.ga K "SignaturesDiffer")) (cw := .ref (He.ga K "SignaturesDiffer")) (t := kiT "SignaturesDiffer" c) su hz hf (fun c h => by rw [hct]; exact T.i_all c h) rfl T.b_isinstance (pv 6) (pe_glob (x := "SignaturesDiffer") (v := .ref (He.ga K "SignaturesDiffer")) rfl T.g_SignaturesDiffer rfl) (fun _ h => h) (fun b h => by rw [hct]; exact T.kit "SignaturesDiffer" (by decide) c b h)) (pam_cons (pem_isX (cl := cl_all) (D := "KindsDiffer") (cv := .ref (He.ga K "KindsDiffer")) (cw := .ref (He.ga K "KindsDiffer")) (t := kiT "KindsDiffer" c) su hz hf (fun c h => by rw [hct]; exact T.i_all c h) rfl T.b_isinstance (pv 6) (pe_glob (x := "KindsDiffer") (v := .ref (He.ga K "KindsDiffer")) rfl T.g_KindsDiffer rfl) (fun _ h => h) (fun b h => by rw [hct]; exact T.kit "KindsDiffer" (by decide) c b h)) (pam_cons (pem_isX (cl := cl_all) (D := "Clash") (cv := .ref (He.ga K "Clash")) (cw := .ref (He.ga K "Clash")) (t := kiT "Clash" c) su hz hf (fun c h => by rw [hct]; exact T.i_all c h) rfl T.b_isinstance (pv 6) (pe_glob (x := "Clash") (v := .ref (He.ga K "Clash")) rfl T.g_Clash rfl) (fun _ h => h) (fun b h => by rw [hct]; exact T.kit "Clash" (by decide) c b h)) (pam_nil))))))) (psm_cons (psm_set (i := 7) sc__law_told.nd rfl (Or.inl rfl) (pem_op o_add g_add (pem_var 7 (pv 7)) (pem_lst (pam_cons (pem_isX (cl := cl_all) (D := "BadNumber") (cv := .ref (He.ga K "BadNumber")) (cw := .ref (He.ga K "BadNumber")) (t := kiT "BadNumber" c) su hz hf (fun c h => by rw [hct]; exact T.i_all c h) rfl T.b_isinstance (pv 6) (pe_glob (x := "BadNumber") (v := .ref (He.ga K "BadNumber")) rfl T.g_BadNumber rfl) (fun _ h => h) (fun b h => by rw [hct]; exact T.kit "BadNumber" (by decide) c b h)) (pam_cons (pem_isX (cl := cl_all) (D := "WrongMachine") (cv := .ref (He.ga K "WrongMachine")) (cw := .ref (He.ga K "WrongMachine")) (t := kiT "WrongMachine" c) su hz hf (fun c h => by rw [hct]; exact T.i_all c h) rfl T.b_isinstance (pv 6) (pe_glob (x := "WrongMachine") (v := .ref (He.ga K "WrongMachine")) rfl T.g_WrongMachine rfl) (fun _ h => h) (fun b h => by rw [hct]; exact T.kit "WrongMachine" (by decide) c b h)) (pam_cons (pem_isX (cl := cl_all) (D := "BadHole") (cv := .ref (He.ga K "BadHole")) (cw := .ref (He.ga K "BadHole")) (t := kiT "BadHole" c) su hz hf (fun c h => by rw [hct]; exact T.i_all c h) rfl T.b_isinstance (pv 6) (pe_glob (x := "BadHole") (v := .ref (He.ga K "BadHole")) rfl T.g_BadHole rfl) (fun _ h => h) (fun b h => by rw [hct]; exact T.kit "BadHole" (by decide) c b h)) (pam_nil))))))) (psm_cons (psm_set (i := 7) sc__law_told.nd rfl (Or.inl rfl) (pem_op o_add g_add (pem_var 7 (pv 7)) (pem_lst (pam_cons (pem_isX (cl := cl_all) (D := "NotFinished") (cv := .ref (He.ga K "NotFinished")) (cw := .ref (He.ga K "NotFinished")) (t := kiT "NotFinished" c) su hz hf (fun c h => by rw [hct]; exact T.i_all c h) rfl T.b_isinstance (pv 6) (pe_glob (x := "NotFinished") (v := .ref (He.ga K "NotFinished")) rfl T.g_NotFinished rfl) (fun _ h => h) (fun b h => by rw [hct]; exact T.kit "NotFinished" (by decide) c b h)) (pam_cons (pem_isX (cl := cl_all) (D := "BadManner") (cv := .ref (He.ga K "BadManner")) (cw := .ref (He.ga K "BadManner")) (t := kiT "BadManner" c) su hz hf (fun c h => by rw [hct]; exact T.i_all c h) rfl T.b_isinstance (pv 6) (pe_glob (x := "BadManner") (v := .ref (He.ga K "BadManner")) rfl T.g_BadManner rfl) (fun _ h => h) (fun b h => by rw [hct]; exact T.kit "BadManner" (by decide) c b h)) (pam_cons (pem_isX (cl := cl_all) (D := "BadTest") (cv := .ref (He.ga K "BadTest")) (cw := .ref (He.ga K "BadTest")) (t := kiT "BadTest" c) su hz hf (fun c h => by rw [hct]; exact T.i_all c h) rfl T.b_isinstance (pv 6) (pe_glob (x := "BadTest") (v := .ref (He.ga K "BadTest")) rfl T.g_BadTest rfl) (fun _ h => h) (fun b h => by rw [hct]; exact T.kit "BadTest" (by decide) c b h)) (pam_nil))))))) (psm_cons (psm_expr (pem_append (pv 7) (pem_isX (cl := cl_all) (D := "NotSingle") (cv := .ref (He.ga K "NotSingle")) (cw := .ref (He.ga K "NotSingle")) (t := kiT "NotSingle" c) su hz hf (fun c h => by rw [hct]; exact T.i_all c h) rfl T.b_isinstance (pv 6) (pe_glob (x := "NotSingle") (v := .ref (He.ga K "NotSingle")) rfl T.g_NotSingle rfl) (fun _ h => h) (fun b h => by rw [hct]; exact T.kit "NotSingle" (by decide) c b h)))) (psm_cons (psm_set (i := 8) sc__law_told.nd rfl (Or.inl rfl) (pem_tup (pam_nil))) (psm_cons (psm_if (ptm_cmp (o_eq (by have z := hu200 hr; exact z)) g_eq (pem_var 0 (pv 0)) (pem_int) (nomark _)) (psm_one (psm_set (i := 8) sc__law_told.nd rfl (Or.inl rfl) (pem_tup (pam_cons (pem_xf su hz hf (fun c h => by rw [hct]; exact T.f_size c h) (pv 6)) (pam_nil))))) (psm_nil)) (psm_cons (psm_if (ptm_cmp o_in g_in (pem_var 0 (pv 0)) (pem_tup (pam_cons (pem_int) (pam_cons (pem_int) (pam_cons (pem_int) (pam_cons (pem_int) (pam_cons (pem_int) (pam_nil))))))) rfl) (psm_one (psm_set (i := 8) sc__law_told.nd rfl (Or.inl rfl) (pem_tup (pam_cons (pem_xf su hz hf (fun c h => by rw [hct]; exact T.f_name c h) (pv 6)) (pam_nil))))) (psm_nil)) (psm_cons (psm_if (ptm_cmp o_in g_in (pem_var 0 (pv 0)) (pem_tup (pam_cons (pem_int) (pam_cons (pem_int) (pam_cons (pem_int) (pam_cons (pem_int) (pam_cons (pem_int) (pam_cons (pem_int) (pam_cons (pem_int) (pam_nil))))))))) rfl) (psm_one (psm_set (i := 8) sc__law_told.nd rfl (Or.inl rfl) (pem_tup (pam_cons (pem_xf su hz hf (fun c h => by rw [hct]; exact T.f_place c h) (pv 6)) (pam_nil))))) (psm_nil)) (psm_cons (psm_if (ptm_cmp o_in g_in (pem_var 0 (pv 0)) (pem_tup (pam_cons (pem_int) (pam_cons (pem_int) (pam_nil)))) rfl) (psm_one (psm_set (i := 8) sc__law_told.nd rfl (Or.inl rfl) (pem_tup (pam_cons (pem_xf su hz hf (fun c h => by rw [hct]; exact T.f_place c h) (pv 6)) (pam_cons (pem_xf su hz hf (fun c h => by rw [hct]; exact T.f_name c h) (pv 6)) (pam_nil)))))) (psm_nil)) (psm_cons (psm_if (ptm_cmp (o_eq (by have z := hu200 hr; exact z)) g_eq (pem_var 0 (pv 0)) (pem_int) (nomark _)) (psm_one (psm_set (i := 8) sc__law_told.nd rfl (Or.inl rfl) (pem_tup (pam_cons (pem_xf su hz hf (fun c h => by rw [hct]; exact T.f_most c h) (pv 6)) (pam_nil))))) (psm_nil)) (psm_cons (psm_if (ptm_cmp o_in g_in (pem_var 0 (pv 0)) (pem_tup (pam_cons (pem_int) (pam_cons (pem_int) (pam_cons (pem_int) (pam_nil))))) rfl) (psm_one (psm_set (i := 8) sc__law_told.nd rfl (Or.inl rfl) (pem_tup (pam_cons (pem_xf su hz hf (fun c h => by rw [hct]; exact T.f_index c h) (pv 6)) (pam_nil))))) (psm_nil)) (psm_cons (psm_if (ptm_cmp (o_eq (by have z := hu200 hr; exact z)) g_eq (pem_var 0 (pv 0)) (pem_int) (nomark _)) (psm_one (psm_set (i := 8) sc__law_told.nd rfl (Or.inl rfl) (pem_tup (pam_cons (pem_xf su hz hf (fun c h => by rw [hct]; exact T.f_standing c h) (pv 6)) (pam_nil))))) (psm_nil)) (psm_cons (psm_if (ptm_cmp (o_eq (by have z := hu200 hr; exact z)) g_eq (pem_var 0 (pv 0)) (pem_int) (nomark _)) (psm_one (psm_set (i := 8) sc__law_told.nd rfl (Or.inl rfl) (pem_tup (pam_cons (pem_xf su hz hf (fun c h => by rw [hct]; exact T.f_moves c h) (pv 6)) (pam_nil))))) (psm_nil)) (psm_cons (psm_if (ptm_cmp (o_eq (by have z := hu200 hr; exact z)) g_eq (pem_var 0 (pv 0)) (pem_int) (nomark _)) (psm_one (psm_set (i := 8) sc__law_told.nd rfl (Or.inl rfl) (pem_tup (pam_cons (pem_xf su hz hf (fun c h => by rw [hct]; exact T.f_number c h) (pv 6)) (pam_nil))))) (psm_nil)) (psm_cons (psm_if (ptm_cmp (o_eq (by have z := hu200 hr; exact z)) g_eq (pem_var 0 (pv 0)) (pem_int) (nomark _)) (psm_one (psm_set (i := 8) sc__law_told.nd rfl (Or.inl rfl) (pem_tup (pam_cons (pem_xf su hz hf (fun c h => by rw [hct]; exact T.f_state c h) (pv 6)) (pam_nil))))) (psm_nil)) (psm_one (psm_ret (pem_tup (pam_cons (pem_callTy call_tuple_of rfl T.b_tuple (by rfl) g_tupC (pam_cons (pem_var 7 (pv 7)) (pam_nil))) (pam_cons (pem_isX (cl := cl_all) (D := "ValueError") (cv := .ty "ValueError") (cw := .type "ValueError") (t := kiV c) su hz hf (fun c h => by rw [hct]; exact T.i_all c h) rfl T.b_isinstance (pv 6) (pe_bltn (x := "ValueError") (v := .ty "ValueError") rfl T.b_ValueError (by rfl) rfl) (fun _ h => h) (fun b h => by rw [hct]; exact T.kit_ValueError c b h)) (pam_cons (pem_var 8 (pv 8)) (pam_nil)))))))))))))))))))))))))))))) (psm_one (psm_ret (pem_non))))
/-! law -/
theorem sc_law : FnScope ["_law_script", "_law_which", "_law_drawn_here", "_law_told_here", "_law_fields", "_law_k"] ["_law_script"] (defScope s_law) := ⟨rfl, rfl, rfl, by decide +kernel, rfl, by decide +kernel, by decide +kernel⟩
def body_law (m__law_drawn : List W → FR) (m__law_told : List W → FR) (m__law_due_fields : List W → FR) (m__law_same : List W → FR) : Rho → ML.R Fl := mSeq (mFor (mRange1 [mC (.int 28)]) (gSet [] 1) (mSeq (mSet [] 2 (mCall [] [] m__law_drawn [mVar 0, mVar 1])) (mSeq (mSet [] 3 (mCall [] [] m__law_told [mVar 1, mOp gIx (mVar 2) (mC (.int 0)), mOp gIx (mVar 2) (mC (.int 1)), mOp gIx (mVar 2) (mC (.int 2)), mOp gIx (mVar 2) (mC (.int 3)), mOp gIx (mVar 2) (mC (.int 4))])) (mSeq (mSet [] 4 (mCall [] [] m__law_due_fields [mVar 1, mOp gIx (mVar 2) (mC (.int 0)), mOp gIx (mVar 2) (mC (.int 1)), mOp gIx (mVar 2) (mC (.int 2)), mOp gIx (mVar 2) (mC (.int 3)), mOp gIx (mVar 2) (mC (.int 4))])) (mIf (mNot (mTest (mCall [] [] m__law_same [mVar 3, mTup [] [mCB gTupC [mLc [] (mRange1 [mC (.int 28)]) (.nm 5) (mYes) (mOp gEq (mVar 5) (mVar 1))], mC (.bl true), mVar 4]]))) (mRet [] (mC (.bl false))) (mNext)))))) (mRet [] (mC (.bl true)))
def fun_law (m__law_drawn : List W → FR) (m__law_told : List W → FR) (m__law_due_fields : List W → FR) (m__law_same : List W → FR) : List W → FR := mFun [] 6 (body_law m__law_drawn m__law_told m__law_due_fields m__law_same)
theorem def_law (T : Txt w K mg) {m__law_drawn : List W → FR} (D__law_drawn : Def P w K mg base (He.ga K) k "_law_drawn" ["_law_script", "_law_which"] [] m__law_drawn) {m__law_told : List W → FR} (D__law_told : Def P w K mg base (He.ga K) k "_law_told" ["_law_which", "_law_place", "_law_name", "_law_number", "_law_moves", "_law_value"] [] m__law_told) {m__law_due_fields : List W → FR} (D__law_due_fields : Def P w K mg base (He.ga K) k "_law_due_fields" ["_law_which", "_law_place", "_law_name", "_law_number", "_law_moves", "_law_value"] [] m__law_due_fields) {m__law_same : List W → FR} (D__law_same : Def P w K mg base (He.ga K) k "_law_same" ["_law_actual", "_law_due"] [] m__law_same) : Def P w K mg base (He.ga K) (k + 1) "law" ["_law_script"] [] (fun_law m__law_drawn m__law_told m__law_due_fields m__law_same) :=
  def_mk (N := ["_law_script", "_law_which", "_law_drawn_here", "_law_told_here", "_law_fields", "_law_k"]) (g := body_law m__law_drawn m__law_told m__law_due_fields m__law_same) T.s_law sc_law (by decide) (fun _ _ _ _ _ _ us hl => match us, hl with | [_], _ => rfl) fun f cdv A outer s H E Y hr hct tk =>
    (psm_cons (psm_for (passes_of rfl) rfl (pim_range1 rfl T.b_range (pam_cons (pem_int) (pam_nil))) (pgm_name (pg_name (i := 1) sc_law.nd rfl (Or.inr rfl))) (psm_cons (psm_set (i := 2) sc_law.nd rfl (Or.inl rfl) (pem_callD D__law_drawn hct hr tk rfl (pam_cons (pem_var 0 (pv 0)) (pam_cons (pem_var 1 (pv 1)) (pam_nil))) rfl)) (psm_cons (psm_set (i := 3) sc_law.nd rfl (Or.inl rfl) (pem_callD D__law_told hct hr tk rfl (pam_cons (pem_var 1 (pv 1)) (pam_cons (pem_ix (pem_var 2 (pv 2)) (pem_int)) (pam_cons (pem_ix (pem_var 2 (pv 2)) (pem_int)) (pam_cons (pem_ix (pem_var 2 (pv 2)) (pem_int)) (pam_cons (pem_ix (pem_var 2 (pv 2)) (pem_int)) (pam_cons (pem_ix (pem_var 2 (pv 2)) (pem_int)) (pam_nil))))))) rfl)) (psm_cons (psm_set (i := 4) sc_law.nd rfl (Or.inl rfl) (pem_callD D__law_due_fields hct hr tk rfl (pam_cons (pem_var 1 (pv 1)) (pam_cons (pem_ix (pem_var 2 (pv 2)) (pem_int)) (pam_cons (pem_ix (pem_var 2 (pv 2)) (pem_int)) (pam_cons (pem_ix (pem_var 2 (pv 2)) (pem_int)) (pam_cons (pem_ix (pem_var 2 (pv 2)) (pem_int)) (pam_cons (pem_ix (pem_var 2 (pv 2)) (pem_int)) (pam_nil))))))) rfl)) (psm_one (psm_if (ptm_not (ptm_val (pem_callD D__law_same hct hr tk rfl (pam_cons (pem_var 3 (pv 3)) (pam_cons (pem_tup (pam_cons (pem_callTy call_tuple_of rfl T.b_tuple (by rfl) g_tupC (pam_cons (pem_lc (own := [("_law_k", 5)]) (t := .nm 5) rfl sc_law.nd (pim_range1 rfl T.b_range (pam_cons (pem_int) (pam_nil))) (blkOk_by (N := ["_law_script", "_law_which", "_law_drawn_here", "_law_told_here", "_law_fields", "_law_k"]) (sc := defScope s_law) (by decide +kernel)) rfl (fun _ _ _ _ _ => pg_name (i := 5) sc_law.nd rfl (by first | exact Or.inl rfl | exact Or.inr rfl) (by first | exact .inl rfl | exact .inr rfl)) (fun _ _ _ _ _ => pcs_nil) (fun _ _ _ _ _ Y1 hY1 wY1 => (pem_cmp (o_eq (hu200 hr)) g_eq (pem_var 5 (pv 5)) (pem_var 1 (pv 1)) (nomark _)))) (pam_nil))) (pam_cons (pem_bl) (pam_cons (pem_var 4 (pv 4)) (pam_nil))))) (pam_nil))) rfl))) (psm_one (psm_ret (pem_bl))) (psm_nil))))))) (psm_one (psm_ret (pem_bl))))
end
end K96

namespace K96
open PySem PySem.Spec PyProof.Rows L2 ML
@[simp] theorem lit0 : Str.ofString "heardsaid.errors" = S [104, 101, 97, 114, 100, 115, 97, 105, 100, 46, 101, 114, 114, 111, 114, 115] := by decide +kernel
@[simp] theorem lit1 : Str.ofString "law_heardsaid_k96_errors_apart" = S [108, 97, 119, 95, 104, 101, 97, 114, 100, 115, 97, 105, 100, 95, 107, 57, 54, 95, 101, 114, 114, 111, 114, 115, 95, 97, 112, 97, 114, 116] := by decide +kernel
@[simp] theorem lit2 : Str.ofString "abcdefghijklmnopqrstuvwxyz0123456789 !\"#$&'()*+,-./:;<=>?@ABCDEFGHIJKLMNOPQRSTUVWXYZ[\\]^_`{|}~" = S [97, 98, 99, 100, 101, 102, 103, 104, 105, 106, 107, 108, 109, 110, 111, 112, 113, 114, 115, 116, 117, 118, 119, 120, 121, 122, 48, 49, 50, 51, 52, 53, 54, 55, 56, 57, 32, 33, 34, 35, 36, 38, 39, 40, 41, 42, 43, 44, 45, 46, 47, 58, 59, 60, 61, 62, 63, 64, 65, 66, 67, 68, 69, 70, 71, 72, 73, 74, 75, 76, 77, 78, 79, 80, 81, 82, 83, 84, 85, 86, 87, 88, 89, 90, 91, 92, 93, 94, 95, 96, 123, 124, 125, 126] := by decide +kernel
@[simp] theorem lit3 : Str.ofString "" = S [] := by decide +kernel
@[simp] theorem in_t1 (neg : Bool) (x a0 : List Nat) : gIn neg (.str (S x)) (.tup [.str (S a0)]) = some (.val, .bl (if neg then !decide (x ∈ [a0]) else decide (x ∈ [a0]))) := in_ST neg x [a0] _ rfl (by simp)
@[simp] theorem in_t2 (neg : Bool) (x a0 a1 : List Nat) : gIn neg (.str (S x)) (.tup [.str (S a0), .str (S a1)]) = some (.val, .bl (if neg then !decide (x ∈ [a0, a1]) else decide (x ∈ [a0, a1]))) := in_ST neg x [a0, a1] _ rfl (by simp)
@[simp] theorem in_t3 (neg : Bool) (x a0 a1 a2 : List Nat) : gIn neg (.str (S x)) (.tup [.str (S a0), .str (S a1), .str (S a2)]) = some (.val, .bl (if neg then !decide (x ∈ [a0, a1, a2]) else decide (x ∈ [a0, a1, a2]))) := in_ST neg x [a0, a1, a2] _ rfl (by simp)
@[simp] theorem in_t4 (neg : Bool) (x a0 a1 a2 a3 : List Nat) : gIn neg (.str (S x)) (.tup [.str (S a0), .str (S a1), .str (S a2), .str (S a3)]) = some (.val, .bl (if neg then !decide (x ∈ [a0, a1, a2, a3]) else decide (x ∈ [a0, a1, a2, a3]))) := in_ST neg x [a0, a1, a2, a3] _ rfl (by simp)
@[simp] theorem in_t5 (neg : Bool) (x a0 a1 a2 a3 a4 : List Nat) : gIn neg (.str (S x)) (.tup [.str (S a0), .str (S a1), .str (S a2), .str (S a3), .str (S a4)]) = some (.val, .bl (if neg then !decide (x ∈ [a0, a1, a2, a3, a4]) else decide (x ∈ [a0, a1, a2, a3, a4]))) := in_ST neg x [a0, a1, a2, a3, a4] _ rfl (by simp)
@[simp] theorem in_t6 (neg : Bool) (x a0 a1 a2 a3 a4 a5 : List Nat) : gIn neg (.str (S x)) (.tup [.str (S a0), .str (S a1), .str (S a2), .str (S a3), .str (S a4), .str (S a5)]) = some (.val, .bl (if neg then !decide (x ∈ [a0, a1, a2, a3, a4, a5]) else decide (x ∈ [a0, a1, a2, a3, a4, a5]))) := in_ST neg x [a0, a1, a2, a3, a4, a5] _ rfl (by simp)
@[simp] theorem in_t7 (neg : Bool) (x a0 a1 a2 a3 a4 a5 a6 : List Nat) : gIn neg (.str (S x)) (.tup [.str (S a0), .str (S a1), .str (S a2), .str (S a3), .str (S a4), .str (S a5), .str (S a6)]) = some (.val, .bl (if neg then !decide (x ∈ [a0, a1, a2, a3, a4, a5, a6]) else decide (x ∈ [a0, a1, a2, a3, a4, a5, a6]))) := in_ST neg x [a0, a1, a2, a3, a4, a5, a6] _ rfl (by simp)
@[simp] theorem in_t8 (neg : Bool) (x a0 a1 a2 a3 a4 a5 a6 a7 : List Nat) : gIn neg (.str (S x)) (.tup [.str (S a0), .str (S a1), .str (S a2), .str (S a3), .str (S a4), .str (S a5), .str (S a6), .str (S a7)]) = some (.val, .bl (if neg then !decide (x ∈ [a0, a1, a2, a3, a4, a5, a6, a7]) else decide (x ∈ [a0, a1, a2, a3, a4, a5, a6, a7]))) := in_ST neg x [a0, a1, a2, a3, a4, a5, a6, a7] _ rfl (by simp)
end K96

namespace K96
open PySem PySem.Spec PyProof.Rows L2 ML
abbrev A : Type := List Nat
@[simp] theorem line0 : (0 ≤ sizeLine) = True := by simp
@[simp] theorem line1 : (1 ≤ sizeLine) = True := by simp [line_is]
@[simp] theorem line2 : (2 ≤ sizeLine) = True := by simp [line_is]
@[simp] theorem line3 : (3 ≤ sizeLine) = True := by simp [line_is]
@[simp] theorem line4 : (4 ≤ sizeLine) = True := by simp [line_is]
theorem l1 : (1 ≤ sizeLine) = True := by simp [line_is]
theorem l2 : (2 ≤ sizeLine) = True := by simp [line_is]
theorem l3 : (3 ≤ sizeLine) = True := by simp [line_is]
theorem l4 : (4 ≤ sizeLine) = True := by simp [line_is]
@[simp] theorem ev_neg (f : Rho → R (Md × W)) (ρ : Rho) : mNeg f ρ = (f ρ).bind fun x ρ1 => (match x.1, x.2 with
  | .val, .int i => .ok (.val, .int (-i)) ρ1
  | _, _ => .stk) := rfl
theorem all2_ints (n : Nat) : All2 (fun (w : W) (z : Nat) => w = .int z ∧ z < n) (intsW 0 n) (List.range n) := by
  have : ∀ l : List Nat, (∀ x ∈ l, x < n) → All2 (fun (w : W) (z : Nat) => w = .int z ∧ z < n) (l.map fun i => W.int (0 + (i : Nat))) l := by
    intro l
    induction l with
    | nil => exact fun _ => .nil
    | cons x l ihl => exact fun h => .cons ⟨by simp, h x (List.mem_cons_self ..)⟩ (ihl fun y hy => h y (List.mem_cons_of_mem _ hy))
  exact this _ fun x hx => List.mem_range.mp hx
theorem all2_rng (n : Nat) : All2 (fun (w : W) (z : Nat) => w = .int z ∧ z < n) (intsW 0 n) (List.range' 0 n) := by
  have := all2_ints n
  rwa [List.range_eq_range'] at this
theorem all2_w (ns : List Int) : All2 (fun (w : W) (n : Int) => w = .int n) (ns.map W.int) ns := by
  induction ns with
  | nil => exact .nil
  | cons y l ih => exact .cons rfl ih
theorem cell_ok (ns : List Int) (k : Nat) : ∃ v, fun__law_cell [.frl (ns.map W.int), .int k] = .ok false (.int v) [] := by
  by_cases hk : k < ns.length
  · have e : atI (ns.map W.int) (k : Int) = some (.int ns[k]) := by
      rw [ML.atI_nat, List.getElem?_map, List.getElem?_eq_getElem hk]
      rfl
    refine ⟨ns[k], ?_⟩
    unfold fun__law_cell body__law_cell
    simp -implicitDefEqProofs [ev_var, hk, e]
  · have e0 : gSet [] 3 = fun w ρ => some (ρ.set 3 (.val w)) := gset_is (by simp)
    obtain ⟨ρ1, e1, sd, s, rfl, b0, b1⟩ := for_inv (i := 3) (g := mSet [] 2 (mOp gMod (mCB gInt [mOp gAdd (mOp gMul (mVar 2) (mC (.int 31))) (mOp gMod (mCB gInt [mVar 3]) (mC (.int 1000003)))]) (mC (.int 1000003))))
      (ρ := [Sl.val (.frl (ns.map W.int)), Sl.val (.int k), Sl.val (.int 17), Sl.no])
      (P := fun zs ρ => ∃ (sd : Int) (s : Sl), ρ = [Sl.val (.frl (ns.map W.int)), Sl.val (.int k), Sl.val (.int sd), s] ∧ 0 ≤ sd ∧ sd < 1000003) (.inr trivial) (all2_w ns) (fun a z zs' ρ q ⟨sd, s, er, b0, b1⟩ => by
        subst er q
        have hm : okMul sd 31 = true := by simp [okMul]
        exact ⟨[Sl.val (.frl (ns.map W.int)), Sl.val (.int k), Sl.val (.int ((sd * 31 + z % 1000003) % 1000003)), Sl.val (.int z)], by simp -implicitDefEqProofs [ev_var, ev_own, ev_mod, hm], _, _, rfl, Int.emod_nonneg _ (by omega), Int.emod_lt_of_pos _ (by omega)⟩) ⟨17, Sl.no, rfl, by omega, by omega⟩
    have hm : ∀ a, okMul a 69621 = true := fun a => by simp [okMul]
    have hb : okMul (sd + 7) ((k : Int) + 3) = true := by
      have h1 : (-(2 ^ 64 : Int)) < sd + 7 := by omega
      have h2 : sd + 7 < (2 ^ 64 : Int) := by omega
      unfold okMul
      rw [decide_eq_true h1, decide_eq_true h2]
      rfl
    refine ⟨(sd + 7) * ((k : Int) + 3) * 69621 % 2147483647, ?_⟩
    unfold fun__law_cell body__law_cell
    simp -implicitDefEqProofs [ev_var, hk, e0, e1, ev_mod, hm, hb]
theorem pow18 : gPow (.int 10) (.int 18) = some (.val, .int (10 ^ 18)) := rfl
def bdD : Rho → ML.R Fl := mSeq (mSet [] 5 (mOp gMod (mCB gInt [mOp gAdd (mOp gAdd (mOp gMul (mVar 5) (mC (.int 48271))) (mOp gMul (mC (.int 974711)) (mVar 6))) (mC (.int 12345))]) (mC (.int 2147483647)))) (mSeq (mSet [] 7 (mOp gMod (mCB gInt [mOp gMul (mVar 5) (mOp gAdd (mOp gFdiv (mVar 5) (mC (.int 65537))) (mC (.int 3)))]) (mC (.int 2147483629)))) (mIf (mAnd (mTest (mVar 4)) (mTest (mOp (gCmp (fun i j => decide (j < i))) (mVar 3) (mC (.int 0))))) (mSeq (mDrop (mAppend 2 [] (mOp gMod (mCB gInt [mVar 3]) (mOp gIx (mVar 1) (mVar 6))))) (mSet [] 3 (mOp gFdiv (mCB gInt [mVar 3]) (mOp gIx (mVar 1) (mVar 6))))) (mDrop (mAppend 2 [] (mOp gMod (mCB gInt [mOp gFdiv (mVar 7) (mC (.int 19))]) (mOp gIx (mVar 1) (mVar 6)))))))
def frD (c : Int) (szs row : List W) (rest : Int) (g : Bool) (sd : Int) (s6 s7 : Sl) : Rho := [Sl.val (.int c), Sl.val (.lst szs), Sl.own (.lst row), Sl.val (.int rest), Sl.val (.bl g), Sl.val (.int sd), s6, s7]
theorem bd_ok {c rest sd z k : Int} {szs row : List W} {g : Bool} {s7 : Sl} (hz : atI szs k = some (.int z)) (z0 : 0 < z) (z1 : z < 1073741824) (hl : row.length ≤ 2000) : ∃ d rest' sd' s7', bdD (frD c szs row rest g sd (Sl.val (.int k)) s7) = .ok .nx (frD c szs (row ++ [.int d]) rest' g sd' (Sl.val (.int k)) s7') ∧ 0 ≤ d ∧ d < z := by
  have hsz : row.length < sizeLine := by rw [line_is]; omega
  have m1 : okMul sd 48271 = true := by simp [okMul]
  have m2 : okMul 974711 k = true := by simp [okMul]
  obtain ⟨sd', hsd⟩ : ∃ sd' : Int, sd' = (sd * 48271 + 974711 * k + 12345) % 2147483647 := ⟨_, rfl⟩
  have b0 : 0 ≤ sd' := by rw [hsd]; exact Int.emod_nonneg _ (by omega)
  have b1 : sd' < 2147483647 := by rw [hsd]; exact Int.emod_lt_of_pos _ (by omega)
  have m3 : okMul sd' (sd' / 65537 + 3) = true := by
    have h1 : (-(2 ^ 64 : Int)) < sd' := by omega
    have h2 : sd' < (2 ^ 64 : Int) := by omega
    unfold okMul
    rw [decide_eq_true h1, decide_eq_true h2]
    rfl
  obtain ⟨tw, htw⟩ : ∃ tw : Int, tw = sd' * (sd' / 65537 + 3) % 2147483629 := ⟨_, rfl⟩
  have s1 : mSet [] 5 (mOp gMod (mCB gInt [mOp gAdd (mOp gAdd (mOp gMul (mVar 5) (mC (.int 48271))) (mOp gMul (mC (.int 974711)) (mVar 6))) (mC (.int 12345))]) (mC (.int 2147483647))) (frD c szs row rest g sd (Sl.val (.int k)) s7) = .ok .nx (frD c szs row rest g sd' (Sl.val (.int k)) s7) := by
    unfold frD
    rw [hsd]
    simp -implicitDefEqProofs [ev_var, ev_own, ev_mod, m1, m2]
  have s2 : mSet [] 7 (mOp gMod (mCB gInt [mOp gMul (mVar 5) (mOp gAdd (mOp gFdiv (mVar 5) (mC (.int 65537))) (mC (.int 3)))]) (mC (.int 2147483629))) (frD c szs row rest g sd' (Sl.val (.int k)) s7) = .ok .nx (frD c szs row rest g sd' (Sl.val (.int k)) (Sl.val (.int tw))) := by
    unfold frD
    rw [htw]
    simp -implicitDefEqProofs [ev_var, ev_own, ev_mod, ev_div, m3]
  unfold bdD
  rw [ev_seq, s1, ev_tn, ev_seq, s2, ev_tn]
  by_cases hg : g = true ∧ 0 < rest
  · obtain ⟨rfl, h0⟩ := hg
    refine ⟨rest % z, rest / z, sd', Sl.val (.int tw), ?_, Int.emod_nonneg _ (by omega), Int.emod_lt_of_pos _ z0⟩
    unfold frD
    simp -implicitDefEqProofs [ev_var, ev_own, ev_mod, ev_div, hz, z0, z1, h0, hsz]
  · refine ⟨tw / 19 % z, rest, sd', Sl.val (.int tw), ?_, Int.emod_nonneg _ (by omega), Int.emod_lt_of_pos _ z0⟩
    unfold frD
    cases g with
    | false => simp -implicitDefEqProofs [ev_var, ev_own, ev_mod, ev_div, hz, z0, hsz]
    | true =>
      have h0 : ¬ 0 < rest := fun h => hg ⟨rfl, h⟩
      simp -implicitDefEqProofs [ev_var, ev_own, ev_mod, ev_div, hz, z0, hsz, h0]
theorem digits_ok (c : Int) (szs : List Int) (hl : szs.length ≤ 1000) (hs : ∀ z ∈ szs, 0 < z ∧ z < 1073741824) : ∃ ds : List Int, fun__law_digits [.int c, .lst (szs.map W.int)] = .ok true (.lst (ds.map W.int)) [] ∧ ds.length = szs.length ∧ ∀ (i : Nat) (d : Int), ds[i]? = some d → ∃ z, szs[i]? = some z ∧ 0 ≤ d ∧ d < z := by
  have e0 : gSet [] 6 = fun w ρ => some (ρ.set 6 (.val w)) := gset_is (by simp)
  have hok : okR (szs.length : Int) = true := by
    unfold okR
    simp
    omega
  have key : ∀ (rest : Int) (g : Bool) (sd : Int), ∃ (ds : List Int) (rest' sd' : Int) (s6 s7 : Sl), forL (fun w ρ => some (ρ.set 6 (.val w))) bdD (intsW 0 szs.length) (frD c (szs.map W.int) [] rest g sd Sl.no Sl.no) = .ok .nx (frD c (szs.map W.int) (ds.map W.int) rest' g sd' s6 s7) ∧ ds.length = szs.length ∧ ∀ (i : Nat) (d : Int), ds[i]? = some d → ∃ z, szs[i]? = some z ∧ 0 ≤ d ∧ d < z := by
    intro rest g sd
    obtain ⟨ρ1, e1, ds, rest', sd', s6, s7, rfl, h1, _, h2⟩ := for_inv (i := 6) (g := bdD) (ρ := frD c (szs.map W.int) [] rest g sd Sl.no Sl.no)
      (P := fun zs ρ => ∃ (ds : List Int) (rest' sd' : Int) (s6 s7 : Sl), ρ = frD c (szs.map W.int) (ds.map W.int) rest' g sd' s6 s7 ∧ ds.length + zs.length = szs.length ∧ zs = List.range' ds.length zs.length ∧ ∀ (i : Nat) (d : Int), ds[i]? = some d → ∃ z, szs[i]? = some z ∧ 0 ≤ d ∧ d < z) (.inr trivial) (all2_rng szs.length) (fun a k zs' ρ q ⟨ds, rest', sd', s6, s7, er, h1, hr, h2⟩ => by
        subst er
        obtain ⟨rfl, hk⟩ := q
        rw [List.length_cons, List.range'_succ] at hr
        obtain ⟨hkd, hr2⟩ := List.cons.inj hr
        have hz : atI (szs.map W.int) (k : Int) = some (.int szs[k]) := by
          rw [ML.atI_nat, List.getElem?_map, List.getElem?_eq_getElem hk]
          rfl
        obtain ⟨z0, z1⟩ := hs szs[k] (List.getElem_mem hk)
        obtain ⟨d, r2, sd2, s72, f1, f2, f3⟩ := bd_ok (c := c) (rest := rest') (sd := sd') (g := g) (s7 := s7) (row := ds.map W.int) hz z0 z1 (by simp at h1 ⊢; omega)
        refine ⟨_, f1, ds ++ [d], r2, sd2, Sl.val (.int (k : Int)), s72, by simp, by simp at h1 ⊢; omega, by rw [List.length_append]; exact hr2, fun i y hy => ?_⟩
        by_cases hi : i < ds.length
        · rw [List.getElem?_append_left hi] at hy
          exact h2 i y hy
        · have hi2 : i < (ds ++ [d]).length := (List.getElem?_eq_some_iff.mp hy).1
          have e : i = ds.length := by simp at hi2; omega
          subst e
          rw [List.getElem?_append_right (Nat.le_refl _), Nat.sub_self] at hy
          cases hy
          exact ⟨szs[k], by rw [← hkd]; exact List.getElem?_eq_getElem hk, f2, f3⟩) ⟨[], rest, sd, Sl.no, Sl.no, rfl, by simp, by simp, fun i d h => by simp at h⟩
    exact ⟨ds, rest', sd', s6, s7, e1, by simpa using h1, h2⟩
  have l0 : ([] : List W).length ≤ sizeLine := by simp
  by_cases hg : (10 ^ 18 : Int) ≤ c
  · obtain ⟨ds, rest', sd', s6, s7, e1, h1, h2⟩ := key (c - 10 ^ 18) true (c % 2147483629)
    refine ⟨ds, ?_, h1, h2⟩
    unfold bdD frD at e1
    have hg' : (1000000000000000000 : Int) ≤ c := hg
    unfold fun__law_digits body__law_digits
    simp at e1
    simp -implicitDefEqProofs [ev_var, ev_own, ev_mod, pow18, hg', e0, hok, e1]
  · obtain ⟨ds, rest', sd', s6, s7, e1, h1, h2⟩ := key c false (c % 2147483629)
    refine ⟨ds, ?_, h1, h2⟩
    unfold bdD frD at e1
    have hg' : ¬ (1000000000000000000 : Int) ≤ c := hg
    unfold fun__law_digits body__law_digits
    try simp at e1
    simp -implicitDefEqProofs [ev_var, ev_own, ev_mod, pow18, hg', e0, hok, e1]
end K96

namespace K96
open PySem PySem.Spec PyProof.Rows L2 ML
/-! ### equal to itself -/
def Vl : Nat → W → Prop
  | 0 => fun _ => False
  | d + 1 => fun w => w = .non ∨ (∃ b, w = .bl b) ∨ (∃ i, w = .int i) ∨ (∃ s, w = .str (S s)) ∨ ∃ ws : List W, w = .tup ws ∧ ws.length ≤ 1000 ∧ ∀ x ∈ ws, Vl d x
@[simp] theorem ev_gEqB (x y : Bool) : gEq (.bl x) (.bl y) = some (.val, .bl (decide (x = y))) := by cases x <;> cases y <;> rfl
theorem same_step {m : List W → FR} {d : Nat} {w : W} (ih : ∀ {w : W}, Vl d w → m [w, w] = .ok false (.bl true) []) (h : Vl (d + 1) w) : fun__law_same m [w, w] = .ok false (.bl true) [] := by
  unfold fun__law_same body__law_same
  rcases h with rfl | ⟨b, rfl⟩ | ⟨i, rfl⟩ | ⟨s, rfl⟩ | ⟨ws, rfl, hl, hx⟩
  · simp -implicitDefEqProofs [ev_var, gIsi, tyN, isB, nonW]
  · simp -implicitDefEqProofs [ev_var, gIsi, tyN, isB, nonW]
  · simp -implicitDefEqProofs [ev_var, gIsi, tyN, isB, nonW]
  · simp -implicitDefEqProofs [ev_var, gIsi, tyN, isB, nonW]
  · obtain ⟨ρ1, e1, s, rfl⟩ := for_inv (i := 2) (g := mIf (mNot (mTest (mCall [] [] m [mOp gIx (mVar 0) (mVar 2), mOp gIx (mVar 1) (mVar 2)]))) (mRet [] (mC (.bl false))) mNext) (ρ := [Sl.val (.tup ws), Sl.val (.tup ws), Sl.no])
      (P := fun zs ρ => ∃ s, ρ = [Sl.val (.tup ws), Sl.val (.tup ws), s]) (.inr trivial) (all2_ints ws.length) (fun a z zs' ρ q ⟨s, er⟩ => by
        subst er
        obtain ⟨rfl, hz⟩ := q
        have e5 : ws[z]? = some ws[z] := List.getElem?_eq_getElem hz
        have e6 := ih (hx ws[z] (List.getElem_mem hz))
        exact ⟨_, by simp -implicitDefEqProofs [ev_var, ML.atI_nat, e5, e6]; rfl, _, rfl⟩) ⟨Sl.no, rfl⟩
    have e0 : gSet [] 2 = fun w ρ => some (ρ.set 2 (.val w)) := gset_is (by simp)
    have e7 : okR (ws.length : Int) = true := by
      unfold okR
      simp
      omega
    simp -implicitDefEqProofs [ev_var, gIsi, tyN, isB, e0, e1, e7]
noncomputable def saF : Nat → List W → FR
  | 0 => fun _ => .stk
  | d + 1 => fun__law_same (saF d)
theorem same_ok : ∀ (d : Nat) {w : W}, Vl d w → saF d [w, w] = .ok false (.bl true) []
  | 0, _, h => h.elim
  | d + 1, _, h => same_step (fun h => same_ok d h) h
/-! ### drawn values -/
theorem ev_cut {l : List W} {a b : Nat} (ha : a ≤ l.length) : cutW l (some (a : Int)) (some (b : Int)) = (l.drop a).take (b - a) := by
  unfold cutW
  rw [HT.sIx_nat, HT.sIx_nat, Nat.min_eq_left ha]
  by_cases h : b ≤ l.length
  · rw [Nat.min_eq_left h]
  · rw [Nat.min_eq_right (by omega), List.take_of_length_le (by rw [List.length_drop]; omega), List.take_of_length_le (by rw [List.length_drop]; omega)]
theorem ev_cut0 {l : List W} {b : Nat} : cutW l none (some (b : Int)) = l.take b := by
  unfold cutW
  rw [show HT.sIx l.length 0 none = 0 from rfl, HT.sIx_nat, List.drop_zero, Nat.sub_zero]
  by_cases h : b ≤ l.length
  · rw [Nat.min_eq_left h]
  · rw [Nat.min_eq_right (by omega), List.take_of_length_le (Nat.le_refl _), List.take_of_length_le (by omega)]
def chars : A := [97, 98, 99, 100, 101, 102, 103, 104, 105, 106, 107, 108, 109, 110, 111, 112, 113, 114, 115, 116, 117, 118, 119, 120, 121, 122, 48, 49, 50, 51, 52, 53, 54, 55, 56, 57, 32, 33, 34, 35, 36, 38, 39, 40, 41, 42, 43, 44, 45, 46, 47, 58, 59, 60, 61, 62, 63, 64, 65, 66, 67, 68, 69, 70, 71, 72, 73, 74, 75, 76, 77, 78, 79, 80, 81, 82, 83, 84, 85, 86, 87, 88, 89, 90, 91, 92, 93, 94, 95, 96, 123, 124, 125, 126]
theorem lit_chars : Str.ofString "abcdefghijklmnopqrstuvwxyz0123456789 !\"#$&'()*+,-./:;<=>?@ABCDEFGHIJKLMNOPQRSTUVWXYZ[\\]^_`{|}~" = S chars := by decide +kernel
theorem text_ok {ds : List Int} (hl : ds.length = 10) (h : ∀ (i : Nat) (d : Int), ds[i]? = some d → 0 ≤ d ∧ d < 94) : ∃ t, fun__law_text [.lst (ds.map W.int)] = .ok false (.str (S t)) [] := by
  obtain ⟨d0, r, rfl⟩ : ∃ d0 r, ds = d0 :: r := by
    cases ds with
    | nil => cases hl
    | cons d0 r => exact ⟨d0, r, rfl⟩
  obtain ⟨a0, b0⟩ := h 0 d0 rfl
  obtain ⟨n, rfl⟩ := Int.eq_ofNat_of_zero_le a0
  have hs : cutW (W.int (n : Int) :: r.map W.int) (some (1 : Int)) (some (1 + (n : Int))) = (r.take n).map W.int := by
    have := ev_cut (l := W.int (n : Int) :: r.map W.int) (a := 1) (b := 1 + n) (by simp)
    rw [Int.natCast_add] at this
    refine this.trans ?_
    simp
  have hq : All2 (fun (w : W) (d : Int) => w = .int d ∧ 0 ≤ d ∧ d < 94) ((r.take n).map W.int) (r.take n) := by
    have : ∀ l : List Int, (∀ d ∈ l, 0 ≤ d ∧ d < 94) → All2 (fun (w : W) (d : Int) => w = .int d ∧ 0 ≤ d ∧ d < 94) (l.map W.int) l := by
      intro l
      induction l with
      | nil => exact fun _ => .nil
      | cons y l ih => exact fun hh => .cons ⟨rfl, hh y (List.mem_cons_self ..)⟩ (ih fun z hz => hh z (List.mem_cons_of_mem _ hz))
    refine this _ fun d hd => ?_
    obtain ⟨i, hi⟩ := List.mem_iff_getElem?.mp (List.mem_of_mem_take hd)
    exact h (i + 1) d hi
  have hc : ∀ d : Int, 0 ≤ d → d < 94 → ∃ c, atI chars d = some c := fun d h0 h1 => by
    obtain ⟨m, rfl⟩ := Int.eq_ofNat_of_zero_le h0
    have hm : m < chars.length := by
      have : chars.length = 94 := by decide
      omega
    exact ⟨chars[m], by rw [ML.atI_nat]; exact List.getElem?_eq_getElem hm⟩
  have e1 := comp2 (i := 2) (fe := mEl [] (mOp gIx (mVar 1) (mVar 2))) (g := fun d : Int => W.str (S [(atI chars d).getD 0])) (Q := fun (w : W) (d : Int) => w = .int d ∧ 0 ≤ d ∧ d < 94) (ρ := [Sl.val (.lst (((n : Int) :: r).map W.int)), Sl.val (.str (S chars)), Sl.no]) (fun w d ⟨hw, g1, g2⟩ => by
    subst hw
    obtain ⟨c, e⟩ := hc d g1 g2
    have e3 : gIx (.str (S chars)) (.int d) = some (.val, .str (S [c])) := by
      rw [ev_ixSS (by decide), e]
      rfl
    simp -implicitDefEqProofs [ev_var, e3, e]) hq (acc := []) (ρ' := [Sl.val (.lst (((n : Int) :: r).map W.int)), Sl.val (.str (S chars)), Sl.no]) (by rw [line_is]; simp at hl ⊢; omega) rfl
  have e2 : gJoin (.str (S [])) (.lst ((r.take n).map fun d : Int => W.str (S [(atI chars d).getD 0]))) = some (.val, .str (S (TL.joinL [] ((r.take n).map fun d : Int => [(atI chars d).getD 0])))) := by
    refine ev_joinS (by rw [ev_itl, List.map_map]; rfl) ?_
    have hsum : ∀ l : List Int, ((l.map fun d : Int => [(atI chars d).getD 0]).map List.length).sum = l.length := by
      intro l
      induction l with
      | nil => rfl
      | cons y l ih => simp only [List.map_cons, List.sum_cons, ih, List.length_cons, List.length_nil]; omega
    rw [hsum]
    simp at hl ⊢
    omega
  refine ⟨TL.joinL [] ((r.take n).map fun d : Int => [(atI chars d).getD 0]), ?_⟩
  have e4 : mLc [] (mItems [] (mSl (mVar 0) (some (mC (.int 1))) (some (mOp gAdd (mC (.int 1)) (mOp gIx (mVar 0) (mC (.int 0))))))) (.nm 2) (mYes) (mOp gIx (mVar 1) (mVar 2)) [Sl.val (.lst (((n : Int) :: r).map W.int)), Sl.val (.str (S chars)), Sl.no] = .ok (.fre, .lst ((r.take n).map fun d : Int => W.str (S [(atI chars d).getD 0]))) [Sl.val (.lst (((n : Int) :: r).map W.int)), Sl.val (.str (S chars)), Sl.no] := by
    rw [ev_lc]
    simp -implicitDefEqProofs [ev_var, hs, CT.ix]
    simp at e1
    rw [e1]
    rfl
  unfold fun__law_text body__law_text
  simp at e4 e2
  simp -implicitDefEqProofs [-lit2, lit_chars, ev_var, e4, e2]
/-- what the law draws for an error -/
structure Drw (place name raw moves value : W) : Prop where
  place : Vl 2 place
  name : Vl 1 name
  raw : ∃ i, raw = .int i
  moves : Vl 2 moves
  value : Vl 3 value
theorem vl_int {d : Nat} (i : Int) : Vl (d + 1) (.int i) := .inr (.inr (.inl ⟨i, rfl⟩))
theorem vl_str {d : Nat} (s : A) : Vl (d + 1) (.str (S s)) := .inr (.inr (.inr (.inl ⟨s, rfl⟩)))
theorem vl_bl {d : Nat} (b : Bool) : Vl (d + 1) (.bl b) := .inr (.inl ⟨b, rfl⟩)
theorem vl_tup {d : Nat} {ws : List W} (h : ws.length ≤ 1000) (hx : ∀ x ∈ ws, Vl d x) : Vl (d + 1) (.tup ws) := .inr (.inr (.inr (.inr ⟨ws, rfl, h, hx⟩)))
theorem Vl.up : ∀ {d : Nat} {w : W}, Vl d w → Vl (d + 1) w
  | 0, _, h => h.elim
  | d + 1, _, h => by
    rcases h with h | h | h | h | ⟨ws, e, h1, h2⟩
    · exact .inl h
    · exact .inr (.inl h)
    · exact .inr (.inr (.inl h))
    · exact .inr (.inr (.inr (.inl h)))
    · exact .inr (.inr (.inr (.inr ⟨ws, e, h1, fun x hx => (h2 x hx).up⟩)))
theorem place_at {dg raw : Int} (h0 : 0 ≤ dg) (h1 : dg < 7) : ∃ i : Int, atI [W.int dg, W.int raw, W.int (-raw), W.int 0, W.int dg, W.int 1, W.int (-1)] dg = some (.int i) := by
  have hd : dg = 0 ∨ dg = 1 ∨ dg = 2 ∨ dg = 3 ∨ dg = 4 ∨ dg = 5 ∨ dg = 6 := by omega
  rcases hd with rfl | rfl | rfl | rfl | rfl | rfl | rfl <;> exact ⟨_, by simp; rfl⟩
theorem value_at {p raw : W} {t : A} {v : Int} (hp : Vl 2 p) (hr : ∃ i, raw = .int i) (h0 : 0 ≤ v) (h1 : v < 6) : ∃ w, atI [raw, W.non, W.str (S t), W.bl true, p, W.bl false] v = some w ∧ Vl 3 w := by
  have hv : v = 0 ∨ v = 1 ∨ v = 2 ∨ v = 3 ∨ v = 4 ∨ v = 5 := by omega
  obtain ⟨i, rfl⟩ := hr
  rcases hv with rfl | rfl | rfl | rfl | rfl | rfl
  · exact ⟨.int i, by simp, vl_int i⟩
  · exact ⟨.non, by simp, .inl rfl⟩
  · exact ⟨.str (S t), by simp, vl_str t⟩
  · exact ⟨.bl true, by simp, vl_bl true⟩
  · exact ⟨p, by simp, hp.up⟩
  · exact ⟨.bl false, by simp, vl_bl false⟩
end K96

namespace K96
open PySem PySem.Spec PyProof.Rows L2 ML
theorem comp_st {σ α : Type} {i : Nat} {fe : Rho → ML.R W} {fr : σ → Rho} {Q : W → α → Prop} {P : List α → List W → σ → Prop}
    (h : ∀ w z zs acc s, Q w z → P (z :: zs) acc s → ∃ y s', fe ((fr s).set i (.val w)) = .ok y ((fr s').set i (.val w)) ∧ P zs (acc ++ [y]) s') (hno : ∀ s, (fr s).set i .no = fr s) :
    ∀ {ws : List W} {zs : List α} {acc : List W} {ρ : Rho} {s : σ}, All2 Q ws zs → P zs acc s → acc.length + ws.length ≤ sizeLine → ρ.set i .no = fr s → ∃ acc' s', compL [i] (CT.put (.nm i)) mYes fe acc ws ρ = .ok (.fre, .lst acc') (fr s') ∧ P [] acc' s'
  | [], _, acc, ρ, s, .nil, hp, hl, hr => by
    refine ⟨acc, s, ?_, hp⟩
    unfold compL
    rw [if_pos (show acc.length ≤ sizeLine from hl)]
    show ML.R.ok _ (wipeR ρ [i]) = _
    rw [show wipeR ρ [i] = ρ.set i .no from rfl, hr]
  | w :: ws, z :: zs, acc, ρ, s, .cons q qs, hp, hl, hr => by
    have hl' : acc.length + (ws.length + 1) ≤ sizeLine := hl
    obtain ⟨y, s', e, hp'⟩ := h w z zs acc s q hp
    obtain ⟨acc', s2, e2, hp2⟩ := comp_st h hno qs hp' (by rw [List.length_append, List.length_singleton]; omega) (ρ := (fr s').set i (.val w)) (s := s') (by rw [List.set_set, hno])
    refine ⟨acc', s2, ?_, hp2⟩
    unfold compL
    rw [show wipeR ρ [i] = ρ.set i .no from rfl, hr]
    show (ML.R.bind (mYes ((fr s).set i (.val w))) _) = _
    rw [ev_yes, ev_bo, if_pos rfl, e, ev_bo, if_pos (by omega), e2]
/-! ### what is drawn for an error -/
def P30 : Int := 10 ^ 30
theorem pow30 : gPow (.int 10) (.int 30) = some (.val, .int P30) := rfl
def L94 : List W := (List.replicate 9 (94 : Int)).map W.int
def L10 : List W := .int 10 :: L94
def L60 : List W := (List.replicate 6 L10).flatten
def L7 : List W := (List.replicate 6 (7 : Int)).map W.int
def L9 : List W := [W.int 7, W.int 6, W.int 6] ++ L7
def szs : List Int := [7, 6, 6] ++ List.replicate 6 7 ++ (List.replicate 6 ((10 : Int) :: List.replicate 9 94)).flatten
theorem mul_is {l : List W} {k : Nat} (h : l.length * k ≤ 16777216) (hk : k ≤ 1000) : gMul (.lst l) (.int (k : Int)) = some (.fre, .lst (List.replicate k l).flatten) := by
  have e : gMul (.lst l) (.int (k : Int)) = if -(2 ^ 63) ≤ (k : Int) ∧ (k : Int) < 2 ^ 63 ∧ l.length * (k : Int).toNat ≤ sizeLine then some (.fre, .lst (List.replicate (k : Int).toNat l).flatten) else none := rfl
  rw [e, if_pos ⟨by omega, by omega, by rw [line_is]; exact h⟩]
  rfl
theorem sz1 : gMul (.lst [W.int 94]) (.int 9) = some (.fre, .lst L94) := mul_is (k := 9) (by decide) (by decide)
theorem sz2 : gAdd (.lst [W.int 10]) (.lst L94) = some (.fre, .lst L10) := by rw [ev_addL, if_pos (by rw [line_is]; decide)]; rfl
theorem sz3 : gMul (.lst L10) (.int 6) = some (.fre, .lst L60) := mul_is (k := 6) (by decide) (by decide)
theorem sz4 : gMul (.lst [W.int 7]) (.int 6) = some (.fre, .lst L7) := mul_is (k := 6) (by decide) (by decide)
theorem sz5 : gAdd (.lst [W.int 7, W.int 6, W.int 6]) (.lst L7) = some (.fre, .lst L9) := by rw [ev_addL, if_pos (by rw [line_is]; decide)]; rfl
theorem sz6 : gAdd (.lst L9) (.lst L60) = some (.fre, .lst (szs.map W.int)) := by rw [ev_addL, if_pos (by rw [line_is]; decide)]; rfl
theorem szs_len : szs.length = 69 := by decide
theorem szs_at : (∀ i, i < 9 → 3 ≤ i → szs[i]? = some 7) ∧ szs[0]? = some 7 ∧ szs[1]? = some 6 ∧ szs[2]? = some 6 := by decide
theorem szs_le : ∀ i, i < 69 → ∀ z, szs[i]? = some z → z ≤ 94 := by decide
def frW (sc : W) (wh : Nat) (s2 s3 s4 s5 s6 s7 s8 : Sl) : Rho := [Sl.val sc, Sl.val (.int wh), s2, s3, s4, s5, s6, s7, s8, Sl.no, Sl.no]
section
variable {ce di tx : List W → FR} {sc : W} {wh : Nat}
theorem dr_raw {v : Int} (e : ce [sc, .int (28 + (wh : Int))] = .ok false (.int v) []) : mSet [] 2 (mOp gSub (mOp gMod (mCB gInt [mOp gAdd (mCB gInt [mCall [] [] ce [mVar 0, mOp gAdd (mC (.int 28)) (mVar 1)]]) (mOp gPow (mC (.int 10)) (mC (.int 30)))]) (mOp gMul (mC (.int 2)) (mOp gPow (mC (.int 10)) (mC (.int 30))))) (mOp gPow (mC (.int 10)) (mC (.int 30)))) (frW sc wh Sl.no Sl.no Sl.no Sl.no Sl.no Sl.no Sl.no) = .ok .nx (frW sc wh (Sl.val (.int ((v + P30) % (2 * P30) - P30))) Sl.no Sl.no Sl.no Sl.no Sl.no Sl.no) := by
  have hm : okMul 2 P30 = true := rfl
  have hp : 0 < 2 * P30 := by decide
  have hmod : ∀ a : Int, gMod (.int a) (.int (2 * P30)) = some (.val, .int (a % (2 * P30))) := fun a => ev_mod hp
  unfold frW
  simp -implicitDefEqProofs [ev_var, e, pow30, hm, hmod]
theorem dr_row {s2 : Sl} {c : Int} {row : List W} (e1 : ce [sc, .int wh] = .ok false (.int c) []) (e2 : di [.int c, .lst (szs.map W.int)] = .ok true (.lst row) []) : mSeq (mSet [] 3 (mOp gAdd (mLst [] [mC (.int 10)]) (mOp gMul (mLst [] [mC (.int 94)]) (mC (.int 9))))) (mSet [] 4 (mCall [] [] di [mCall [] [] ce [mVar 0, mVar 1], mOp gAdd (mOp gAdd (mLst [] [mC (.int 7), mC (.int 6), mC (.int 6)]) (mOp gMul (mLst [] [mC (.int 7)]) (mC (.int 6)))) (mOp gMul (mVar 3) (mC (.int 6)))])) (frW sc wh s2 Sl.no Sl.no Sl.no Sl.no Sl.no Sl.no) = .ok .nx (frW sc wh s2 (Sl.own (.lst L10)) (Sl.own (.lst row)) Sl.no Sl.no Sl.no Sl.no) := by
  have l3 : (3 ≤ sizeLine) = True := by simp [line_is]
  unfold frW
  have s6 := sz6
  generalize szs.map W.int = Z at *
  simp -implicitDefEqProofs [-ev_addL, ev_var, ev_own, sz1, sz2, sz3, sz4, sz5, s6, e1, e2, l3]
theorem all2_lt {l : List Int} {b : Int} (h : ∀ d ∈ l, 0 ≤ d ∧ d < b) : All2 (fun (w : W) (d : Int) => w = .int d ∧ 0 ≤ d ∧ d < b) (l.map W.int) l := by
  induction l with
  | nil => exact .nil
  | cons y l ih => exact .cons ⟨rfl, h y (List.mem_cons_self ..)⟩ (ih fun z hz => h z (List.mem_cons_of_mem _ hz))
theorem dr_place {raw : Int} {s3 : Sl} {ds : List Int} {n : Nat} (h0 : atI (ds.map W.int) 0 = some (.int n)) (hl : ds.length = 69) (hd : ∀ d ∈ (ds.drop 3).take n, 0 ≤ d ∧ d < 7) : ∃ is : List Int, mSet [] 5 (mCB gTupC [mLc [] (mItems [] (mSl (mVar 4) (some (mC (.int 3))) (some (mOp gAdd (mC (.int 3)) (mOp gIx (mVar 4) (mC (.int 0))))))) (.nm 9) (mYes) (mOp gIx (mLst [] [mVar 9, mVar 2, mNeg (mVar 2), mC (.int 0), mVar 9, mC (.int 1), mNeg (mC (.int 1))]) (mVar 9))]) (frW sc wh (Sl.val (.int raw)) s3 (Sl.own (.lst (ds.map W.int))) Sl.no Sl.no Sl.no Sl.no) = .ok .nx (frW sc wh (Sl.val (.int raw)) s3 (Sl.own (.lst (ds.map W.int))) (Sl.val (.tup (is.map W.int))) Sl.no Sl.no Sl.no) ∧ is.length ≤ 69 := by
  have l7 : (7 ≤ sizeLine) = True := by simp [line_is]
  have hc : cutW (ds.map W.int) (some (3 : Int)) (some (3 + (n : Int))) = ((ds.drop 3).take n).map W.int := by
    have := ev_cut (l := ds.map W.int) (a := 3) (b := 3 + n) (by simp; omega)
    rw [Int.natCast_add] at this
    refine this.trans ?_
    simp
  have e1 := comp2 (i := 9) (fe := mEl [] (mOp gIx (mLst [] [mVar 9, mVar 2, mNeg (mVar 2), mC (.int 0), mVar 9, mC (.int 1), mNeg (mC (.int 1))]) (mVar 9))) (g := fun d : Int => W.int (match atI [W.int d, W.int raw, W.int (-raw), W.int 0, W.int d, W.int 1, W.int (-1)] d with
      | some (.int i) => i
      | _ => 0)) (Q := fun (w : W) (d : Int) => w = .int d ∧ 0 ≤ d ∧ d < 7) (ρ := frW sc wh (Sl.val (.int raw)) s3 (Sl.own (.lst (ds.map W.int))) Sl.no Sl.no Sl.no Sl.no) (fun w d ⟨hw, g1, g2⟩ => by
    subst hw
    obtain ⟨i, e⟩ := place_at (raw := raw) g1 g2
    unfold frW
    simp -implicitDefEqProofs [ev_var, ev_own, e, l7]) (all2_lt hd) (acc := []) (ρ' := frW sc wh (Sl.val (.int raw)) s3 (Sl.own (.lst (ds.map W.int))) Sl.no Sl.no Sl.no Sl.no) (by rw [line_is]; simp; omega) rfl
  refine ⟨((ds.drop 3).take n).map fun d : Int => (match atI [W.int d, W.int raw, W.int (-raw), W.int 0, W.int d, W.int 1, W.int (-1)] d with
      | some (.int i) => i
      | _ => 0), ?_, by simp; omega⟩
  have e2 : mLc [] (mItems [] (mSl (mVar 4) (some (mC (.int 3))) (some (mOp gAdd (mC (.int 3)) (mOp gIx (mVar 4) (mC (.int 0))))))) (.nm 9) (mYes) (mOp gIx (mLst [] [mVar 9, mVar 2, mNeg (mVar 2), mC (.int 0), mVar 9, mC (.int 1), mNeg (mC (.int 1))]) (mVar 9)) (frW sc wh (Sl.val (.int raw)) s3 (Sl.own (.lst (ds.map W.int))) Sl.no Sl.no Sl.no Sl.no) = .ok (.fre, .lst ((((ds.drop 3).take n).map fun d : Int => (match atI [W.int d, W.int raw, W.int (-raw), W.int 0, W.int d, W.int 1, W.int (-1)] d with
      | some (.int i) => i
      | _ => 0)).map W.int)) (frW sc wh (Sl.val (.int raw)) s3 (Sl.own (.lst (ds.map W.int))) Sl.no Sl.no Sl.no Sl.no) := by
    have e3 : mItems [] (mSl (mVar 4) (some (mC (.int 3))) (some (mOp gAdd (mC (.int 3)) (mOp gIx (mVar 4) (mC (.int 0)))))) (frW sc wh (Sl.val (.int raw)) s3 (Sl.own (.lst (ds.map W.int))) Sl.no Sl.no Sl.no Sl.no) = .ok (((ds.drop 3).take n).map W.int) (frW sc wh (Sl.val (.int raw)) s3 (Sl.own (.lst (ds.map W.int))) Sl.no Sl.no Sl.no Sl.no) := by
      unfold frW
      generalize ds.map W.int = ws at *
      rw [ML.atI_0] at h0
      simp -implicitDefEqProofs [ev_var, ev_own, h0, hc]
    rw [ev_lc, e3, ev_bo, if_pos (by simp [CT.ix])]
    show noExc (compL [9] (CT.put (.nm 9)) mYes _ [] _ _) = _
    rw [e1, List.nil_append, List.map_map]
    rfl
  rw [ev_set, ev_cb, ev_hc, e2]
  unfold frW
  simp -implicitDefEqProofs [ev_own]
theorem dr_texts {s2 s3 s5 : Sl} {ds : List Int} (hl : ds.length = 69) (HT : ∀ es : List Int, es.length = 10 → (∀ d ∈ es, 0 ≤ d ∧ d < 94) → ∃ t, tx [.lst (es.map W.int)] = .ok false (.str (S t)) []) (hd : ∀ d ∈ ds, 0 ≤ d ∧ d < 94) : ∃ ts : List A, mSet [] 6 (mLc [] (mRange1 [mC (.int 6)]) (.nm 10) (mYes) (mCall [] [] tx [mSl (mVar 4) (some (mOp gAdd (mC (.int 9)) (mOp gMul (mC (.int 10)) (mVar 10)))) (some (mOp gAdd (mC (.int 19)) (mOp gMul (mC (.int 10)) (mVar 10))))])) (frW sc wh s2 s3 (Sl.own (.lst (ds.map W.int))) s5 Sl.no Sl.no Sl.no) = .ok .nx (frW sc wh s2 s3 (Sl.own (.lst (ds.map W.int))) s5 (Sl.own (.lst (ts.map fun t => W.str (S t)))) Sl.no Sl.no) ∧ ts.length = 6 := by
  obtain ⟨acc', s', e1, ts, h1, h2⟩ := comp_st (σ := Unit) (i := 10) (fe := mEl [] (mCall [] [] tx [mSl (mVar 4) (some (mOp gAdd (mC (.int 9)) (mOp gMul (mC (.int 10)) (mVar 10)))) (some (mOp gAdd (mC (.int 19)) (mOp gMul (mC (.int 10)) (mVar 10))))])) (fr := fun _ => frW sc wh s2 s3 (Sl.own (.lst (ds.map W.int))) s5 Sl.no Sl.no Sl.no)
    (Q := fun (w : W) (z : Nat) => w = .int z ∧ z < 6) (P := fun zs acc _ => ∃ ts : List A, acc = ts.map (fun t => W.str (S t)) ∧ ts.length + zs.length = 6) (fun w z zs acc s ⟨hw, hz⟩ ⟨ts, h1, h2⟩ => by
      subst hw
      obtain ⟨t, et⟩ := HT ((ds.drop (9 + 10 * z)).take 10) (by simp; omega) (fun d hd2 => hd d (List.mem_of_mem_drop (List.mem_of_mem_take hd2)))
      have hc : cutW (ds.map W.int) (some (9 + 10 * (z : Int))) (some (19 + 10 * (z : Int))) = ((ds.drop (9 + 10 * z)).take 10).map W.int := by
        have := ev_cut (l := ds.map W.int) (a := 9 + 10 * z) (b := 19 + 10 * z) (by simp; omega)
        rw [show 19 + 10 * z - (9 + 10 * z) = 10 by omega] at this
        refine Eq.trans ?_ (this.trans (by simp))
        congr 2 <;> simp
      have hm : okMul 10 (z : Int) = true := by
        unfold okMul
        simp
      refine ⟨.str (S t), (), ?_, ts ++ [t], by rw [h1]; simp, by simp at h2 ⊢; omega⟩
      unfold frW
      generalize ((ds.drop (9 + 10 * z)).take 10).map W.int = cs at *
      generalize ds.map W.int = ws at *
      simp -implicitDefEqProofs [ev_var, ev_own, hm, hc, et]) (fun _ => rfl) (acc := []) (ρ := frW sc wh s2 s3 (Sl.own (.lst (ds.map W.int))) s5 Sl.no Sl.no Sl.no) (s := ()) (all2_ints 6) ⟨[], rfl, rfl⟩ (by rw [line_is]; decide) rfl
  subst h1
  refine ⟨ts, ?_, by simpa using h2⟩
  have hok : okR 6 = true := by decide
  have e3 : mRange1 [mC (.int 6)] (frW sc wh s2 s3 (Sl.own (.lst (ds.map W.int))) s5 Sl.no Sl.no Sl.no) = .ok (intsW 0 6) (frW sc wh s2 s3 (Sl.own (.lst (ds.map W.int))) s5 Sl.no Sl.no Sl.no) := by
    simp [hok]
  rw [ev_set, ev_lc, e3, ev_bo, if_pos (by simp [CT.ix])]
  show ML.R.bind (noExc (compL [10] (CT.put (.nm 10)) mYes _ [] _ _)) _ = _
  rw [e1, ev_nx, ev_bo]
  unfold frW
  simp
end
end K96

namespace K96
open PySem PySem.Spec PyProof.Rows L2 ML
theorem seq_as (a b c : Rho → ML.R Fl) (ρ : Rho) : mSeq a (mSeq b c) ρ = mSeq (mSeq a b) c ρ := by
  show thenF (a ρ) (mSeq b c) = thenF (thenF (a ρ) b) c
  cases a ρ with
  | ok fl ρ1 => cases fl <;> rfl
  | exc cc ns ws ρ1 => rfl
  | stk => rfl
theorem drawn_ok {ce di tx : List W → FR} {sc : W} (HC : ∀ k : Nat, ∃ v, ce [sc, .int k] = .ok false (.int v) []) (HD : ∀ c : Int, ∃ ds : List Int, di [.int c, .lst (szs.map W.int)] = .ok true (.lst (ds.map W.int)) [] ∧ ds.length = szs.length ∧ ∀ (i : Nat) (d : Int), ds[i]? = some d → ∃ z, szs[i]? = some z ∧ 0 ≤ d ∧ d < z)
    (HT : ∀ es : List Int, es.length = 10 → (∀ d ∈ es, 0 ≤ d ∧ d < 94) → ∃ t, tx [.lst (es.map W.int)] = .ok false (.str (S t)) []) (wh : Nat) :
    ∃ (place name : W) (raw : Int) (moves value : W), Drw place name (.int raw) moves value ∧ fun__law_drawn ce di tx [sc, .int wh] = .ok true (.lst [place, name, .int raw, moves, value]) [] := by
  obtain ⟨v1, f1⟩ := HC (28 + wh)
  obtain ⟨c1, f2⟩ := HC wh
  obtain ⟨ds, f3, hl, hb⟩ := HD c1
  rw [szs_len] at hl
  have f1' : ce [sc, .int (28 + (wh : Int))] = .ok false (.int v1) [] := by
    rw [Int.natCast_add] at f1
    exact f1
  obtain ⟨z7, z0, z1, z2⟩ := szs_at
  have at_ : ∀ i, i < 69 → ∃ d, ds[i]? = some d := fun i hi => ⟨ds[i], List.getElem?_eq_getElem (by omega)⟩
  obtain ⟨d0, e0⟩ := at_ 0 (by omega)
  obtain ⟨d1, e1⟩ := at_ 1 (by omega)
  obtain ⟨d2, e2⟩ := at_ 2 (by omega)
  obtain ⟨y0, g0, a0, b0⟩ := hb 0 d0 e0
  rw [z0] at g0
  cases g0
  obtain ⟨y1, g1, a1, b1⟩ := hb 1 d1 e1
  rw [z1] at g1
  cases g1
  obtain ⟨y2, g2, a2, b2⟩ := hb 2 d2 e2
  rw [z2] at g2
  cases g2
  obtain ⟨n0, rfl⟩ := Int.eq_ofNat_of_zero_le a0
  obtain ⟨n1, rfl⟩ := Int.eq_ofNat_of_zero_le a1
  have i0 : atI (ds.map W.int) 0 = some (.int n0) := by rw [ML.atI_0, List.getElem?_map, e0]; rfl
  have i1 : atI (ds.map W.int) 1 = some (.int n1) := by rw [ML.atI_1, List.getElem?_map, e1]; rfl
  have i2 : atI (ds.map W.int) 2 = some (.int d2) := by rw [show (2 : Int) = ((2 : Nat) : Int) from rfl, ML.atI_nat, List.getElem?_map, e2]; rfl
  obtain ⟨is, f5, hi⟩ := dr_place (sc := sc) (wh := wh) (raw := (v1 + P30) % (2 * P30) - P30) (s3 := Sl.own (.lst L10)) i0 hl (fun d hd => by
    obtain ⟨j, hj⟩ := List.mem_iff_getElem?.mp hd
    rw [List.getElem?_take] at hj
    split at hj
    · rename_i hj2
      rw [List.getElem?_drop] at hj
      obtain ⟨z, g, a, b⟩ := hb _ d hj
      rw [z7 (3 + j) (by omega) (by omega)] at g
      cases g
      exact ⟨a, b⟩
    · cases hj)
  obtain ⟨ts, f6, ht⟩ := dr_texts (tx := tx) (sc := sc) (wh := wh) (s2 := Sl.val (.int ((v1 + P30) % (2 * P30) - P30))) (s3 := Sl.own (.lst L10)) (s5 := Sl.val (.tup (is.map W.int))) hl HT (fun d hd => by
    obtain ⟨j, hj⟩ := List.mem_iff_getElem?.mp hd
    obtain ⟨z, g, a, b⟩ := hb j d hj
    have hj2 : j < ds.length := (List.getElem?_eq_some_iff.mp hj).1
    have := szs_le j (by omega) z g
    exact ⟨a, by omega⟩)
  obtain ⟨t5, e5⟩ : ∃ t, ts[5]? = some t := ⟨ts[5], List.getElem?_eq_getElem (by omega)⟩
  have i5 : atI (ts.map fun t => W.str (S t)) 5 = some (.str (S t5)) := by rw [show (5 : Int) = ((5 : Nat) : Int) from rfl, ML.atI_nat, List.getElem?_map, e5]; rfl
  have hp : Vl 2 (.tup (is.map W.int)) := vl_tup (by simp; omega) fun x hx => by
    obtain ⟨i, _, rfl⟩ := List.mem_map.mp hx
    exact vl_int i
  have hm : Vl 2 (.tup ((ts.take n1).map fun t => W.str (S t))) := vl_tup (by simp; omega) fun x hx => by
    obtain ⟨t, _, rfl⟩ := List.mem_map.mp hx
    exact vl_str t
  obtain ⟨vv, e8, hv⟩ := value_at (raw := .int ((v1 + P30) % (2 * P30) - P30)) (t := t5) hp ⟨_, rfl⟩ a2 b2
  refine ⟨_, .str (S t5), (v1 + P30) % (2 * P30) - P30, _, vv, ⟨hp, vl_str t5, ⟨_, rfl⟩, hm, hv⟩, ?_⟩
  have l5 : (5 ≤ sizeLine) = True := by simp [line_is]
  have l6 : (6 ≤ sizeLine) = True := by simp [line_is]
  have c7 : cutW (ts.map fun t => W.str (S t)) none (some (n1 : Int)) = (ts.take n1).map fun t => W.str (S t) := by
    rw [ev_cut0, List.map_take]
  have s1 := dr_raw (sc := sc) (wh := wh) f1'
  have s2 := dr_row (sc := sc) (wh := wh) (s2 := Sl.val (.int ((v1 + P30) % (2 * P30) - P30))) f2 f3
  generalize (v1 + P30) % (2 * P30) - P30 = raw at *
  generalize is.map W.int = place at *
  unfold fun__law_drawn body__law_drawn
  have fr : rho0 [] [sc, W.int (wh : Int)] 11 = frW sc wh Sl.no Sl.no Sl.no Sl.no Sl.no Sl.no Sl.no := rfl
  rw [ev_fun, fr, ev_seq, s1, ev_tn, seq_as, ev_seq, s2, ev_tn, ev_seq, f5, ev_tn, ev_seq, f6, ev_tn]
  generalize ds.map W.int = row at *
  rw [ML.atI_1] at i1
  rw [show (2 : Int) = ((2 : Nat) : Int) from rfl, ML.atI_nat] at i2
  rw [show (5 : Int) = ((5 : Nat) : Int) from rfl, ML.atI_nat] at i5
  generalize (ts.take n1).map (fun t => W.str (S t)) = mv at *
  generalize ts.map (fun t => W.str (S t)) = txs at *
  unfold frW
  simp -implicitDefEqProofs [ev_var, ev_own, i1, i2, i5, c7, e8, l5, l6]
/-! ### tests of whole numbers -/
theorem inV_int (x : Int) (l : List Int) : inV (V.int x) (l.map V.int) = decide (x ∈ l) := by
  unfold inV
  induction l with
  | nil => rfl
  | cons y l ih =>
    rw [List.map_cons, List.any_cons, ih]
    have e : eqV (V.int y) (V.int x) = decide (y = x) := by
      have : eqV (V.int y) (V.int x) = (y == x) := rfl
      rw [this]
      by_cases h : y = x <;> simp [h]
    rw [e]
    by_cases h : y = x
    · simp [h]
    · have h' : ¬ x = y := fun z => h z.symm
      simp [h, h']
theorem in_int (x : Int) (l : List Int) : gIn false (.int x) (.tup (l.map W.int)) = some (.val, .bl (decide (x ∈ l))) := by
  have e1 : (l.map W.int).all flatW = true := by simp [flatW]
  have e2 : (l.map W.int).map toV = l.map V.int := by simp [toV]
  have e3 : inW false (.int x) (.tup (l.map W.int)) = if flatW (.int x) && (l.map W.int).all flatW then some (inV (toV (.int x)) ((l.map W.int).map toV)) else none := rfl
  unfold gIn
  rw [e3, e1, e2, show toV (.int x) = V.int x from rfl, inV_int]
  rfl
@[simp] theorem in_i2 (x a b : Int) : gIn false (.int x) (.tup [.int a, .int b]) = some (.val, .bl (decide (x ∈ [a, b]))) := in_int x [a, b]
@[simp] theorem in_i3 (x a b c : Int) : gIn false (.int x) (.tup [.int a, .int b, .int c]) = some (.val, .bl (decide (x ∈ [a, b, c]))) := in_int x [a, b, c]
@[simp] theorem in_i5 (x a b c d e : Int) : gIn false (.int x) (.tup [.int a, .int b, .int c, .int d, .int e]) = some (.val, .bl (decide (x ∈ [a, b, c, d, e]))) := in_int x [a, b, c, d, e]
@[simp] theorem in_i6 (x a b c d e f : Int) : gIn false (.int x) (.tup [.int a, .int b, .int c, .int d, .int e, .int f]) = some (.val, .bl (decide (x ∈ [a, b, c, d, e, f]))) := in_int x [a, b, c, d, e, f]
@[simp] theorem in_i7 (x a b c d e f g : Int) : gIn false (.int x) (.tup [.int a, .int b, .int c, .int d, .int e, .int f, .int g]) = some (.val, .bl (decide (x ∈ [a, b, c, d, e, f, g]))) := in_int x [a, b, c, d, e, f, g]
/-! ### errors in mirrors -/
@[simp] theorem ev_raise (I : List Nat) (c : Str) (ns : List Str) (fs : List (Rho → ML.R (Md × W))) (ρ : Rho) : mRaise I c ns fs ρ = (mHold fs ρ).bind fun bs ρ1 => (valsL I bs ρ1).bind fun ws ρ2 => if ws.length = ns.length ∧ ns ≠ [] ∧ ns.length ≤ 900 then .exc c ns.reverse ws.reverse ρ2 else .stk := rfl
@[simp] theorem ev_raise0 (c : Str) (ρ : Rho) : mRaise0 c ρ = .exc c [] [] ρ := rfl
@[simp] theorem ev_fx (J : List Nat) (c : Str) (ns : List Str) (ws : List W) (ρ : Rho) : finF J (.exc c ns ws ρ) = (match outsOf J ρ with
  | some outs => .exc c ns ws outs
  | none => .stk) := rfl
@[simp] theorem noX_nil : noX [] = [] := rfl
@[simp] theorem noX_no (ρ : Rho) : noX (.no :: ρ) = .no :: noX ρ := rfl
@[simp] theorem noX_exn (ρ : Rho) : noX (.exn :: ρ) = .no :: noX ρ := rfl
@[simp] theorem noX_val (w : W) (ρ : Rho) : noX (.val w :: ρ) = .val w :: noX ρ := rfl
@[simp] theorem noX_ow (w : W) (ρ : Rho) : noX (.own w :: ρ) = .own w :: noX ρ := rfl
theorem ev_isE (i : Nat) (t : Option Bool) (ρ : Rho) : mIsE i t ρ = (match ρ[i]?, t with
  | some .exn, some b => .ok (.val, .bl b) ρ
  | _, _ => .stk) := rfl
theorem try_exc {I : List Nat} {i : Nat} {cm : Str → Option Bool} {g : Rho → ML.R Fl} {h : Str → List Str → List W → Rho → ML.R Fl} {ρ ρ1 ρ2 : Rho} {c : Str} {ns : List Str} {ws : List W} {w : W} (hg : g (noX ρ) = .exc c ns ws ρ1) (hc : cm c = some true) (hi : i ∉ I ∧ i < ρ1.length) (hh : h c ns ws ((noX ρ1).set i .exn) = .ok (.rt .val w) ρ2) : mTry I i cm g h ρ = .ok (.rt .val w) (noX ((noX ρ2).set i .no)) := by
  unfold mTry
  rw [hg]
  dsimp only
  rw [hc]
  dsimp only
  rw [if_pos hi, hh]
theorem ev_xf {cl : List Str} {i : Nat} {f c : Str} {ns : List Str} {ws : List W} {ρ : Rho} {w : W} (hc : c ∈ cl) (hl : ns.length = ws.length) (hi : ρ[i]? = some .exn) (hw : (ns.zip ws).lookup f = some w) : mXf cl i f c ns ws ρ = .ok (.val, w) ρ := by
  unfold mXf
  rw [if_pos ⟨hc, hl⟩, hi, hw]
end K96

namespace K96
open PySem PySem.Spec PyProof.Rows L2 ML
abbrev tRest (c : Str) (ns : List Str) (ws : List W) : Rho → ML.R Fl := mSeq (mSet [] 8 (mTup [] [])) (mSeq (mIf (mTest (mOp gEq (mVar 0) (mC (.int 0)))) (mSet [] 8 (mTup [] [mXf fl_size 6 "size" c ns ws])) (mNext)) (mSeq (mIf (mTest (mOp (gIn false) (mVar 0) (mTup [] [mC (.int 1), mC (.int 2), mC (.int 3), mC (.int 4), mC (.int 12)]))) (mSet [] 8 (mTup [] [mXf fl_name 6 "name" c ns ws])) (mNext)) (mSeq (mIf (mTest (mOp (gIn false) (mVar 0) (mTup [] [mC (.int 5), mC (.int 6), mC (.int 9), mC (.int 10), mC (.int 11), mC (.int 13), mC (.int 23)]))) (mSet [] 8 (mTup [] [mXf fl_place 6 "place" c ns ws])) (mNext)) (mSeq (mIf (mTest (mOp (gIn false) (mVar 0) (mTup [] [mC (.int 7), mC (.int 8)]))) (mSet [] 8 (mTup [] [mXf fl_place 6 "place" c ns ws, mXf fl_name 6 "name" c ns ws])) (mNext)) (mSeq (mIf (mTest (mOp gEq (mVar 0) (mC (.int 14)))) (mSet [] 8 (mTup [] [mXf fl_most 6 "most" c ns ws])) (mNext)) (mSeq (mIf (mTest (mOp (gIn false) (mVar 0) (mTup [] [mC (.int 15), mC (.int 16), mC (.int 22)]))) (mSet [] 8 (mTup [] [mXf fl_index 6 "index" c ns ws])) (mNext)) (mSeq (mIf (mTest (mOp gEq (mVar 0) (mC (.int 17)))) (mSet [] 8 (mTup [] [mXf fl_standing 6 "standing" c ns ws])) (mNext)) (mSeq (mIf (mTest (mOp gEq (mVar 0) (mC (.int 20)))) (mSet [] 8 (mTup [] [mXf fl_moves 6 "moves" c ns ws])) (mNext)) (mSeq (mIf (mTest (mOp gEq (mVar 0) (mC (.int 21)))) (mSet [] 8 (mTup [] [mXf fl_number 6 "number" c ns ws])) (mNext)) (mSeq (mIf (mTest (mOp gEq (mVar 0) (mC (.int 25)))) (mSet [] 8 (mTup [] [mXf fl_state 6 "state" c ns ws])) (mNext)) (mRet [] (mTup [] [mCB gTupC [mVar 7], mIsE 6 (kiV c), mVar 8]))))))))))))
abbrev rowB (c : Str) : List W := [.bl (decide (c = "BadSize")), .bl (decide (c = "BadName")), .bl (decide (c = "RepeatedName")), .bl (decide (c = "BadProcedure")), .bl (decide (c = "NoSuchName")), .bl (decide (c = "BadBlock")), .bl (decide (c = "OutOfRange")), .bl (decide (c = "UnknownName")), .bl (decide (c = "WrongName")), .bl (decide (c = "WrongCount")), .bl (decide (c = "WrongKind")), .bl (decide (c = "QuitInside")), .bl (decide (c = "FreeCell")), .bl (decide (c = "NoPlace")), .bl (decide (c = "TooLarge")), .bl (decide (c = "BadText")), .bl (decide (c = "BadMove")), .bl (decide (c = "BadTable")), .bl (decide (c = "SignaturesDiffer")), .bl (decide (c = "KindsDiffer")), .bl (decide (c = "Clash")), .bl (decide (c = "BadNumber")), .bl (decide (c = "WrongMachine")), .bl (decide (c = "BadHole")), .bl (decide (c = "NotFinished")), .bl (decide (c = "BadManner")), .bl (decide (c = "BadTest")), .bl (decide (c = "NotSingle"))]
theorem rows_ok {c : Str} (hc : c ∈ cl_all) {rest : Rho → ML.R Fl} {s0 s1 s2 s3 s4 s5 : Sl} : (mSeq (mSet [] 7 (mLst [] [mIsE 6 (kiT "BadSize" c), mIsE 6 (kiT "BadName" c), mIsE 6 (kiT "RepeatedName" c)])) (mSeq (mSet [] 7 (mOp gAdd (mVar 7) (mLst [] [mIsE 6 (kiT "BadProcedure" c), mIsE 6 (kiT "NoSuchName" c), mIsE 6 (kiT "BadBlock" c)]))) (mSeq (mSet [] 7 (mOp gAdd (mVar 7) (mLst [] [mIsE 6 (kiT "OutOfRange" c), mIsE 6 (kiT "UnknownName" c), mIsE 6 (kiT "WrongName" c)]))) (mSeq (mSet [] 7 (mOp gAdd (mVar 7) (mLst [] [mIsE 6 (kiT "WrongCount" c), mIsE 6 (kiT "WrongKind" c), mIsE 6 (kiT "QuitInside" c)]))) (mSeq (mSet [] 7 (mOp gAdd (mVar 7) (mLst [] [mIsE 6 (kiT "FreeCell" c), mIsE 6 (kiT "NoPlace" c), mIsE 6 (kiT "TooLarge" c)]))) (mSeq (mSet [] 7 (mOp gAdd (mVar 7) (mLst [] [mIsE 6 (kiT "BadText" c), mIsE 6 (kiT "BadMove" c), mIsE 6 (kiT "BadTable" c)]))) (mSeq (mSet [] 7 (mOp gAdd (mVar 7) (mLst [] [mIsE 6 (kiT "SignaturesDiffer" c), mIsE 6 (kiT "KindsDiffer" c), mIsE 6 (kiT "Clash" c)]))) (mSeq (mSet [] 7 (mOp gAdd (mVar 7) (mLst [] [mIsE 6 (kiT "BadNumber" c), mIsE 6 (kiT "WrongMachine" c), mIsE 6 (kiT "BadHole" c)]))) (mSeq (mSet [] 7 (mOp gAdd (mVar 7) (mLst [] [mIsE 6 (kiT "NotFinished" c), mIsE 6 (kiT "BadManner" c), mIsE 6 (kiT "BadTest" c)]))) (mSeq (mDrop (mAppend 7 [] (mIsE 6 (kiT "NotSingle" c)))) (rest))))))))))) [s0, s1, s2, s3, s4, s5, Sl.exn, Sl.no, Sl.no] = rest [s0, s1, s2, s3, s4, s5, Sl.exn, Sl.own (.lst (rowB c)), Sl.no] := by
  have hk : ∀ D, kiT D c = some (decide (c = D)) := fun D => by
    unfold kiT
    rw [if_pos hc]
  simp -implicitDefEqProofs [ev_var, ev_own, ev_isE, hk, line_is]
theorem told_of {ra : List W → FR} {k r : Int} {p n m v w : W} {c : Str} {ns : List Str} {ws : List W} {ρ : Rho} (hc : c ∈ cl_all) (h : ra [.int k, p, n, .int r, m, v] = .exc c ns ws []) (hr : tRest c ns ws [.val (.int k), .val p, .val n, .val (.int r), .val m, .val v, .exn, .own (.lst (rowB c)), .no] = .ok (.rt .val w) ρ) : fun__law_told ra [.int k, p, n, .int r, m, v] = .ok false w [] := by
  have hcm : cm_all c = some true := by
    unfold cm_all
    rw [if_pos hc]
  have hg : (mDrop (mCall [] [] ra [mVar 0, mVar 1, mVar 2, mVar 3, mVar 4, mVar 5])) (noX [.val (.int k), .val p, .val n, .val (.int r), .val m, .val v, .no, .no, .no]) = .exc c ns ws [.val (.int k), .val p, .val n, .val (.int r), .val m, .val v, .no, .no, .no] := by
    simp -implicitDefEqProofs [ev_var, h]
  unfold fun__law_told body__law_told
  have fr : rho0 [] [.int k, p, n, .int r, m, v] 9 = [.val (.int k), .val p, .val n, .val (.int r), .val m, .val v, .no, .no, .no] := rfl
  rw [ev_fun, fr, ev_seq, try_exc hg hcm ⟨by simp, by simp⟩ ((rows_ok hc).trans hr), ev_tr]
  rfl
section
variable {p n m v : W} {r : Int}
theorem raise_0 : fun__law_raise [.int 0, p, n, .int r, m, v] = .exc "BadSize" ["size"] [v] [] := by
  unfold fun__law_raise body__law_raise
  simp -implicitDefEqProofs [ev_var, line_is]
theorem rest_0 {rows : List W} : tRest "BadSize" ["size"] [v] [.val (.int 0), .val p, .val n, .val (.int r), .val m, .val v, .exn, .own (.lst rows), .no] = .ok (.rt .val (.tup [.tup rows, .bl true, .tup [v]])) [.val (.int 0), .val p, .val n, .val (.int r), .val m, .val v, .exn, .own (.lst rows), .val (.tup [v])] := by
  have x_size : ∀ ρ : Rho, ρ[6]? = some .exn → mXf fl_size 6 "size" "BadSize" ["size"] [v] ρ = .ok (.val, v) ρ := fun ρ h => ev_xf (by decide) rfl h rfl
  have hv : kiV "BadSize" = some true := by decide
  simp -implicitDefEqProofs [ev_var, ev_own, ev_isE, hv, line_is, x_size]
theorem due_0 : fun__law_due_fields [.int 0, p, n, .int r, m, v] = .ok false (.tup [v]) [] := by
  unfold fun__law_due_fields body__law_due_fields
  simp -implicitDefEqProofs [ev_var, line_is]
theorem told_0 {ra : List W → FR} (h : ra [.int 0, p, n, .int r, m, v] = .exc "BadSize" ["size"] [v] []) : fun__law_told ra [.int 0, p, n, .int r, m, v] = .ok false (.tup [.tup (rowB "BadSize"), .bl true, .tup [v]]) [] := told_of (c := "BadSize") (by decide) h rest_0
theorem raise_1 : fun__law_raise [.int 1, p, n, .int r, m, v] = .exc "BadName" ["name"] [n] [] := by
  unfold fun__law_raise body__law_raise
  simp -implicitDefEqProofs [ev_var, line_is]
theorem rest_1 {rows : List W} : tRest "BadName" ["name"] [n] [.val (.int 1), .val p, .val n, .val (.int r), .val m, .val v, .exn, .own (.lst rows), .no] = .ok (.rt .val (.tup [.tup rows, .bl true, .tup [n]])) [.val (.int 1), .val p, .val n, .val (.int r), .val m, .val v, .exn, .own (.lst rows), .val (.tup [n])] := by
  have x_name : ∀ ρ : Rho, ρ[6]? = some .exn → mXf fl_name 6 "name" "BadName" ["name"] [n] ρ = .ok (.val, n) ρ := fun ρ h => ev_xf (by decide) rfl h rfl
  have hv : kiV "BadName" = some true := by decide
  simp -implicitDefEqProofs [ev_var, ev_own, ev_isE, hv, line_is, x_name]
theorem due_1 : fun__law_due_fields [.int 1, p, n, .int r, m, v] = .ok false (.tup [n]) [] := by
  unfold fun__law_due_fields body__law_due_fields
  simp -implicitDefEqProofs [ev_var, line_is]
theorem told_1 {ra : List W → FR} (h : ra [.int 1, p, n, .int r, m, v] = .exc "BadName" ["name"] [n] []) : fun__law_told ra [.int 1, p, n, .int r, m, v] = .ok false (.tup [.tup (rowB "BadName"), .bl true, .tup [n]]) [] := told_of (c := "BadName") (by decide) h rest_1
theorem raise_2 : fun__law_raise [.int 2, p, n, .int r, m, v] = .exc "RepeatedName" ["name"] [n] [] := by
  unfold fun__law_raise body__law_raise
  simp -implicitDefEqProofs [ev_var, line_is]
theorem rest_2 {rows : List W} : tRest "RepeatedName" ["name"] [n] [.val (.int 2), .val p, .val n, .val (.int r), .val m, .val v, .exn, .own (.lst rows), .no] = .ok (.rt .val (.tup [.tup rows, .bl true, .tup [n]])) [.val (.int 2), .val p, .val n, .val (.int r), .val m, .val v, .exn, .own (.lst rows), .val (.tup [n])] := by
  have x_name : ∀ ρ : Rho, ρ[6]? = some .exn → mXf fl_name 6 "name" "RepeatedName" ["name"] [n] ρ = .ok (.val, n) ρ := fun ρ h => ev_xf (by decide) rfl h rfl
  have hv : kiV "RepeatedName" = some true := by decide
  simp -implicitDefEqProofs [ev_var, ev_own, ev_isE, hv, line_is, x_name]
theorem due_2 : fun__law_due_fields [.int 2, p, n, .int r, m, v] = .ok false (.tup [n]) [] := by
  unfold fun__law_due_fields body__law_due_fields
  simp -implicitDefEqProofs [ev_var, line_is]
theorem told_2 {ra : List W → FR} (h : ra [.int 2, p, n, .int r, m, v] = .exc "RepeatedName" ["name"] [n] []) : fun__law_told ra [.int 2, p, n, .int r, m, v] = .ok false (.tup [.tup (rowB "RepeatedName"), .bl true, .tup [n]]) [] := told_of (c := "RepeatedName") (by decide) h rest_2
theorem raise_3 : fun__law_raise [.int 3, p, n, .int r, m, v] = .exc "BadProcedure" ["name"] [n] [] := by
  unfold fun__law_raise body__law_raise
  simp -implicitDefEqProofs [ev_var, line_is]
theorem rest_3 {rows : List W} : tRest "BadProcedure" ["name"] [n] [.val (.int 3), .val p, .val n, .val (.int r), .val m, .val v, .exn, .own (.lst rows), .no] = .ok (.rt .val (.tup [.tup rows, .bl true, .tup [n]])) [.val (.int 3), .val p, .val n, .val (.int r), .val m, .val v, .exn, .own (.lst rows), .val (.tup [n])] := by
  have x_name : ∀ ρ : Rho, ρ[6]? = some .exn → mXf fl_name 6 "name" "BadProcedure" ["name"] [n] ρ = .ok (.val, n) ρ := fun ρ h => ev_xf (by decide) rfl h rfl
  have hv : kiV "BadProcedure" = some true := by decide
  simp -implicitDefEqProofs [ev_var, ev_own, ev_isE, hv, line_is, x_name]
theorem due_3 : fun__law_due_fields [.int 3, p, n, .int r, m, v] = .ok false (.tup [n]) [] := by
  unfold fun__law_due_fields body__law_due_fields
  simp -implicitDefEqProofs [ev_var, line_is]
theorem told_3 {ra : List W → FR} (h : ra [.int 3, p, n, .int r, m, v] = .exc "BadProcedure" ["name"] [n] []) : fun__law_told ra [.int 3, p, n, .int r, m, v] = .ok false (.tup [.tup (rowB "BadProcedure"), .bl true, .tup [n]]) [] := told_of (c := "BadProcedure") (by decide) h rest_3
theorem raise_4 : fun__law_raise [.int 4, p, n, .int r, m, v] = .exc "NoSuchName" ["name"] [n] [] := by
  unfold fun__law_raise body__law_raise
  simp -implicitDefEqProofs [ev_var, line_is]
theorem rest_4 {rows : List W} : tRest "NoSuchName" ["name"] [n] [.val (.int 4), .val p, .val n, .val (.int r), .val m, .val v, .exn, .own (.lst rows), .no] = .ok (.rt .val (.tup [.tup rows, .bl true, .tup [n]])) [.val (.int 4), .val p, .val n, .val (.int r), .val m, .val v, .exn, .own (.lst rows), .val (.tup [n])] := by
  have x_name : ∀ ρ : Rho, ρ[6]? = some .exn → mXf fl_name 6 "name" "NoSuchName" ["name"] [n] ρ = .ok (.val, n) ρ := fun ρ h => ev_xf (by decide) rfl h rfl
  have hv : kiV "NoSuchName" = some true := by decide
  simp -implicitDefEqProofs [ev_var, ev_own, ev_isE, hv, line_is, x_name]
theorem due_4 : fun__law_due_fields [.int 4, p, n, .int r, m, v] = .ok false (.tup [n]) [] := by
  unfold fun__law_due_fields body__law_due_fields
  simp -implicitDefEqProofs [ev_var, line_is]
theorem told_4 {ra : List W → FR} (h : ra [.int 4, p, n, .int r, m, v] = .exc "NoSuchName" ["name"] [n] []) : fun__law_told ra [.int 4, p, n, .int r, m, v] = .ok false (.tup [.tup (rowB "NoSuchName"), .bl true, .tup [n]]) [] := told_of (c := "NoSuchName") (by decide) h rest_4
theorem raise_5 : fun__law_raise [.int 5, p, n, .int r, m, v] = .exc "BadBlock" ["place"] [p] [] := by
  unfold fun__law_raise body__law_raise
  simp -implicitDefEqProofs [ev_var, line_is]
theorem rest_5 {rows : List W} : tRest "BadBlock" ["place"] [p] [.val (.int 5), .val p, .val n, .val (.int r), .val m, .val v, .exn, .own (.lst rows), .no] = .ok (.rt .val (.tup [.tup rows, .bl true, .tup [p]])) [.val (.int 5), .val p, .val n, .val (.int r), .val m, .val v, .exn, .own (.lst rows), .val (.tup [p])] := by
  have x_place : ∀ ρ : Rho, ρ[6]? = some .exn → mXf fl_place 6 "place" "BadBlock" ["place"] [p] ρ = .ok (.val, p) ρ := fun ρ h => ev_xf (by decide) rfl h rfl
  have hv : kiV "BadBlock" = some true := by decide
  simp -implicitDefEqProofs [ev_var, ev_own, ev_isE, hv, line_is, x_place]
theorem due_5 : fun__law_due_fields [.int 5, p, n, .int r, m, v] = .ok false (.tup [p]) [] := by
  unfold fun__law_due_fields body__law_due_fields
  simp -implicitDefEqProofs [ev_var, line_is]
theorem told_5 {ra : List W → FR} (h : ra [.int 5, p, n, .int r, m, v] = .exc "BadBlock" ["place"] [p] []) : fun__law_told ra [.int 5, p, n, .int r, m, v] = .ok false (.tup [.tup (rowB "BadBlock"), .bl true, .tup [p]]) [] := told_of (c := "BadBlock") (by decide) h rest_5
theorem raise_6 : fun__law_raise [.int 6, p, n, .int r, m, v] = .exc "OutOfRange" ["place"] [p] [] := by
  unfold fun__law_raise body__law_raise
  simp -implicitDefEqProofs [ev_var, line_is]
theorem rest_6 {rows : List W} : tRest "OutOfRange" ["place"] [p] [.val (.int 6), .val p, .val n, .val (.int r), .val m, .val v, .exn, .own (.lst rows), .no] = .ok (.rt .val (.tup [.tup rows, .bl true, .tup [p]])) [.val (.int 6), .val p, .val n, .val (.int r), .val m, .val v, .exn, .own (.lst rows), .val (.tup [p])] := by
  have x_place : ∀ ρ : Rho, ρ[6]? = some .exn → mXf fl_place 6 "place" "OutOfRange" ["place"] [p] ρ = .ok (.val, p) ρ := fun ρ h => ev_xf (by decide) rfl h rfl
  have hv : kiV "OutOfRange" = some true := by decide
  simp -implicitDefEqProofs [ev_var, ev_own, ev_isE, hv, line_is, x_place]
theorem due_6 : fun__law_due_fields [.int 6, p, n, .int r, m, v] = .ok false (.tup [p]) [] := by
  unfold fun__law_due_fields body__law_due_fields
  simp -implicitDefEqProofs [ev_var, line_is]
theorem told_6 {ra : List W → FR} (h : ra [.int 6, p, n, .int r, m, v] = .exc "OutOfRange" ["place"] [p] []) : fun__law_told ra [.int 6, p, n, .int r, m, v] = .ok false (.tup [.tup (rowB "OutOfRange"), .bl true, .tup [p]]) [] := told_of (c := "OutOfRange") (by decide) h rest_6
theorem raise_7 : fun__law_raise [.int 7, p, n, .int r, m, v] = .exc "UnknownName" ["name", "place"] [n, p] [] := by
  unfold fun__law_raise body__law_raise
  simp -implicitDefEqProofs [ev_var, line_is]
theorem rest_7 {rows : List W} : tRest "UnknownName" ["name", "place"] [n, p] [.val (.int 7), .val p, .val n, .val (.int r), .val m, .val v, .exn, .own (.lst rows), .no] = .ok (.rt .val (.tup [.tup rows, .bl true, .tup [p, n]])) [.val (.int 7), .val p, .val n, .val (.int r), .val m, .val v, .exn, .own (.lst rows), .val (.tup [p, n])] := by
  have x_place : ∀ ρ : Rho, ρ[6]? = some .exn → mXf fl_place 6 "place" "UnknownName" ["name", "place"] [n, p] ρ = .ok (.val, p) ρ := fun ρ h => ev_xf (by decide) rfl h rfl
  have x_name : ∀ ρ : Rho, ρ[6]? = some .exn → mXf fl_name 6 "name" "UnknownName" ["name", "place"] [n, p] ρ = .ok (.val, n) ρ := fun ρ h => ev_xf (by decide) rfl h rfl
  have hv : kiV "UnknownName" = some true := by decide
  simp -implicitDefEqProofs [ev_var, ev_own, ev_isE, hv, line_is, x_place, x_name]
theorem due_7 : fun__law_due_fields [.int 7, p, n, .int r, m, v] = .ok false (.tup [p, n]) [] := by
  unfold fun__law_due_fields body__law_due_fields
  simp -implicitDefEqProofs [ev_var, line_is]
theorem told_7 {ra : List W → FR} (h : ra [.int 7, p, n, .int r, m, v] = .exc "UnknownName" ["name", "place"] [n, p] []) : fun__law_told ra [.int 7, p, n, .int r, m, v] = .ok false (.tup [.tup (rowB "UnknownName"), .bl true, .tup [p, n]]) [] := told_of (c := "UnknownName") (by decide) h rest_7
theorem raise_8 : fun__law_raise [.int 8, p, n, .int r, m, v] = .exc "WrongName" ["name", "place"] [n, p] [] := by
  unfold fun__law_raise body__law_raise
  simp -implicitDefEqProofs [ev_var, line_is]
theorem rest_8 {rows : List W} : tRest "WrongName" ["name", "place"] [n, p] [.val (.int 8), .val p, .val n, .val (.int r), .val m, .val v, .exn, .own (.lst rows), .no] = .ok (.rt .val (.tup [.tup rows, .bl true, .tup [p, n]])) [.val (.int 8), .val p, .val n, .val (.int r), .val m, .val v, .exn, .own (.lst rows), .val (.tup [p, n])] := by
  have x_place : ∀ ρ : Rho, ρ[6]? = some .exn → mXf fl_place 6 "place" "WrongName" ["name", "place"] [n, p] ρ = .ok (.val, p) ρ := fun ρ h => ev_xf (by decide) rfl h rfl
  have x_name : ∀ ρ : Rho, ρ[6]? = some .exn → mXf fl_name 6 "name" "WrongName" ["name", "place"] [n, p] ρ = .ok (.val, n) ρ := fun ρ h => ev_xf (by decide) rfl h rfl
  have hv : kiV "WrongName" = some true := by decide
  simp -implicitDefEqProofs [ev_var, ev_own, ev_isE, hv, line_is, x_place, x_name]
theorem due_8 : fun__law_due_fields [.int 8, p, n, .int r, m, v] = .ok false (.tup [p, n]) [] := by
  unfold fun__law_due_fields body__law_due_fields
  simp -implicitDefEqProofs [ev_var, line_is]
theorem told_8 {ra : List W → FR} (h : ra [.int 8, p, n, .int r, m, v] = .exc "WrongName" ["name", "place"] [n, p] []) : fun__law_told ra [.int 8, p, n, .int r, m, v] = .ok false (.tup [.tup (rowB "WrongName"), .bl true, .tup [p, n]]) [] := told_of (c := "WrongName") (by decide) h rest_8
theorem raise_9 : fun__law_raise [.int 9, p, n, .int r, m, v] = .exc "WrongCount" ["place"] [p] [] := by
  unfold fun__law_raise body__law_raise
  simp -implicitDefEqProofs [ev_var, line_is]
theorem rest_9 {rows : List W} : tRest "WrongCount" ["place"] [p] [.val (.int 9), .val p, .val n, .val (.int r), .val m, .val v, .exn, .own (.lst rows), .no] = .ok (.rt .val (.tup [.tup rows, .bl true, .tup [p]])) [.val (.int 9), .val p, .val n, .val (.int r), .val m, .val v, .exn, .own (.lst rows), .val (.tup [p])] := by
  have x_place : ∀ ρ : Rho, ρ[6]? = some .exn → mXf fl_place 6 "place" "WrongCount" ["place"] [p] ρ = .ok (.val, p) ρ := fun ρ h => ev_xf (by decide) rfl h rfl
  have hv : kiV "WrongCount" = some true := by decide
  simp -implicitDefEqProofs [ev_var, ev_own, ev_isE, hv, line_is, x_place]
theorem due_9 : fun__law_due_fields [.int 9, p, n, .int r, m, v] = .ok false (.tup [p]) [] := by
  unfold fun__law_due_fields body__law_due_fields
  simp -implicitDefEqProofs [ev_var, line_is]
theorem told_9 {ra : List W → FR} (h : ra [.int 9, p, n, .int r, m, v] = .exc "WrongCount" ["place"] [p] []) : fun__law_told ra [.int 9, p, n, .int r, m, v] = .ok false (.tup [.tup (rowB "WrongCount"), .bl true, .tup [p]]) [] := told_of (c := "WrongCount") (by decide) h rest_9
theorem raise_10 : fun__law_raise [.int 10, p, n, .int r, m, v] = .exc "WrongKind" ["place"] [p] [] := by
  unfold fun__law_raise body__law_raise
  simp -implicitDefEqProofs [ev_var, line_is]
theorem rest_10 {rows : List W} : tRest "WrongKind" ["place"] [p] [.val (.int 10), .val p, .val n, .val (.int r), .val m, .val v, .exn, .own (.lst rows), .no] = .ok (.rt .val (.tup [.tup rows, .bl true, .tup [p]])) [.val (.int 10), .val p, .val n, .val (.int r), .val m, .val v, .exn, .own (.lst rows), .val (.tup [p])] := by
  have x_place : ∀ ρ : Rho, ρ[6]? = some .exn → mXf fl_place 6 "place" "WrongKind" ["place"] [p] ρ = .ok (.val, p) ρ := fun ρ h => ev_xf (by decide) rfl h rfl
  have hv : kiV "WrongKind" = some true := by decide
  simp -implicitDefEqProofs [ev_var, ev_own, ev_isE, hv, line_is, x_place]
theorem due_10 : fun__law_due_fields [.int 10, p, n, .int r, m, v] = .ok false (.tup [p]) [] := by
  unfold fun__law_due_fields body__law_due_fields
  simp -implicitDefEqProofs [ev_var, line_is]
theorem told_10 {ra : List W → FR} (h : ra [.int 10, p, n, .int r, m, v] = .exc "WrongKind" ["place"] [p] []) : fun__law_told ra [.int 10, p, n, .int r, m, v] = .ok false (.tup [.tup (rowB "WrongKind"), .bl true, .tup [p]]) [] := told_of (c := "WrongKind") (by decide) h rest_10
theorem raise_11 : fun__law_raise [.int 11, p, n, .int r, m, v] = .exc "QuitInside" ["place"] [p] [] := by
  unfold fun__law_raise body__law_raise
  simp -implicitDefEqProofs [ev_var, line_is]
theorem rest_11 {rows : List W} : tRest "QuitInside" ["place"] [p] [.val (.int 11), .val p, .val n, .val (.int r), .val m, .val v, .exn, .own (.lst rows), .no] = .ok (.rt .val (.tup [.tup rows, .bl true, .tup [p]])) [.val (.int 11), .val p, .val n, .val (.int r), .val m, .val v, .exn, .own (.lst rows), .val (.tup [p])] := by
  have x_place : ∀ ρ : Rho, ρ[6]? = some .exn → mXf fl_place 6 "place" "QuitInside" ["place"] [p] ρ = .ok (.val, p) ρ := fun ρ h => ev_xf (by decide) rfl h rfl
  have hv : kiV "QuitInside" = some true := by decide
  simp -implicitDefEqProofs [ev_var, ev_own, ev_isE, hv, line_is, x_place]
theorem due_11 : fun__law_due_fields [.int 11, p, n, .int r, m, v] = .ok false (.tup [p]) [] := by
  unfold fun__law_due_fields body__law_due_fields
  simp -implicitDefEqProofs [ev_var, line_is]
theorem told_11 {ra : List W → FR} (h : ra [.int 11, p, n, .int r, m, v] = .exc "QuitInside" ["place"] [p] []) : fun__law_told ra [.int 11, p, n, .int r, m, v] = .ok false (.tup [.tup (rowB "QuitInside"), .bl true, .tup [p]]) [] := told_of (c := "QuitInside") (by decide) h rest_11
theorem raise_12 : fun__law_raise [.int 12, p, n, .int r, m, v] = .exc "FreeCell" ["name"] [n] [] := by
  unfold fun__law_raise body__law_raise
  simp -implicitDefEqProofs [ev_var, line_is]
theorem rest_12 {rows : List W} : tRest "FreeCell" ["name"] [n] [.val (.int 12), .val p, .val n, .val (.int r), .val m, .val v, .exn, .own (.lst rows), .no] = .ok (.rt .val (.tup [.tup rows, .bl true, .tup [n]])) [.val (.int 12), .val p, .val n, .val (.int r), .val m, .val v, .exn, .own (.lst rows), .val (.tup [n])] := by
  have x_name : ∀ ρ : Rho, ρ[6]? = some .exn → mXf fl_name 6 "name" "FreeCell" ["name"] [n] ρ = .ok (.val, n) ρ := fun ρ h => ev_xf (by decide) rfl h rfl
  have hv : kiV "FreeCell" = some true := by decide
  simp -implicitDefEqProofs [ev_var, ev_own, ev_isE, hv, line_is, x_name]
theorem due_12 : fun__law_due_fields [.int 12, p, n, .int r, m, v] = .ok false (.tup [n]) [] := by
  unfold fun__law_due_fields body__law_due_fields
  simp -implicitDefEqProofs [ev_var, line_is]
theorem told_12 {ra : List W → FR} (h : ra [.int 12, p, n, .int r, m, v] = .exc "FreeCell" ["name"] [n] []) : fun__law_told ra [.int 12, p, n, .int r, m, v] = .ok false (.tup [.tup (rowB "FreeCell"), .bl true, .tup [n]]) [] := told_of (c := "FreeCell") (by decide) h rest_12
theorem raise_13 : fun__law_raise [.int 13, p, n, .int r, m, v] = .exc "NoPlace" ["place"] [p] [] := by
  unfold fun__law_raise body__law_raise
  simp -implicitDefEqProofs [ev_var, line_is]
theorem rest_13 {rows : List W} : tRest "NoPlace" ["place"] [p] [.val (.int 13), .val p, .val n, .val (.int r), .val m, .val v, .exn, .own (.lst rows), .no] = .ok (.rt .val (.tup [.tup rows, .bl true, .tup [p]])) [.val (.int 13), .val p, .val n, .val (.int r), .val m, .val v, .exn, .own (.lst rows), .val (.tup [p])] := by
  have x_place : ∀ ρ : Rho, ρ[6]? = some .exn → mXf fl_place 6 "place" "NoPlace" ["place"] [p] ρ = .ok (.val, p) ρ := fun ρ h => ev_xf (by decide) rfl h rfl
  have hv : kiV "NoPlace" = some true := by decide
  simp -implicitDefEqProofs [ev_var, ev_own, ev_isE, hv, line_is, x_place]
theorem due_13 : fun__law_due_fields [.int 13, p, n, .int r, m, v] = .ok false (.tup [p]) [] := by
  unfold fun__law_due_fields body__law_due_fields
  simp -implicitDefEqProofs [ev_var, line_is]
theorem told_13 {ra : List W → FR} (h : ra [.int 13, p, n, .int r, m, v] = .exc "NoPlace" ["place"] [p] []) : fun__law_told ra [.int 13, p, n, .int r, m, v] = .ok false (.tup [.tup (rowB "NoPlace"), .bl true, .tup [p]]) [] := told_of (c := "NoPlace") (by decide) h rest_13
theorem raise_14 : fun__law_raise [.int 14, p, n, .int r, m, v] = .exc "TooLarge" ["most"] [.int r] [] := by
  unfold fun__law_raise body__law_raise
  simp -implicitDefEqProofs [ev_var, line_is]
theorem rest_14 {rows : List W} : tRest "TooLarge" ["most"] [.int r] [.val (.int 14), .val p, .val n, .val (.int r), .val m, .val v, .exn, .own (.lst rows), .no] = .ok (.rt .val (.tup [.tup rows, .bl true, .tup [.int r]])) [.val (.int 14), .val p, .val n, .val (.int r), .val m, .val v, .exn, .own (.lst rows), .val (.tup [.int r])] := by
  have x_most : ∀ ρ : Rho, ρ[6]? = some .exn → mXf fl_most 6 "most" "TooLarge" ["most"] [.int r] ρ = .ok (.val, .int r) ρ := fun ρ h => ev_xf (by decide) rfl h rfl
  have hv : kiV "TooLarge" = some true := by decide
  simp -implicitDefEqProofs [ev_var, ev_own, ev_isE, hv, line_is, x_most]
theorem due_14 : fun__law_due_fields [.int 14, p, n, .int r, m, v] = .ok false (.tup [.int r]) [] := by
  unfold fun__law_due_fields body__law_due_fields
  simp -implicitDefEqProofs [ev_var, line_is]
theorem told_14 {ra : List W → FR} (h : ra [.int 14, p, n, .int r, m, v] = .exc "TooLarge" ["most"] [.int r] []) : fun__law_told ra [.int 14, p, n, .int r, m, v] = .ok false (.tup [.tup (rowB "TooLarge"), .bl true, .tup [.int r]]) [] := told_of (c := "TooLarge") (by decide) h rest_14
theorem raise_15 : fun__law_raise [.int 15, p, n, .int r, m, v] = .exc "BadText" ["index"] [.int r] [] := by
  unfold fun__law_raise body__law_raise
  simp -implicitDefEqProofs [ev_var, line_is]
theorem rest_15 {rows : List W} : tRest "BadText" ["index"] [.int r] [.val (.int 15), .val p, .val n, .val (.int r), .val m, .val v, .exn, .own (.lst rows), .no] = .ok (.rt .val (.tup [.tup rows, .bl true, .tup [.int r]])) [.val (.int 15), .val p, .val n, .val (.int r), .val m, .val v, .exn, .own (.lst rows), .val (.tup [.int r])] := by
  have x_index : ∀ ρ : Rho, ρ[6]? = some .exn → mXf fl_index 6 "index" "BadText" ["index"] [.int r] ρ = .ok (.val, .int r) ρ := fun ρ h => ev_xf (by decide) rfl h rfl
  have hv : kiV "BadText" = some true := by decide
  simp -implicitDefEqProofs [ev_var, ev_own, ev_isE, hv, line_is, x_index]
theorem due_15 : fun__law_due_fields [.int 15, p, n, .int r, m, v] = .ok false (.tup [.int r]) [] := by
  unfold fun__law_due_fields body__law_due_fields
  simp -implicitDefEqProofs [ev_var, line_is]
theorem told_15 {ra : List W → FR} (h : ra [.int 15, p, n, .int r, m, v] = .exc "BadText" ["index"] [.int r] []) : fun__law_told ra [.int 15, p, n, .int r, m, v] = .ok false (.tup [.tup (rowB "BadText"), .bl true, .tup [.int r]]) [] := told_of (c := "BadText") (by decide) h rest_15
theorem raise_16 : fun__law_raise [.int 16, p, n, .int r, m, v] = .exc "BadMove" ["index"] [.int r] [] := by
  unfold fun__law_raise body__law_raise
  simp -implicitDefEqProofs [ev_var, line_is]
theorem rest_16 {rows : List W} : tRest "BadMove" ["index"] [.int r] [.val (.int 16), .val p, .val n, .val (.int r), .val m, .val v, .exn, .own (.lst rows), .no] = .ok (.rt .val (.tup [.tup rows, .bl true, .tup [.int r]])) [.val (.int 16), .val p, .val n, .val (.int r), .val m, .val v, .exn, .own (.lst rows), .val (.tup [.int r])] := by
  have x_index : ∀ ρ : Rho, ρ[6]? = some .exn → mXf fl_index 6 "index" "BadMove" ["index"] [.int r] ρ = .ok (.val, .int r) ρ := fun ρ h => ev_xf (by decide) rfl h rfl
  have hv : kiV "BadMove" = some true := by decide
  simp -implicitDefEqProofs [ev_var, ev_own, ev_isE, hv, line_is, x_index]
theorem due_16 : fun__law_due_fields [.int 16, p, n, .int r, m, v] = .ok false (.tup [.int r]) [] := by
  unfold fun__law_due_fields body__law_due_fields
  simp -implicitDefEqProofs [ev_var, line_is]
theorem told_16 {ra : List W → FR} (h : ra [.int 16, p, n, .int r, m, v] = .exc "BadMove" ["index"] [.int r] []) : fun__law_told ra [.int 16, p, n, .int r, m, v] = .ok false (.tup [.tup (rowB "BadMove"), .bl true, .tup [.int r]]) [] := told_of (c := "BadMove") (by decide) h rest_16
theorem raise_17 : fun__law_raise [.int 17, p, n, .int r, m, v] = .exc "BadTable" ["standing"] [.int r] [] := by
  unfold fun__law_raise body__law_raise
  simp -implicitDefEqProofs [ev_var, line_is]
theorem rest_17 {rows : List W} : tRest "BadTable" ["standing"] [.int r] [.val (.int 17), .val p, .val n, .val (.int r), .val m, .val v, .exn, .own (.lst rows), .no] = .ok (.rt .val (.tup [.tup rows, .bl true, .tup [.int r]])) [.val (.int 17), .val p, .val n, .val (.int r), .val m, .val v, .exn, .own (.lst rows), .val (.tup [.int r])] := by
  have x_standing : ∀ ρ : Rho, ρ[6]? = some .exn → mXf fl_standing 6 "standing" "BadTable" ["standing"] [.int r] ρ = .ok (.val, .int r) ρ := fun ρ h => ev_xf (by decide) rfl h rfl
  have hv : kiV "BadTable" = some true := by decide
  simp -implicitDefEqProofs [ev_var, ev_own, ev_isE, hv, line_is, x_standing]
theorem due_17 : fun__law_due_fields [.int 17, p, n, .int r, m, v] = .ok false (.tup [.int r]) [] := by
  unfold fun__law_due_fields body__law_due_fields
  simp -implicitDefEqProofs [ev_var, line_is]
theorem told_17 {ra : List W → FR} (h : ra [.int 17, p, n, .int r, m, v] = .exc "BadTable" ["standing"] [.int r] []) : fun__law_told ra [.int 17, p, n, .int r, m, v] = .ok false (.tup [.tup (rowB "BadTable"), .bl true, .tup [.int r]]) [] := told_of (c := "BadTable") (by decide) h rest_17
theorem raise_18 : fun__law_raise [.int 18, p, n, .int r, m, v] = .exc "SignaturesDiffer" [] [] [] := by
  unfold fun__law_raise body__law_raise
  simp -implicitDefEqProofs [ev_var, line_is]
theorem rest_18 {rows : List W} : tRest "SignaturesDiffer" [] [] [.val (.int 18), .val p, .val n, .val (.int r), .val m, .val v, .exn, .own (.lst rows), .no] = .ok (.rt .val (.tup [.tup rows, .bl true, .tup []])) [.val (.int 18), .val p, .val n, .val (.int r), .val m, .val v, .exn, .own (.lst rows), .val (.tup [])] := by
  have hv : kiV "SignaturesDiffer" = some true := by decide
  simp -implicitDefEqProofs [ev_var, ev_own, ev_isE, hv, line_is]
theorem due_18 : fun__law_due_fields [.int 18, p, n, .int r, m, v] = .ok false (.tup []) [] := by
  unfold fun__law_due_fields body__law_due_fields
  simp -implicitDefEqProofs [ev_var, line_is]
theorem told_18 {ra : List W → FR} (h : ra [.int 18, p, n, .int r, m, v] = .exc "SignaturesDiffer" [] [] []) : fun__law_told ra [.int 18, p, n, .int r, m, v] = .ok false (.tup [.tup (rowB "SignaturesDiffer"), .bl true, .tup []]) [] := told_of (c := "SignaturesDiffer") (by decide) h rest_18
theorem raise_19 : fun__law_raise [.int 19, p, n, .int r, m, v] = .exc "KindsDiffer" [] [] [] := by
  unfold fun__law_raise body__law_raise
  simp -implicitDefEqProofs [ev_var, line_is]
theorem rest_19 {rows : List W} : tRest "KindsDiffer" [] [] [.val (.int 19), .val p, .val n, .val (.int r), .val m, .val v, .exn, .own (.lst rows), .no] = .ok (.rt .val (.tup [.tup rows, .bl true, .tup []])) [.val (.int 19), .val p, .val n, .val (.int r), .val m, .val v, .exn, .own (.lst rows), .val (.tup [])] := by
  have hv : kiV "KindsDiffer" = some true := by decide
  simp -implicitDefEqProofs [ev_var, ev_own, ev_isE, hv, line_is]
theorem due_19 : fun__law_due_fields [.int 19, p, n, .int r, m, v] = .ok false (.tup []) [] := by
  unfold fun__law_due_fields body__law_due_fields
  simp -implicitDefEqProofs [ev_var, line_is]
theorem told_19 {ra : List W → FR} (h : ra [.int 19, p, n, .int r, m, v] = .exc "KindsDiffer" [] [] []) : fun__law_told ra [.int 19, p, n, .int r, m, v] = .ok false (.tup [.tup (rowB "KindsDiffer"), .bl true, .tup []]) [] := told_of (c := "KindsDiffer") (by decide) h rest_19
theorem raise_20 : fun__law_raise [.int 20, p, n, .int r, m, v] = .exc "Clash" ["moves"] [m] [] := by
  unfold fun__law_raise body__law_raise
  simp -implicitDefEqProofs [ev_var, line_is]
theorem rest_20 {rows : List W} : tRest "Clash" ["moves"] [m] [.val (.int 20), .val p, .val n, .val (.int r), .val m, .val v, .exn, .own (.lst rows), .no] = .ok (.rt .val (.tup [.tup rows, .bl true, .tup [m]])) [.val (.int 20), .val p, .val n, .val (.int r), .val m, .val v, .exn, .own (.lst rows), .val (.tup [m])] := by
  have x_moves : ∀ ρ : Rho, ρ[6]? = some .exn → mXf fl_moves 6 "moves" "Clash" ["moves"] [m] ρ = .ok (.val, m) ρ := fun ρ h => ev_xf (by decide) rfl h rfl
  have hv : kiV "Clash" = some true := by decide
  simp -implicitDefEqProofs [ev_var, ev_own, ev_isE, hv, line_is, x_moves]
theorem due_20 : fun__law_due_fields [.int 20, p, n, .int r, m, v] = .ok false (.tup [m]) [] := by
  unfold fun__law_due_fields body__law_due_fields
  simp -implicitDefEqProofs [ev_var, line_is]
theorem told_20 {ra : List W → FR} (h : ra [.int 20, p, n, .int r, m, v] = .exc "Clash" ["moves"] [m] []) : fun__law_told ra [.int 20, p, n, .int r, m, v] = .ok false (.tup [.tup (rowB "Clash"), .bl true, .tup [m]]) [] := told_of (c := "Clash") (by decide) h rest_20
theorem raise_21 : fun__law_raise [.int 21, p, n, .int r, m, v] = .exc "BadNumber" ["number"] [v] [] := by
  unfold fun__law_raise body__law_raise
  simp -implicitDefEqProofs [ev_var, line_is]
theorem rest_21 {rows : List W} : tRest "BadNumber" ["number"] [v] [.val (.int 21), .val p, .val n, .val (.int r), .val m, .val v, .exn, .own (.lst rows), .no] = .ok (.rt .val (.tup [.tup rows, .bl true, .tup [v]])) [.val (.int 21), .val p, .val n, .val (.int r), .val m, .val v, .exn, .own (.lst rows), .val (.tup [v])] := by
  have x_number : ∀ ρ : Rho, ρ[6]? = some .exn → mXf fl_number 6 "number" "BadNumber" ["number"] [v] ρ = .ok (.val, v) ρ := fun ρ h => ev_xf (by decide) rfl h rfl
  have hv : kiV "BadNumber" = some true := by decide
  simp -implicitDefEqProofs [ev_var, ev_own, ev_isE, hv, line_is, x_number]
theorem due_21 : fun__law_due_fields [.int 21, p, n, .int r, m, v] = .ok false (.tup [v]) [] := by
  unfold fun__law_due_fields body__law_due_fields
  simp -implicitDefEqProofs [ev_var, line_is]
theorem told_21 {ra : List W → FR} (h : ra [.int 21, p, n, .int r, m, v] = .exc "BadNumber" ["number"] [v] []) : fun__law_told ra [.int 21, p, n, .int r, m, v] = .ok false (.tup [.tup (rowB "BadNumber"), .bl true, .tup [v]]) [] := told_of (c := "BadNumber") (by decide) h rest_21
theorem raise_22 : fun__law_raise [.int 22, p, n, .int r, m, v] = .exc "WrongMachine" ["index"] [.int r] [] := by
  unfold fun__law_raise body__law_raise
  simp -implicitDefEqProofs [ev_var, line_is]
theorem rest_22 {rows : List W} : tRest "WrongMachine" ["index"] [.int r] [.val (.int 22), .val p, .val n, .val (.int r), .val m, .val v, .exn, .own (.lst rows), .no] = .ok (.rt .val (.tup [.tup rows, .bl true, .tup [.int r]])) [.val (.int 22), .val p, .val n, .val (.int r), .val m, .val v, .exn, .own (.lst rows), .val (.tup [.int r])] := by
  have x_index : ∀ ρ : Rho, ρ[6]? = some .exn → mXf fl_index 6 "index" "WrongMachine" ["index"] [.int r] ρ = .ok (.val, .int r) ρ := fun ρ h => ev_xf (by decide) rfl h rfl
  have hv : kiV "WrongMachine" = some true := by decide
  simp -implicitDefEqProofs [ev_var, ev_own, ev_isE, hv, line_is, x_index]
theorem due_22 : fun__law_due_fields [.int 22, p, n, .int r, m, v] = .ok false (.tup [.int r]) [] := by
  unfold fun__law_due_fields body__law_due_fields
  simp -implicitDefEqProofs [ev_var, line_is]
theorem told_22 {ra : List W → FR} (h : ra [.int 22, p, n, .int r, m, v] = .exc "WrongMachine" ["index"] [.int r] []) : fun__law_told ra [.int 22, p, n, .int r, m, v] = .ok false (.tup [.tup (rowB "WrongMachine"), .bl true, .tup [.int r]]) [] := told_of (c := "WrongMachine") (by decide) h rest_22
theorem raise_23 : fun__law_raise [.int 23, p, n, .int r, m, v] = .exc "BadHole" ["place"] [p] [] := by
  unfold fun__law_raise body__law_raise
  simp -implicitDefEqProofs [ev_var, line_is]
theorem rest_23 {rows : List W} : tRest "BadHole" ["place"] [p] [.val (.int 23), .val p, .val n, .val (.int r), .val m, .val v, .exn, .own (.lst rows), .no] = .ok (.rt .val (.tup [.tup rows, .bl true, .tup [p]])) [.val (.int 23), .val p, .val n, .val (.int r), .val m, .val v, .exn, .own (.lst rows), .val (.tup [p])] := by
  have x_place : ∀ ρ : Rho, ρ[6]? = some .exn → mXf fl_place 6 "place" "BadHole" ["place"] [p] ρ = .ok (.val, p) ρ := fun ρ h => ev_xf (by decide) rfl h rfl
  have hv : kiV "BadHole" = some true := by decide
  simp -implicitDefEqProofs [ev_var, ev_own, ev_isE, hv, line_is, x_place]
theorem due_23 : fun__law_due_fields [.int 23, p, n, .int r, m, v] = .ok false (.tup [p]) [] := by
  unfold fun__law_due_fields body__law_due_fields
  simp -implicitDefEqProofs [ev_var, line_is]
theorem told_23 {ra : List W → FR} (h : ra [.int 23, p, n, .int r, m, v] = .exc "BadHole" ["place"] [p] []) : fun__law_told ra [.int 23, p, n, .int r, m, v] = .ok false (.tup [.tup (rowB "BadHole"), .bl true, .tup [p]]) [] := told_of (c := "BadHole") (by decide) h rest_23
theorem raise_24 : fun__law_raise [.int 24, p, n, .int r, m, v] = .exc "NotFinished" [] [] [] := by
  unfold fun__law_raise body__law_raise
  simp -implicitDefEqProofs [ev_var, line_is]
theorem rest_24 {rows : List W} : tRest "NotFinished" [] [] [.val (.int 24), .val p, .val n, .val (.int r), .val m, .val v, .exn, .own (.lst rows), .no] = .ok (.rt .val (.tup [.tup rows, .bl true, .tup []])) [.val (.int 24), .val p, .val n, .val (.int r), .val m, .val v, .exn, .own (.lst rows), .val (.tup [])] := by
  have hv : kiV "NotFinished" = some true := by decide
  simp -implicitDefEqProofs [ev_var, ev_own, ev_isE, hv, line_is]
theorem due_24 : fun__law_due_fields [.int 24, p, n, .int r, m, v] = .ok false (.tup []) [] := by
  unfold fun__law_due_fields body__law_due_fields
  simp -implicitDefEqProofs [ev_var, line_is]
theorem told_24 {ra : List W → FR} (h : ra [.int 24, p, n, .int r, m, v] = .exc "NotFinished" [] [] []) : fun__law_told ra [.int 24, p, n, .int r, m, v] = .ok false (.tup [.tup (rowB "NotFinished"), .bl true, .tup []]) [] := told_of (c := "NotFinished") (by decide) h rest_24
theorem raise_25 : fun__law_raise [.int 25, p, n, .int r, m, v] = .exc "BadManner" ["state"] [.int r] [] := by
  unfold fun__law_raise body__law_raise
  simp -implicitDefEqProofs [ev_var, line_is]
theorem rest_25 {rows : List W} : tRest "BadManner" ["state"] [.int r] [.val (.int 25), .val p, .val n, .val (.int r), .val m, .val v, .exn, .own (.lst rows), .no] = .ok (.rt .val (.tup [.tup rows, .bl true, .tup [.int r]])) [.val (.int 25), .val p, .val n, .val (.int r), .val m, .val v, .exn, .own (.lst rows), .val (.tup [.int r])] := by
  have x_state : ∀ ρ : Rho, ρ[6]? = some .exn → mXf fl_state 6 "state" "BadManner" ["state"] [.int r] ρ = .ok (.val, .int r) ρ := fun ρ h => ev_xf (by decide) rfl h rfl
  have hv : kiV "BadManner" = some true := by decide
  simp -implicitDefEqProofs [ev_var, ev_own, ev_isE, hv, line_is, x_state]
theorem due_25 : fun__law_due_fields [.int 25, p, n, .int r, m, v] = .ok false (.tup [.int r]) [] := by
  unfold fun__law_due_fields body__law_due_fields
  simp -implicitDefEqProofs [ev_var, line_is]
theorem told_25 {ra : List W → FR} (h : ra [.int 25, p, n, .int r, m, v] = .exc "BadManner" ["state"] [.int r] []) : fun__law_told ra [.int 25, p, n, .int r, m, v] = .ok false (.tup [.tup (rowB "BadManner"), .bl true, .tup [.int r]]) [] := told_of (c := "BadManner") (by decide) h rest_25
theorem raise_26 : fun__law_raise [.int 26, p, n, .int r, m, v] = .exc "BadTest" [] [] [] := by
  unfold fun__law_raise body__law_raise
  simp -implicitDefEqProofs [ev_var, line_is]
theorem rest_26 {rows : List W} : tRest "BadTest" [] [] [.val (.int 26), .val p, .val n, .val (.int r), .val m, .val v, .exn, .own (.lst rows), .no] = .ok (.rt .val (.tup [.tup rows, .bl true, .tup []])) [.val (.int 26), .val p, .val n, .val (.int r), .val m, .val v, .exn, .own (.lst rows), .val (.tup [])] := by
  have hv : kiV "BadTest" = some true := by decide
  simp -implicitDefEqProofs [ev_var, ev_own, ev_isE, hv, line_is]
theorem due_26 : fun__law_due_fields [.int 26, p, n, .int r, m, v] = .ok false (.tup []) [] := by
  unfold fun__law_due_fields body__law_due_fields
  simp -implicitDefEqProofs [ev_var, line_is]
theorem told_26 {ra : List W → FR} (h : ra [.int 26, p, n, .int r, m, v] = .exc "BadTest" [] [] []) : fun__law_told ra [.int 26, p, n, .int r, m, v] = .ok false (.tup [.tup (rowB "BadTest"), .bl true, .tup []]) [] := told_of (c := "BadTest") (by decide) h rest_26
theorem raise_27 : fun__law_raise [.int 27, p, n, .int r, m, v] = .exc "NotSingle" [] [] [] := by
  unfold fun__law_raise body__law_raise
  simp -implicitDefEqProofs [ev_var, line_is]
theorem rest_27 {rows : List W} : tRest "NotSingle" [] [] [.val (.int 27), .val p, .val n, .val (.int r), .val m, .val v, .exn, .own (.lst rows), .no] = .ok (.rt .val (.tup [.tup rows, .bl true, .tup []])) [.val (.int 27), .val p, .val n, .val (.int r), .val m, .val v, .exn, .own (.lst rows), .val (.tup [])] := by
  have hv : kiV "NotSingle" = some true := by decide
  simp -implicitDefEqProofs [ev_var, ev_own, ev_isE, hv, line_is]
theorem due_27 : fun__law_due_fields [.int 27, p, n, .int r, m, v] = .ok false (.tup []) [] := by
  unfold fun__law_due_fields body__law_due_fields
  simp -implicitDefEqProofs [ev_var, line_is]
theorem told_27 {ra : List W → FR} (h : ra [.int 27, p, n, .int r, m, v] = .exc "NotSingle" [] [] []) : fun__law_told ra [.int 27, p, n, .int r, m, v] = .ok false (.tup [.tup (rowB "NotSingle"), .bl true, .tup []]) [] := told_of (c := "NotSingle") (by decide) h rest_27
end
end K96

namespace K96
open PySem PySem.Spec PyProof.Rows L2 ML
def rowsK (k : Nat) : List W := (List.range 28).map fun (j : Nat) => W.bl (decide ((j : Int) = (k : Int)))
/-- told and due agree -/
def AgK (k : Nat) : Prop := ∀ {p n m v : W} {r : Int}, Drw p n (.int r) m v → ∃ fl : List W, fun__law_told fun__law_raise [.int (k : Int), p, n, .int r, m, v] = .ok false (.tup [.tup (rowsK k), .bl true, .tup fl]) [] ∧ fun__law_due_fields [.int (k : Int), p, n, .int r, m, v] = .ok false (.tup fl) [] ∧ fl.length ≤ 10 ∧ ∀ x ∈ fl, Vl 3 x
theorem Drw.all {p n m v : W} {r : Int} (h : Drw p n (.int r) m v) : ∀ x ∈ [p, n, .int r, m, v], Vl 3 x := by
  intro x hx
  simp at hx
  rcases hx with rfl | rfl | rfl | rfl | rfl
  · exact h.place.up
  · exact h.name.up.up
  · exact vl_int r
  · exact h.moves.up
  · exact h.value
theorem ag_0 : AgK 0 := fun {p n m v r} h => ⟨_, (told_0 raise_0).trans (by rw [show rowB "BadSize" = rowsK 0 from by kernel_rfl]), due_0, by simp, fun x hx => h.all x (by first | (simp at hx; done) | (simp at hx; rcases hx with rfl | rfl <;> simp) | (simp at hx; subst hx; simp))⟩
theorem ag_1 : AgK 1 := fun {p n m v r} h => ⟨_, (told_1 raise_1).trans (by rw [show rowB "BadName" = rowsK 1 from by kernel_rfl]), due_1, by simp, fun x hx => h.all x (by first | (simp at hx; done) | (simp at hx; rcases hx with rfl | rfl <;> simp) | (simp at hx; subst hx; simp))⟩
theorem ag_2 : AgK 2 := fun {p n m v r} h => ⟨_, (told_2 raise_2).trans (by rw [show rowB "RepeatedName" = rowsK 2 from by kernel_rfl]), due_2, by simp, fun x hx => h.all x (by first | (simp at hx; done) | (simp at hx; rcases hx with rfl | rfl <;> simp) | (simp at hx; subst hx; simp))⟩
theorem ag_3 : AgK 3 := fun {p n m v r} h => ⟨_, (told_3 raise_3).trans (by rw [show rowB "BadProcedure" = rowsK 3 from by kernel_rfl]), due_3, by simp, fun x hx => h.all x (by first | (simp at hx; done) | (simp at hx; rcases hx with rfl | rfl <;> simp) | (simp at hx; subst hx; simp))⟩
theorem ag_4 : AgK 4 := fun {p n m v r} h => ⟨_, (told_4 raise_4).trans (by rw [show rowB "NoSuchName" = rowsK 4 from by kernel_rfl]), due_4, by simp, fun x hx => h.all x (by first | (simp at hx; done) | (simp at hx; rcases hx with rfl | rfl <;> simp) | (simp at hx; subst hx; simp))⟩
theorem ag_5 : AgK 5 := fun {p n m v r} h => ⟨_, (told_5 raise_5).trans (by rw [show rowB "BadBlock" = rowsK 5 from by kernel_rfl]), due_5, by simp, fun x hx => h.all x (by first | (simp at hx; done) | (simp at hx; rcases hx with rfl | rfl <;> simp) | (simp at hx; subst hx; simp))⟩
theorem ag_6 : AgK 6 := fun {p n m v r} h => ⟨_, (told_6 raise_6).trans (by rw [show rowB "OutOfRange" = rowsK 6 from by kernel_rfl]), due_6, by simp, fun x hx => h.all x (by first | (simp at hx; done) | (simp at hx; rcases hx with rfl | rfl <;> simp) | (simp at hx; subst hx; simp))⟩
theorem ag_7 : AgK 7 := fun {p n m v r} h => ⟨_, (told_7 raise_7).trans (by rw [show rowB "UnknownName" = rowsK 7 from by kernel_rfl]), due_7, by simp, fun x hx => h.all x (by first | (simp at hx; done) | (simp at hx; rcases hx with rfl | rfl <;> simp) | (simp at hx; subst hx; simp))⟩
theorem ag_8 : AgK 8 := fun {p n m v r} h => ⟨_, (told_8 raise_8).trans (by rw [show rowB "WrongName" = rowsK 8 from by kernel_rfl]), due_8, by simp, fun x hx => h.all x (by first | (simp at hx; done) | (simp at hx; rcases hx with rfl | rfl <;> simp) | (simp at hx; subst hx; simp))⟩
theorem ag_9 : AgK 9 := fun {p n m v r} h => ⟨_, (told_9 raise_9).trans (by rw [show rowB "WrongCount" = rowsK 9 from by kernel_rfl]), due_9, by simp, fun x hx => h.all x (by first | (simp at hx; done) | (simp at hx; rcases hx with rfl | rfl <;> simp) | (simp at hx; subst hx; simp))⟩
theorem ag_10 : AgK 10 := fun {p n m v r} h => ⟨_, (told_10 raise_10).trans (by rw [show rowB "WrongKind" = rowsK 10 from by kernel_rfl]), due_10, by simp, fun x hx => h.all x (by first | (simp at hx; done) | (simp at hx; rcases hx with rfl | rfl <;> simp) | (simp at hx; subst hx; simp))⟩
theorem ag_11 : AgK 11 := fun {p n m v r} h => ⟨_, (told_11 raise_11).trans (by rw [show rowB "QuitInside" = rowsK 11 from by kernel_rfl]), due_11, by simp, fun x hx => h.all x (by first | (simp at hx; done) | (simp at hx; rcases hx with rfl | rfl <;> simp) | (simp at hx; subst hx; simp))⟩
theorem ag_12 : AgK 12 := fun {p n m v r} h => ⟨_, (told_12 raise_12).trans (by rw [show rowB "FreeCell" = rowsK 12 from by kernel_rfl]), due_12, by simp, fun x hx => h.all x (by first | (simp at hx; done) | (simp at hx; rcases hx with rfl | rfl <;> simp) | (simp at hx; subst hx; simp))⟩
theorem ag_13 : AgK 13 := fun {p n m v r} h => ⟨_, (told_13 raise_13).trans (by rw [show rowB "NoPlace" = rowsK 13 from by kernel_rfl]), due_13, by simp, fun x hx => h.all x (by first | (simp at hx; done) | (simp at hx; rcases hx with rfl | rfl <;> simp) | (simp at hx; subst hx; simp))⟩
theorem ag_14 : AgK 14 := fun {p n m v r} h => ⟨_, (told_14 raise_14).trans (by rw [show rowB "TooLarge" = rowsK 14 from by kernel_rfl]), due_14, by simp, fun x hx => h.all x (by first | (simp at hx; done) | (simp at hx; rcases hx with rfl | rfl <;> simp) | (simp at hx; subst hx; simp))⟩
theorem ag_15 : AgK 15 := fun {p n m v r} h => ⟨_, (told_15 raise_15).trans (by rw [show rowB "BadText" = rowsK 15 from by kernel_rfl]), due_15, by simp, fun x hx => h.all x (by first | (simp at hx; done) | (simp at hx; rcases hx with rfl | rfl <;> simp) | (simp at hx; subst hx; simp))⟩
theorem ag_16 : AgK 16 := fun {p n m v r} h => ⟨_, (told_16 raise_16).trans (by rw [show rowB "BadMove" = rowsK 16 from by kernel_rfl]), due_16, by simp, fun x hx => h.all x (by first | (simp at hx; done) | (simp at hx; rcases hx with rfl | rfl <;> simp) | (simp at hx; subst hx; simp))⟩
theorem ag_17 : AgK 17 := fun {p n m v r} h => ⟨_, (told_17 raise_17).trans (by rw [show rowB "BadTable" = rowsK 17 from by kernel_rfl]), due_17, by simp, fun x hx => h.all x (by first | (simp at hx; done) | (simp at hx; rcases hx with rfl | rfl <;> simp) | (simp at hx; subst hx; simp))⟩
theorem ag_18 : AgK 18 := fun {p n m v r} h => ⟨_, (told_18 raise_18).trans (by rw [show rowB "SignaturesDiffer" = rowsK 18 from by kernel_rfl]), due_18, by simp, fun x hx => h.all x (by first | (simp at hx; done) | (simp at hx; rcases hx with rfl | rfl <;> simp) | (simp at hx; subst hx; simp))⟩
theorem ag_19 : AgK 19 := fun {p n m v r} h => ⟨_, (told_19 raise_19).trans (by rw [show rowB "KindsDiffer" = rowsK 19 from by kernel_rfl]), due_19, by simp, fun x hx => h.all x (by first | (simp at hx; done) | (simp at hx; rcases hx with rfl | rfl <;> simp) | (simp at hx; subst hx; simp))⟩
theorem ag_20 : AgK 20 := fun {p n m v r} h => ⟨_, (told_20 raise_20).trans (by rw [show rowB "Clash" = rowsK 20 from by kernel_rfl]), due_20, by simp, fun x hx => h.all x (by first | (simp at hx; done) | (simp at hx; rcases hx with rfl | rfl <;> simp) | (simp at hx; subst hx; simp))⟩
theorem ag_21 : AgK 21 := fun {p n m v r} h => ⟨_, (told_21 raise_21).trans (by rw [show rowB "BadNumber" = rowsK 21 from by kernel_rfl]), due_21, by simp, fun x hx => h.all x (by first | (simp at hx; done) | (simp at hx; rcases hx with rfl | rfl <;> simp) | (simp at hx; subst hx; simp))⟩
theorem ag_22 : AgK 22 := fun {p n m v r} h => ⟨_, (told_22 raise_22).trans (by rw [show rowB "WrongMachine" = rowsK 22 from by kernel_rfl]), due_22, by simp, fun x hx => h.all x (by first | (simp at hx; done) | (simp at hx; rcases hx with rfl | rfl <;> simp) | (simp at hx; subst hx; simp))⟩
theorem ag_23 : AgK 23 := fun {p n m v r} h => ⟨_, (told_23 raise_23).trans (by rw [show rowB "BadHole" = rowsK 23 from by kernel_rfl]), due_23, by simp, fun x hx => h.all x (by first | (simp at hx; done) | (simp at hx; rcases hx with rfl | rfl <;> simp) | (simp at hx; subst hx; simp))⟩
theorem ag_24 : AgK 24 := fun {p n m v r} h => ⟨_, (told_24 raise_24).trans (by rw [show rowB "NotFinished" = rowsK 24 from by kernel_rfl]), due_24, by simp, fun x hx => h.all x (by first | (simp at hx; done) | (simp at hx; rcases hx with rfl | rfl <;> simp) | (simp at hx; subst hx; simp))⟩
theorem ag_25 : AgK 25 := fun {p n m v r} h => ⟨_, (told_25 raise_25).trans (by rw [show rowB "BadManner" = rowsK 25 from by kernel_rfl]), due_25, by simp, fun x hx => h.all x (by first | (simp at hx; done) | (simp at hx; rcases hx with rfl | rfl <;> simp) | (simp at hx; subst hx; simp))⟩
theorem ag_26 : AgK 26 := fun {p n m v r} h => ⟨_, (told_26 raise_26).trans (by rw [show rowB "BadTest" = rowsK 26 from by kernel_rfl]), due_26, by simp, fun x hx => h.all x (by first | (simp at hx; done) | (simp at hx; rcases hx with rfl | rfl <;> simp) | (simp at hx; subst hx; simp))⟩
theorem ag_27 : AgK 27 := fun {p n m v r} h => ⟨_, (told_27 raise_27).trans (by rw [show rowB "NotSingle" = rowsK 27 from by kernel_rfl]), due_27, by simp, fun x hx => h.all x (by first | (simp at hx; done) | (simp at hx; rcases hx with rfl | rfl <;> simp) | (simp at hx; subst hx; simp))⟩
theorem ag_all : ∀ k : Nat, k < 28 → AgK k := by
  intro k hk
  have h : k = 0 ∨ k = 1 ∨ k = 2 ∨ k = 3 ∨ k = 4 ∨ k = 5 ∨ k = 6 ∨ k = 7 ∨ k = 8 ∨ k = 9 ∨ k = 10 ∨ k = 11 ∨ k = 12 ∨ k = 13 ∨ k = 14 ∨ k = 15 ∨ k = 16 ∨ k = 17 ∨ k = 18 ∨ k = 19 ∨ k = 20 ∨ k = 21 ∨ k = 22 ∨ k = 23 ∨ k = 24 ∨ k = 25 ∨ k = 26 ∨ k = 27 := by omega
  rcases h with rfl | rfl | rfl | rfl | rfl | rfl | rfl | rfl | rfl | rfl | rfl | rfl | rfl | rfl | rfl | rfl | rfl | rfl | rfl | rfl | rfl | rfl | rfl | rfl | rfl | rfl | rfl | rfl
  · exact @ag_0
  · exact @ag_1
  · exact @ag_2
  · exact @ag_3
  · exact @ag_4
  · exact @ag_5
  · exact @ag_6
  · exact @ag_7
  · exact @ag_8
  · exact @ag_9
  · exact @ag_10
  · exact @ag_11
  · exact @ag_12
  · exact @ag_13
  · exact @ag_14
  · exact @ag_15
  · exact @ag_16
  · exact @ag_17
  · exact @ag_18
  · exact @ag_19
  · exact @ag_20
  · exact @ag_21
  · exact @ag_22
  · exact @ag_23
  · exact @ag_24
  · exact @ag_25
  · exact @ag_26
  · exact @ag_27
theorem rowsK_vl (k : Nat) : Vl 2 (.tup (rowsK k)) := vl_tup (by simp [rowsK]) fun x hx => by
  obtain ⟨j, _, rfl⟩ := List.mem_map.mp hx
  exact vl_bl _
theorem law_turn {dr to du sa : List W → FR} {sc : W} {k : Nat} {p n m v : W} {r : Int} {fl : List W} {s2 s3 s4 : Sl} (h1 : dr [sc, .int k] = .ok true (.lst [p, n, .int r, m, v]) []) (h2 : to [.int k, p, n, .int r, m, v] = .ok false (.tup [.tup (rowsK k), .bl true, .tup fl]) []) (h3 : du [.int k, p, n, .int r, m, v] = .ok false (.tup fl) [])
    (h4 : sa [.tup [.tup (rowsK k), .bl true, .tup fl], .tup [.tup (rowsK k), .bl true, .tup fl]] = .ok false (.bl true) []) :
    ∃ s2' s3' s4', (mSeq (mSet [] 2 (mCall [] [] dr [mVar 0, mVar 1])) (mSeq (mSet [] 3 (mCall [] [] to [mVar 1, mOp gIx (mVar 2) (mC (.int 0)), mOp gIx (mVar 2) (mC (.int 1)), mOp gIx (mVar 2) (mC (.int 2)), mOp gIx (mVar 2) (mC (.int 3)), mOp gIx (mVar 2) (mC (.int 4))])) (mSeq (mSet [] 4 (mCall [] [] du [mVar 1, mOp gIx (mVar 2) (mC (.int 0)), mOp gIx (mVar 2) (mC (.int 1)), mOp gIx (mVar 2) (mC (.int 2)), mOp gIx (mVar 2) (mC (.int 3)), mOp gIx (mVar 2) (mC (.int 4))])) (mIf (mNot (mTest (mCall [] [] sa [mVar 3, mTup [] [mCB gTupC [mLc [] (mRange1 [mC (.int 28)]) (.nm 5) (mYes) (mOp gEq (mVar 5) (mVar 1))], mC (.bl true), mVar 4]]))) (mRet [] (mC (.bl false))) (mNext))))) [Sl.val sc, Sl.val (.int k), s2, s3, s4, Sl.no] = .ok .nx [Sl.val sc, Sl.val (.int k), s2', s3', s4', Sl.no] := by
  have hok : okR 28 = true := by decide
  have e1 : mLc [] (mRange1 [mC (.int 28)]) (.nm 5) (mYes) (mOp gEq (mVar 5) (mVar 1)) [Sl.val sc, Sl.val (.int k), Sl.own (.lst [p, n, .int r, m, v]), Sl.val (.tup [.tup (rowsK k), .bl true, .tup fl]), Sl.val (.tup fl), Sl.no] = .ok (.fre, .lst (rowsK k)) [Sl.val sc, Sl.val (.int k), Sl.own (.lst [p, n, .int r, m, v]), Sl.val (.tup [.tup (rowsK k), .bl true, .tup fl]), Sl.val (.tup fl), Sl.no] := by
    have e2 := comp2 (i := 5) (fe := mEl [] (mOp gEq (mVar 5) (mVar 1))) (g := fun j : Nat => W.bl (decide ((j : Int) = (k : Int)))) (Q := fun (w : W) (j : Nat) => w = .int j ∧ j < 28) (ρ := [Sl.val sc, Sl.val (.int k), Sl.own (.lst [p, n, .int r, m, v]), Sl.val (.tup [.tup (rowsK k), .bl true, .tup fl]), Sl.val (.tup fl), Sl.no]) (fun w j ⟨hw, _⟩ => by
      subst hw
      simp -implicitDefEqProofs [ev_var, ev_own]) (all2_ints 28) (acc := []) (ρ' := [Sl.val sc, Sl.val (.int k), Sl.own (.lst [p, n, .int r, m, v]), Sl.val (.tup [.tup (rowsK k), .bl true, .tup fl]), Sl.val (.tup fl), Sl.no]) (by rw [line_is]; decide) rfl
    have e3 : mRange1 [mC (.int 28)] [Sl.val sc, Sl.val (.int k), Sl.own (.lst [p, n, .int r, m, v]), Sl.val (.tup [.tup (rowsK k), .bl true, .tup fl]), Sl.val (.tup fl), Sl.no] = .ok (intsW 0 28) [Sl.val sc, Sl.val (.int k), Sl.own (.lst [p, n, .int r, m, v]), Sl.val (.tup [.tup (rowsK k), .bl true, .tup fl]), Sl.val (.tup fl), Sl.no] := by
      simp [hok]
    rw [ev_lc, e3, ev_bo, if_pos (by simp [CT.ix])]
    show noExc (compL [5] (CT.put (.nm 5)) mYes _ [] _ _) = _
    rw [e2]
    rfl
  generalize rowsK k = rk at *
  refine ⟨Sl.own (.lst [p, n, .int r, m, v]), Sl.val (.tup [.tup rk, .bl true, .tup fl]), Sl.val (.tup fl), ?_⟩
  simp -implicitDefEqProofs [ev_var, ev_own, line_is, h1, h2, h3, e1, h4]
theorem szs_pos : ∀ z ∈ szs, 0 < z := by decide
/-! ### the law -/
noncomputable def lawF : List W → FR := fun_law (fun__law_drawn fun__law_cell fun__law_digits fun__law_text) (fun__law_told fun__law_raise) fun__law_due_fields (saF 5)
theorem law_of {dr to du sa : List W → FR} {sc : W} (H : ∀ k : Nat, k < 28 → ∃ (p n m v : W) (r : Int) (fl : List W), dr [sc, .int k] = .ok true (.lst [p, n, .int r, m, v]) [] ∧ to [.int k, p, n, .int r, m, v] = .ok false (.tup [.tup (rowsK k), .bl true, .tup fl]) [] ∧ du [.int k, p, n, .int r, m, v] = .ok false (.tup fl) [] ∧ sa [.tup [.tup (rowsK k), .bl true, .tup fl], .tup [.tup (rowsK k), .bl true, .tup fl]] = .ok false (.bl true) []) : fun_law dr to du sa [sc] = .ok false (.bl true) [] := by
  have e0 : gSet [] 1 = fun w ρ => some (ρ.set 1 (.val w)) := gset_is (by simp)
  have hok : okR 28 = true := by decide
  obtain ⟨ρ1, e1, s1, s2, s3, s4, rfl⟩ := for_inv (i := 1) (g := (mSeq (mSet [] 2 (mCall [] [] dr [mVar 0, mVar 1])) (mSeq (mSet [] 3 (mCall [] [] to [mVar 1, mOp gIx (mVar 2) (mC (.int 0)), mOp gIx (mVar 2) (mC (.int 1)), mOp gIx (mVar 2) (mC (.int 2)), mOp gIx (mVar 2) (mC (.int 3)), mOp gIx (mVar 2) (mC (.int 4))])) (mSeq (mSet [] 4 (mCall [] [] du [mVar 1, mOp gIx (mVar 2) (mC (.int 0)), mOp gIx (mVar 2) (mC (.int 1)), mOp gIx (mVar 2) (mC (.int 2)), mOp gIx (mVar 2) (mC (.int 3)), mOp gIx (mVar 2) (mC (.int 4))])) (mIf (mNot (mTest (mCall [] [] sa [mVar 3, mTup [] [mCB gTupC [mLc [] (mRange1 [mC (.int 28)]) (.nm 5) (mYes) (mOp gEq (mVar 5) (mVar 1))], mC (.bl true), mVar 4]]))) (mRet [] (mC (.bl false))) (mNext))))))
    (ρ := [Sl.val sc, Sl.no, Sl.no, Sl.no, Sl.no, Sl.no]) (P := fun zs ρ => ∃ s1 s2 s3 s4, ρ = [Sl.val sc, s1, s2, s3, s4, Sl.no]) (.inr trivial) (all2_ints 28) (fun a k zs' ρ q ⟨s1, s2, s3, s4, er⟩ => by
      subst er
      obtain ⟨rfl, hk⟩ := q
      obtain ⟨p, n, m, v, r, fl, h1, h2, h3, h4⟩ := H k hk
      obtain ⟨t2, t3, t4, e⟩ := law_turn (sc := sc) (s2 := s2) (s3 := s3) (s4 := s4) h1 h2 h3 h4
      exact ⟨_, e, _, _, _, _, rfl⟩) ⟨_, _, _, _, rfl⟩
  unfold fun_law body_law
  rw [ev_fun, ev_seq]
  have fr : rho0 [] [sc] 6 = [Sl.val sc, Sl.no, Sl.no, Sl.no, Sl.no, Sl.no] := rfl
  have e3 : mRange1 [mC (.int 28)] [Sl.val sc, Sl.no, Sl.no, Sl.no, Sl.no, Sl.no] = .ok (intsW 0 28) [Sl.val sc, Sl.no, Sl.no, Sl.no, Sl.no, Sl.no] := by
    simp [hok]
  rw [fr, ev_for, e3, ev_bo, e0, e1, ev_tn]
  rfl
theorem law_is : ∀ ns : List Int, ns.length ≤ 63 → lawF [.frl (ns.map W.int)] = .ok false (.bl true) [] := by
  intro ns _
  refine law_of fun k hk => ?_
  obtain ⟨p, n, r, m, v, hd, e1⟩ := drawn_ok (sc := .frl (ns.map W.int)) (ce := fun__law_cell) (di := fun__law_digits) (tx := fun__law_text) (fun k => cell_ok ns k) (fun c => digits_ok c szs (by rw [szs_len]; omega) (fun z hz => by
    obtain ⟨i, hi⟩ := List.mem_iff_getElem?.mp hz
    have hi2 : i < szs.length := (List.getElem?_eq_some_iff.mp hi).1
    have h1 := szs_le i (by rw [szs_len] at hi2; exact hi2) z hi
    have h2 : 0 < z := szs_pos z hz
    exact ⟨h2, by omega⟩)) (fun es h1 h2 => text_ok h1 fun i d hi => h2 d (List.mem_of_getElem? hi)) k
  obtain ⟨fl, e2, e3, h4, h5⟩ := ag_all k hk hd
  exact ⟨p, n, m, v, r, fl, e1, e2, e3, same_ok 5 (vl_tup (by simp) fun x hx => by
    simp at hx
    rcases hx with rfl | rfl | rfl
    · exact (rowsK_vl k).up.up
    · exact vl_bl true
    · exact vl_tup (by omega) h5)⟩
end K96

namespace K96
open PySem PySem.Spec PyProof.Rows L2 ML
/-! ### the defs tied -/
section
variable {P : Program} {w : World} {K : PySem.W.Frag} {mg : Str → Option Value} {base : Heap}
theorem stk__law_same (T : Txt w K mg) : Def P w K mg base (He.ga K) 1 "_law_same" ["_law_actual", "_law_due"] [] (fun _ => .stk) :=
  (def_mk (N := ["_law_actual", "_law_due", "_law_k"]) (g := mStk) T.s__law_same sc__law_same (by decide) (fun _ _ _ _ _ _ us hl => match us, hl with | [_, _], _ => rfl) fun f cdv A outer s H E Y hr hct tk => psms_never).congr fun _ _ => .inl rfl
theorem lv_same (T : Txt w K mg) : ∀ d, Def P w K mg base (He.ga K) (d + 1) "_law_same" ["_law_actual", "_law_due"] [] (saF d)
  | 0 => stk__law_same T
  | d + 1 => def__law_same T (lv_same T d)
theorem law_def (T : Txt w K mg) : Def P w K mg base (He.ga K) 10 "law" ["_law_script"] [] lawF :=
  def_law (k := 9) T (def__law_drawn (k := 8) T (def__law_cell T) (def__law_digits T) (def__law_text T)) (def__law_told (k := 8) T (def__law_raise (k := 5) T)) (def__law_due_fields T) ((lv_same T 5).mono (by omega))
end
noncomputable def law_fun : List W → FR := lawF
def law_k : Nat := 10
end K96

set_option maxHeartbeats 4000000
namespace K96
open PySem PySem.Spec PyProof.Rows L2 ML
theorem facts {P : Program} {w : World} {K : PySem.W.Frag} {h : Heap} {mg : Str → Option Value} {f : Addr} (X : K.In h) (G : h.Ns mainGlobals mg) (hq : mg ("law" : Str) = some (.ref f)) (c : SaysM hfa hfn hts hmore w K) :
    ∃ fd : FuncData, (∀ (s : Shared) (v : Value), BindsTo s fd ⟨[v], []⟩ [("_law_script", v)]) ∧ ∀ base : Heap, K.In base → base.Ns mainGlobals mg → FnOk P w K mg base CX0 law_k f fd ["_law_script"] (spEnd K law_fun) := by
  have T := txt_ok X G c
  exact end_fn T.s_law hq (fun fd F => by
    have b := FunD.bindsA (ps := ["_law_script"]) F fun _ _ _ _ _ _ us hl => match us, hl with | [_], _ => rfl
    exact fun s v => b s [v] rfl) fun base _ _ => law_def T
end K96
open PySem PySem.W PySem.Calls PyProof.Rows
set_option maxRecDepth 100000 in
set_option maxHeartbeats 0 in
theorem PySem.Challenge.cw_heardsaid_k96_errors_apart_holds : PySem.Challenge.rw_heardsaid_k96_errors_apart.Holds := by
  w_on; o_law
  refine HandSHeadRun.head_any (r := (PySem.W.OpenLaw.row PySem.Challenge.rw_heardsaid_k96_errors_apart)) (q := view (PySem.W.OpenLaw.row PySem.Challenge.rw_heardsaid_k96_errors_apart).prog [39]) (H := K96.hhk) (ob := K96.hob) (M := 20000) (loose := K96.hnames) (d := HandSHeadRun.topDef (PySem.W.OpenLaw.row PySem.Challenge.rw_heardsaid_k96_errors_apart).prog 39) (kwd := []) K96.hob_eq
    (by kernel_rfl) (fun s => by kernel_rfl) K96.hrun (by kernel_rfl) (by kernel_rfl) (by kernel_rfl) (by rfl) (by first | assumption | decide +kernel) (by decide +kernel) ⟨rfl, rfl, rfl, rfl, rfl, by decide +kernel⟩ ?hw ?hc
  case hw => w_witness2
  case hc =>
    refine L2.walk_ofE (l := PySem.Challenge.rw_heardsaid_k96_errors_apart) (n := 63) (k := K96.law_k) (x := "_law_script") (CX := L2.CX0) rfl (by decide) (by kernel_rfl) ⟨rfl, by decide, by decide⟩ ?F (fun _ _ _ _ z => z)
    intro w mg fa h Y G hmg0
    obtain ⟨K, KX, c⟩ := Y
    have hmg : mg ("law" : PySem.Str) = some (.ref fa) := by
      have e : (HandSHeadRun.topDef (PySem.W.OpenLaw.row PySem.Challenge.rw_heardsaid_k96_errors_apart).prog 39).name = ("law" : PySem.Str) := by kernel_rfl
      rw [← e]
      exact hmg0
    obtain ⟨fd, hb, hF⟩ := K96.facts (P := (PySem.Challenge.rw_heardsaid_k96_errors_apart).prog) (w := w) KX G hmg c
    exact ⟨K, fd, ML.spEnd K K96.law_fun, KX, hb, fun H a ns hl hO hS => ML.end_sp K96.law_is H a ns hl hO hS, hF⟩

