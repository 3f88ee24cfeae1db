import PyProof.Rows.All
import Wide.All
import OpenK.AllK
import Wide.FinOn
import KE.KStateDown
import Lean
import HandS.ForMost
import HandS.More
import HandS.WordsExc
import HandS.Defaults
import HandS.Head0
import HandS.Head1
import HandS.Head2
import HandS.HeadEnd
import HandS.HeadHook1
import HandS.HeadHook2
import PyProof.StrBlock2
import HandS.TupAny
import HandS.Deep
import HandS.IsInst
import HandS.CallSlots
import HandS.TryOnly
import HandS.Rev
import HandS.RevRange
import HandS.Zip
import HandS.RaiseMore
import HandS.ExcInit
import HandS.Small
import HandS.HeadHook3
import HandS.Codes
import PySem.Challenge.RW_heardsaid_k06_read_freely
set_option Elab.async false
set_option linter.all false
set_option maxRecDepth 100000
set_option maxHeartbeats 4000000
/-! ML: a layer of our own over HandS. W: values without addresses; Rho: a frame's slots as W; a mirror is a function Rho -> R.
F is a ghost: the addresses of lists (dicts) that nobody changes any more; a slot that is own holds a list that nobody else holds. -/
namespace ML
open PySem PySem.Spec PyProof.Rows L2

inductive W where
  | non | bl (b : Bool) | int (i : Int) | str (s : Str)
  | tup (l : List W) | lst (l : List W) | frl (l : List W) | dK (ks : List Key) (l : List W) | fn (x : Str) | ty (n : String)

abbrev Fz := Addr → Prop
def LstK (K : PySem.W.Frag) (a : Addr) (vs : List V) : Prop :=
  ∃ (o : Obj) (its : Array Value) (n : Nat), K.lookup a = some o ∧ o.cls = .type "list" ∧ o.dict = none ∧ o.data = .seq its n ∧ its.size ≤ sizeLine ∧ Vals vs its.toList
/-- the script, a list of the text: never changed -/
def FrlL (K : PySem.W.Frag) (H : Hp) (a : Addr) (vs : List V) : Prop := (∃ o, H a = some (.frz o (.lst vs))) ∨ LstK K a vs
theorem FrlL.seq {K : PySem.W.Frag} {H : Hp} {a : Addr} {vs : List V} (h : FrlL K H a vs) : SqL K H a vs := by
  rcases h with h | h
  · exact .inl (.inr h)
  · exact .inr h
def TupK (K : PySem.W.Frag) (a : Addr) (vs : List V) : Prop :=
  ∃ (o : Obj) (its : Array Value) (n : Nat), K.lookup a = some o ∧ o.cls = .type "tuple" ∧ o.data = .seq its n ∧ its.size ≤ sizeLine ∧ Vals vs its.toList
/-- a tuple of the call's own, or of the text -/
def SqU (K : PySem.W.Frag) (H : Hp) (a : Addr) (vs : List V) : Prop := H a = some (.tup vs) ∨ TupK K a vs
theorem SqU.seq {K : PySem.W.Frag} {H : Hp} {a : Addr} {vs : List V} (h : SqU K H a vs) : SqT K H a vs := by
  rcases h with h | h
  · exact .inl (.inl h)
  · exact .inr h
mutual
def Rep (K : PySem.W.Frag) (F : Fz) (H : Hp) : W → V → Prop
  | .non, v => v = .non
  | .bl b, v => v = .bl b
  | .int i, v => v = .int i
  | .str s, v => v = .str s
  | .fn x, v => v = .ref (He.ga K x)
  | .ty n, v => v = .ty n
  | .tup l, v => ∃ a vs, v = .ref a ∧ SqU K H a vs ∧ RepL K F H l vs
  | .lst l, v => ∃ a vs, v = .ref a ∧ F a ∧ H a = some (.lst vs) ∧ RepL K F H l vs
  | .frl l, v => ∃ a vs, v = .ref a ∧ FrlL K H a vs ∧ RepL K F H l vs
  | .dK ks l, v => ∃ a vs, v = .ref a ∧ F a ∧ H a = some (.dK (ks.zip vs)) ∧ ks.length = vs.length ∧ RepL K F H l vs
def RepL (K : PySem.W.Frag) (F : Fz) (H : Hp) : List W → List V → Prop
  | [], vs => vs = []
  | w :: l, vs => ∃ v r, vs = v :: r ∧ Rep K F H w v ∧ RepL K F H l r
end
/-- what is not to change stays: the frozen, and what never changes -/
structure Keeps (F : Fz) (H : Hp) (F' : Fz) (H' : Hp) : Prop where
  f : ∀ a, F a → F' a
  h : ∀ a o, H a = some o → (F a ∨ ¬ Mut (some o)) → H' a = some o
section
variable {K : PySem.W.Frag} {F F' F1 F2 : Fz} {H H' H1 H2 : Hp}
theorem Keeps.refl : Keeps F H F H := ⟨fun _ h => h, fun _ _ h _ => h⟩
theorem Keeps.trans (a : Keeps F H F1 H1) (b : Keeps F1 H1 F2 H2) : Keeps F H F2 H2 :=
  ⟨fun x h => b.f x (a.f x h), fun x o h m => b.h x o (a.h x o h m) (m.imp (a.f x) id)⟩
theorem Keeps.sqU (k : Keeps F H F' H') {a : Addr} {vs : List V} (h : SqU K H a vs) : SqU K H' a vs := by
  rcases h with h | h
  · exact .inl (k.h a _ h (.inr (fun q => q)))
  · exact .inr h
theorem Keeps.frl (k : Keeps F H F' H') {a : Addr} {vs : List V} (h : FrlL K H a vs) : FrlL K H' a vs := by
  rcases h with ⟨o, h⟩ | h
  · exact .inl ⟨o, k.h a _ h (.inr (fun q => q))⟩
  · exact .inr h
mutual
theorem Rep.mono (k : Keeps F H F' H') : ∀ (w : W) {v : V}, Rep K F H w v → Rep K F' H' w v
  | .non, _, h => h
  | .bl _, _, h => h
  | .int _, _, h => h
  | .str _, _, h => h
  | .fn _, _, h => h
  | .ty _, _, h => h
  | .tup l, _, h => by
    obtain ⟨a, vs, e, s, r⟩ := h
    exact ⟨a, vs, e, k.sqU s, RepL.mono k l r⟩
  | .lst l, _, h => by
    obtain ⟨a, vs, e, f, s, r⟩ := h
    exact ⟨a, vs, e, k.f a f, k.h a _ s (.inl f), RepL.mono k l r⟩
  | .frl l, _, h => by
    obtain ⟨a, vs, e, s, r⟩ := h
    exact ⟨a, vs, e, k.frl s, RepL.mono k l r⟩
  | .dK ks l, _, h => by
    obtain ⟨a, vs, e, f, s, n, r⟩ := h
    exact ⟨a, vs, e, k.f a f, k.h a _ s (.inl f), n, RepL.mono k l r⟩
theorem RepL.mono (k : Keeps F H F' H') : ∀ (l : List W) {vs : List V}, RepL K F H l vs → RepL K F' H' l vs
  | [], _, h => h
  | w :: l, _, h => by
    obtain ⟨v, r, e, h1, h2⟩ := h
    exact ⟨v, r, e, Rep.mono k w h1, RepL.mono k l h2⟩
end
theorem RepL.len : ∀ {l : List W} {vs : List V}, RepL K F H l vs → l.length = vs.length
  | [], _, h => by cases h; rfl
  | w :: l, _, h => by
    obtain ⟨v, r, rfl, _, h2⟩ := h
    rw [List.length_cons, List.length_cons, RepL.len h2]
theorem RepL.get : ∀ {l : List W} {vs : List V} {i : Nat} {w : W}, RepL K F H l vs → l[i]? = some w → ∃ v, vs[i]? = some v ∧ Rep K F H w v
  | [], _, _, _, _, e => by simp at e
  | w :: l, _, 0, u, h, e => by
    obtain ⟨v, r, rfl, h1, h2⟩ := h
    have e1 : w = u := Option.some.inj e
    subst e1
    exact ⟨v, rfl, h1⟩
  | w :: l, _, i + 1, u, h, e => by
    obtain ⟨v, r, rfl, h1, h2⟩ := h
    have q := RepL.get (l := l) (vs := r) (i := i) (w := u) h2 e
    exact q
theorem RepL.append : ∀ {l m : List W} {vs us : List V}, RepL K F H l vs → RepL K F H m us → RepL K F H (l ++ m) (vs ++ us)
  | [], _, _, _, h, h' => by cases h; exact h'
  | w :: l, _, _, _, h, h' => by
    obtain ⟨v, r, rfl, h1, h2⟩ := h
    exact ⟨v, r ++ _, rfl, h1, RepL.append h2 h'⟩
theorem RepL.nil : RepL K F H [] [] := rfl
theorem RepL.cons {w : W} {l : List W} {v : V} {vs : List V} (h : Rep K F H w v) (r : RepL K F H l vs) : RepL K F H (w :: l) (v :: vs) := ⟨v, vs, rfl, h, r⟩
theorem RepL.take : ∀ {l : List W} {vs : List V} (n : Nat), RepL K F H l vs → RepL K F H (l.take n) (vs.take n)
  | _, _, 0, _ => rfl
  | [], _, n + 1, h => by cases h; rfl
  | w :: l, _, n + 1, h => by
    obtain ⟨v, r, rfl, h1, h2⟩ := h
    exact ⟨v, _, rfl, h1, RepL.take n h2⟩
theorem RepL.drop : ∀ {l : List W} {vs : List V} (n : Nat), RepL K F H l vs → RepL K F H (l.drop n) (vs.drop n)
  | _, _, 0, h => h
  | [], _, n + 1, h => by cases h; rfl
  | w :: l, _, n + 1, h => by
    obtain ⟨v, r, rfl, h1, h2⟩ := h
    exact RepL.drop (l := l) n h2
theorem RepL.reverse : ∀ {l : List W} {vs : List V}, RepL K F H l vs → RepL K F H l.reverse vs.reverse
  | [], _, h => by cases h; rfl
  | w :: l, _, h => by
    obtain ⟨v, r, rfl, h1, h2⟩ := h
    rw [List.reverse_cons, List.reverse_cons]
    exact RepL.append (RepL.reverse h2) (RepL.cons h1 RepL.nil)
theorem RepL.set : ∀ {l : List W} {vs : List V} (n : Nat) {w : W} {v : V}, RepL K F H l vs → Rep K F H w v → RepL K F H (l.set n w) (vs.set n v)
  | [], _, _, _, _, h, _ => by cases h; rfl
  | x :: l, _, 0, _, _, h, hv => by
    obtain ⟨u, r, rfl, _, h2⟩ := h
    exact ⟨_, r, rfl, hv, h2⟩
  | x :: l, _, n + 1, _, _, h, hv => by
    obtain ⟨u, r, rfl, h1, h2⟩ := h
    exact ⟨u, _, rfl, h1, RepL.set n h2 hv⟩
theorem RepL.get' {l : List W} {vs : List V} {i : Nat} {v : V} (h : RepL K F H l vs) (e : vs[i]? = some v) : ∃ w, l[i]? = some w ∧ Rep K F H w v := by
  have hi := (List.getElem?_eq_some_iff.mp e).1
  rw [← h.len] at hi
  obtain ⟨u, eu, r⟩ := h.get (List.getElem?_eq_getElem hi)
  rw [e] at eu
  cases eu
  exact ⟨_, List.getElem?_eq_getElem hi, r⟩
end
/-! ### the frame -/
inductive Sl where
  | no | val (w : W) | own (w : W)
abbrev Rho := List Sl
/-- the frame's entry: the heap, the frozen, the slots whose lists the caller lent -/
structure Bd where
  H0 : Hp
  F0 : Fz
  I : List (Nat × Addr)
def Bd.kept (B : Bd) (a : Addr) : Prop := B.H0 a ≠ none ∧ ∀ p ∈ B.I, p.2 ≠ a
/-- the object at a is w's, to be changed -/
def OwnR (K : PySem.W.Frag) (F : Fz) (H : Hp) (w : W) (a : Addr) : Prop := match w with
  | .lst l => ∃ vs, H a = some (.lst vs) ∧ RepL K F H l vs
  | .dK ks l => ∃ vs, H a = some (.dK (ks.zip vs)) ∧ ks.length = vs.length ∧ RepL K F H l vs
  | _ => False
def SlR (K : PySem.W.Frag) (B : Bd) (F : Fz) (H : Hp) : Sl → Option (Option V) → Prop
  | .no, _ => True
  | .val w, o => ∃ v, o = some (some v) ∧ Rep K F H w v
  | .own w, o => ∃ a, o = some (some (.ref a)) ∧ OwnR K F H w a ∧ ¬ F a ∧ ¬ B.kept a
structure SR (K : PySem.W.Frag) (B : Bd) (F : Fz) (H : Hp) (σ : L2.St) (ρ : Rho) : Prop where
  len : σ.length = ρ.length
  slot : ∀ (i : Nat) (s : Sl), ρ[i]? = some s → SlR K B F H s σ[i]?
  sep : ∀ (i j : Nat) (w w' : W) (a : Addr), ρ[i]? = some (.own w) → ρ[j]? = some (.own w') → σ[i]? = some (some (.ref a)) → σ[j]? = some (some (.ref a)) → i = j
  lent : ∀ p ∈ B.I, σ[p.1]? = some (some (.ref p.2)) ∧ ∃ w, ρ[p.1]? = some (.own w)
  ext : ∀ a o, B.kept a → B.H0 a = some o → H a = some o
  alive : ∀ a, B.H0 a ≠ none → H a ≠ none
  f0 : ∀ a, B.F0 a → F a
  f1 : ∀ a, F a → B.F0 a ∨ B.H0 a = none
  f2 : ∀ a, F a → H a ≠ none
/-- all that was tracked stands (but at I); new frozen are new -/
structure Ext (I : List Addr) (F : Fz) (H : Hp) (F' : Fz) (H' : Hp) : Prop where
  h : ∀ a o, a ∉ I → H a = some o → H' a = some o
  f : ∀ a, F a → F' a
  g : ∀ a, F' a → F a ∨ H a = none
  t : ∀ a, F' a → H' a ≠ none
section
variable {K : PySem.W.Frag} {B : Bd} {F F' F1 F2 : Fz} {H H' H1 H2 : Hp} {σ : L2.St} {ρ : Rho}
theorem Ext.keeps (e : Ext [] F H F' H') : Keeps F H F' H' := ⟨e.f, fun a o h _ => e.h a o (by simp) h⟩
theorem Ext.refl (t : ∀ a, F a → H a ≠ none) : Ext [] F H F H := ⟨fun _ _ _ h => h, fun _ h => h, fun _ h => .inl h, t⟩
theorem Ext.trans (a : Ext [] F H F1 H1) (b : Ext [] F1 H1 F2 H2) : Ext [] F H F2 H2 :=
  ⟨fun x o n h => b.h x o n (a.h x o n h), fun x h => b.f x (a.f x h), fun x h => (by
    rcases b.g x h with q | q
    · exact a.g x q
    · right
      cases e : H x with
      | none => rfl
      | some o => rw [a.h x o (by simp) e] at q; cases q), b.t⟩
/-- a new object -/
theorem Ext.new {a : Addr} {o : HO} (n : H a = none) (t : ∀ a, F a → H a ≠ none) : Ext [] F H F (upd H a o) :=
  ⟨fun x u _ h => by rw [upd_ne (ne_of_none h n)]; exact h, fun _ h => h, fun _ h => .inl h, fun x h => by
    by_cases e : x = a
    · rw [e, upd_same]; exact fun q => nomatch q
    · rw [upd_ne e]; exact t x h⟩
theorem OwnR.mono {w : W} {a : Addr} (e : Ext [] F H F' H') (h : OwnR K F H w a) : OwnR K F' H' w a := by
  cases w with
  | lst l => obtain ⟨vs, h1, h2⟩ := h; exact ⟨vs, e.h a _ (by simp) h1, h2.mono e.keeps⟩
  | dK ks l => obtain ⟨vs, h1, n, h2⟩ := h; exact ⟨vs, e.h a _ (by simp) h1, n, h2.mono e.keeps⟩
  | _ => exact h
theorem OwnR.some {w : W} {a : Addr} (h : OwnR K F H w a) : ∃ o, H a = some o ∧ Mut (some o) := by
  cases w with
  | lst l => obtain ⟨vs, h1, h2⟩ := h; exact ⟨_, h1, trivial⟩
  | dK ks l => obtain ⟨vs, h1, n, h2⟩ := h; exact ⟨_, h1, trivial⟩
  | _ => exact h.elim
theorem OwnR.rep {w : W} {a : Addr} (h : OwnR K F H w a) (f : F a) : Rep K F H w (.ref a) := by
  cases w with
  | lst l => obtain ⟨vs, h1, h2⟩ := h; exact ⟨a, vs, rfl, f, h1, h2⟩
  | dK ks l => obtain ⟨vs, h1, n, h2⟩ := h; exact ⟨a, vs, rfl, f, h1, n, h2⟩
  | _ => exact h.elim
theorem SR.grow (S : SR K B F H σ ρ) (e : Ext [] F H F' H') : SR K B F' H' σ ρ where
  len := S.len
  slot := fun i s h => by
    have q := S.slot i s h
    cases s with
    | no => trivial
    | val w => obtain ⟨v, e1, r⟩ := q; exact ⟨v, e1, r.mono e.keeps⟩
    | own w =>
      obtain ⟨a, e1, o, nf, nk⟩ := q
      refine ⟨a, e1, o.mono e, fun f => ?_, nk⟩
      rcases e.g a f with f | f
      · exact nf f
      · obtain ⟨u, hu, _⟩ := o.some
        rw [hu] at f; cases f
  sep := S.sep
  lent := S.lent
  ext := fun a o k h => e.h a o (by simp) (S.ext a o k h)
  f0 := fun a h => e.f a (S.f0 a h)
  alive := fun a h q => S.alive a h (by
    cases e1 : H a with
    | none => rfl
    | some o => rw [e.h a o (by simp) e1] at q; cases q)
  f1 := fun a h => by
    rcases e.g a h with q | q
    · exact S.f1 a q
    · right
      cases e1 : B.H0 a with
      | none => rfl
      | some o => exact absurd q (S.alive a (by rw [e1]; exact fun z => nomatch z))
  f2 := e.t
/-! ### values of expressions -/
inductive Md where
  | val | fre | bor (i : Nat)
def Fre (K : PySem.W.Frag) (B : Bd) (F : Fz) (H : Hp) (σ : L2.St) (ρ : Rho) (w : W) (v : V) : Prop :=
  ∃ a, v = .ref a ∧ OwnR K F H w a ∧ ¬ F a ∧ B.H0 a = none ∧ ∀ (i : Nat) (w' : W), ρ[i]? = some (.own w') → σ[i]? ≠ some (some (.ref a))
def VR (K : PySem.W.Frag) (B : Bd) (F : Fz) (H : Hp) (σ : L2.St) (ρ : Rho) (m : Md) (w : W) (v : V) : Prop := match m with
  | .val => Rep K F H w v
  | .fre => Fre K B F H σ ρ w v
  | .bor i => ρ[i]? = some (.own w) ∧ σ[i]? = some (some v)
/-- freeze the list at a, that nobody has in a slot -/
theorem SR.freeze (S : SR K B F H σ ρ) {a : Addr} (n : ¬ F a) (h : H a ≠ none) (h0 : B.H0 a = none) (hs : ∀ (i : Nat) (w' : W), ρ[i]? = some (.own w') → σ[i]? ≠ some (some (.ref a))) :
    SR K B (fun b => F b ∨ b = a) H σ ρ ∧ Keeps F H (fun b => F b ∨ b = a) H := by
  have k : Keeps F H (fun b => F b ∨ b = a) H := ⟨fun _ h => .inl h, fun _ _ h _ => h⟩
  refine ⟨⟨S.len, fun i s h => ?_, S.sep, S.lent, S.ext, S.alive, fun b h => .inl (S.f0 b h), fun b h => ?_, fun b h => ?_⟩, k⟩
  · have q := S.slot i s h
    cases s with
    | no => trivial
    | val w => obtain ⟨v, e1, r⟩ := q; exact ⟨v, e1, r.mono k⟩
    | own w =>
      obtain ⟨b, e1, o, nf, nk⟩ := q
      refine ⟨b, e1, ?_, fun f => ?_, nk⟩
      · cases w with
        | lst l => obtain ⟨vs, h1, h2⟩ := o; exact ⟨vs, h1, h2.mono k⟩
        | dK ks l => obtain ⟨vs, h1, n, h2⟩ := o; exact ⟨vs, h1, n, h2.mono k⟩
        | _ => exact o
      · rcases f with f | f
        · exact nf f
        · rw [f] at e1
          exact hs i w h e1
  · rcases h with h | h
    · exact S.f1 b h
    · rw [h]; exact .inr h0
  · rcases h with h | h
    · exact S.f2 b h
    · rw [h]; assumption
/-- a slot is forgotten -/
def unlent (B : Bd) (i : Nat) : Prop := i ∉ B.I.map (·.1)
theorem SR.lent_set (S : SR K B F H σ ρ) {i : Nat} (u : unlent B i) (s : Sl) : ∀ p ∈ B.I, σ[p.1]? = some (some (.ref p.2)) ∧ ∃ w, (ρ.set i s)[p.1]? = some (.own w) := fun p hp => by
  obtain ⟨h1, w, h2⟩ := S.lent p hp
  have n : i ≠ p.1 := fun e => u (List.mem_map.mpr ⟨p, hp, e.symm⟩)
  exact ⟨h1, w, by rw [List.getElem?_set_ne n]; exact h2⟩
theorem SR.drop (S : SR K B F H σ ρ) {i : Nat} (u : unlent B i) : SR K B F H σ (ρ.set i .no) := by
  have hh : ∀ j s, (ρ.set i .no)[j]? = some s → s = .no ∨ (j ≠ i ∧ ρ[j]? = some s) := fun j s h => by
    by_cases e : j = i
    · subst e
      rw [List.getElem?_set] at h
      split at h
      · split at h
        · left; exact (Option.some.inj h).symm
        · cases h
      · rename_i n; exact absurd rfl n
    · right
      rw [List.getElem?_set_ne (Ne.symm e)] at h
      exact ⟨e, h⟩
  refine ⟨by rw [List.length_set]; exact S.len, fun j s h => ?_, fun j k w w' a h1 h2 e1 e2 => ?_, S.lent_set u _, S.ext, S.alive, S.f0, S.f1, S.f2⟩
  · rcases hh j s h with e | ⟨_, e⟩
    · subst e; trivial
    · exact S.slot j s e
  · rcases hh j _ h1 with e | ⟨_, g1⟩
    · cases e
    · rcases hh k _ h2 with e | ⟨_, g2⟩
      · cases e
      · exact S.sep j k w w' a g1 g2 e1 e2
/-- a slot bears another word about the same value -/
theorem SR.again (S : SR K B F H σ ρ) {i : Nat} {w : W} (u : unlent B i) (h : SlR K B F H (.val w) σ[i]?) : SR K B F H σ (ρ.set i (.val w)) := by
  have hh : ∀ j s, (ρ.set i (.val w))[j]? = some s → (j = i ∧ s = .val w) ∨ (j ≠ i ∧ ρ[j]? = some s) := fun j s h => by
    by_cases e : j = i
    · subst e
      rw [List.getElem?_set] at h
      split at h
      · split at h
        · left; exact ⟨rfl, (Option.some.inj h).symm⟩
        · cases h
      · rename_i n; exact absurd rfl n
    · right
      rw [List.getElem?_set_ne (Ne.symm e)] at h
      exact ⟨e, h⟩
  refine ⟨by rw [List.length_set]; exact S.len, fun j s h' => ?_, fun j k z z' a h1 h2 e1 e2 => ?_, S.lent_set u _, S.ext, S.alive, S.f0, S.f1, S.f2⟩
  · rcases hh j s h' with ⟨e, e'⟩ | ⟨_, e⟩
    · subst e; subst e'; exact h
    · exact S.slot j s e
  · rcases hh j _ h1 with ⟨_, e⟩ | ⟨_, g1⟩
    · cases e
    · rcases hh k _ h2 with ⟨_, e⟩ | ⟨_, g2⟩
      · cases e
      · exact S.sep j k z z' a g1 g2 e1 e2
/-- an own slot that is not lent holds a list made behind the entry -/
theorem SR.new_of (S : SR K B F H σ ρ) {i : Nat} {w : W} {a : Addr} (h : ρ[i]? = some (.own w)) (e : σ[i]? = some (some (.ref a))) (ui : unlent B i) : B.H0 a = none := by
  obtain ⟨b, eb, _, _, nk⟩ := S.slot i _ h
  rw [e] at eb
  cases eb
  cases q : B.H0 a with
  | none => rfl
  | some o =>
    exfalso
    refine nk ⟨by rw [q]; exact (fun z => nomatch z), fun p hp z => ?_⟩
    obtain ⟨h1, w', h2⟩ := S.lent p hp
    exact ui (List.mem_map.mpr ⟨p, hp, S.sep p.1 i w' w a h2 h (by rw [h1, z]) e⟩)
end
/-! ### results -/
inductive R (α : Type) where
  | ok (a : α) (ρ : Rho)
  | exc (c : Str) (ns : List Str) (ws : List W) (ρ : Rho)
  | stk
def R.bind {α β : Type} (r : R α) (k : α → Rho → R β) : R β := match r with
  | .ok a ρ => k a ρ
  | .exc c ns ws ρ => .exc c ns ws ρ
  | .stk => .stk
def lift {α : Type} (o : Option α) (ρ : Rho) : R α := match o with
  | some a => .ok a ρ
  | none => .stk
/-- an exception's fields in its own dict -/
def ExF (K : PySem.W.Frag) (F : Fz) (H : Hp) (ns : List Str) (ws : List W) (d : Option Addr) : Prop := match ns with
  | [] => d = none ∧ ws = []
  | _ => ∃ dd vs, d = some dd ∧ H dd = some (.xd (ns.zip vs)) ∧ ns.length = vs.length ∧ RepL K F H ws vs
/-- where one stands: classes of errors by names, the entry, what is wanted of an error, the lent slots -/
structure Yx (I : List Nat) where
  ct : Str → Addr
  B : Bd
  wx : WX
  hI : B.I.map (·.1) = I
variable {I : List Nat}
theorem Yx.un (Y : Yx I) {i : Nat} (h : i ∉ I) : unlent Y.B i := by
  unfold unlent
  rw [Y.hI]
  exact h
def RunG {β : Type} (K : PySem.W.Frag) (Y : Yx I) (F : Fz) (H : Hp) (σ : L2.St) (r : R β) (P : β → Rho → Fz → Hp → Prop) : Prop := match r with
  | .ok b ρ' => ∀ F' H', SR K Y.B F' H' σ ρ' → Keeps F H F' H' → P b ρ' F' H'
  | .exc c ns ws ρ' => ∀ F' H' d, SR K Y.B F' H' σ ρ' → ExF K F' H' ns ws d → Y.wx (.ref (Y.ct c)) d σ H'
  | .stk => False
section
variable {K : PySem.W.Frag} {Y : Yx I} {F F' F1 F2 : Fz} {H H' H1 H2 : Hp} {σ : L2.St} {ρ : Rho} {β γ : Type}
theorem RunG.rebase {r : R β} {P : β → Rho → Fz → Hp → Prop} (h : RunG K Y F H σ r P) (k : Keeps F H F1 H1) : RunG K Y F1 H1 σ r P := by
  cases r with
  | ok b ρ' => exact fun F' H' S k' => h F' H' S (k.trans k')
  | exc c ns ws ρ' => exact h
  | stk => exact h
theorem RunG.bind {r : R β} {k : β → Rho → R γ} {P : γ → Rho → Fz → Hp → Prop} (h : RunG K Y F H σ (r.bind k) P) : RunG K Y F H σ r fun b ρ1 F1 H1 => RunG K Y F1 H1 σ (k b ρ1) P := by
  cases r with
  | ok b ρ' => exact fun F' H' S k' => RunG.rebase (show RunG K Y F H σ (k b ρ') P from h) k'
  | exc c ns ws ρ' => exact h
  | stk => exact h
theorem RunG.imp {r : R β} {P P' : β → Rho → Fz → Hp → Prop} (h : RunG K Y F H σ r P) (q : ∀ b ρ' F' H', SR K Y.B F' H' σ ρ' → Keeps F H F' H' → P b ρ' F' H' → P' b ρ' F' H') : RunG K Y F H σ r P' := by
  cases r with
  | ok b ρ' => exact fun F' H' S k' => q _ _ _ _ S k' (h F' H' S k')
  | exc c ns ws ρ' => exact h
  | stk => exact h
/-- an expression's reading by its mirror -/
def tM (K : PySem.W.Frag) (Y : Yx I) (f : Rho → R (Md × W)) : TE := fun σ H Q => ∃ F ρ, SR K Y.B F H σ ρ ∧ RunG K Y F H σ (f ρ) fun b ρ' F' H' => ∀ v, VR K Y.B F' H' σ ρ' b.1 b.2 v → Q v H'
def PEM (X : Cx) (Y : Yx I) (e : Expr) (f : Rho → R (Md × W)) : Prop := PE X e (tM X.K Y f)
theorem pe_weak {X : Cx} {e : Expr} {t t' : TE} (h : PE X e t) (q : ∀ σ H Q, t' σ H Q → t σ H Q) : PE X e t' := ⟨fun pins s σ H Q I hq => h.run pins s σ H Q I (q _ _ _ hq)⟩
/-! ### held, peeked, kept values -/
def Held (σ : L2.St) (K : PySem.W.Frag) (F : Fz) (H : Hp) (m : Md) (w : W) (v : V) : Prop := match m with
  | .val => Rep K F H w v
  | .fre => Rep K F H w v
  | .bor i => σ[i]? = some (some v)
theorem SR.hold (S : SR K Y.B F H σ ρ) {m : Md} {w : W} {v : V} (h : VR K Y.B F H σ ρ m w v) : ∃ F', SR K Y.B F' H σ ρ ∧ Keeps F H F' H ∧ Held σ K F' H m w v := by
  cases m with
  | val => exact ⟨F, S, .refl, h⟩
  | fre =>
    obtain ⟨a, rfl, o, nf, h0, hs⟩ := h
    obtain ⟨u, hu, _⟩ := o.some
    obtain ⟨S', k⟩ := S.freeze nf (by rw [hu]; exact (fun z => nomatch z)) h0 hs
    refine ⟨_, S', k, ?_⟩
    have o' : OwnR K (fun b => F b ∨ b = a) H w a := by
      cases w with
      | lst l => obtain ⟨vs, h1, h2⟩ := o; exact ⟨vs, h1, h2.mono k⟩
      | dK ks l => obtain ⟨vs, h1, n, h2⟩ := o; exact ⟨vs, h1, n, h2.mono k⟩
      | _ => exact o
    exact o'.rep (.inr rfl)
  | bor i => exact ⟨F, S, .refl, h.2⟩
def PkR (K : PySem.W.Frag) (F : Fz) (H : Hp) (w : W) (v : V) : Prop := Rep K F H w v ∨ ∃ a, v = .ref a ∧ OwnR K F H w a
def peek (m : Md) (w : W) (ρ : Rho) : Option W := match m with
  | .val => some w
  | .fre => some w
  | .bor i => match ρ[i]? with
    | some (.own u) => some u
    | some (.val u) => some u
    | _ => none
theorem SR.peek (S : SR K Y.B F H σ ρ) {m : Md} {w u : W} {v : V} (h : Held σ K F1 H1 m w v) (k : Keeps F1 H1 F H) (e : peek m w ρ = some u) : PkR K F H u v := by
  cases m with
  | val => cases e; exact .inl (Rep.mono k w h)
  | fre => cases e; exact .inl (Rep.mono k w h)
  | bor i =>
    have h' : σ[i]? = some (some v) := h
    unfold ML.peek at e
    dsimp only at e
    cases q : ρ[i]? with
    | none => rw [q] at e; cases e
    | some s =>
      rw [q] at e
      have z := S.slot i s q
      cases s with
      | no => cases e
      | val x =>
        cases e
        obtain ⟨v', e1, r⟩ := z
        rw [h'] at e1
        cases e1
        exact .inl r
      | own x =>
        cases e
        obtain ⟨a, e1, o, _, _⟩ := z
        rw [h'] at e1
        cases e1
        exact .inr ⟨a, rfl, o⟩
/-- made a value: nobody changes it any more -/
def toVal (I : List Nat) (b : Md × W) (ρ : Rho) : R W := match b.1 with
  | .val => .ok b.2 ρ
  | .fre => .ok b.2 ρ
  | .bor i => match ρ[i]? with
    | some (.own u) => if i ∈ I then .stk else .ok u (ρ.set i (.val u))
    | some (.val u) => .ok u ρ
    | _ => .stk
theorem SR.toValH (S : SR K Y.B F H σ ρ) {b : Md × W} {v : V} (h : Held σ K F1 H1 b.1 b.2 v) (k1 : Keeps F1 H1 F H) {P : W → Rho → Fz → Hp → Prop} (q : RunG K Y F H σ (toVal I b ρ) P) : ∃ F' w ρ', SR K Y.B F' H σ ρ' ∧ Keeps F H F' H ∧ Rep K F' H w v ∧ P w ρ' F' H := by
  obtain ⟨m, w⟩ := b
  cases m with
  | val => exact ⟨F, w, ρ, S, .refl, Rep.mono k1 w h, q F H S .refl⟩
  | fre => exact ⟨F, w, ρ, S, .refl, Rep.mono k1 w h, q F H S .refl⟩
  | bor i =>
    have h2' : σ[i]? = some (some v) := h
    unfold ML.toVal at q
    dsimp only at q
    cases g : ρ[i]? with
    | none => rw [g] at q; exact q.elim
    | some sl =>
      rw [g] at q
      cases sl with
      | no => exact q.elim
      | val u =>
        obtain ⟨v', e1, r⟩ := S.slot i _ g
        rw [h2'] at e1
        cases e1
        exact ⟨F, u, ρ, S, .refl, r, q F H S .refl⟩
      | own u =>
        dsimp only at q
        split at q
        · exact q.elim
        · rename_i n
          have ui := Y.un n
          obtain ⟨a, e1, o, nf, nk⟩ := S.slot i _ g
          rw [h2'] at e1
          cases e1
          have h0 := S.new_of g h2' ui
          have Sd := S.drop ui
          obtain ⟨z, hu, _⟩ := o.some
          have hs : ∀ (j : Nat) (w' : W), (ρ.set i .no)[j]? = some (.own w') → σ[j]? ≠ some (some (.ref a)) := fun j w' hj ej => by
            by_cases e : i = j
            · subst e
              rw [List.getElem?_set] at hj
              split at hj
              · split at hj <;> cases hj
              · rename_i n; exact n rfl
            · rw [List.getElem?_set_ne e] at hj
              exact e (S.sep i j _ _ a g hj h2' ej)
          obtain ⟨S', k⟩ := Sd.freeze nf (by rw [hu]; exact (fun z => nomatch z)) h0 hs
          have o' : OwnR K (fun b => F b ∨ b = a) H u a := by
            cases u with
            | lst l => obtain ⟨vs, h1, h2⟩ := o; exact ⟨vs, h1, h2.mono k⟩
            | dK ks l => obtain ⟨vs, h1, n, h2⟩ := o; exact ⟨vs, h1, n, h2.mono k⟩
            | _ => exact o
          have r := o'.rep (.inr rfl)
          have S2 := S'.again (w := u) ui ⟨.ref a, h2', r⟩
          rw [List.set_set] at S2
          exact ⟨_, u, _, S2, k, r, q _ H S2 k⟩
theorem SR.toVal (S : SR K Y.B F H σ ρ) {b : Md × W} {v : V} (h : VR K Y.B F H σ ρ b.1 b.2 v) {P : W → Rho → Fz → Hp → Prop} (q : RunG K Y F H σ (toVal I b ρ) P) : ∃ F' w ρ', SR K Y.B F' H σ ρ' ∧ Keeps F H F' H ∧ Rep K F' H w v ∧ P w ρ' F' H := by
  obtain ⟨F1, S1, k1, h1⟩ := S.hold h
  obtain ⟨F2, w, ρ2, S2, k2, r, p⟩ := S1.toValH h1 .refl (q.rebase k1)
  exact ⟨F2, w, ρ2, S2, k1.trans k2, r, p⟩
/-- what an operation makes anew -/
def NewR (K : PySem.W.Frag) (H : Hp) (F' : Fz) (H' : Hp) (m : Md) (z : W) (v : V) : Prop := match m with
  | .val => Rep K F' H' z v
  | .fre => ∃ a, v = .ref a ∧ OwnR K F' H' z a ∧ ¬ F' a ∧ H a = none
  | .bor _ => False
theorem SR.newR (S : SR K Y.B F H σ ρ) (e : Ext [] F H F' H') {m : Md} {z : W} {v : V} (h : NewR K H F' H' m z v) : VR K Y.B F' H' σ ρ m z v := by
  cases m with
  | val => exact h
  | fre =>
    obtain ⟨a, rfl, o, nf, n⟩ := h
    refine ⟨a, rfl, o, nf, ?_, fun i w' hi ei => ?_⟩
    · cases q : Y.B.H0 a with
      | none => rfl
      | some u => exact absurd n (S.alive a (by rw [q]; exact (fun z => nomatch z)))
    · obtain ⟨b, eb, ob, _, _⟩ := S.slot i _ hi
      rw [ei] at eb
      cases eb
      obtain ⟨u, hu, _⟩ := ob.some
      rw [n] at hu; cases hu
  | bor i => exact h.elim
theorem lift_ok {o : Option β} {P : β → Rho → Fz → Hp → Prop} (h : RunG K Y F H σ (lift o ρ) P) : ∃ b, o = some b ∧ ∀ F' H', SR K Y.B F' H' σ ρ → Keeps F H F' H' → P b ρ F' H' := by
  cases o with
  | none => exact h.elim
  | some b => exact ⟨b, rfl, h⟩
end
end ML

set_option maxHeartbeats 4000000
namespace ML
open PySem PySem.Spec PyProof.Rows L2
variable {I : List Nat}
section
variable {X : Cx} {Y : Yx I} {e a b : Expr} {pos : Pos} {fa fb : Rho → R (Md × W)}
/-! ### names, constants -/
def mVar (i : Nat) : Rho → R (Md × W) := fun ρ => match ρ[i]? with
  | some (.val w) => .ok (.val, w) ρ
  | some (.own w) => .ok (.bor i, w) ρ
  | _ => .stk
theorem pem_var (i : Nat) (h : PE X e (tVar i)) : PEM X Y e (mVar i) := pe_weak h fun σ H Q hq => by
  obtain ⟨F, ρ, S, q⟩ := hq
  unfold mVar at q
  cases g : ρ[i]? with
  | none => rw [g] at q; exact q.elim
  | some sl =>
    rw [g] at q
    cases sl with
    | no => exact q.elim
    | val w =>
      obtain ⟨v, ev, r⟩ := S.slot i _ g
      exact ⟨v, ev, q F H S .refl v r⟩
    | own w =>
      obtain ⟨c, ev, _⟩ := S.slot i _ g
      exact ⟨_, ev, q F H S .refl _ ⟨g, ev⟩⟩
def mC (w : W) : Rho → R (Md × W) := fun ρ => .ok (.val, w) ρ
theorem pem_c {w : W} {v : V} (h : PE X e (tC v)) (r : ∀ F H, Rep X.K F H w v) : PEM X Y e (mC w) := pe_weak h fun σ H Q hq => by
  obtain ⟨F, ρ, S, q⟩ := hq
  exact q F H S .refl v (r F H)
theorem pem_int {i j pos} : PEM X Y (.Constant (.int i) j pos) (mC (.int i)) := pem_c pe_int fun _ _ => rfl
theorem pem_bl {b j pos} : PEM X Y (.Constant (.bool b) j pos) (mC (.bl b)) := pem_c pe_bl fun _ _ => rfl
theorem pem_non {j pos} : PEM X Y (.Constant .none j pos) (mC .non) := pem_c pe_non fun _ _ => rfl
theorem pem_str {x j pos} : PEM X Y (.Constant (.str x) j pos) (mC (.str x)) := pem_c pe_str fun _ _ => rfl
/-! ### operators -/
def Tight (F : Fz) (H : Hp) : Prop := ∀ a, F a → H a ≠ none
def OpW (K : PySem.W.Frag) (r : R2) (g : W → W → Option (Md × W)) : Prop := ∀ x y m z, g x y = some (m, z) → ∀ (F : Fz) (H : Hp) (vx vy : V) (Q : VK), Tight F H → PkR K F H x vx → PkR K F H y vy →
  (∀ F' H' v, Ext [] F H F' H' → NewR K H F' H' m z v → Q v H') → r vx vy H Q
def mOp (g : W → W → Option (Md × W)) (fa fb : Rho → R (Md × W)) : Rho → R (Md × W) := fun ρ => (fa ρ).bind fun x ρ1 => (fb ρ1).bind fun y ρ2 =>
  match peek x.1 x.2 ρ2, peek y.1 y.2 ρ2 with
  | some u, some v => lift (g u v) ρ2
  | _, _ => .stk
theorem tOp_of {K : PySem.W.Frag} {r : R2} {g : W → W → Option (Md × W)} (hg : OpW K r g) {σ : L2.St} {H : Hp} {Q : VK} (hq : tM K Y (mOp g fa fb) σ H Q) : tOp r (tM K Y fa) (tM K Y fb) σ H Q := by
  obtain ⟨F, ρ, S, q⟩ := hq
  refine ⟨F, ρ, S, (RunG.bind q).imp fun x ρ1 F1 H1 S1 k1 q1 v1 hv1 => ?_⟩
  obtain ⟨F1', S1', k1', hd1⟩ := S1.hold hv1
  refine ⟨F1', ρ1, S1', (RunG.bind (q1.rebase k1')).imp fun y ρ2 F2 H2 S2 k2 q2 v2 hv2 => ?_⟩
  obtain ⟨F2', S2', k2', hd2⟩ := S2.hold hv2
  have q3 := q2.rebase k2'
  cases e1 : peek x.1 x.2 ρ2 with
  | none => rw [e1] at q3; exact q3.elim
  | some u =>
    cases e2 : peek y.1 y.2 ρ2 with
    | none => rw [e1, e2] at q3; exact q3.elim
    | some w =>
      rw [e1, e2] at q3
      obtain ⟨⟨m, z⟩, ez, qz⟩ := lift_ok q3
      refine hg u w m z ez F2' H2 v1 v2 Q S2'.f2 (S2'.peek hd1 (k2.trans k2') e1) (S2'.peek hd2 .refl e2) fun F' H' v ee hn => ?_
      exact qz F' H' (S2'.grow ee) ee.keeps v (S2'.newR ee hn)
theorem pem_op {op : Operator} {r : R2} {g : W → W → Option (Md × W)} (ho : OpR X (binaryOp op) r) (hg : OpW X.K r g) (ha : PEM X Y a fa) (hb : PEM X Y b fb) : PEM X Y (.BinOp a op b pos) (mOp g fa fb) :=
  pe_weak (pe_op ho ha hb) fun σ H Q hq => tOp_of hg hq
theorem pem_cmp {op : CmpOp} {r : R2} {g : W → W → Option (Md × W)} (ho : OpR X (compareOp op) r) (hg : OpW X.K r g) (ha : PEM X Y a fa) (hb : PEM X Y b fb) (hm : behindInMarks op b = false) : PEM X Y (.Compare a [op] [b] pos) (mOp g fa fb) :=
  pe_weak (pe_cmpR ho ha hb hm) fun σ H Q hq => tOp_of hg hq
end
/-! ### the operators by W -/
section
variable {K : PySem.W.Frag} {F : Fz} {H : Hp}
/-- a list that is read (own or not), with its words -/
theorem PkR.lst {l : List W} {v : V} (h : PkR K F H (.lst l) v) : ∃ a vs, v = .ref a ∧ H a = some (.lst vs) ∧ RepL K F H l vs := by
  rcases h with ⟨a, vs, e, _, h1, h2⟩ | ⟨a, e, vs, h1, h2⟩
  · exact ⟨a, vs, e, h1, h2⟩
  · exact ⟨a, vs, e, h1, h2⟩
theorem PkR.dK {ks : List Key} {l : List W} {v : V} (h : PkR K F H (.dK ks l) v) : ∃ a vs, v = .ref a ∧ H a = some (.dK (ks.zip vs)) ∧ ks.length = vs.length ∧ RepL K F H l vs := by
  rcases h with ⟨a, vs, e, _, h1, n, h2⟩ | ⟨a, e, vs, h1, n, h2⟩
  · exact ⟨a, vs, e, h1, n, h2⟩
  · exact ⟨a, vs, e, h1, n, h2⟩
theorem PkR.rep {w : W} {v : V} (h : PkR K F H w v) (n : ∀ l, w ≠ .lst l) (m : ∀ ks l, w ≠ .dK ks l) : Rep K F H w v := by
  rcases h with h | ⟨a, e, h⟩
  · exact h
  · cases w with
    | lst l => exact absurd rfl (n l)
    | dK ks l => exact absurd rfl (m ks l)
    | _ => exact h.elim
theorem PkR.int {i : Int} {v : V} (h : PkR K F H (.int i) v) : v = .int i := h.rep (fun _ => W.noConfusion) fun _ _ => W.noConfusion
theorem PkR.bl {i : Bool} {v : V} (h : PkR K F H (.bl i) v) : v = .bl i := h.rep (fun _ => W.noConfusion) fun _ _ => W.noConfusion
theorem PkR.str {i : Str} {v : V} (h : PkR K F H (.str i) v) : v = .str i := h.rep (fun _ => W.noConfusion) fun _ _ => W.noConfusion
theorem PkR.non {v : V} (h : PkR K F H .non v) : v = .non := h.rep (fun _ => W.noConfusion) fun _ _ => W.noConfusion
theorem PkR.tup {l : List W} {v : V} (h : PkR K F H (.tup l) v) : ∃ a vs, v = .ref a ∧ SqU K H a vs ∧ RepL K F H l vs := h.rep (fun _ => W.noConfusion) fun _ _ => W.noConfusion
theorem PkR.frl {l : List W} {v : V} (h : PkR K F H (.frl l) v) : ∃ a vs, v = .ref a ∧ FrlL K H a vs ∧ RepL K F H l vs := h.rep (fun _ => W.noConfusion) fun _ _ => W.noConfusion
/-- the items of a list, a tuple -/
def itemsW : W → Option (List W)
  | .lst l => some l
  | .frl l => some l
  | .tup l => some l
  | _ => none
theorem PkR.seq {w : W} {l : List W} {v : V} (h : PkR K F H w v) (e : itemsW w = some l) : ∃ a vs, v = .ref a ∧ (SqL K H a vs ∨ SqT K H a vs) ∧ RepL K F H l vs := by
  cases w with
  | lst m => cases e; obtain ⟨a, vs, e1, h1, r⟩ := h.lst; exact ⟨a, vs, e1, .inl (.of h1), r⟩
  | frl m => cases e; obtain ⟨a, vs, e1, h1, r⟩ := h.frl; exact ⟨a, vs, e1, .inl h1.seq, r⟩
  | tup m => cases e; obtain ⟨a, vs, e1, h1, r⟩ := h.tup; exact ⟨a, vs, e1, .inr h1.seq, r⟩
  | _ => cases e
/-- a new list -/
theorem new_lst (t : Tight F H) {l : List W} {vs : List V} (r : RepL K F H l vs) {Q : VK} (q : ∀ F' H' v, Ext [] F H F' H' → NewR K H F' H' .fre (.lst l) v → Q v H') {p : Addr} (hp : H p = none) : Q (.ref p) (upd H p (.lst vs)) := by
  have e : Ext [] F H F (upd H p (.lst vs)) := Ext.new hp t
  exact q _ _ _ e ⟨p, rfl, ⟨vs, upd_same, r.mono e.keeps⟩, fun f => t p f hp, hp⟩
theorem new_tup (t : Tight F H) {l : List W} {vs : List V} (r : RepL K F H l vs) {Q : VK} (q : ∀ F' H' v, Ext [] F H F' H' → NewR K H F' H' .val (.tup l) v → Q v H') {p : Addr} (hp : H p = none) : Q (.ref p) (upd H p (.tup vs)) := by
  have e : Ext [] F H F (upd H p (.tup vs)) := Ext.new hp t
  exact q _ _ _ e ⟨p, vs, rfl, .inl upd_same, r.mono e.keeps⟩
theorem old_val (t : Tight F H) {z : W} {v : V} (r : Rep K F H z v) {Q : VK} (q : ∀ F' H' v, Ext [] F H F' H' → NewR K H F' H' .val z v → Q v H') : Q v H := q F H v (.refl t) r
theorem RepL.flatten {l : List W} {vs : List V} (r : RepL K F H l vs) : ∀ n, RepL K F H (List.replicate n l).flatten (List.replicate n vs).flatten
  | 0 => rfl
  | n + 1 => by
    rw [List.replicate_succ, List.replicate_succ, List.flatten_cons, List.flatten_cons]
    exact RepL.append r (RepL.flatten r n)
end
abbrev GW := W → W → Option (Md × W)
def gAdd : GW
  | .int i, .int j => some (.val, .int (i + j))
  | .str x, .str y => if x.length + y.length ≤ sizeLine then some (.val, .str (x ++ y)) else none
  | .lst l, .lst m => if l.length + m.length ≤ sizeLine then some (.fre, .lst (l ++ m)) else none
  | .tup l, .tup m => if l.length + m.length ≤ sizeLine then some (.val, .tup (l ++ m)) else none
  | _, _ => none
abbrev rAddS : R2 := fun x y H Q => ∃ i j, x = .str i ∧ y = .str j ∧ i.length + j.length ≤ sizeLine ∧ Q (.str (i ++ j)) H
def rAddM (K : PySem.W.Frag) : R2 := fun x y H Q => rI0 (fun i j => .int (i + j)) x y H Q ∨ rAddS x y H Q ∨ rCat x y H Q ∨ rCatA K x y H Q
theorem OpR.or {X : Cx} {f : Value → Value → Sem Value} {r r' : R2} (h : OpR X f r) (h' : OpR X f r') : OpR X f (fun x y H Q => r x y H Q ∨ r' x y H Q) := by
  intro pins s σ H x y v u Q I rx ry q
  rcases q with q | q
  · exact h pins s σ H x y v u Q I rx ry q
  · exact h' pins s σ H x y v u Q I rx ry q
theorem o_add {X : Cx} : OpR X (binaryOp .Add) (rAddM X.K) := OpR.or op_add (OpR.or op_add_str (OpR.or op_cat op_catA))
theorem g_add {K : PySem.W.Frag} : OpW K (rAddM K) gAdd := by
  intro x y m z e F H vx vy Q t px py q
  unfold gAdd at e
  split at e
  · cases e; cases px.int; cases py.int
    exact .inl ⟨_, _, rfl, rfl, old_val t (K := K) (z := .int _) rfl q⟩
  · split at e
    · rename_i hl
      cases e; cases px.str; cases py.str
      exact .inr (.inl ⟨_, _, rfl, rfl, hl, old_val t (K := K) (z := .str _) rfl q⟩)
    · cases e
  · split at e
    · rename_i hl
      cases e
      obtain ⟨a, vs, rfl, h1, r1⟩ := px.lst
      obtain ⟨b, us, rfl, h2, r2⟩ := py.lst
      refine .inr (.inr (.inl ⟨a, b, vs, us, rfl, rfl, h1, h2, by rw [← r1.len, ← r2.len]; exact hl, fun p hp => new_lst t (r1.append r2) q hp⟩))
    · cases e
  · split at e
    · rename_i hl
      cases e
      obtain ⟨a, vs, rfl, h1, r1⟩ := px.tup
      obtain ⟨b, us, rfl, h2, r2⟩ := py.tup
      refine .inr (.inr (.inr ⟨a, b, vs, us, rfl, rfl, h1.seq, h2.seq, by rw [← r1.len, ← r2.len]; exact hl, fun ex => ?_, fun _ ey => ?_, fun _ _ p hp => new_tup t (r1.append r2) q hp⟩))
      · subst ex
        have el := r1.len
        rw [List.length_nil, List.length_eq_zero_iff] at el
        subst el
        exact old_val t (show Rep K F H (.tup _) (.ref b) from ⟨b, us, rfl, h2, r2⟩) q
      · subst ey
        have el := r2.len
        rw [List.length_nil, List.length_eq_zero_iff] at el
        subst el
        exact old_val t (show Rep K F H (.tup _) (.ref a) from ⟨a, vs, rfl, h1, by rw [List.append_nil]; exact r1⟩) q
    · cases e
  · cases e
def gI (C : Int → Int → Bool) (f : Int → Int → Int) : GW
  | .int i, .int j => if C i j then some (.val, .int (f i j)) else none
  | _, _ => none
theorem g_I {K : PySem.W.Frag} {C : Int → Int → Bool} {f : Int → Int → Int} {CP : Int → Int → Prop} (hC : ∀ i j, C i j = true → CP i j) : OpW K (rI CP fun i j => .int (f i j)) (gI C f) := by
  intro x y m z e F H vx vy Q t px py q
  unfold gI at e
  split at e
  · split at e
    · rename_i hc
      cases e; cases px.int; cases py.int
      exact ⟨_, _, rfl, rfl, hC _ _ hc, old_val t (K := K) (z := .int _) rfl q⟩
    · cases e
  · cases e
def gSub : GW := gI (fun _ _ => true) fun i j => i - j
theorem o_sub {X : Cx} : OpR X (binaryOp .Sub) (rI (fun _ _ => True) fun i j => .int (i - j)) := fun pins s σ H x y v u Q I rx ry ⟨i, j, e1, e2, _, q⟩ => op_sub pins s σ H x y v u Q I rx ry ⟨i, j, e1, e2, q⟩
theorem g_sub {K : PySem.W.Frag} : OpW K (rI (fun _ _ => True) fun i j => .int (i - j)) gSub := g_I fun _ _ _ => trivial
def gMod : GW := gI (fun _ j => decide (0 < j)) fun i j => i % j
theorem g_mod {K : PySem.W.Frag} : OpW K (rI (fun _ j => 0 < j) fun i j => .int (i % j)) gMod := g_I fun _ _ h => of_decide_eq_true h
def gFdiv : GW := gI (fun _ j => decide (0 < j) && decide (j < 1073741824)) fun i j => i / j
theorem g_fdiv {K : PySem.W.Frag} : OpW K (rI CDiv fun i j => .int (i / j)) gFdiv := g_I fun i j h => by
  have h' : (decide (0 < j) && decide (j < 1073741824)) = true := h
  rw [Bool.and_eq_true_iff] at h'
  exact ⟨of_decide_eq_true h'.1, of_decide_eq_true h'.2⟩
def gPow : GW := gI (fun i j => decide (0 ≤ j) && (decide (j ≤ 1000000) && decide (i.natAbs < 2 ^ 64))) fun i j => i ^ j.toNat
theorem g_pow {K : PySem.W.Frag} : OpW K (rI CPow fun i j => .int (i ^ j.toNat)) gPow := g_I fun i j h => by
  have h' : (decide (0 ≤ j) && (decide (j ≤ 1000000) && decide (i.natAbs < 2 ^ 64))) = true := h
  rw [Bool.and_eq_true_iff, Bool.and_eq_true_iff] at h'
  exact ⟨of_decide_eq_true h'.1, of_decide_eq_true h'.2.1, of_decide_eq_true h'.2.2⟩
def okMul (i j : Int) : Bool := (decide (-(2 ^ 64) < i) && decide (i < 2 ^ 64)) || (decide (-(2 ^ 64) < j) && decide (j < 2 ^ 64))
def gMul : GW
  | .int i, .int j => if okMul i j then some (.val, .int (i * j)) else none
  | .lst l, .int k => if -(2 ^ 63) ≤ k ∧ k < 2 ^ 63 ∧ l.length * k.toNat ≤ sizeLine then some (.fre, .lst (List.replicate k.toNat l).flatten) else none
  | _, _ => none
def rMulM : R2 := fun x y H Q => rI CMul (fun i j => .int (i * j)) x y H Q ∨ rRep x y H Q
theorem o_mul {X : Cx} : OpR X (binaryOp .Mult) rMulM := OpR.or op_mul op_rep
theorem g_mul {K : PySem.W.Frag} : OpW K rMulM gMul := by
  intro x y m z e F H vx vy Q t px py q
  unfold gMul at e
  split at e
  · split at e
    · rename_i i j hc
      cases e; cases px.int; cases py.int
      refine .inl ⟨_, _, rfl, rfl, ?_, old_val t (K := K) (z := .int _) rfl q⟩
      have h' : ((decide (-(2 ^ 64) < i) && decide (i < 2 ^ 64)) || (decide (-(2 ^ 64) < j) && decide (j < 2 ^ 64))) = true := hc
      rw [Bool.or_eq_true_iff, Bool.and_eq_true_iff, Bool.and_eq_true_iff] at h'
      rcases h' with h' | h'
      · exact .inl ⟨of_decide_eq_true h'.1, of_decide_eq_true h'.2⟩
      · exact .inr ⟨of_decide_eq_true h'.1, of_decide_eq_true h'.2⟩
    · cases e
  · split at e
    · rename_i hc
      cases e; cases py.int
      obtain ⟨a, vs, rfl, h1, r1⟩ := px.lst
      exact .inr ⟨a, _, vs, rfl, rfl, h1, hc.1, hc.2.1, by rw [← r1.len]; exact hc.2.2, fun p hp => new_lst t (r1.flatten _) q hp⟩
    · cases e
  · cases e
def gLt : GW
  | .int i, .int j => some (.val, .bl (decide (i < j)))
  | _, _ => none
def gCmp (p : Int → Int → Bool) : GW
  | .int i, .int j => some (.val, .bl (p i j))
  | _, _ => none
theorem g_cmp {K : PySem.W.Frag} {p : Int → Int → Bool} : OpW K (rI0 fun i j => .bl (p i j)) (gCmp p) := by
  intro x y m z e F H vx vy Q t px py q
  unfold gCmp at e
  split at e
  · cases e; cases px.int; cases py.int
    exact ⟨_, _, rfl, rfl, old_val t (K := K) (z := .bl _) rfl q⟩
  · cases e
end ML

set_option maxHeartbeats 4000000
namespace ML
open PySem PySem.Spec PyProof.Rows L2
variable {I : List Nat}
/-! ### flat values, data -/
def toV : W → V
  | .bl b => .bl b
  | .int i => .int i
  | .str s => .str s
  | .ty n => .ty n
  | _ => .non
def flatW : W → Bool
  | .non => true
  | .bl _ => true
  | .int _ => true
  | .str _ => true
  | _ => false
mutual
def toD : W → Option PyData
  | .non => some .none
  | .bl b => some (.bool b)
  | .int i => some (.int i)
  | .str s => some (.str s)
  | .tup l => (toDL l).map .tuple
  | .lst l => (toDL l).map .list
  | .frl l => (toDL l).map .list
  | _ => none
def toDL : List W → Option (List PyData)
  | [] => some []
  | w :: l => match toD w, toDL l with
    | some d, some ds => some (d :: ds)
    | _, _ => none
end
section
variable {K : PySem.W.Frag} {F : Fz} {H : Hp}
theorem PkR.flat {w : W} {v : V} (h : PkR K F H w v) (f : flatW w = true) : v = toV w := by
  cases w with
  | non => exact h.non
  | bl b => exact h.bl
  | int b => exact h.int
  | str b => exact h.str
  | _ => cases f
theorem flat_toV {w : W} (f : flatW w = true) : flatV (toV w) = true := by
  cases w <;> first | rfl | cases f
theorem Rep.flat {w : W} {v : V} (h : Rep K F H w v) (f : flatW w = true) : v = toV w := PkR.flat (.inl h) f
theorem RepL.flat : ∀ {l : List W} {vs : List V}, RepL K F H l vs → l.all flatW = true → vs = l.map toV ∧ vs.all flatV = true
  | [], _, h, _ => by cases h; exact ⟨rfl, rfl⟩
  | w :: l, _, h, f => by
    obtain ⟨v, r, rfl, h1, h2⟩ := h
    rw [List.all_cons, Bool.and_eq_true_iff] at f
    obtain ⟨e1, e2⟩ := RepL.flat h2 f.2
    have e := h1.flat f.1
    rw [e, e1]
    refine ⟨rfl, ?_⟩
    rw [List.all_cons, flat_toV f.1, ← e1, e2]
    rfl
mutual
theorem toD_dp : ∀ (w : W) {d : PyData} {v : V}, toD w = some d → Rep K F H w v → Dp K H v d
  | .non, _, _, e, h => by cases e; cases h; exact .non
  | .bl b, _, _, e, h => by cases e; cases h; exact .bl b
  | .int b, _, _, e, h => by cases e; cases h; exact .int b
  | .str b, _, _, e, h => by cases e; cases h; exact .str b
  | .fn _, _, _, e, _ => by cases e
  | .ty _, _, _, e, _ => by cases e
  | .dK _ _, _, _, e, _ => by cases e
  | .tup l, _, _, e, h => by
    obtain ⟨a, vs, rfl, s, r⟩ := h
    have e1 : (toDL l).map PyData.tuple = some _ := e
    obtain ⟨ds, q, rfl⟩ := Option.map_eq_some_iff.mp e1
    exact .tup s.seq (toDL_dp l q r)
  | .lst l, _, _, e, h => by
    obtain ⟨a, vs, rfl, _, s, r⟩ := h
    have e1 : (toDL l).map PyData.list = some _ := e
    obtain ⟨ds, q, rfl⟩ := Option.map_eq_some_iff.mp e1
    exact .lst (.of s) (toDL_dp l q r)
  | .frl l, _, _, e, h => by
    obtain ⟨a, vs, rfl, s, r⟩ := h
    have e1 : (toDL l).map PyData.list = some _ := e
    obtain ⟨ds, q, rfl⟩ := Option.map_eq_some_iff.mp e1
    exact .lst s.seq (toDL_dp l q r)
theorem toDL_dp : ∀ (l : List W) {ds : List PyData} {vs : List V}, toDL l = some ds → RepL K F H l vs → DpAll K H vs ds
  | [], _, _, e, h => by cases e; cases h; exact .nil
  | w :: l, ds, _, e, h => by
    obtain ⟨v, r, rfl, h1, h2⟩ := h
    have e1 : (match toD w, toDL l with
      | some d, some ds => some (d :: ds)
      | _, _ => none) = some ds := e
    cases q1 : toD w with
    | none => rw [q1] at e1; cases e1
    | some d =>
      cases q2 : toDL l with
      | none => rw [q1, q2] at e1; cases e1
      | some ds' =>
        rw [q1, q2] at e1
        cases e1
        exact .cons (toD_dp w q1 h1) (toDL_dp l q2 h2)
end
theorem PkR.dp {w : W} {d : PyData} {v : V} (h : PkR K F H w v) (e : toD w = some d) : Dp K H v d := by
  rcases h with h | ⟨a, rfl, o⟩
  · exact toD_dp w e h
  · cases w with
    | lst l =>
      obtain ⟨vs, s, r⟩ := o
      have e1 : (toDL l).map PyData.list = some _ := e
      obtain ⟨ds, q, rfl⟩ := Option.map_eq_some_iff.mp e1
      exact .lst (.of s) (toDL_dp l q r)
    | dK ks l => cases e
    | _ => exact o.elim
end
/-! ### == != -/
def eqW (x y : W) : Option Bool := if flatW x && flatW y && scal (toV x) (toV y) then some (decide (toV x = toV y)) else match toD x, toD y with
  | some d, some e => if d.canLay0 && e.canLay0 && decide (min d.depth e.depth ≤ 150) then some (PyData.eqv d e) else none
  | _, _ => none
def gEq : GW := fun x y => (eqW x y).map fun b => (.val, .bl b)
def gNe : GW := fun x y => (eqW x y).map fun b => (.val, .bl (!b))
def rEqX (K : PySem.W.Frag) (n : Bool → Bool) : R2 := fun x y H Q => ∃ d e, Dp K H x d ∧ Dp K H y e ∧ d.canLay0 = true ∧ e.canLay0 = true ∧ min d.depth e.depth ≤ 150 ∧ Q (.bl (n (PyData.eqv d e))) H
section
variable {X : Cx}
theorem op_eqX (hu : X.A.units + 200 < cLine) : OpR X (compareOp .Eq) (rEqX X.K id) := by
  intro pins s σ H x y v u Q I rx ry h
  obtain ⟨d, e, hd, he, sd, se, sz, q⟩ := h
  obtain ⟨as, r1⟩ := Dp.reads I d x v hd rx
  obtain ⟨bs, r2⟩ := Dp.reads I e y u he ry
  exact SeqAt.compareEq_reads r1 r2 sd se (by omega) ⟨.bl _, H, I, rfl, q⟩
theorem op_neX (hu : X.A.units + 200 < cLine) : OpR X (compareOp .NotEq) (rEqX X.K not) := by
  intro pins s σ H x y v u Q I rx ry h
  obtain ⟨d, e, hd, he, sd, se, sz, q⟩ := h
  obtain ⟨as, r1⟩ := Dp.reads I d x v hd rx
  obtain ⟨bs, r2⟩ := Dp.reads I e y u he ry
  exact SeqAt.compareNe_reads r1 r2 sd se (by omega) ⟨.bl _, H, I, rfl, q⟩
theorem o_eq (hu : X.A.units + 200 < cLine) : OpR X (compareOp .Eq) (fun x y H Q => rEq x y H Q ∨ rEqX X.K id x y H Q) := OpR.or op_eq (op_eqX hu)
theorem o_ne (hu : X.A.units + 200 < cLine) : OpR X (compareOp .NotEq) (fun x y H Q => rNe x y H Q ∨ rEqX X.K not x y H Q) := OpR.or op_ne (op_neX hu)
end
theorem eq_cases {K : PySem.W.Frag} {x y : W} {b : Bool} (e : eqW x y = some b) {F : Fz} {H : Hp} {vx vy : V} (px : PkR K F H x vx) (py : PkR K F H y vy) :
    (scal vx vy = true ∧ b = decide (vx = vy)) ∨ ∃ d e, Dp K H vx d ∧ Dp K H vy e ∧ d.canLay0 = true ∧ e.canLay0 = true ∧ min d.depth e.depth ≤ 150 ∧ b = PyData.eqv d e := by
  unfold eqW at e
  split at e
  · rename_i h
    rw [Bool.and_eq_true_iff, Bool.and_eq_true_iff] at h
    cases e
    rw [px.flat h.1.1, py.flat h.1.2]
    exact .inl ⟨h.2, rfl⟩
  · cases q1 : toD x with
    | none => rw [q1] at e; cases e
    | some d =>
      cases q2 : toD y with
      | none => rw [q1, q2] at e; cases e
      | some d' =>
        rw [q1, q2] at e
        dsimp only at e
        split at e
        · rename_i h
          rw [Bool.and_eq_true_iff, Bool.and_eq_true_iff] at h
          cases e
          exact .inr ⟨d, d', px.dp q1, py.dp q2, h.1.1, h.1.2, of_decide_eq_true h.2, rfl⟩
        · cases e
theorem g_eq {K : PySem.W.Frag} : OpW K (fun x y H Q => rEq x y H Q ∨ rEqX K id x y H Q) gEq := by
  intro x y m z e F H vx vy Q t px py q
  obtain ⟨b, eb, e2⟩ := Option.map_eq_some_iff.mp (show (eqW x y).map _ = _ from e)
  cases e2
  have fin : Q (.bl b) H := old_val t (K := K) (z := .bl b) rfl q
  rcases eq_cases eb px py with ⟨h, rfl⟩ | ⟨d, d', h1, h2, h3, h4, h5, rfl⟩
  · exact .inl ⟨h, fin⟩
  · exact .inr ⟨d, d', h1, h2, h3, h4, h5, fin⟩
theorem g_ne {K : PySem.W.Frag} : OpW K (fun x y H Q => rNe x y H Q ∨ rEqX K not x y H Q) gNe := by
  intro x y m z e F H vx vy Q t px py q
  obtain ⟨b, eb, e2⟩ := Option.map_eq_some_iff.mp (show (eqW x y).map _ = _ from e)
  cases e2
  have fin : Q (.bl (!b)) H := old_val t (K := K) (z := .bl (!b)) rfl q
  rcases eq_cases eb px py with ⟨h, rfl⟩ | ⟨d, d', h1, h2, h3, h4, h5, rfl⟩
  · exact .inl ⟨h, fin⟩
  · exact .inr ⟨d, d', h1, h2, h3, h4, h5, fin⟩
/-! ### in, not in -/
def inW (neg : Bool) (x y : W) : Option Bool := match x, y with
  | .str s, .str z => if s.cps.size = 1 then some (if neg then !decide (s.cps.toList.headD 0 ∈ z.cps.toList) else decide (s.cps.toList.headD 0 ∈ z.cps.toList)) else none
  | x, y => match itemsW y with
    | some l => if flatW x && l.all flatW then some (if neg then !inV (toV x) (l.map toV) else inV (toV x) (l.map toV)) else none
    | none => none
def gIn (neg : Bool) : GW := fun x y => (inW neg x y).map fun b => (.val, .bl b)
def rInS (neg : Bool) : R2 := fun x y H Q => ∃ (c : Nat) (z : Str), x = .str ⟨#[c]⟩ ∧ y = .str z ∧ Q (.bl (if neg then !decide (c ∈ z.cps.toList) else decide (c ∈ z.cps.toList))) H
def rInM (K : PySem.W.Frag) (neg : Bool) : R2 := fun x y H Q => rInS neg x y H Q ∨ rIn K neg x y H Q
theorem o_in {X : Cx} : OpR X (compareOp .In) (rInM X.K false) := OpR.or (fun pins s σ H x y v u Q I rx ry ⟨c, z, e1, e2, q⟩ => op_in_sign pins s σ H x y v u Q I rx ry ⟨c, z, e1, e2, q⟩) op_in_seq
theorem o_notin {X : Cx} : OpR X (compareOp .NotIn) (rInM X.K true) := OpR.or (fun pins s σ H x y v u Q I rx ry ⟨c, z, e1, e2, q⟩ => op_notIn_sign pins s σ H x y v u Q I rx ry ⟨c, z, e1, e2, q⟩) op_notIn_seq
theorem str1 {s : Str} (h : s.cps.size = 1) : s = ⟨#[s.cps.toList.headD 0]⟩ := by
  obtain ⟨⟨l⟩⟩ := s
  match l, h with
  | [c], _ => rfl
theorem g_in {K : PySem.W.Frag} {neg : Bool} : OpW K (rInM K neg) (gIn neg) := by
  intro x y m z e F H vx vy Q t px py q
  obtain ⟨b, eb, e2⟩ := Option.map_eq_some_iff.mp (show (inW neg x y).map _ = _ from e)
  cases e2
  have fin : Q (.bl b) H := old_val t (K := K) (z := .bl b) rfl q
  unfold inW at eb
  split at eb
  · split at eb
    · rename_i s z h
      cases eb
      cases px.str
      cases py.str
      refine .inl ⟨s.cps.toList.headD 0, z, ?_, rfl, fin⟩
      rw [← str1 h]
    · cases eb
  · cases g : itemsW y with
    | none => rw [g] at eb; cases eb
    | some l =>
      rw [g] at eb
      dsimp only at eb
      split at eb
      · rename_i h
        rw [Bool.and_eq_true_iff] at h
        cases eb
        obtain ⟨a, vs, rfl, hs, r⟩ := py.seq g
        obtain ⟨e1, e2⟩ := r.flat h.2
        rw [px.flat h.1]
        exact .inr ⟨a, vs, rfl, hs, flat_toV h.1, e2, by rw [e1]; exact fin⟩
      · cases eb
/-! ### x is None -/
def nonW : W → Bool
  | .non => true
  | _ => false
def mIsN (n : Bool) (fa : Rho → R (Md × W)) : Rho → R (Md × W) := fun ρ => (fa ρ).bind fun x ρ1 => .ok (.val, .bl (if n then !nonW x.2 else nonW x.2)) ρ1
theorem VR.non_iff {K : PySem.W.Frag} {B : Bd} {F : Fz} {H : Hp} {σ : L2.St} {ρ : Rho} {m : Md} {w : W} {v : V} (S : SR K B F H σ ρ) (h : VR K B F H σ ρ m w v) : decide (v = .non) = nonW w := by
  have own : ∀ {a : Addr}, OwnR K F H w a → nonW w = false := fun {a} o => by cases w <;> first | rfl | exact o.elim
  cases m with
  | val =>
    have h' : Rep K F H w v := h
    cases w with
    | non => cases h'; rfl
    | bl _ => cases h'; rfl
    | int _ => cases h'; rfl
    | str _ => cases h'; rfl
    | fn _ => cases h'; rfl
    | ty _ => cases h'; rfl
    | tup _ => obtain ⟨a, vs, rfl, _⟩ := h'; rfl
    | lst _ => obtain ⟨a, vs, rfl, _⟩ := h'; rfl
    | frl _ => obtain ⟨a, vs, rfl, _⟩ := h'; rfl
    | dK _ _ => obtain ⟨a, vs, rfl, _⟩ := h'; rfl
  | fre => obtain ⟨a, rfl, o, _⟩ := h; rw [own o]; rfl
  | bor i =>
    obtain ⟨h1, h2⟩ := h
    obtain ⟨a, e, o, _⟩ := S.slot i _ h1
    rw [h2] at e
    cases e
    rw [own o]
    rfl
section
variable {X : Cx} {Y : Yx I} {a : Expr} {pos : Pos} {fa : Rho → R (Md × W)}
theorem pem_isN {j pos'} (ha : PEM X Y a fa) : PEM X Y (.Compare a [.Is] [.Constant .none j pos'] pos) (mIsN false fa) := pe_weak (pe_cmp (pc_isN ha) (nomark _)) fun σ H Q hq => by
  obtain ⟨F, ρ, S, q⟩ := hq
  refine ⟨F, ρ, S, (RunG.bind q).imp fun x ρ1 F1 H1 S1 k1 q1 v1 hv1 => ?_⟩
  have z := q1 F1 H1 S1 .refl (.bl (decide (v1 = .non))) ?_
  · exact z
  · show V.bl _ = V.bl _
    rw [hv1.non_iff S1]
    rfl
theorem pem_notN {j pos'} (ha : PEM X Y a fa) : PEM X Y (.Compare a [.IsNot] [.Constant .none j pos'] pos) (mIsN true fa) := pe_weak (pe_cmp (pc_notN ha) (nomark _)) fun σ H Q hq => by
  obtain ⟨F, ρ, S, q⟩ := hq
  refine ⟨F, ρ, S, (RunG.bind q).imp fun x ρ1 F1 H1 S1 k1 q1 v1 hv1 => ?_⟩
  have z := q1 F1 H1 S1 .refl (.bl (!decide (v1 = .non))) ?_
  · exact z
  · show V.bl _ = V.bl _
    rw [hv1.non_iff S1]
    rfl
/-! ### minus -/
def mNeg (fa : Rho → R (Md × W)) : Rho → R (Md × W) := fun ρ => (fa ρ).bind fun x ρ1 => match x.1, x.2 with
  | .val, .int i => .ok (.val, .int (-i)) ρ1
  | _, _ => .stk
theorem pem_neg (ha : PEM X Y a fa) : PEM X Y (.UnaryOp .USub a pos) (mNeg fa) := pe_weak (pe_un un_neg ha) fun σ H Q hq => by
  obtain ⟨F, ρ, S, q⟩ := hq
  refine ⟨F, ρ, S, (RunG.bind q).imp fun x ρ1 F1 H1 S1 k1 q1 v1 hv1 => ?_⟩
  obtain ⟨m, w⟩ := x
  dsimp only at q1
  split at q1
  · cases (show v1 = .int _ from hv1)
    exact ⟨_, rfl, q1 F1 H1 S1 .refl _ rfl⟩
  · exact q1.elim
end
end ML

set_option maxHeartbeats 4000000
namespace ML
open PySem PySem.Spec PyProof.Rows L2
variable {I : List Nat}
/-! ### storing in slots -/
section
variable {K : PySem.W.Frag} {B : Bd} {F F' F1 F2 : Fz} {H H' H1 H2 : Hp} {σ : L2.St} {ρ : Rho}
theorem set_cases {α : Type} {l : List α} {i j : Nat} {x y : α} (h : (l.set i x)[j]? = some y) : (j = i ∧ y = x ∧ i < l.length) ∨ (j ≠ i ∧ l[j]? = some y) := by
  by_cases e : j = i
  · subst e
    rw [List.getElem?_set] at h
    split at h
    · split at h
      · rename_i q; left; exact ⟨rfl, (Option.some.inj h).symm, q⟩
      · cases h
    · rename_i n; exact absurd rfl n
  · right
    rw [List.getElem?_set_ne (Ne.symm e)] at h
    exact ⟨e, h⟩
theorem set_ne {α : Type} {l : List α} {i j : Nat} {x : α} (h : j ≠ i) : (l.set i x)[j]? = l[j]? := List.getElem?_set_ne (Ne.symm h)
theorem set_eq {α : Type} {l : List α} {i : Nat} {x : α} (h : i < l.length) : (l.set i x)[i]? = some x := by rw [List.getElem?_set, if_pos rfl, if_pos h]
theorem lent_set2 (S : SR K B F H σ ρ) {i : Nat} (u : unlent B i) (o : Option V) (s : Sl) : ∀ p ∈ B.I, (σ.set i o)[p.1]? = some (some (.ref p.2)) ∧ ∃ w, (ρ.set i s)[p.1]? = some (.own w) := fun p hp => by
  obtain ⟨h1, w, h2⟩ := S.lent p hp
  have n : p.1 ≠ i := fun e => u (List.mem_map.mpr ⟨p, hp, e⟩)
  exact ⟨by rw [set_ne n]; exact h1, w, by rw [set_ne n]; exact h2⟩
theorem SR.setVal (S : SR K B F H σ ρ) {i : Nat} {w : W} {v : V} (u : unlent B i) (h : Rep K F H w v) : SR K B F H (σ.set i (some v)) (ρ.set i (.val w)) := by
  refine ⟨by rw [List.length_set, List.length_set]; exact S.len, fun j s h' => ?_, fun j k z z' a h1 h2 e1 e2 => ?_, lent_set2 S u _ _, S.ext, S.alive, S.f0, S.f1, S.f2⟩
  · rcases set_cases h' with ⟨e, e', lt⟩ | ⟨n, e⟩
    · subst e; subst e'
      rw [set_eq (by rw [S.len]; exact lt)]
      exact ⟨v, rfl, h⟩
    · rw [set_ne n]
      exact S.slot j s e
  · rcases set_cases h1 with ⟨_, e, _⟩ | ⟨n1, g1⟩
    · cases e
    · rcases set_cases h2 with ⟨_, e, _⟩ | ⟨n2, g2⟩
      · cases e
      · rw [set_ne n1] at e1
        rw [set_ne n2] at e2
        exact S.sep j k z z' a g1 g2 e1 e2
theorem SR.setOwn (S : SR K B F H σ ρ) {i : Nat} {w : W} {v : V} (u : unlent B i) (h : Fre K B F H σ ρ w v) : SR K B F H (σ.set i (some v)) (ρ.set i (.own w)) := by
  obtain ⟨c, rfl, o, nf, h0, hs⟩ := h
  refine ⟨by rw [List.length_set, List.length_set]; exact S.len, fun j s h' => ?_, fun j k z z' a h1 h2 e1 e2 => ?_, lent_set2 S u _ _, S.ext, S.alive, S.f0, S.f1, S.f2⟩
  · rcases set_cases h' with ⟨e, e', lt⟩ | ⟨n, e⟩
    · subst e; subst e'
      rw [set_eq (by rw [S.len]; exact lt)]
      exact ⟨c, rfl, o, nf, fun k => k.1 h0⟩
    · rw [set_ne n]
      exact S.slot j s e
  · rcases set_cases h1 with ⟨j1, _, l1⟩ | ⟨n1, g1⟩
    · rcases set_cases h2 with ⟨j2, _, _⟩ | ⟨n2, g2⟩
      · rw [j1, j2]
      · exfalso
        rw [set_ne n2] at e2
        rw [j1, set_eq (by rw [S.len]; exact l1)] at e1
        cases e1
        exact hs k z' g2 e2
    · rcases set_cases h2 with ⟨j2, _, l2⟩ | ⟨n2, g2⟩
      · exfalso
        rw [set_ne n1] at e1
        rw [j2, set_eq (by rw [S.len]; exact l2)] at e2
        cases e2
        exact hs j z g1 e1
      · rw [set_ne n1] at e1
        rw [set_ne n2] at e2
        exact S.sep j k z z' a g1 g2 e1 e2
/-- the object of an own slot is changed -/
theorem SR.put (S : SR K B F H σ ρ) {i : Nat} {w w' : W} {a : Addr} {o : HO} (h : ρ[i]? = some (.own w)) (e : σ[i]? = some (some (.ref a))) (mu : Mut (some o)) (n : OwnR K F (upd H a o) w' a) :
    SR K B F (upd H a o) σ (ρ.set i (.own w')) ∧ Keeps F H F (upd H a o) := by
  obtain ⟨b, eb, ow, nf, nk⟩ := S.slot i _ h
  rw [e] at eb
  cases eb
  obtain ⟨u, hu, mu0⟩ := ow.some
  have il : i < ρ.length := (List.getElem?_eq_some_iff.mp h).1
  have k : Keeps F H F (upd H a o) := ⟨fun _ h => h, fun b x hb c => by
    have nb : b ≠ a := fun z => by
      subst z
      rcases c with c | c
      · exact nf c
      · rw [hu] at hb; cases hb; exact c mu0
    rw [upd_ne nb]
    exact hb⟩
  refine ⟨⟨by rw [List.length_set]; exact S.len, fun j s h' => ?_, fun j k z z' c h1 h2 e1 e2 => ?_, fun p hp => ?_, fun b x kb hb => ?_, fun b hb => ?_, S.f0, S.f1, fun b hb => ?_⟩, k⟩
  · rcases set_cases h' with ⟨ej, e', _⟩ | ⟨nj, ej⟩
    · subst ej; subst e'
      exact ⟨a, e, n, nf, nk⟩
    · have q := S.slot j s ej
      cases s with
      | no => trivial
      | val z => obtain ⟨v, e1, r⟩ := q; exact ⟨v, e1, r.mono k⟩
      | own z =>
        obtain ⟨c, e1, oc, nfc, nkc⟩ := q
        have nc : c ≠ a := fun q => by
          subst q
          exact nj (S.sep j i z w c ej h e1 e)
        refine ⟨c, e1, ?_, nfc, nkc⟩
        cases z with
        | lst l => obtain ⟨vs, h1, h2⟩ := oc; exact ⟨vs, by rw [upd_ne nc]; exact h1, h2.mono k⟩
        | dK ks l => obtain ⟨vs, h1, m, h2⟩ := oc; exact ⟨vs, by rw [upd_ne nc]; exact h1, m, h2.mono k⟩
        | _ => exact oc
  · have g1 : ∃ z, ρ[j]? = some (.own z) := by
      rcases set_cases h1 with ⟨ej, _, _⟩ | ⟨_, g⟩
      · exact ⟨w, by rw [ej]; exact h⟩
      · exact ⟨_, g⟩
    have g2 : ∃ z, ρ[k]? = some (.own z) := by
      rcases set_cases h2 with ⟨ej, _, _⟩ | ⟨_, g⟩
      · exact ⟨w, by rw [ej]; exact h⟩
      · exact ⟨_, g⟩
    obtain ⟨z1, g1⟩ := g1
    obtain ⟨z2, g2⟩ := g2
    exact S.sep j k z1 z2 c g1 g2 e1 e2
  · obtain ⟨h1, z, h2⟩ := S.lent p hp
    by_cases ep : p.1 = i
    · exact ⟨h1, w', by rw [ep, set_eq il]⟩
    · exact ⟨h1, z, by rw [set_ne ep]; exact h2⟩
  · have nb : b ≠ a := fun z => nk (by rw [← z]; exact kb)
    rw [upd_ne nb]
    exact S.ext b x kb hb
  · by_cases eb : b = a
    · rw [eb, upd_same]; exact (fun z => nomatch z)
    · rw [upd_ne eb]; exact S.alive b hb
  · by_cases eb : b = a
    · rw [eb, upd_same]; exact (fun z => nomatch z)
    · rw [upd_ne eb]; exact S.f2 b hb
end
/-! ### statements -/
inductive Fl where
  | nx | bk | ct | rt (m : Md) (w : W)
def RunS (K : PySem.W.Frag) (Y : Yx I) (F : Fz) (H : Hp) (r : R Fl) (D : Ends) : Prop := match r with
  | .ok fl ρ' => (match fl with
    | .nx => ∀ F' H' σ', SR K Y.B F' H' σ' ρ' → Keeps F H F' H' → D.nx σ' H'
    | .bk => ∀ F' H' σ', SR K Y.B F' H' σ' ρ' → Keeps F H F' H' → D.bk σ' H'
    | .ct => ∀ F' H' σ', SR K Y.B F' H' σ' ρ' → Keeps F H F' H' → D.ct σ' H'
    | .rt m w => ∀ F' H' σ' v, SR K Y.B F' H' σ' ρ' → VR K Y.B F' H' σ' ρ' m w v → D.rt v H')
  | .exc c ns ws ρ' => ∀ F' H' σ' d, SR K Y.B F' H' σ' ρ' → ExF K F' H' ns ws d → Y.wx (.ref (Y.ct c)) d σ' H'
  | .stk => False
section
variable {K : PySem.W.Frag} {Y : Yx I} {F F' F1 F2 : Fz} {H H' H1 H2 : Hp} {σ : L2.St} {ρ : Rho} {β : Type}
theorem RunS.rebase {r : R Fl} {D : Ends} (h : RunS K Y F H r D) (k : Keeps F H F1 H1) : RunS K Y F1 H1 r D := by
  cases r with
  | ok fl ρ' =>
    cases fl with
    | nx => exact fun F' H' σ' S k' => h F' H' σ' S (k.trans k')
    | bk => exact fun F' H' σ' S k' => h F' H' σ' S (k.trans k')
    | ct => exact fun F' H' σ' S k' => h F' H' σ' S (k.trans k')
    | rt m w => exact h
  | exc c ns ws ρ' => exact h
  | stk => exact h
/-- an expression, then what hangs on it -/
theorem RunS.bindE {r : R β} {k : β → Rho → R Fl} {D : Ends} (h : RunS K Y F H (r.bind k) D) : RunG K Y F H σ r fun b ρ1 F1 H1 => RunS K Y F1 H1 (k b ρ1) D := by
  cases r with
  | ok b ρ' => exact fun F' H' S k' => RunS.rebase (show RunS K Y F H (k b ρ') D from h) k'
  | exc c ns ws ρ' => exact fun F' H' d S x => h F' H' σ d S x
  | stk => exact h
def tMS (K : PySem.W.Frag) (Y : Yx I) (g : Rho → R Fl) : TS := fun D σ H => ∃ F ρ, SR K Y.B F H σ ρ ∧ RunS K Y F H (g ρ) D
def PSM (X : Cx) (Y : Yx I) (st : Stmt) (g : Rho → R Fl) : Prop := PS X st (tMS X.K Y g)
def PSMs (X : Cx) (Y : Yx I) (st : List Stmt) (g : Rho → R Fl) : Prop := PSs X st (tMS X.K Y g)
theorem ps_weak {X : Cx} {e : Stmt} {t t' : TS} (h : PS X e t) (q : ∀ D σ H, t' D σ H → t D σ H) : PS X e t' := ⟨fun pins s σ H D I hq => h.run pins s σ H D I (q _ _ _ hq)⟩
theorem pss_weak {X : Cx} {e : List Stmt} {t t' : TS} (h : PSs X e t) (q : ∀ D σ H, t' D σ H → t D σ H) : PSs X e t' := ⟨fun pins s σ H D I hq => h.run pins s σ H D I (q _ _ _ hq)⟩
end
section
variable {X : Cx} {Y : Yx I} {e a b : Expr} {st : Stmt} {sts : List Stmt} {pos : Pos} {f : Rho → R (Md × W)} {g g' : Rho → R Fl}
def mNext : Rho → R Fl := fun ρ => .ok .nx ρ
def thenF (r : R Fl) (k : Rho → R Fl) : R Fl := r.bind fun fl ρ => match fl with
  | .nx => k ρ
  | fl => .ok fl ρ
def mSeq (g g' : Rho → R Fl) : Rho → R Fl := fun ρ => thenF (g ρ) g'
theorem psm_nil : PSMs X Y [] mNext := pss_weak pss_nil fun D σ H hq => by
  obtain ⟨F, ρ, S, q⟩ := hq
  exact q F H σ S .refl
theorem seq_of {K : PySem.W.Frag} {D : Ends} {σ : L2.St} {H : Hp} (hq : tMS K Y (mSeq g g') D σ H) : tSeq (tMS K Y g) (tMS K Y g') D σ H := by
  obtain ⟨F, ρ, S, q⟩ := hq
  refine ⟨F, ρ, S, ?_⟩
  have q' : RunS K Y F H (thenF (g ρ) g') D := q
  unfold thenF at q'
  cases e : g ρ with
  | ok fl ρ1 =>
    rw [e] at q'
    cases fl with
    | nx => exact fun F' H' σ' S' k' => ⟨F', ρ1, S', RunS.rebase (show RunS K Y F H (g' ρ1) D from q') k'⟩
    | bk => exact q'
    | ct => exact q'
    | rt m w => exact q'
  | exc c ns ws ρ' => rw [e] at q'; exact q'
  | stk => rw [e] at q'; exact q'
theorem psm_cons (h1 : PSM X Y st g) (h2 : PSMs X Y sts g') : PSMs X Y (st :: sts) (mSeq g g') := pss_weak (pss_cons h1 h2) fun _ _ _ => seq_of
theorem psm_one (h1 : PSM X Y st g) : PSMs X Y [st] g := pss_one h1
theorem psm_pass : PSM X Y (.Pass pos) mNext := ps_weak ps_pass fun D σ H hq => by
  obtain ⟨F, ρ, S, q⟩ := hq
  exact q F H σ S .refl
def mBreak : Rho → R Fl := fun ρ => .ok .bk ρ
def mCont : Rho → R Fl := fun ρ => .ok .ct ρ
theorem psm_break : PSM X Y (.Break pos) mBreak := ps_weak ps_break fun D σ H hq => by
  obtain ⟨F, ρ, S, q⟩ := hq
  exact q F H σ S .refl
theorem psm_cont : PSM X Y (.Continue pos) mCont := ps_weak ps_continue fun D σ H hq => by
  obtain ⟨F, ρ, S, q⟩ := hq
  exact q F H σ S .refl
/-- x = e -/
def mStore (I : List Nat) (i : Nat) (b : Md × W) (ρ : Rho) : R Fl := if i ∈ I then .stk else match b.1 with
  | .fre => .ok .nx (ρ.set i (.own b.2))
  | m => (toVal I (m, b.2) ρ).bind fun w ρ1 => .ok .nx (ρ1.set i (.val w))
def mSet (I : List Nat) (i : Nat) (f : Rho → R (Md × W)) : Rho → R Fl := fun ρ => (f ρ).bind fun b ρ1 => mStore I i b ρ1
theorem store_of {K : PySem.W.Frag} {F : Fz} {H : Hp} {σ : L2.St} {ρ : Rho} {D : Ends} {i : Nat} {b : Md × W} {v : V} (S : SR K Y.B F H σ ρ) (h : VR K Y.B F H σ ρ b.1 b.2 v) (q : RunS K Y F H (mStore I i b ρ) D) : D.nx (σ.set i (some v)) H := by
  unfold mStore at q
  split at q
  · exact q.elim
  · rename_i n
    have u := Y.un n
    obtain ⟨m, w⟩ := b
    cases m with
    | fre => exact q F H _ (S.setOwn u h) .refl
    | val =>
      have qg := RunS.bindE (σ := σ) (show RunS K Y F H ((toVal I (.val, w) ρ).bind _) D from q)
      obtain ⟨F', w', ρ', S', k, r, q'⟩ := S.toVal (b := (.val, w)) h qg
      exact q' F' H _ (S'.setVal u r) .refl
    | bor j =>
      have qg := RunS.bindE (σ := σ) (show RunS K Y F H ((toVal I (.bor j, w) ρ).bind _) D from q)
      obtain ⟨F', w', ρ', S', k, r, q'⟩ := S.toVal (b := (.bor j, w)) h qg
      exact q' F' H _ (S'.setVal u r) .refl
theorem psm_set {i : Nat} {x : Str} {pos' : Pos} (hN : X.N.Nodup) (hi : X.N[i]? = some x) (hx : Loc X.env.scope x) (he : PEM X Y e f) (hs : swapsWith e (some (.Name x pos')) pos.line X.env = pure false := by rfl)
    (hf : X.fn x = true ∨ X.env.scope.names.lookup x = some .local := by first | exact .inl rfl | exact .inr rfl) : PSM X Y (.Assign [.Name x pos'] e pos) (mSet I i f) :=
  ps_weak (ps_set hN hi hx he hs) fun D σ H hq => by
    obtain ⟨F, ρ, S, q⟩ := hq
    exact ⟨F, ρ, S, (RunS.bindE q).imp fun b ρ1 F1 H1 S1 k1 q1 v hv => store_of S1 hv q1⟩
/-- a value is dropped -/
def mDrop (f : Rho → R (Md × W)) : Rho → R Fl := fun ρ => (f ρ).bind fun _ ρ1 => .ok .nx ρ1
theorem psm_expr (he : PEM X Y e f) (hs : swapsWith e none pos.line X.env = pure false := by rfl) : PSM X Y (.Expr e pos) (mDrop f) := ps_weak (ps_expr he hs) fun D σ H hq => by
  obtain ⟨F, ρ, S, q⟩ := hq
  exact ⟨F, ρ, S, (RunS.bindE q).imp fun b ρ1 F1 H1 S1 k1 q1 v hv => q1 F1 H1 σ S1 .refl⟩
/-- return e -/
def mRet (I : List Nat) (f : Rho → R (Md × W)) : Rho → R Fl := fun ρ => (f ρ).bind fun b ρ1 => match b.1 with
  | .val => .ok (.rt .val b.2) ρ1
  | .fre => .ok (.rt .fre b.2) ρ1
  | .bor i => if i ∈ I then .stk else .ok (.rt .fre b.2) (ρ1.set i .no)
theorem ret_of {K : PySem.W.Frag} {F : Fz} {H : Hp} {σ : L2.St} {ρ : Rho} {i : Nat} {w : W} {v : V} (S : SR K Y.B F H σ ρ) (u : unlent Y.B i) (h : VR K Y.B F H σ ρ (.bor i) w v) : SR K Y.B F H σ (ρ.set i .no) ∧ Fre K Y.B F H σ (ρ.set i .no) w v := by
  obtain ⟨h1, h2⟩ := h
  obtain ⟨a, e1, o, nf, nk⟩ := S.slot i _ h1
  rw [h2] at e1
  cases e1
  refine ⟨S.drop u, a, rfl, o, nf, S.new_of h1 h2 u, fun j w' hj ej => ?_⟩
  rcases set_cases hj with ⟨_, e, _⟩ | ⟨n, g⟩
  · cases e
  · exact n (S.sep j i w' w a g h1 ej h2)
theorem psm_ret (he : PEM X Y e f) : PSM X Y (.Return (some e) pos) (mRet I f) := ps_weak (ps_ret he) fun D σ H hq => by
  obtain ⟨F, ρ, S, q⟩ := hq
  refine ⟨F, ρ, S, (RunS.bindE q).imp fun b ρ1 F1 H1 S1 k1 q1 v hv => ?_⟩
  obtain ⟨m, w⟩ := b
  cases m with
  | val => exact q1 F1 H1 σ v S1 hv
  | fre => exact q1 F1 H1 σ v S1 hv
  | bor i =>
    dsimp only at q1
    split at q1
    · exact q1.elim
    · rename_i n
      obtain ⟨S2, fr⟩ := ret_of S1 (Y.un n) hv
      exact q1 F1 H1 σ v S2 fr
def mRetN : Rho → R Fl := fun ρ => .ok (.rt .val .non) ρ
theorem psm_retN : PSM X Y (.Return none pos) mRetN := ps_weak ps_retN fun D σ H hq => by
  obtain ⟨F, ρ, S, q⟩ := hq
  exact q F H σ .non S rfl
/-! ### tests -/
def tMT (K : PySem.W.Frag) (Y : Yx I) (f : Rho → R Bool) : TT := fun σ H Q => ∃ F ρ, SR K Y.B F H σ ρ ∧ RunG K Y F H σ (f ρ) fun b _ _ H' => Q b H'
def PTM (X : Cx) (Y : Yx I) (e : Expr) (f : Rho → R Bool) : Prop := PT X e (tMT X.K Y f)
def PWM (X : Cx) (Y : Yx I) (e : Expr) (f : Rho → R Bool) : Prop := PW X e (tMT X.K Y f)
theorem pt_weak {e : Expr} {t t' : TT} (h : PT X e t) (q : ∀ σ H Q, t' σ H Q → t σ H Q) : PT X e t' := ⟨fun pins s σ H Q I hq => h.run pins s σ H Q I (q _ _ _ hq)⟩
theorem pw_weak {e : Expr} {t t' : TT} (h : PW X e t) (q : ∀ σ H Q, t' σ H Q → t σ H Q) : PW X e t' := ⟨fun wh pins s σ H Q I hq => h.run wh pins s σ H Q I (q _ _ _ hq)⟩
/-- a bool -/
def boolOf (b : Md × W) (ρ : Rho) : R Bool := match b.2 with
  | .bl c => .ok c ρ
  | _ => .stk
def mTest (f : Rho → R (Md × W)) : Rho → R Bool := fun ρ => (f ρ).bind boolOf
theorem VR.bl {K : PySem.W.Frag} {B : Bd} {F : Fz} {H : Hp} {σ : L2.St} {ρ : Rho} {m : Md} {c : Bool} {v : V} (S : SR K B F H σ ρ) (h : VR K B F H σ ρ m (.bl c) v) : v = .bl c := by
  cases m with
  | val => exact h
  | fre => obtain ⟨a, rfl, o, _⟩ := h; exact o.elim
  | bor i =>
    obtain ⟨h1, h2⟩ := h
    obtain ⟨a, e, o, _⟩ := S.slot i _ h1
    exact o.elim
theorem test_of {K : PySem.W.Frag} {σ : L2.St} {H : Hp} {Q : Bool → Hp → Prop} (hq : tMT K Y (mTest f) σ H Q) : tTest (tM K Y f) σ H Q := by
  obtain ⟨F, ρ, S, q⟩ := hq
  refine ⟨F, ρ, S, (RunG.bind q).imp fun b ρ1 F1 H1 S1 k1 q1 v hv => ?_⟩
  obtain ⟨m, w⟩ := b
  unfold boolOf at q1
  dsimp only at q1
  split at q1
  · exact ⟨_, hv.bl S1, q1 F1 H1 S1 .refl⟩
  · exact q1.elim
end
end ML

set_option maxHeartbeats 4000000
namespace ML
open PySem PySem.Spec PyProof.Rows L2
variable {I : List Nat}
section
variable {X : Cx} {Y : Yx I} {e a b : Expr} {st : Stmt} {sts : List Stmt} {pos : Pos} {f fa fb : Rho → R (Md × W)} {g g' : Rho → R Fl} {c c' : Rho → R Bool}
/-! ### tests -/
theorem ptm_val (he : PEM X Y e f) (hw : ∀ whole, isTrue e X.env whole = (do let v ← whole; standAt e.pos; holding [v] (truthy v)) := by intro _; rfl) : PTM X Y e (mTest f) := pt_weak (pt_val he hw) fun _ _ _ => test_of
theorem ptm_cmp {op : CmpOp} {r : R2} {gw : W → W → Option (Md × W)} (ho : OpR X (compareOp op) r) (hg : OpW X.K r gw) (ha : PEM X Y a fa) (hb : PEM X Y b fb) (hm : behindInMarks op b = false) : PTM X Y (.Compare a [op] [b] pos) (mTest (mOp gw fa fb)) :=
  pt_weak (pt_cmpR ho ha hb hm) fun σ H Q hq => by
    obtain ⟨F, ρ, S, q⟩ := test_of hq
    exact tOp_of hg ⟨F, ρ, S, q⟩
theorem ptm_isN {j pos'} (ha : PEM X Y a fa) : PTM X Y (.Compare a [.Is] [.Constant .none j pos'] pos) (mTest (mIsN false fa)) := pt_weak (pt_cmp (pc_isN ha) (nomark _)) fun σ H Q hq => by
  obtain ⟨F, ρ, S, q⟩ := test_of hq
  refine ⟨F, ρ, S, (RunG.bind q).imp fun x ρ1 F1 H1 S1 k1 q1 v1 hv1 => ?_⟩
  have z := q1 F1 H1 S1 .refl (.bl (decide (v1 = .non))) ?_
  · exact z
  · show V.bl _ = V.bl _
    rw [hv1.non_iff S1]
    rfl
theorem ptm_notN {j pos'} (ha : PEM X Y a fa) : PTM X Y (.Compare a [.IsNot] [.Constant .none j pos'] pos) (mTest (mIsN true fa)) := pt_weak (pt_cmp (pc_notN ha) (nomark _)) fun σ H Q hq => by
  obtain ⟨F, ρ, S, q⟩ := test_of hq
  refine ⟨F, ρ, S, (RunG.bind q).imp fun x ρ1 F1 H1 S1 k1 q1 v1 hv1 => ?_⟩
  have z := q1 F1 H1 S1 .refl (.bl (!decide (v1 = .non))) ?_
  · exact z
  · show V.bl _ = V.bl _
    rw [hv1.non_iff S1]
    rfl
def mNot (c : Rho → R Bool) : Rho → R Bool := fun ρ => (c ρ).bind fun b ρ1 => .ok (!b) ρ1
theorem ptm_not (h : PTM X Y a c) : PTM X Y (.UnaryOp .Not a pos) (mNot c) := pt_weak (pt_not h) fun σ H Q hq => by
  obtain ⟨F, ρ, S, q⟩ := hq
  exact ⟨F, ρ, S, (RunG.bind q).imp fun b ρ1 F1 H1 S1 k1 q1 => q1 F1 H1 S1 .refl⟩
def mAnd (c c' : Rho → R Bool) : Rho → R Bool := fun ρ => (c ρ).bind fun b ρ1 => if b then c' ρ1 else .ok false ρ1
def mOr (c c' : Rho → R Bool) : Rho → R Bool := fun ρ => (c ρ).bind fun b ρ1 => if b then .ok true ρ1 else c' ρ1
theorem pwm_and1 (h : PTM X Y a c) : PWM X Y (.BoolOp .And [a] pos) c := pw_and1 h
theorem pwm_or1 (h : PTM X Y a c) : PWM X Y (.BoolOp .Or [a] pos) c := pw_or1 h
theorem pwm_and {rest : List Expr} (h : PTM X Y a c) (h' : PWM X Y (.BoolOp .And (b :: rest) pos) c') : PWM X Y (.BoolOp .And (a :: b :: rest) pos) (mAnd c c') := pw_weak (pw_and h h') fun σ H Q hq => by
  obtain ⟨F, ρ, S, q⟩ := hq
  refine ⟨F, ρ, S, (RunG.bind q).imp fun b ρ1 F1 H1 S1 k1 q1 => ?_⟩
  cases b with
  | true => exact ⟨F1, ρ1, S1, q1⟩
  | false => exact q1 F1 H1 S1 .refl
theorem pwm_or {rest : List Expr} (h : PTM X Y a c) (h' : PWM X Y (.BoolOp .Or (b :: rest) pos) c') : PWM X Y (.BoolOp .Or (a :: b :: rest) pos) (mOr c c') := pw_weak (pw_or h h') fun σ H Q hq => by
  obtain ⟨F, ρ, S, q⟩ := hq
  refine ⟨F, ρ, S, (RunG.bind q).imp fun b ρ1 F1 H1 S1 k1 q1 => ?_⟩
  cases b with
  | true => exact q1 F1 H1 S1 .refl
  | false => exact ⟨F1, ρ1, S1, q1⟩
/-- not, and, or of bools, as values -/
def mNotV (fa : Rho → R (Md × W)) : Rho → R (Md × W) := fun ρ => ((fa ρ).bind boolOf).bind fun b ρ1 => .ok (.val, .bl (!b)) ρ1
theorem pem_not (h : PEM X Y a fa) : PEM X Y (.UnaryOp .Not a pos) (mNotV fa) := pe_weak (pe_not h) fun σ H Q hq => by
  obtain ⟨F, ρ, S, q⟩ := hq
  refine ⟨F, ρ, S, (RunG.bind (RunG.bind q)).imp fun x ρ1 F1 H1 S1 k1 q1 v1 hv1 => ?_⟩
  obtain ⟨m, w⟩ := x
  unfold boolOf at q1
  dsimp only at q1
  split at q1
  · exact ⟨_, hv1.bl S1, q1 F1 H1 S1 .refl F1 H1 S1 .refl _ rfl⟩
  · exact q1.elim
def mAndV (fa fb : Rho → R (Md × W)) : Rho → R (Md × W) := fun ρ => ((fa ρ).bind boolOf).bind fun b ρ1 => if b then fb ρ1 else .ok (.val, .bl false) ρ1
def mOrV (fa fb : Rho → R (Md × W)) : Rho → R (Md × W) := fun ρ => ((fa ρ).bind boolOf).bind fun b ρ1 => if b then .ok (.val, .bl true) ρ1 else fb ρ1
theorem pem_one {op} (h : PEM X Y a fa) : PEM X Y (.BoolOp op [a] pos) fa := pe_one h
theorem pem_and {rest : List Expr} (h : PEM X Y a fa) (h' : PEM X Y (.BoolOp .And (b :: rest) pos) fb) : PEM X Y (.BoolOp .And (a :: b :: rest) pos) (mAndV fa fb) := pe_weak (pe_and h h') fun σ H Q hq => by
  obtain ⟨F, ρ, S, q⟩ := hq
  refine ⟨F, ρ, S, (RunG.bind (RunG.bind q)).imp fun x ρ1 F1 H1 S1 k1 q1 v1 hv1 => ?_⟩
  obtain ⟨m, w⟩ := x
  unfold boolOf at q1
  dsimp only at q1
  split at q1
  · rename_i c
    refine ⟨c, hv1.bl S1, ?_⟩
    have q2 := q1 F1 H1 S1 .refl
    cases c with
    | true => exact ⟨F1, ρ1, S1, q2⟩
    | false => exact q2 F1 H1 S1 .refl _ rfl
  · exact q1.elim
theorem pem_or {rest : List Expr} (h : PEM X Y a fa) (h' : PEM X Y (.BoolOp .Or (b :: rest) pos) fb) : PEM X Y (.BoolOp .Or (a :: b :: rest) pos) (mOrV fa fb) := pe_weak (pe_or h h') fun σ H Q hq => by
  obtain ⟨F, ρ, S, q⟩ := hq
  refine ⟨F, ρ, S, (RunG.bind (RunG.bind q)).imp fun x ρ1 F1 H1 S1 k1 q1 v1 hv1 => ?_⟩
  obtain ⟨m, w⟩ := x
  unfold boolOf at q1
  dsimp only at q1
  split at q1
  · rename_i c
    refine ⟨c, hv1.bl S1, ?_⟩
    have q2 := q1 F1 H1 S1 .refl
    cases c with
    | true => exact q2 F1 H1 S1 .refl _ rfl
    | false => exact ⟨F1, ρ1, S1, q2⟩
  · exact q1.elim
def mIfE (c : Rho → R Bool) (fa fb : Rho → R (Md × W)) : Rho → R (Md × W) := fun ρ => (c ρ).bind fun b ρ1 => if b then fa ρ1 else fb ρ1
theorem pem_ifE {t : Expr} (hc : PTM X Y t c) (ha : PEM X Y a fa) (hb : PEM X Y b fb) : PEM X Y (.IfExp t a b pos) (mIfE c fa fb) := pe_weak (pe_ifExp hc ha hb) fun σ H Q hq => by
  obtain ⟨F, ρ, S, q⟩ := hq
  refine ⟨F, ρ, S, (RunG.bind q).imp fun b ρ1 F1 H1 S1 k1 q1 => ?_⟩
  cases b with
  | true => exact ⟨F1, ρ1, S1, q1⟩
  | false => exact ⟨F1, ρ1, S1, q1⟩
/-! ### if -/
def mIf (c : Rho → R Bool) (g g' : Rho → R Fl) : Rho → R Fl := fun ρ => (c ρ).bind fun b ρ1 => if b then g ρ1 else g' ρ1
theorem psm_if {t : Expr} {xs ys : List Stmt} (hc : PTM X Y t c) (ha : PSMs X Y xs g) (hb : PSMs X Y ys g') : PSM X Y (.If t xs ys pos) (mIf c g g') := ps_weak (ps_if hc ha hb) fun D σ H hq => by
  obtain ⟨F, ρ, S, q⟩ := hq
  refine ⟨F, ρ, S, (RunS.bindE q).imp fun b ρ1 F1 H1 S1 k1 q1 => ?_⟩
  cases b with
  | true => exact ⟨F1, ρ1, S1, q1⟩
  | false => exact ⟨F1, ρ1, S1, q1⟩
/-! ### while -/
def loopF (r : R Fl) (k : Rho → R Fl) : R Fl := r.bind fun fl ρ => match fl with
  | .nx => k ρ
  | .ct => k ρ
  | .bk => .ok .nx ρ
  | .rt m w => .ok (.rt m w) ρ
def whileN (c : Rho → R Bool) (g : Rho → R Fl) : Nat → Rho → R Fl
  | 0, _ => .stk
  | n + 1, ρ => (c ρ).bind fun b ρ1 => if b then loopF (g ρ1) (whileN c g n) else .ok .nx ρ1
theorem bind_stk {α β : Type} {r : R α} {k k' : α → Rho → R β} (h : r.bind k ≠ .stk) (q : ∀ a ρ, k a ρ ≠ .stk → k' a ρ = k a ρ) : r.bind k' = r.bind k := by
  cases r with
  | ok a ρ => exact q a ρ h
  | exc c ns ws ρ => rfl
  | stk => exact absurd rfl h
theorem whileN_mono {c : Rho → R Bool} {g : Rho → R Fl} : ∀ (n m : Nat) (ρ : Rho), n ≤ m → whileN c g n ρ ≠ .stk → whileN c g m ρ = whileN c g n ρ
  | 0, _, _, _, h => absurd rfl h
  | n + 1, 0, _, l, _ => absurd l (by omega)
  | n + 1, m + 1, ρ, l, h => bind_stk h fun b ρ1 h1 => by
    cases b with
    | false => rfl
    | true =>
      refine bind_stk (show loopF (g ρ1) (whileN c g n) ≠ .stk from h1) fun fl ρ2 h2 => ?_
      cases fl with
      | nx => exact whileN_mono n m ρ2 (by omega) h2
      | ct => exact whileN_mono n m ρ2 (by omega) h2
      | bk => rfl
      | rt m w => rfl
open Classical in
/-- while c: g (as many turns as it takes; stk if it never ends) -/
noncomputable def mWhile (c : Rho → R Bool) (g : Rho → R Fl) : Rho → R Fl := fun ρ => if h : ∃ n, whileN c g n ρ ≠ .stk then whileN c g (Classical.choose h) ρ else .stk
theorem mWhile_of {c : Rho → R Bool} {g : Rho → R Fl} {n : Nat} {ρ : Rho} (h : whileN c g n ρ ≠ .stk) : mWhile c g ρ = whileN c g n ρ := by
  have e : ∃ n, whileN c g n ρ ≠ .stk := ⟨n, h⟩
  unfold mWhile
  rw [dif_pos e]
  have h2 := Classical.choose_spec e
  rcases Nat.le_total n (Classical.choose e) with l | l
  · exact whileN_mono _ _ _ l h
  · exact (whileN_mono _ _ _ l h2).symm
theorem mWhile_is {c : Rho → R Bool} {g : Rho → R Fl} {ρ : Rho} (h : mWhile c g ρ ≠ .stk) : ∃ n, mWhile c g ρ = whileN c g n ρ := by
  unfold mWhile at h ⊢
  split at h
  · rename_i e
    rw [dif_pos e]
    exact ⟨_, rfl⟩
  · exact absurd rfl h
/-- one turn -/
theorem mWhile_step {c : Rho → R Bool} {g : Rho → R Fl} {ρ : Rho} {r : R Fl} (hr : r ≠ .stk) (h : ((c ρ).bind fun b ρ1 => if b then loopF (g ρ1) (mWhile c g) else .ok .nx ρ1) = r) : mWhile c g ρ = r := by
  have key : ∃ n, whileN c g n ρ = r := by
    cases ec : c ρ with
    | stk => rw [ec] at h; exact absurd h.symm hr
    | exc cc ns ws ρ' => exact ⟨1, by show (c ρ).bind _ = r; rw [ec]; rw [ec] at h; exact h⟩
    | ok b ρ1 =>
      rw [ec] at h
      cases b with
      | false => exact ⟨1, by show (c ρ).bind _ = r; rw [ec]; exact h⟩
      | true =>
        have h1 : loopF (g ρ1) (mWhile c g) = r := h
        cases eg : g ρ1 with
        | stk => rw [eg] at h1; exact absurd h1.symm hr
        | exc cc ns ws ρ' => exact ⟨1, by show (c ρ).bind _ = r; rw [ec]; show loopF (g ρ1) _ = r; rw [eg]; rw [eg] at h1; exact h1⟩
        | ok fl ρ2 =>
          rw [eg] at h1
          have go : ∀ x : R Fl, mWhile c g ρ2 = x → x = r → ∃ n, whileN c g n ρ2 = r := fun x e1 e2 => by
            obtain ⟨n, en⟩ := mWhile_is (ρ := ρ2) (c := c) (g := g) (by rw [e1, e2]; exact hr)
            exact ⟨n, by rw [← en, e1, e2]⟩
          cases fl with
          | nx =>
            obtain ⟨n, en⟩ := go _ rfl h1
            exact ⟨n + 1, by show (c ρ).bind _ = r; rw [ec]; show loopF (g ρ1) _ = r; rw [eg]; exact en⟩
          | ct =>
            obtain ⟨n, en⟩ := go _ rfl h1
            exact ⟨n + 1, by show (c ρ).bind _ = r; rw [ec]; show loopF (g ρ1) _ = r; rw [eg]; exact en⟩
          | bk => exact ⟨1, by show (c ρ).bind _ = r; rw [ec]; show loopF (g ρ1) _ = r; rw [eg]; exact h1⟩
          | rt m w => exact ⟨1, by show (c ρ).bind _ = r; rw [ec]; show loopF (g ρ1) _ = r; rw [eg]; exact h1⟩
  obtain ⟨n, en⟩ := key
  rw [mWhile_of (n := n) (by rw [en]; exact hr), en]
theorem while_of {K : PySem.W.Frag} {D : Ends} : ∀ (n : Nat) {F : Fz} {H : Hp} {σ : L2.St} {ρ : Rho}, SR K Y.B F H σ ρ → RunS K Y F H (whileN c g n ρ) D → tWhile (tMT K Y c) (tMS K Y g) D σ H := by
  intro n F H σ ρ S q
  refine ⟨fun m σ H => ∃ F ρ, SR K Y.B F H σ ρ ∧ RunS K Y F H (whileN c g m ρ) D, ⟨n, F, ρ, S, q⟩, ?_⟩
  rintro m σ H ⟨F, ρ, S, q⟩
  cases m with
  | zero => exact q.elim
  | succ m =>
    refine ⟨F, ρ, S, (RunS.bindE q).imp fun b ρ1 F1 H1 S1 k1 q1 => ?_⟩
    cases b with
    | false => exact q1 F1 H1 σ S1 .refl
    | true =>
      refine ⟨fun σ H => ∃ F ρ, SR K Y.B F H σ ρ ∧ RunS K Y F H (whileN c g m ρ) D, fun σ' H' h => ⟨m, Nat.lt_succ_self m, h⟩, F1, ρ1, S1, ?_⟩
      have q2 : RunS K Y F1 H1 (loopF (g ρ1) (whileN c g m)) D := q1
      unfold loopF at q2
      cases e : g ρ1 with
      | stk => rw [e] at q2; exact q2.elim
      | exc cc ns ws ρ' => rw [e] at q2; exact q2
      | ok fl ρ2 =>
        rw [e] at q2
        cases fl with
        | nx => exact fun F' H' σ' S' k' => ⟨F', ρ2, S', RunS.rebase (show RunS K Y F1 H1 (whileN c g m ρ2) D from q2) k'⟩
        | ct => exact fun F' H' σ' S' k' => ⟨F', ρ2, S', RunS.rebase (show RunS K Y F1 H1 (whileN c g m ρ2) D from q2) k'⟩
        | bk => exact q2
        | rt m w => exact q2
theorem psm_while {t : Expr} {body : List Stmt} (hp : PassesOwn (model X.prog X.w) X.A X.env X.xe) (hc : PTM X Y t c) (hb : PSMs X Y body g) : PSM X Y (.While t body [] pos) (mWhile c g) := ps_weak (ps_while hp hc hb) fun D σ H hq => by
  obtain ⟨F, ρ, S, q⟩ := hq
  obtain ⟨n, en⟩ := mWhile_is (c := c) (g := g) (ρ := ρ) (fun z => by rw [z] at q; exact q)
  rw [en] at q
  exact while_of n S q
end
end ML

set_option maxHeartbeats 4000000
namespace ML
open PySem PySem.Spec PyProof.Rows L2
variable {I : List Nat}
/-! ### what a for walks -/
def Tg (F : Fz) (H : Hp) : Prop := ∀ a, F a → H a ≠ none
/-- the iterator J hands out the words ws, whatever else is made meanwhile -/
def ItR (K : PySem.W.Frag) (J : It) (F : Fz) (H : Hp) (ws : List W) : Prop := ∀ F' H', Keeps F H F' H' → Tight F' H' → ∀ i,
  (∀ w, ws[i]? = some w → J.go i H' ∧ ∀ x H'', J.yld i H' x H'' → ∃ F'', Ext [] F' H' F'' H'' ∧ Rep K F'' H'' w x) ∧ (ws.length ≤ i → J.stop i H')
def tMI (K : PySem.W.Frag) (Y : Yx I) (it : Rho → R (List W)) : TI := fun σ H R => ∃ F ρ, SR K Y.B F H σ ρ ∧ RunG K Y F H σ (it ρ) fun ws ρ' F' H' => ∀ J, ItR K J F' H' ws → R J H'
def PIM (X : Cx) (Y : Yx I) (tg iter : Expr) (it : Rho → R (List W)) : Prop := PI X tg iter (tMI X.K Y it)
theorem pi_weak {X : Cx} {tg e : Expr} {t t' : TI} (h : PI X tg e t) (q : ∀ σ H R, t' σ H R → t σ H R) : PI X tg e t' := ⟨fun pins s σ H R I hq => h.run pins s σ H R I (q _ _ _ hq)⟩
/-- the target of a for, of an assignment -/
def tMG (K : PySem.W.Frag) (Y : Yx I) (t : W → Rho → Option Rho) : TG := fun v σ H Q => ∃ F ρ w ρ', SR K Y.B F H σ ρ ∧ Rep K F H w v ∧ t w ρ = some ρ' ∧ ∀ F' H' σ', SR K Y.B F' H' σ' ρ' → Keeps F H F' H' → Q σ' H'
def PGM (X : Cx) (Y : Yx I) (tg : Expr) (t : W → Rho → Option Rho) : Prop := PG X tg (tMG X.K Y t)
theorem pg_weak {X : Cx} {e : Expr} {t t' : TG} (h : PG X e t) (q : ∀ v σ H Q, t' v σ H Q → t v σ H Q) : PG X e t' := ⟨fun pins s σ H v u Q I r hq => h.run pins s σ H v u Q I r (q _ _ _ _ hq)⟩
def gSet (I : List Nat) (i : Nat) (w : W) (ρ : Rho) : Option Rho := if i ∈ I then none else some (ρ.set i (.val w))
theorem pgm_name {X : Cx} {Y : Yx I} {e : Expr} {i : Nat} (h : PG X e (gName i)) : PGM X Y e (gSet I i) := pg_weak h fun v σ H Q hq => by
  obtain ⟨F, ρ, w, ρ', S, r, e, q⟩ := hq
  unfold gSet at e
  split at e
  · cases e
  · rename_i n
    cases e
    exact q F H _ (S.setVal (Y.un n) r) .refl
/-- a, b, ..: a tuple's items to targets -/
def gTups : List (W → Rho → Option Rho) → List W → Rho → Option Rho
  | [], [], ρ => some ρ
  | t :: ts, w :: ws, ρ => (t w ρ).bind fun ρ1 => gTups ts ws ρ1
  | _, _, _ => none
def tMGs (K : PySem.W.Frag) (Y : Yx I) (ts : List (W → Rho → Option Rho)) : TGs := fun vs σ H Q => ∃ F ρ ws ρ', SR K Y.B F H σ ρ ∧ RepL K F H ws vs ∧ gTups ts ws ρ = some ρ' ∧ ∀ F' H' σ', SR K Y.B F' H' σ' ρ' → Keeps F H F' H' → Q σ' H'
def PGMs (X : Cx) (Y : Yx I) (es : List Expr) (ts : List (W → Rho → Option Rho)) : Prop := PGs X es (tMGs X.K Y ts)
theorem pgs_weak {X : Cx} {e : List Expr} {t t' : TGs} (h : PGs X e t) (q : ∀ v σ H Q, t' v σ H Q → t v σ H Q) : PGs X e t' := ⟨fun pins s σ H v u Q I r hq => h.run pins s σ H v u Q I r (q _ _ _ _ hq)⟩
theorem pgms_nil {X : Cx} {Y : Yx I} : PGMs X Y [] [] := pgs_weak pgs_nil fun v σ H Q hq => by
  obtain ⟨F, ρ, ws, ρ', S, r, e, q⟩ := hq
  cases ws with
  | nil => cases e; cases r; exact ⟨rfl, q F H σ S .refl⟩
  | cons w l => cases e
theorem pgms_cons {X : Cx} {Y : Yx I} {e : Expr} {es : List Expr} {t : W → Rho → Option Rho} {ts : List (W → Rho → Option Rho)} (h1 : PGM X Y e t) (h2 : PGMs X Y es ts) (hs : (assignEach (e :: es) X.env).map (·.2) = assign e X.env :: (assignEach es X.env).map (·.2) := by rfl) : PGMs X Y (e :: es) (t :: ts) := pgs_weak (pgs_cons h1 h2 hs) fun v σ H Q hq => by
  obtain ⟨F, ρ, ws, ρ', S, r, e, q⟩ := hq
  cases ws with
  | nil => cases e
  | cons w l =>
    obtain ⟨v, vs, rfl, r1, r2⟩ := r
    obtain ⟨ρ1, e1, e2⟩ := Option.bind_eq_some_iff.mp (show (t w ρ).bind _ = _ from e)
    exact ⟨v, vs, rfl, F, ρ, w, ρ1, S, r1, e1, fun F' H' σ' S' k' => ⟨F', ρ1, l, ρ', S', r2.mono k', e2, fun F2 H2 σ2 S2 k2 => q F2 H2 σ2 S2 (k'.trans k2)⟩⟩
def gTup (ts : List (W → Rho → Option Rho)) (w : W) (ρ : Rho) : Option Rho := match w with
  | .tup l => gTups ts l ρ
  | _ => none
theorem gTups_len : ∀ {ts : List (W → Rho → Option Rho)} {ws : List W} {ρ ρ' : Rho}, gTups ts ws ρ = some ρ' → ws.length = ts.length
  | [], [], _, _, _ => rfl
  | t :: ts, w :: ws, ρ, ρ', h => by
    obtain ⟨ρ1, e1, e2⟩ := Option.bind_eq_some_iff.mp (show (t w ρ).bind _ = _ from h)
    rw [List.length_cons, List.length_cons, gTups_len e2]
  | [], _ :: _, _, _, h => by cases h
  | _ :: _, [], _, _, h => by cases h
theorem pgm_tup {X : Cx} {Y : Yx I} {e : Expr} {n : Nat} {ts : List (W → Rho → Option Rho)} (h : PG X e (L2.gTup X.K n (tMGs X.K Y ts))) (hn : ts.length = n) : PGM X Y e (gTup ts) := pg_weak h fun v σ H Q hq => by
  obtain ⟨F, ρ, w, ρ', S, r, e, q⟩ := hq
  cases w with
  | tup l =>
    obtain ⟨a, vs, rfl, hs, r2⟩ := r
    have e' : gTups ts l ρ = some ρ' := e
    exact ⟨a, vs, rfl, hs.seq, by rw [← r2.len, gTups_len e', hn], F, ρ, l, ρ', S, r2, e', q⟩
  | _ => cases e
/-- x, y = e -/
def mAsgT (I : List Nat) (t : W → Rho → Option Rho) (f : Rho → R (Md × W)) : Rho → R Fl := fun ρ => (f ρ).bind fun b ρ1 => (toVal I b ρ1).bind fun w ρ2 => match t w ρ2 with
  | some ρ3 => .ok .nx ρ3
  | none => .stk
theorem psm_asgT {X : Cx} {Y : Yx I} {st : Stmt} {t : W → Rho → Option Rho} {f : Rho → R (Md × W)} (h : PS X st (tAsg (tM X.K Y f) (tMG X.K Y t))) : PSM X Y st (mAsgT I t f) := ps_weak h fun D σ H hq => by
  obtain ⟨F, ρ, S, q⟩ := hq
  refine ⟨F, ρ, S, (RunS.bindE q).imp fun b ρ1 F1 H1 S1 k1 q1 v hv => ?_⟩
  obtain ⟨F2, w, ρ2, S2, k2, r, q2⟩ := S1.toVal hv (RunS.bindE (σ := σ) q1)
  cases e : t w ρ2 with
  | none => rw [e] at q2; exact q2.elim
  | some ρ3 =>
    rw [e] at q2
    exact ⟨F2, ρ2, w, ρ3, S2, r, e, q2⟩
/-! ### for -/
def forL (tg : W → Rho → Option Rho) (g : Rho → R Fl) : List W → Rho → R Fl
  | [], ρ => .ok .nx ρ
  | w :: ws, ρ => match tg w ρ with
    | some ρ1 => loopF (g ρ1) (forL tg g ws)
    | none => .stk
def mFor (it : Rho → R (List W)) (tg : W → Rho → Option Rho) (g : Rho → R Fl) : Rho → R Fl := fun ρ => (it ρ).bind fun ws ρ1 => forL tg g ws ρ1
theorem drop_get {α : Type} {l : List α} {i : Nat} {x : α} {r : List α} (h : l.drop i = x :: r) : l[i]? = some x ∧ l.drop (i + 1) = r := by
  have h1 : (l.drop i)[0]? = some x := by rw [h]; rfl
  rw [List.getElem?_drop, Nat.add_zero] at h1
  refine ⟨h1, ?_⟩
  rw [← List.drop_drop (i := 1) (j := i), h]
  rfl
theorem for_of {K : PySem.W.Frag} {Y : Yx I} {it : Rho → R (List W)} {tg : W → Rho → Option Rho} {g : Rho → R Fl} {D : Ends} {σ : L2.St} {H : Hp} (hq : tMS K Y (mFor it tg g) D σ H) : tFor (tMI K Y it) (tMG K Y tg) (tMS K Y g) D σ H := by
  obtain ⟨F, ρ, S, q⟩ := hq
  refine ⟨F, ρ, S, (RunS.bindE q).imp fun ws ρ1 F1 H1 S1 k1 q1 J hJ => ?_⟩
  refine ⟨fun i m σ H => ∃ F ρ, SR K Y.B F H σ ρ ∧ m = ws.length - i ∧ Keeps F1 H1 F H ∧ RunS K Y F H (forL tg g (ws.drop i) ρ) D, ⟨_, F1, ρ1, S1, rfl, .refl, q1⟩, ?_⟩
  rintro i m σ H ⟨F, ρ, S, rfl, k, q⟩
  have hi := hJ F H k S.f2 i
  cases e : ws.drop i with
  | nil =>
    rw [e] at q
    exact .inl ⟨hi.2 (List.drop_eq_nil_iff.mp e), q F H σ S .refl⟩
  | cons w r =>
    obtain ⟨ew, er⟩ := drop_get e
    obtain ⟨go, yl⟩ := hi.1 w ew
    have lt := (List.getElem?_eq_some_iff.mp ew).1
    refine .inr ⟨go, fun σ' H' => ∃ F ρ, SR K Y.B F H' σ' ρ ∧ Keeps F1 H1 F H' ∧ RunS K Y F H' (forL tg g (ws.drop (i + 1)) ρ) D, fun σ' H' ⟨F', ρ', S', k', q'⟩ => ⟨ws.length - (i + 1), by omega, F', ρ', S', rfl, k', q'⟩, fun x H'' y => ?_⟩
    obtain ⟨F2, ex, rx⟩ := yl x H'' y
    rw [e] at q
    have q2 : RunS K Y F H (match tg w ρ with
      | some ρ1 => loopF (g ρ1) (forL tg g r)
      | none => .stk) D := q
    cases et : tg w ρ with
    | none => rw [et] at q2; exact q2.elim
    | some ρ3 =>
      rw [et] at q2
      refine ⟨F2, ρ, w, ρ3, S.grow ex, rx, et, fun F3 H3 σ3 S3 k3 => ⟨F3, ρ3, S3, ?_⟩⟩
      have kk : Keeps F H F3 H3 := ex.keeps.trans k3
      have q3 : RunS K Y F3 H3 (loopF (g ρ3) (forL tg g r)) D := RunS.rebase q2 kk
      unfold loopF at q3
      cases eg : g ρ3 with
      | stk => rw [eg] at q3; exact q3.elim
      | exc cc ns us ρ' => rw [eg] at q3; exact q3
      | ok fl ρ4 =>
        rw [eg] at q3
        cases fl with
        | nx => exact fun F' H' σ' S' k' => ⟨F', ρ4, S', (k.trans kk).trans k', by rw [er]; exact RunS.rebase (show RunS K Y F3 H3 (forL tg g r ρ4) D from q3) k'⟩
        | ct => exact fun F' H' σ' S' k' => ⟨F', ρ4, S', (k.trans kk).trans k', by rw [er]; exact RunS.rebase (show RunS K Y F3 H3 (forL tg g r ρ4) D from q3) k'⟩
        | bk => exact q3
        | rt m w => exact q3
theorem psm_for {X : Cx} {Y : Yx I} {tgE iter : Expr} {body : List Stmt} {it : Rho → R (List W)} {tg : W → Rho → Option Rho} {g : Rho → R Fl} {pos : Pos} (hp : PassesOwn (model X.prog X.w) X.A X.env X.xe) (hc : X.calm = true) (hi : PIM X Y tgE iter it) (hg : PGM X Y tgE tg) (hb : PSMs X Y body g)
    (hs : ∀ x, foldedSetIterable iter X.env x = pure x := by intro _; rfl) : PSM X Y (.For tgE iter body [] pos) (mFor it tg g) := ps_weak (ps_for hp hc hi hg hb hs) fun _ _ _ => for_of
/-! ### over a list, a tuple -/
theorem it_list {K : PySem.W.Frag} {F : Fz} {H : Hp} {a : Addr} {ws : List W} {vs : List V} (hs : ∀ F' H', Keeps F H F' H' → SqL K H' a vs) (r : RepL K F H ws vs) : ItR K (Itl K a) F H ws := by
  intro F' H' k t i
  refine ⟨fun w ew => ?_, fun h => ⟨vs, hs F' H' k, by rw [← r.len]; exact h⟩⟩
  obtain ⟨v, ev, rv⟩ := r.get ew
  refine ⟨⟨vs, v, hs F' H' k, ev⟩, ?_⟩
  rintro x H'' ⟨rfl, y⟩
  have e := y vs (hs F' _ k)
  rw [ev] at e
  cases e
  exact ⟨F', .refl t, rv.mono k⟩
theorem it_tup {K : PySem.W.Frag} {F : Fz} {H : Hp} {a : Addr} {ws : List W} {vs : List V} (hs : SqU K H a vs) (r : RepL K F H ws vs) : ItR K (Itt K a) F H ws := by
  intro F' H' k t i
  refine ⟨fun w ew => ?_, fun h => ⟨vs, (k.sqU hs).seq, by rw [← r.len]; exact h⟩⟩
  obtain ⟨v, ev, rv⟩ := r.get ew
  refine ⟨⟨vs, v, (k.sqU hs).seq, ev⟩, ?_⟩
  rintro x H'' ⟨rfl, y⟩
  have e := y vs (k.sqU hs).seq
  rw [ev] at e
  cases e
  exact ⟨F', .refl t, rv.mono k⟩
/-- a list, a tuple, or a text -/
def iSeqM (K : PySem.W.Frag) (tl : TE) : TI := fun σ H R => tl σ H fun x H1 => (∃ y, x = .str y ∧ R (Its y) H1) ∨ ∃ a, x = .ref a ∧ ((∃ vs, SqL K H1 a vs ∧ R (Itl K a) H1) ∨ ∃ vs, SqT K H1 a vs ∧ R (Itt K a) H1)
theorem pi_seqM {X : Cx} {tg l : Expr} {tl : TE} (hl : PE X l tl) : PI X tg l (iSeqM X.K tl) := ⟨fun pins s0 σ H R J0 hq =>
  thn (hl.run pins s0 σ H _ J0 hq) fun u s1 ⟨x, H1, J1, rx, cs⟩ => by
    rcases cs with ⟨y, ey, q⟩ | ⟨a, ea, cs⟩
    · subst ey
      obtain ⟨t, rfl⟩ := rx
      cases ha : y.cps.all (· < 128)
      · exact wpAny_pyIter_wide ha (pi_one (tk := s1.toks) J1 _ (turn_str _ y t "str_iterator" (.inr rfl)) ⟨_, Heap.get?_push_size _ rfl, rfl, rfl⟩ q)
      · exact wpAny_pyIter_ascii ha (pi_one (tk := s1.toks) J1 _ (turn_str _ y t "str_ascii_iterator" (.inl rfl)) ⟨_, Heap.get?_push_size _ rfl, rfl, rfl⟩ q)
    subst ea
    cases rx
    rcases cs with ⟨vs, hv, r⟩ | ⟨vs, hv, r⟩
    · obtain ⟨ys, _, pl, _⟩ := J1.list hv
      exact wpAny_pyIter_list pl.isList (pi_one (tk := s1.toks) J1 _ (turn_list a _) ⟨_, Heap.get?_push_size _ rfl, rfl, rfl⟩ r)
    · obtain ⟨ys, _, pl, _⟩ := J1.tuple hv
      exact wpAny_pyIter_tuple pl (pi_one (tk := s1.toks) J1 _ (turn_tuple a _) ⟨_, Heap.get?_push_size _ rfl, rfl, rfl⟩ r)⟩
def itemsX : W → Option (List W)
  | .str z => some (z.cps.toList.map fun c => .str ⟨#[c]⟩)
  | w => itemsW w
theorem it_str {K : PySem.W.Frag} {F : Fz} {H : Hp} {z : Str} : ItR K (Its z) F H (z.cps.toList.map fun c => .str ⟨#[c]⟩) := by
  intro F' H' k t i
  refine ⟨fun w ew => ?_, fun h => ?_⟩
  · rw [List.getElem?_map, Option.map_eq_some_iff] at ew
    obtain ⟨c, ec, rfl⟩ := ew
    have ec' : z.cps[i]? = some c := by rw [← Array.getElem?_toList]; exact ec
    refine ⟨(Array.getElem?_eq_some_iff.mp ec').1, ?_⟩
    rintro x H'' ⟨rfl, c', e1, rfl⟩
    rw [ec'] at e1
    cases e1
    exact ⟨F', .refl t, rfl⟩
  · rw [List.length_map, Array.length_toList] at h
    exact h
def mItems (I : List Nat) (f : Rho → R (Md × W)) : Rho → R (List W) := fun ρ => (f ρ).bind fun b ρ1 => (toVal I b ρ1).bind fun w ρ2 => lift (itemsX w) ρ2
section
variable {X : Cx} {Y : Yx I} {tg e : Expr} {f : Rho → R (Md × W)}
theorem pim_seq (he : PEM X Y e f) : PIM X Y tg e (mItems I f) := pi_weak (pi_seqM he) fun σ H Q hq => by
  obtain ⟨F, ρ, S, q⟩ := hq
  refine ⟨F, ρ, S, (RunG.bind q).imp fun b ρ1 F1 H1 S1 k1 q1 v hv => ?_⟩
  obtain ⟨F2, w, ρ2, S2, k2, r, q2⟩ := S1.toVal hv (RunG.bind q1)
  obtain ⟨ws, ew, q3⟩ := lift_ok q2
  have q4 := q3 F2 H1 S2 .refl
  cases w with
  | str z =>
    cases ew
    cases r
    exact .inl ⟨z, rfl, q4 _ it_str⟩
  | tup l =>
    cases ew
    obtain ⟨a, vs, rfl, hs, rl⟩ := r
    exact .inr ⟨a, rfl, .inr ⟨vs, hs.seq, q4 _ (it_tup hs rl)⟩⟩
  | lst l =>
    cases ew
    obtain ⟨a, vs, rfl, fa, hs, rl⟩ := r
    exact .inr ⟨a, rfl, .inl ⟨vs, .of hs, q4 _ (it_list (fun F' H' k => .of (k.h a _ hs (.inl fa))) rl)⟩⟩
  | frl l =>
    cases ew
    obtain ⟨a, vs, rfl, hs, rl⟩ := r
    exact .inr ⟨a, rfl, .inl ⟨vs, hs.seq, q4 _ (it_list (fun F' H' k => (k.frl hs).seq) rl)⟩⟩
  | _ => cases ew
end
/-! ### arguments -/
def HeldL (σ : L2.St) (K : PySem.W.Frag) (F : Fz) (H : Hp) : List (Md × W) → List V → Prop
  | [], vs => vs = []
  | b :: bs, vs => ∃ v r, vs = v :: r ∧ Held σ K F H b.1 b.2 v ∧ HeldL σ K F H bs r
theorem Held.mono {σ : L2.St} {K : PySem.W.Frag} {F F' : Fz} {H H' : Hp} (k : Keeps F H F' H') {m : Md} {w : W} {v : V} (h : Held σ K F H m w v) : Held σ K F' H' m w v := by
  cases m with
  | val => exact Rep.mono k w h
  | fre => exact Rep.mono k w h
  | bor i => exact h
theorem HeldL.mono {σ : L2.St} {K : PySem.W.Frag} {F F' : Fz} {H H' : Hp} (k : Keeps F H F' H') : ∀ {bs : List (Md × W)} {vs : List V}, HeldL σ K F H bs vs → HeldL σ K F' H' bs vs
  | [], _, h => h
  | b :: bs, _, ⟨v, r, e, h1, h2⟩ => ⟨v, r, e, h1.mono k, HeldL.mono k h2⟩
def mHold : List (Rho → R (Md × W)) → Rho → R (List (Md × W))
  | [], ρ => .ok [] ρ
  | f :: fs, ρ => (f ρ).bind fun b ρ1 => (mHold fs ρ1).bind fun bs ρ2 => .ok (b :: bs) ρ2
def tMA (K : PySem.W.Frag) (Y : Yx I) (fs : List (Rho → R (Md × W))) : TA := fun σ H Q => ∃ F ρ, SR K Y.B F H σ ρ ∧ RunG K Y F H σ (mHold fs ρ) fun bs ρ' F' H' => ∀ F2 vs, SR K Y.B F2 H' σ ρ' → Keeps F' H' F2 H' → HeldL σ K F2 H' bs vs → Q vs H'
def PAM (X : Cx) (Y : Yx I) (es : List Expr) (fs : List (Rho → R (Md × W))) : Prop := PA X es (tMA X.K Y fs)
theorem pa_weak {X : Cx} {e : List Expr} {t t' : TA} (h : PA X e t) (q : ∀ σ H Q, t' σ H Q → t σ H Q) : PA X e t' := ⟨fun pos pins s σ H Q I hq => h.run pos pins s σ H Q I (q _ _ _ hq)⟩
section
variable {X : Cx} {Y : Yx I} {e : Expr} {es : List Expr} {f : Rho → R (Md × W)} {fs : List (Rho → R (Md × W))}
theorem pam_nil : PAM X Y [] [] := pa_weak pa_nil fun σ H Q hq => by
  obtain ⟨F, ρ, S, q⟩ := hq
  exact q F H S .refl F [] S .refl rfl
theorem pam_cons (h1 : PEM X Y e f) (h2 : PAM X Y es fs) (hs : starEach (e :: es) X.env = (false, eval e X.env) :: starEach es X.env := by rfl) : PAM X Y (e :: es) (f :: fs) := pa_weak (pa_cons h1 h2 hs) fun σ H Q hq => by
  obtain ⟨F, ρ, S, q⟩ := hq
  refine ⟨F, ρ, S, (RunG.bind q).imp fun b ρ1 F1 H1 S1 k1 q1 v hv => ?_⟩
  obtain ⟨F1', S1', k1', hd1⟩ := S1.hold hv
  refine ⟨F1', ρ1, S1', (RunG.bind (q1.rebase k1')).imp fun bs ρ2 F2 H2 S2 k2 q2 F3 vs S3 k3 hvs => ?_⟩
  exact q2 F2 H2 S2 .refl F3 (v :: vs) S3 k3 ⟨v, vs, rfl, hd1.mono (k2.trans k3), hvs⟩
end
/-- all peeked -/
def peekL : List (Md × W) → Rho → Option (List W)
  | [], _ => some []
  | b :: bs, ρ => match peek b.1 b.2 ρ, peekL bs ρ with
    | some w, some ws => some (w :: ws)
    | _, _ => none
def PkL (K : PySem.W.Frag) (F : Fz) (H : Hp) : List W → List V → Prop
  | [], vs => vs = []
  | w :: ws, vs => ∃ v r, vs = v :: r ∧ PkR K F H w v ∧ PkL K F H ws r
theorem SR.peekL {K : PySem.W.Frag} {Y : Yx I} {F : Fz} {H : Hp} {σ : L2.St} {ρ : Rho} (S : SR K Y.B F H σ ρ) : ∀ {bs : List (Md × W)} {ws : List W} {vs : List V}, HeldL σ K F H bs vs → peekL bs ρ = some ws → PkL K F H ws vs
  | [], _, _, h, e => by cases e; exact h
  | b :: bs, ws, _, ⟨v, r, e0, h1, h2⟩, e => by
    unfold ML.peekL at e
    split at e
    · rename_i w us e1 e2
      cases e
      exact ⟨v, r, e0, S.peek h1 .refl e1, SR.peekL S h2 e2⟩
    · cases e
/-- all made values -/
def valsL (I : List Nat) : List (Md × W) → Rho → R (List W)
  | [], ρ => .ok [] ρ
  | b :: bs, ρ => (toVal I b ρ).bind fun w ρ1 => (valsL I bs ρ1).bind fun ws ρ2 => .ok (w :: ws) ρ2
theorem SR.valsL {K : PySem.W.Frag} {Y : Yx I} {H : Hp} {σ : L2.St} : ∀ {bs : List (Md × W)} {vs : List V} {F : Fz} {ρ : Rho} {P : List W → Rho → Fz → Hp → Prop}, SR K Y.B F H σ ρ → HeldL σ K F H bs vs → RunG K Y F H σ (valsL I bs ρ) P →
    ∃ F' ws ρ', SR K Y.B F' H σ ρ' ∧ Keeps F H F' H ∧ RepL K F' H ws vs ∧ P ws ρ' F' H
  | [], _, F, ρ, _, S, h, q => ⟨F, [], ρ, S, .refl, h, q F H S .refl⟩
  | b :: bs, _, F, ρ, P, S, ⟨v, r, e0, h1, h2⟩, q => by
    obtain ⟨F1, w, ρ1, S1, k1, r1, q1⟩ := S.toValH h1 .refl (RunG.bind q)
    obtain ⟨F2, ws, ρ2, S2, k2, r2, q2⟩ := SR.valsL S1 (h2.mono k1) (RunG.bind q1)
    exact ⟨F2, w :: ws, ρ2, S2, k1.trans k2, ⟨v, r, e0, r1.mono k2, r2⟩, q2 F2 H S2 .refl⟩
/-! ### displays -/
def mTup (I : List Nat) (fs : List (Rho → R (Md × W))) : Rho → R (Md × W) := fun ρ => (mHold fs ρ).bind fun bs ρ1 => (valsL I bs ρ1).bind fun ws ρ2 => if ws.length ≤ sizeLine then .ok (.val, .tup ws) ρ2 else .stk
def mLst (I : List Nat) (fs : List (Rho → R (Md × W))) : Rho → R (Md × W) := fun ρ => (mHold fs ρ).bind fun bs ρ1 => (valsL I bs ρ1).bind fun ws ρ2 => if ws.length ≤ sizeLine then .ok (.fre, .lst ws) ρ2 else .stk
section
variable {X : Cx} {Y : Yx I} {es : List Expr} {fs : List (Rho → R (Md × W))} {pos : Pos}
theorem pem_tup {x1} (h : PAM X Y es fs) : PEM X Y (.Tuple es x1 pos) (mTup I fs) := pe_weak (pe_tup h) fun σ H Q hq => by
  obtain ⟨F, ρ, S, q⟩ := hq
  refine ⟨F, ρ, S, (RunG.bind q).imp fun bs ρ1 F1 H1 S1 k1 q1 F2 vs S2 k2 hvs => ?_⟩
  obtain ⟨F3, ws, ρ3, S3, k3, r, q3⟩ := S2.valsL hvs ((RunG.bind q1).rebase k2)
  split at q3
  · rename_i l
    refine ⟨by rw [← r.len]; exact l, fun p hp => ?_⟩
    exact new_tup (Q := Q) S3.f2 r (fun F' H' v e n => q3 F' H' (S3.grow e) e.keeps v (S3.newR e n)) hp
  · exact q3.elim
theorem pem_lst (h : PAM X Y es fs) : PEM X Y (.List es pos) (mLst I fs) := pe_weak (pe_lst h) fun σ H Q hq => by
  obtain ⟨F, ρ, S, q⟩ := hq
  refine ⟨F, ρ, S, (RunG.bind q).imp fun bs ρ1 F1 H1 S1 k1 q1 F2 vs S2 k2 hvs => ?_⟩
  obtain ⟨F3, ws, ρ3, S3, k3, r, q3⟩ := S2.valsL hvs ((RunG.bind q1).rebase k2)
  split at q3
  · rename_i l
    refine ⟨by rw [← r.len]; exact l, fun p hp => ?_⟩
    exact new_lst (Q := Q) S3.f2 r (fun F' H' v e n => q3 F' H' (S3.grow e) e.keeps v (S3.newR e n)) hp
  · exact q3.elim
end
/-! ### built-ins by values -/
abbrev GC := List W → Option (Md × W)
def CallW (K : PySem.W.Frag) (r : List V → Hp → VK → Prop) (g : GC) : Prop := ∀ xs m z, g xs = some (m, z) → ∀ (F : Fz) (H : Hp) (vs : List V) (Q : VK), Tight F H → PkL K F H xs vs → (∀ F' H' v, Ext [] F H F' H' → NewR K H F' H' m z v → Q v H') → r vs H Q
def mCB (g : GC) (fs : List (Rho → R (Md × W))) : Rho → R (Md × W) := fun ρ => (mHold fs ρ).bind fun bs ρ1 => match peekL bs ρ1 with
  | some ws => lift (g ws) ρ1
  | none => .stk
theorem tCB_of {K : PySem.W.Frag} {Y : Yx I} {r : List V → Hp → VK → Prop} {g : GC} {fs : List (Rho → R (Md × W))} {σ : L2.St} {H : Hp} {Q : VK} (hg : CallW K r g) (hq : tM K Y (mCB g fs) σ H Q) : tCB r (tMA K Y fs) σ H Q := by
  obtain ⟨F, ρ, S, q⟩ := hq
  refine ⟨F, ρ, S, (RunG.bind q).imp fun bs ρ1 F1 H1 S1 k1 q1 F2 vs S2 k2 hvs => ?_⟩
  have q2 := q1.rebase k2
  cases e : peekL bs ρ1 with
  | none => rw [e] at q2; exact q2.elim
  | some ws =>
    rw [e] at q2
    obtain ⟨⟨m, z⟩, ez, qz⟩ := lift_ok q2
    exact hg ws m z ez F2 H1 vs Q S2.f2 (S2.peekL hvs e) fun F' H' v ee hn => qz F' H' (S2.grow ee) ee.keeps v (S2.newR ee hn)
end ML

set_option maxHeartbeats 4000000
namespace ML
open PySem PySem.Spec PyProof.Rows L2
variable {I : List Nat}
/-! ### what a def promises: its mirror; J: the parameters whose lists the caller lends -/
inductive FR where
  | ok (fr : Bool) (w : W) (outs : List W)
  | exc (c : Str) (ns : List Str) (ws : List W) (outs : List W)
  | stk
def ArgsOk (K : PySem.W.Frag) (F : Fz) (H : Hp) (J : List Nat) : Nat → List W → List V → Prop
  | _, [], vs => vs = []
  | k, w :: ws, vs => ∃ v r, vs = v :: r ∧ (if k ∈ J then ∃ a, v = .ref a ∧ OwnR K F H w a ∧ ¬ F a else Rep K F H w v) ∧ ArgsOk K F H J (k + 1) ws r
def lentA (J : List Nat) (vs : List V) : List (Nat × Addr) := J.filterMap fun (i : Nat) => match vs[i]? with
  | some (V.ref a) => some (i, a)
  | _ => none
def LentOk (J : List Nat) (vs : List V) : Prop := (lentA J vs).map (·.1) = J ∧ ∀ (p : Nat × Addr), p ∈ lentA J vs → ∀ (q : Nat × Addr), q ∈ lentA J vs → p.2 = q.2 → p.1 = q.1
def OutsOk (K : PySem.W.Frag) (F : Fz) (H : Hp) (l : List (Nat × Addr)) (outs : List W) : Prop := outs.length = l.length ∧ ∀ (n : Nat) (p : Nat × Addr) (w : W), l[n]? = some p → outs[n]? = some w → OwnR K F H w p.2 ∧ ¬ F p.2
def spM (K : PySem.W.Frag) (ct : Str → Addr) (J : List Nat) (np : Nat) (fm : List W → FR) : Sp := fun vs H Q E => ∃ F args, vs.length = np ∧ Tight F H ∧ ArgsOk K F H J 0 args vs ∧
  LentOk J vs ∧ match fm args with
  | .ok fr w outs => ∀ F' H' v, Ext ((lentA J vs).map (·.2)) F H F' H' → OutsOk K F' H' (lentA J vs) outs → NewR K H F' H' (if fr then .fre else .val) w v → Q v H'
  | .exc c ns ws outs => ∀ F' H' d, Ext ((lentA J vs).map (·.2)) F H F' H' → OutsOk K F' H' (lentA J vs) outs → ExF K F' H' ns ws d → E (.ref (ct c)) d H'
  | .stk => False
theorem ArgsOk.len {K : PySem.W.Frag} {F : Fz} {H : Hp} {J : List Nat} : ∀ {k : Nat} {ws : List W} {vs : List V}, ArgsOk K F H J k ws vs → ws.length = vs.length
  | _, [], _, h => by cases h; rfl
  | k, w :: ws, _, ⟨v, r, e, _, h⟩ => by rw [e, List.length_cons, List.length_cons, ArgsOk.len h]
theorem ArgsOk.get {K : PySem.W.Frag} {F : Fz} {H : Hp} {J : List Nat} : ∀ {k : Nat} {ws : List W} {vs : List V} {i : Nat} {w : W}, ArgsOk K F H J k ws vs → ws[i]? = some w → ∃ v, vs[i]? = some v ∧ (if k + i ∈ J then ∃ a, v = .ref a ∧ OwnR K F H w a ∧ ¬ F a else Rep K F H w v)
  | _, [], _, _, _, _, e => by simp at e
  | k, w :: ws, _, 0, u, ⟨v, r, e0, h1, _⟩, e => by
    have e1 : w = u := Option.some.inj e
    subst e1
    exact ⟨v, by rw [e0]; rfl, h1⟩
  | k, w :: ws, _, i + 1, u, ⟨v, r, e0, _, h2⟩, e => by
    obtain ⟨x, ex, hx⟩ := ArgsOk.get (k := k + 1) (ws := ws) (vs := r) (i := i) (w := u) h2 e
    refine ⟨x, by rw [e0]; exact ex, ?_⟩
    rw [show k + (i + 1) = k + 1 + i by omega]
    exact hx
/-! ### the frame at the entry -/
def rhoA (J : List Nat) : Nat → List W → Rho
  | _, [] => []
  | k, w :: ws => (if k ∈ J then .own w else .val w) :: rhoA J (k + 1) ws
def rho0 (J : List Nat) (args : List W) (n : Nat) : Rho := rhoA J 0 args ++ List.replicate (n - args.length) .no
theorem rhoA_len {J : List Nat} : ∀ {k : Nat} {ws : List W}, (rhoA J k ws).length = ws.length
  | _, [] => rfl
  | k, w :: ws => by
    show (rhoA J (k + 1) ws).length + 1 = ws.length + 1
    rw [rhoA_len]
theorem rhoA_get {J : List Nat} : ∀ {k : Nat} {ws : List W} {i : Nat} {s : Sl}, (rhoA J k ws)[i]? = some s → ∃ w, ws[i]? = some w ∧ s = if k + i ∈ J then .own w else .val w
  | _, [], _, _, e => by simp [rhoA] at e
  | k, w :: ws, 0, s, e => ⟨w, rfl, (Option.some.inj e).symm⟩
  | k, w :: ws, i + 1, s, e => by
    obtain ⟨u, eu, es⟩ := rhoA_get (J := J) (k := k + 1) (ws := ws) (i := i) (s := s) e
    refine ⟨u, eu, ?_⟩
    rw [show k + (i + 1) = k + 1 + i by omega]
    exact es
theorem rho0_get {J : List Nat} {args : List W} {n i : Nat} {s : Sl} (h : (rho0 J args n)[i]? = some s) : s = .no ∨ ∃ w, args[i]? = some w ∧ s = if i ∈ J then .own w else .val w := by
  unfold rho0 at h
  by_cases hi : i < args.length
  · rw [List.getElem?_append_left (by rw [rhoA_len]; exact hi)] at h
    obtain ⟨w, ew, es⟩ := rhoA_get h
    right
    rw [Nat.zero_add] at es
    exact ⟨w, ew, es⟩
  · rw [List.getElem?_append_right (by rw [rhoA_len]; omega), List.getElem?_replicate] at h
    split at h
    · left; exact (Option.some.inj h).symm
    · cases h
theorem start_get {N : List Str} {vs : List V} {i : Nat} {v : V} (h : vs[i]? = some v) : (L2.start N vs)[i]? = some (some v) := by
  unfold L2.start
  have hi := (List.getElem?_eq_some_iff.mp h).1
  rw [List.getElem?_append_left (by rw [List.length_map]; exact hi), List.getElem?_map, h]
  rfl
theorem lentA_mem {J : List Nat} {vs : List V} {p : Nat × Addr} (h : p ∈ lentA J vs) : p.1 ∈ J ∧ vs[p.1]? = some (.ref p.2) := by
  unfold lentA at h
  obtain ⟨i, hi, e⟩ := List.mem_filterMap.mp h
  split at e
  · rename_i a q
    cases e
    exact ⟨hi, q⟩
  · cases e
theorem lentA_of {J : List Nat} {vs : List V} {i : Nat} {a : Addr} (hi : i ∈ J) (h : vs[i]? = some (.ref a)) : (i, a) ∈ lentA J vs := by
  unfold lentA
  exact List.mem_filterMap.mpr ⟨i, hi, by rw [h]⟩
theorem sr_start {K : PySem.W.Frag} {F : Fz} {H : Hp} {J : List Nat} {N : List Str} {args : List W} {vs : List V} (t : Tight F H) (h : ArgsOk K F H J 0 args vs)
    (hJ : (lentA J vs).map (·.1) = J) (hs : ∀ p ∈ lentA J vs, ∀ q ∈ lentA J vs, p.2 = q.2 → p.1 = q.1) (hn : vs.length ≤ N.length) : SR K ⟨H, F, lentA J vs⟩ F H (L2.start N vs) (rho0 J args N.length) := by
  have hl := h.len
  have arg : ∀ {i : Nat} {w : W}, (rho0 J args N.length)[i]? = some (.own w) → i ∈ J ∧ args[i]? = some w := fun {i w} e => by
    rcases rho0_get e with z | ⟨u, eu, z⟩
    · cases z
    · split at z
      · rename_i q; cases z; exact ⟨q, eu⟩
      · cases z
  have own : ∀ {i : Nat} {w : W}, i ∈ J → args[i]? = some w → ∃ a, vs[i]? = some (.ref a) ∧ OwnR K F H w a ∧ ¬ F a := fun {i w} hi e => by
    obtain ⟨v, ev, q⟩ := h.get e
    rw [if_pos (by rw [Nat.zero_add]; exact hi)] at q
    obtain ⟨a, ea, q⟩ := q
    exact ⟨a, by rw [ev, ea], q⟩
  refine ⟨?_, fun i s e => ?_, fun i j w w' a h1 h2 e1 e2 => ?_, fun p hp => ?_, fun _ _ _ e => e, fun _ e => e, fun _ e => e, fun _ e => .inl e, t⟩
  · unfold L2.start rho0
    rw [List.length_append, List.length_append, List.length_map, List.length_replicate, List.length_replicate, rhoA_len, hl]
  · rcases rho0_get e with z | ⟨u, eu, z⟩
    · rw [z]; trivial
    · obtain ⟨v, ev, q⟩ := h.get eu
      rw [Nat.zero_add] at q
      split at z
      · rename_i hi
        obtain ⟨a, ea, o, nf⟩ := own hi eu
        rw [z]
        exact ⟨a, start_get ea, o, nf, fun k => k.2 _ (lentA_of hi ea) rfl⟩
      · rename_i hi
        rw [if_neg hi] at q
        rw [z]
        exact ⟨v, start_get ev, q⟩
  · obtain ⟨hi, ei⟩ := arg h1
    obtain ⟨hj, ej⟩ := arg h2
    obtain ⟨b, eb, _⟩ := own hi ei
    obtain ⟨c, ec, _⟩ := own hj ej
    rw [start_get eb] at e1
    rw [start_get ec] at e2
    cases e1
    cases e2
    exact hs _ (lentA_of hi eb) _ (lentA_of hj ec) rfl
  · obtain ⟨hp1, hp2⟩ := lentA_mem hp
    refine ⟨start_get hp2, ?_⟩
    have hi : p.1 < args.length := by rw [hl]; exact (List.getElem?_eq_some_iff.mp hp2).1
    refine ⟨args[p.1], ?_⟩
    have g : ∀ (k : Nat) (ws : List W) (i : Nat) (w : W), ws[i]? = some w → (rhoA J k ws)[i]? = some (if k + i ∈ J then .own w else .val w) := by
      intro k ws
      induction ws generalizing k with
      | nil => intro i w e; simp at e
      | cons x ws ih =>
        intro i w e
        cases i with
        | zero =>
          have e1 : x = w := Option.some.inj e
          subst e1
          rfl
        | succ i =>
          have := ih (k + 1) i w e
          rw [show k + (i + 1) = k + 1 + i by omega]
          exact this
    unfold rho0
    rw [List.getElem?_append_left (by rw [rhoA_len]; exact hi), g 0 args p.1 _ (List.getElem?_eq_getElem hi), if_pos (by rw [Nat.zero_add]; exact hp1)]
/-! ### the def's mirror by its body's -/
def ownAt (ρ : Rho) (i : Nat) : Option W := match ρ[i]? with
  | some (.own w) => some w
  | _ => none
def outsOf : List Nat → Rho → Option (List W)
  | [], _ => some []
  | i :: is, ρ => match ownAt ρ i, outsOf is ρ with
    | some w, some ws => some (w :: ws)
    | _, _ => none
def finF (J : List Nat) (r : R Fl) : FR := match r with
  | .ok .nx ρ => (match outsOf J ρ with
    | some outs => .ok false .non outs
    | none => .stk)
  | .ok (.rt m w) ρ => (match m, outsOf J ρ with
    | .val, some outs => .ok false w outs
    | .fre, some outs => .ok true w outs
    | _, _ => .stk)
  | .exc c ns ws ρ => (match outsOf J ρ with
    | some outs => .exc c ns ws outs
    | none => .stk)
  | _ => .stk
def mFun (J : List Nat) (n : Nat) (g : Rho → R Fl) : List W → FR := fun args => finF J (g (rho0 J args n))
theorem ownAt_get {ρ : Rho} {i : Nat} {w : W} (h : ownAt ρ i = some w) : ρ[i]? = some (.own w) := by
  unfold ownAt at h
  split at h
  · cases h; assumption
  · cases h
theorem outs_ok {K : PySem.W.Frag} {B : Bd} {F : Fz} {H : Hp} {σ : L2.St} {ρ : Rho} (S : SR K B F H σ ρ) : ∀ {l : List (Nat × Addr)} {outs : List W}, (∀ p ∈ l, p ∈ B.I) → outsOf (l.map (·.1)) ρ = some outs → OutsOk K F H l outs
  | [], outs, _, e => by
    cases e
    exact ⟨rfl, fun n p w e => by simp at e⟩
  | p :: l, outs, hm, e => by
    have e1 : (match ownAt ρ p.1, outsOf (l.map (·.1)) ρ with
      | some w, some ws => some (w :: ws)
      | _, _ => none) = some outs := e
    split at e1
    · rename_i w ws ew ews
      cases e1
      obtain ⟨h1, h2⟩ := outs_ok S (fun q hq => hm q (List.mem_cons_of_mem _ hq)) ews
      refine ⟨by rw [List.length_cons, List.length_cons, h1], fun n q u eq eu => ?_⟩
      cases n with
      | zero =>
        cases eq
        cases eu
        have g := ownAt_get ew
        obtain ⟨a, ea, o, nf, _⟩ := S.slot _ _ g
        obtain ⟨la, _⟩ := S.lent p (hm p List.mem_cons_self)
        rw [la] at ea
        cases ea
        exact ⟨o, nf⟩
      | succ n => exact h2 n q u eq eu
    · cases e1
theorem fin_of {K : PySem.W.Frag} {ct : Str → Addr} {J : List Nat} {F : Fz} {H : Hp} {vs : List V} {Q : VK} {E : XK} {r : R Fl} {Y : Yx J} (hY : Y.B = ⟨H, F, lentA J vs⟩) (hct : Y.ct = ct) (hwx : Y.wx = fun cls d _ H => E cls d H) (hJ : (lentA J vs).map (·.1) = J)
    (h : match finF J r with
      | .ok fr w outs => ∀ F' H' v, Ext ((lentA J vs).map (·.2)) F H F' H' → OutsOk K F' H' (lentA J vs) outs → NewR K H F' H' (if fr then .fre else .val) w v → Q v H'
      | .exc c ns ws outs => ∀ F' H' d, Ext ((lentA J vs).map (·.2)) F H F' H' → OutsOk K F' H' (lentA J vs) outs → ExF K F' H' ns ws d → E (.ref (ct c)) d H'
      | .stk => False) : RunS K Y F H r { nx := fun _ H' => Q .non H', rt := Q } := by
  have ext : ∀ {F' H' σ' ρ'}, SR K Y.B F' H' σ' ρ' → Ext ((lentA J vs).map (·.2)) F H F' H' := fun {F' H' σ' ρ'} S => by
    rw [hY] at S
    exact ⟨fun a o n e => S.ext a o ⟨by show H a ≠ none; rw [e]; exact (fun z => nomatch z), fun p hp z => n (List.mem_map.mpr ⟨p, hp, z⟩)⟩ e, S.f0, S.f1, S.f2⟩
  have out : ∀ {F' H' σ' ρ' outs}, SR K Y.B F' H' σ' ρ' → outsOf J ρ' = some outs → OutsOk K F' H' (lentA J vs) outs := fun {F' H' σ' ρ' outs} S e => by
    rw [← hJ] at e
    exact outs_ok S (fun p hp => by rw [hY]; exact hp) e
  cases r with
  | stk => exact h
  | exc c ns ws ρ =>
    unfold finF at h
    intro F' H' σ' d S x
    rw [hwx, hct]
    dsimp only at h
    cases e : outsOf J ρ with
    | none => rw [e] at h; exact h.elim
    | some outs => rw [e] at h; exact h F' H' d (ext S) (out S e) x
  | ok fl ρ =>
    unfold finF at h
    cases fl with
    | nx =>
      intro F' H' σ' S k
      dsimp only at h
      cases e : outsOf J ρ with
      | none => rw [e] at h; exact h.elim
      | some outs => rw [e] at h; exact h F' H' .non (ext S) (out S e) rfl
    | bk => exact h.elim
    | ct => exact h.elim
    | rt m w =>
      intro F' H' σ' v S hv
      dsimp only at h
      cases e : outsOf J ρ with
      | none => rw [e] at h; cases m <;> exact h.elim
      | some outs =>
        rw [e] at h
        cases m with
        | bor i => exact h.elim
        | val => exact h F' H' v (ext S) (out S e) hv
        | fre =>
          refine h F' H' v (ext S) (out S e) ?_
          obtain ⟨a, ea, o, nf, h0, _⟩ := hv
          rw [hY] at h0
          exact ⟨a, ea, o, nf, h0⟩
/-- THE RULE: a def's mirror by its body's -/
theorem fn_ok {P : Program} {w : World} {K : PySem.W.Frag} {mg : Str → Option Value} {base : Heap} {x qual : Str} {params : Arguments} {body : List Stmt} {scope : Scope} {dvs : List V} {kws : List (Str × V)} {f : Addr} {fd : FuncData} {N ps : List Str} {k : Nat} {ct : Str → Addr} {J : List Nat} {g : Rho → R Fl} {fm : List W → FR}
    (F : FunD K x qual params body scope dvs kws f fd) (S : FnScope N ps scope) (hn : ps.length ≤ N.length) (hg : ∀ args, args.length = ps.length → finF J (g (rho0 J args N.length)) = fm args)
    (hb : ∀ (cdv : Value) (A : Around) (outer : List Env) (s : Shared) (H : Hp) (E : XK) (Y : Yx J), Room k (A.deeper (envOfC qual scope s.heap.objs.size f cdv)) → Y.ct = ct → Takes (cxOf (L2.CX P w) P w K mg base N qual scope f cdv A outer s H E) Y.wx →
      PSMs (cxOf (L2.CX P w) P w K mg base N qual scope f cdv A outer s H E) Y body g) : FnOk P w K mg base (L2.CX P w) (k + 1) f fd ps (spM K ct J ps.length fm) := by
  refine F.ok S (fun vs H Q E ⟨_, _, h, _⟩ => h) fun cdv A outer s H vs Q E hr ⟨F0, args, hl, t, ha, ⟨hJ, hs⟩, hq⟩ => ?_
  refine ⟨_, hb cdv A outer s H E ⟨ct, ⟨H, F0, lentA J vs⟩, fun cls d _ H => E cls d H, hJ⟩ hr rfl (takes_of rfl rfl rfl rfl), F0, rho0 J args N.length, sr_start t ha hJ hs (by rw [hl]; exact hn), ?_⟩
  refine fin_of (vs := vs) rfl rfl rfl hJ ?_
  rw [hg args (by rw [ha.len, hl])]
  exact hq
end ML

set_option maxHeartbeats 4000000
namespace ML
open PySem PySem.Spec PyProof.Rows L2
variable {I : List Nat}
/-! ### a call of a def by its mirror -/
/-- the arguments: values, but the slots of the lent lists -/
def callA (I J : List Nat) : Nat → List (Md × W) → Rho → R (List (W ⊕ Nat))
  | _, [], ρ => .ok [] ρ
  | k, b :: bs, ρ => if k ∈ J then (match b.1 with
      | .bor i => (callA I J (k + 1) bs ρ).bind fun xs ρ1 => .ok (.inr i :: xs) ρ1
      | _ => .stk)
    else (toVal I b ρ).bind fun w ρ1 => (callA I J (k + 1) bs ρ1).bind fun xs ρ2 => .ok (.inl w :: xs) ρ2
def slotsX : List (W ⊕ Nat) → List Nat
  | [] => []
  | .inl _ :: xs => slotsX xs
  | .inr i :: xs => i :: slotsX xs
def posX : Nat → List (W ⊕ Nat) → List Nat
  | _, [] => []
  | k, .inl _ :: xs => posX (k + 1) xs
  | k, .inr _ :: xs => k :: posX (k + 1) xs
def resX (ρ : Rho) : List (W ⊕ Nat) → Option (List W)
  | [] => some []
  | .inl w :: xs => (resX ρ xs).map (w :: ·)
  | .inr i :: xs => match ownAt ρ i, resX ρ xs with
    | some w, some ws => some (w :: ws)
    | _, _ => none
def putOuts : List Nat → List W → Rho → Rho
  | i :: is, w :: ws, ρ => putOuts is ws (ρ.set i (.own w))
  | _, _, ρ => ρ
def mCall (I J : List Nat) (fm : List W → FR) (fs : List (Rho → R (Md × W))) : Rho → R (Md × W) := fun ρ => (mHold fs ρ).bind fun bs ρ1 => (callA I J 0 bs ρ1).bind fun xs ρ2 =>
  if (slotsX xs).Nodup ∧ posX 0 xs = J then (match resX ρ2 xs with
    | some args => (match fm args with
      | .ok fr w outs => .ok (if fr then .fre else .val, w) (putOuts (slotsX xs) outs ρ2)
      | .exc c ns ws outs => .exc c ns ws (putOuts (slotsX xs) outs ρ2)
      | .stk => .stk)
    | none => .stk)
  else .stk
def XRel (K : PySem.W.Frag) (F : Fz) (H : Hp) (σ : L2.St) : List (W ⊕ Nat) → List V → Prop
  | [], vs => vs = []
  | .inl w :: xs, vs => ∃ v r, vs = v :: r ∧ Rep K F H w v ∧ XRel K F H σ xs r
  | .inr i :: xs, vs => ∃ v r, vs = v :: r ∧ σ[i]? = some (some v) ∧ XRel K F H σ xs r
theorem XRel.mono {K : PySem.W.Frag} {F F' : Fz} {H H' : Hp} {σ : L2.St} (k : Keeps F H F' H') : ∀ {xs : List (W ⊕ Nat)} {vs : List V}, XRel K F H σ xs vs → XRel K F' H' σ xs vs
  | [], _, h => h
  | .inl w :: xs, _, ⟨v, r, e, h1, h2⟩ => ⟨v, r, e, h1.mono k, XRel.mono k h2⟩
  | .inr i :: xs, _, ⟨v, r, e, h1, h2⟩ => ⟨v, r, e, h1, XRel.mono k h2⟩
theorem callA_ok {K : PySem.W.Frag} {Y : Yx I} {J : List Nat} {H : Hp} {σ : L2.St} : ∀ {bs : List (Md × W)} {k : Nat} {vs : List V} {F : Fz} {ρ : Rho} {P : List (W ⊕ Nat) → Rho → Fz → Hp → Prop}, SR K Y.B F H σ ρ → HeldL σ K F H bs vs → RunG K Y F H σ (callA I J k bs ρ) P →
    ∃ F' xs ρ', SR K Y.B F' H σ ρ' ∧ Keeps F H F' H ∧ XRel K F' H σ xs vs ∧ P xs ρ' F' H
  | [], k, _, F, ρ, _, S, h, q => ⟨F, [], ρ, S, .refl, h, q F H S .refl⟩
  | b :: bs, k, _, F, ρ, P, S, ⟨v, r, e0, h1, h2⟩, q => by
    unfold callA at q
    split at q
    · obtain ⟨m, w⟩ := b
      cases m with
      | val => exact q.elim
      | fre => exact q.elim
      | bor i =>
        obtain ⟨F2, xs, ρ2, S2, k2, r2, q2⟩ := callA_ok S h2 (RunG.bind q)
        exact ⟨F2, .inr i :: xs, ρ2, S2, k2, ⟨v, r, e0, h1, r2⟩, q2 F2 H S2 .refl⟩
    · obtain ⟨F1, w, ρ1, S1, k1, r1, q1⟩ := S.toValH h1 .refl (RunG.bind q)
      obtain ⟨F2, xs, ρ2, S2, k2, r2, q2⟩ := callA_ok S1 (h2.mono k1) (RunG.bind q1)
      exact ⟨F2, .inl w :: xs, ρ2, S2, k1.trans k2, ⟨v, r, e0, r1.mono k2, r2⟩, q2 F2 H S2 .refl⟩
/-- what is lent: position, slot, address -/
def lentX : Nat → List (W ⊕ Nat) → List V → List (Nat × Nat × Addr)
  | k, .inl _ :: xs, _ :: vs => lentX (k + 1) xs vs
  | k, .inr i :: xs, .ref a :: vs => (k, i, a) :: lentX (k + 1) xs vs
  | k, .inr _ :: xs, _ :: vs => lentX (k + 1) xs vs
  | _, _, _ => []
section
variable {K : PySem.W.Frag} {Y : Yx I} {B : Bd} {F F' : Fz} {H H' : Hp} {σ : L2.St} {ρ : Rho} {J : List Nat}
theorem x_args (S : SR K B F H σ ρ) : ∀ {xs : List (W ⊕ Nat)} {k : Nat} {vs : List V} {args : List W}, XRel K F H σ xs vs → resX ρ xs = some args → (∀ j, j ∈ J → k ≤ j → j ∈ posX k xs) → (∀ j, j ∈ posX k xs → j ∈ J) → ArgsOk K F H J k args vs
  | [], k, _, _, h, e, _, _ => by cases e; exact h
  | .inl w :: xs, k, _, args, ⟨v, r, e0, h1, h2⟩, e, hj, hj2 => by
    obtain ⟨ws, ews, rfl⟩ := Option.map_eq_some_iff.mp (show (resX ρ xs).map _ = some args from e)
    have lt : ∀ {xs : List (W ⊕ Nat)} {k j : Nat}, j ∈ posX k xs → k ≤ j := fun {xs} => by
      induction xs with
      | nil => intro k j h; cases h
      | cons x xs ih =>
        intro k j h
        cases x with
        | inl w => exact Nat.le_of_succ_le (ih (k := k + 1) h)
        | inr i =>
          cases h with
          | head => exact Nat.le_refl _
          | tail _ h => exact Nat.le_of_succ_le (ih (k := k + 1) h)
    have nk : k ∉ J := fun hk => absurd (lt (k := k + 1) (show k ∈ posX (k + 1) xs from hj k hk (Nat.le_refl _))) (by omega)
    exact ⟨v, r, e0, by rw [if_neg nk]; exact h1, x_args S h2 ews (fun j hjj l => hj j hjj (by omega)) hj2⟩
  | .inr i :: xs, k, _, args, ⟨v, r, e0, h1, h2⟩, e, hj, hj2 => by
    have e1 : (match ownAt ρ i, resX ρ xs with
      | some w, some ws => some (w :: ws)
      | _, _ => none) = some args := e
    split at e1
    · rename_i w ws ew ews
      cases e1
      obtain ⟨a, ea, o, nf, _⟩ := S.slot _ _ (ownAt_get ew)
      rw [h1] at ea
      cases ea
      refine ⟨_, r, e0, ?_, x_args S h2 ews (fun j hjj l => ?_) fun j h => hj2 j (List.mem_cons_of_mem _ h)⟩
      · rw [if_pos (hj2 k List.mem_cons_self)]
        exact ⟨a, rfl, o, nf⟩
      · have := hj j hjj (by omega)
        cases this with
        | head => omega
        | tail _ h => exact h
    · cases e1
/-- all that the lent ones are -/
theorem x_lent (S : SR K B F H σ ρ) : ∀ {xs : List (W ⊕ Nat)} {k : Nat} {vs : List V} {args : List W}, XRel K F H σ xs vs → resX ρ xs = some args →
    (lentX k xs vs).map (·.1) = posX k xs ∧ (lentX k xs vs).map (·.2.1) = slotsX xs ∧ ∀ (t : Nat × Nat × Addr), t ∈ lentX k xs vs → k ≤ t.1 ∧ vs[t.1 - k]? = some (.ref t.2.2) ∧ σ[t.2.1]? = some (some (.ref t.2.2)) ∧ ∃ w, ρ[t.2.1]? = some (.own w)
  | [], k, vs, _, h, _ => by
    have e : vs = [] := h
    subst e
    exact ⟨rfl, rfl, fun t ht => by cases ht⟩
  | .inl w :: xs, k, _, args, ⟨v, r, e0, h1, h2⟩, e => by
    subst e0
    obtain ⟨ws, ews, rfl⟩ := Option.map_eq_some_iff.mp (show (resX ρ xs).map _ = some args from e)
    obtain ⟨g1, g2, g3⟩ := x_lent S (k := k + 1) h2 ews
    refine ⟨g1, g2, fun t ht => ?_⟩
    obtain ⟨l, e1, e2⟩ := g3 t ht
    refine ⟨by omega, ?_, e2⟩
    rw [show t.1 - k = (t.1 - (k + 1)) + 1 by omega, List.getElem?_cons_succ]
    exact e1
  | .inr i :: xs, k, _, args, ⟨v, r, e0, h1, h2⟩, e => by
    subst e0
    have e1 : (match ownAt ρ i, resX ρ xs with
      | some w, some ws => some (w :: ws)
      | _, _ => none) = some args := e
    split at e1
    · rename_i w ws ew ews
      cases e1
      obtain ⟨a, ea, o, nf, _⟩ := S.slot _ _ (ownAt_get ew)
      rw [h1] at ea
      cases ea
      obtain ⟨g1, g2, g3⟩ := x_lent S (k := k + 1) h2 ews
      refine ⟨by show k :: _ = k :: _; rw [g1], by show i :: _ = i :: _; rw [g2], fun t ht => ?_⟩
      cases ht with
      | head => exact ⟨Nat.le_refl _, by rw [Nat.sub_self]; rfl, h1, w, ownAt_get ew⟩
      | tail _ ht =>
        obtain ⟨l, e1, e2⟩ := g3 t ht
        refine ⟨by omega, ?_, e2⟩
        rw [show t.1 - k = (t.1 - (k + 1)) + 1 by omega, List.getElem?_cons_succ]
        exact e1
    · cases e1
theorem lentA_eq : ∀ {l : List (Nat × Nat × Addr)} {vs : List V}, (∀ (t : Nat × Nat × Addr), t ∈ l → vs[t.1]? = some (V.ref t.2.2)) → lentA (l.map (·.1)) vs = l.map fun t => (t.1, t.2.2)
  | [], _, _ => rfl
  | t :: l, vs, h => by
    have e := h t List.mem_cons_self
    have ih := lentA_eq (l := l) (vs := vs) fun u hu => h u (List.mem_cons_of_mem _ hu)
    unfold lentA at ih ⊢
    rw [List.map_cons, List.filterMap_cons, e, List.map_cons, ih]
/-- the slots behind the call -/
theorem putOuts_get : ∀ {is : List Nat} {ws : List W} {ρ : Rho}, is.Nodup → ws.length = is.length → (∀ i ∈ is, i < ρ.length) → (putOuts is ws ρ).length = ρ.length ∧ ∀ (j : Nat), (∃ (n : Nat) (w : W), is[n]? = some j ∧ ws[n]? = some w ∧ (putOuts is ws ρ)[j]? = some (.own w)) ∨ (j ∉ is ∧ (putOuts is ws ρ)[j]? = ρ[j]?)
  | [], [], ρ, _, _, _ => ⟨rfl, fun j => .inr ⟨by simp, rfl⟩⟩
  | i :: is, w :: ws, ρ, nd, hl, hlt => by
    rw [List.nodup_cons] at nd
    obtain ⟨h1, h2⟩ := putOuts_get (is := is) (ws := ws) (ρ := ρ.set i (.own w)) nd.2 (by simpa using hl) fun j hj => by rw [List.length_set]; exact hlt j (List.mem_cons_of_mem _ hj)
    refine ⟨by show (putOuts is ws (ρ.set i (.own w))).length = _; rw [h1, List.length_set], fun j => ?_⟩
    show (∃ (n : Nat) (u : W), (i :: is)[n]? = some j ∧ (w :: ws)[n]? = some u ∧ (putOuts is ws (ρ.set i (.own w)))[j]? = some (.own u)) ∨ (j ∉ i :: is ∧ (putOuts is ws (ρ.set i (.own w)))[j]? = ρ[j]?)
    rcases h2 j with ⟨n, u, e1, e2, e3⟩ | ⟨nj, e⟩
    · exact .inl ⟨n + 1, u, e1, e2, e3⟩
    · by_cases ej : j = i
      · subst ej
        refine .inl ⟨0, w, rfl, rfl, ?_⟩
        rw [e, set_eq (hlt j List.mem_cons_self)]
      · refine .inr ⟨fun z => ?_, by rw [e, set_ne ej]⟩
        cases z with
        | head => exact ej rfl
        | tail _ z => exact nj z
theorem nodup_get {α : Type} : ∀ {l : List α} {i j : Nat} {x : α}, l.Nodup → l[i]? = some x → l[j]? = some x → i = j
  | [], _, _, _, _, e, _ => by simp at e
  | a :: l, 0, 0, _, _, _, _ => rfl
  | a :: l, 0, j + 1, x, nd, e1, e2 => by
    have e : a = x := Option.some.inj e1
    subst e
    exact absurd (List.mem_of_getElem? (l := l) e2) (List.nodup_cons.mp nd).1
  | a :: l, i + 1, 0, x, nd, e1, e2 => by
    have e : a = x := Option.some.inj e2
    subst e
    exact absurd (List.mem_of_getElem? (l := l) e1) (List.nodup_cons.mp nd).1
  | a :: l, i + 1, j + 1, x, nd, e1, e2 => by rw [nodup_get (l := l) (List.nodup_cons.mp nd).2 e1 e2]
/-- the frame behind the call -/
theorem sr_called (S : SR K B F H σ ρ) {l : List (Nat × Nat × Addr)} {outs : List W} (hl : ∀ (t : Nat × Nat × Addr), t ∈ l → σ[t.2.1]? = some (some (.ref t.2.2)) ∧ ∃ w, ρ[t.2.1]? = some (.own w)) (nd : (l.map (·.2.1)).Nodup)
    (e : Ext (l.map (·.2.2)) F H F' H') (o : OutsOk K F' H' (l.map fun t => (t.1, t.2.2)) outs) : SR K B F' H' σ (putOuts (l.map (·.2.1)) outs ρ) ∧ Keeps F H F' H' := by
  have lent : ∀ (t : Nat × Nat × Addr), t ∈ l → ¬ F t.2.2 ∧ ¬ B.kept t.2.2 ∧ ∃ u, H t.2.2 = some u ∧ Mut (some u) := fun t ht => by
    obtain ⟨h1, w, h2⟩ := hl t ht
    obtain ⟨a, ea, ow, nf, nk⟩ := S.slot _ _ h2
    rw [h1] at ea
    cases ea
    exact ⟨nf, nk, ow.some⟩
  have k : Keeps F H F' H' := ⟨e.f, fun a u hu c => e.h a u (fun z => by
    obtain ⟨t, ht, et⟩ := List.mem_map.mp z
    obtain ⟨nf, _, x, hx, mx⟩ := lent t ht
    rw [et] at nf hx
    rcases c with c | c
    · exact nf c
    · rw [hu] at hx; cases hx; exact c mx) hu⟩
  have hlen : outs.length = (l.map (·.2.1)).length := by rw [o.1, List.length_map, List.length_map]
  obtain ⟨p1, p2⟩ := putOuts_get (ρ := ρ) nd hlen fun i hi => by
    obtain ⟨t, ht, et⟩ := List.mem_map.mp hi
    obtain ⟨_, w, h2⟩ := hl t ht
    rw [← et]
    exact (List.getElem?_eq_some_iff.mp h2).1
  have own : ∀ {j : Nat} {w : W}, (putOuts (l.map (·.2.1)) outs ρ)[j]? = some (.own w) → ∃ w0, ρ[j]? = some (.own w0) := fun {j w} h => by
    rcases p2 j with ⟨n, u, e1, _, _⟩ | ⟨_, e1⟩
    · rw [List.getElem?_map] at e1
      obtain ⟨t, et, e1⟩ := Option.map_eq_some_iff.mp e1
      obtain ⟨_, w0, h2⟩ := hl t (List.mem_of_getElem? et)
      rw [e1] at h2
      exact ⟨w0, h2⟩
    · rw [e1] at h
      exact ⟨w, h⟩
  refine ⟨⟨by rw [p1]; exact S.len, fun j s h => ?_, fun i j w w' a h1 h2 e1 e2 => ?_, fun p hp => ?_, fun a u ka h => ?_, fun a h z => ?_, fun a h => e.f a (S.f0 a h), fun a h => ?_, e.t⟩, k⟩
  · rcases p2 j with ⟨n, u, e1, e2, e3⟩ | ⟨nj, e1⟩
    · rw [e3] at h
      cases h
      rw [List.getElem?_map] at e1
      obtain ⟨t, et, e1⟩ := Option.map_eq_some_iff.mp e1
      obtain ⟨h1, _⟩ := hl t (List.mem_of_getElem? et)
      obtain ⟨_, nk, _⟩ := lent t (List.mem_of_getElem? et)
      obtain ⟨ow, nf⟩ := o.2 n (t.1, t.2.2) u (by rw [List.getElem?_map, et]; rfl) e2
      rw [← e1]
      exact ⟨t.2.2, h1, ow, nf, nk⟩
    · rw [e1] at h
      have q := S.slot j s h
      cases s with
      | no => trivial
      | val w => obtain ⟨v, ev, r⟩ := q; exact ⟨v, ev, r.mono k⟩
      | own w =>
        obtain ⟨a, ea, ow, nf, nk⟩ := q
        have na : a ∉ l.map (·.2.2) := fun z => by
          obtain ⟨t, ht, et⟩ := List.mem_map.mp z
          obtain ⟨h1, w0, h2⟩ := hl t ht
          rw [et] at h1
          exact nj (List.mem_map.mpr ⟨t, ht, S.sep _ _ _ _ a h2 h h1 ea⟩)
        obtain ⟨u, hu, _⟩ := ow.some
        refine ⟨a, ea, ?_, fun f => ?_, nk⟩
        · cases w with
          | lst m => obtain ⟨vs, h1, h2⟩ := ow; exact ⟨vs, e.h a _ na h1, h2.mono k⟩
          | dK ks m => obtain ⟨vs, h1, n, h2⟩ := ow; exact ⟨vs, e.h a _ na h1, n, h2.mono k⟩
          | _ => exact ow
        · rcases e.g a f with f | f
          · exact nf f
          · rw [hu] at f; cases f
  · obtain ⟨w0, g1⟩ := own h1
    obtain ⟨w1, g2⟩ := own h2
    exact S.sep i j w0 w1 a g1 g2 e1 e2
  · obtain ⟨h1, w, h2⟩ := S.lent p hp
    refine ⟨h1, ?_⟩
    rcases p2 p.1 with ⟨n, u, _, _, e3⟩ | ⟨_, e1⟩
    · exact ⟨u, e3⟩
    · exact ⟨w, by rw [e1]; exact h2⟩
  · refine e.h a u (fun z => ?_) (S.ext a u ka h)
    obtain ⟨t, ht, et⟩ := List.mem_map.mp z
    exact (lent t ht).2.1 (by rw [et]; exact ka)
  · by_cases z2 : a ∈ l.map (·.2.2)
    · obtain ⟨t, ht, et⟩ := List.mem_map.mp z2
      obtain ⟨n, en⟩ := List.mem_iff_getElem?.mp ht
      have lt : n < outs.length := by rw [o.1, List.length_map]; exact (List.getElem?_eq_some_iff.mp en).1
      obtain ⟨ow, _⟩ := o.2 n (t.1, t.2.2) _ (by rw [List.getElem?_map, en]; rfl) (List.getElem?_eq_getElem lt)
      obtain ⟨u, hu, _⟩ := ow.some
      rw [et, z] at hu
      cases hu
    · have h2 := S.alive a h
      cases q : H a with
      | none => exact h2 q
      | some u => rw [e.h a u z2 q] at z; cases z
  · rcases e.g a h with q | q
    · exact S.f1 a q
    · right
      cases q2 : B.H0 a with
      | none => rfl
      | some u => exact absurd q (S.alive a (by rw [q2]; exact (fun z => nomatch z)))
end
theorem RunG.withP {β : Type} {K : PySem.W.Frag} {Y : Yx I} {F : Fz} {H : Hp} {σ : L2.St} {r : R β} {P : β → Rho → Fz → Hp → Prop} {p : β → Prop} (hp : ∀ b ρ', r = .ok b ρ' → p b) (h : RunG K Y F H σ r P) : RunG K Y F H σ r fun b ρ' F' H' => p b ∧ P b ρ' F' H' := by
  cases r with
  | ok b ρ' => exact fun F' H' S k => ⟨hp b ρ' rfl, h F' H' S k⟩
  | exc c ns ws ρ' => exact h
  | stk => exact h
theorem call_of {K : PySem.W.Frag} {Y : Yx I} {J : List Nat} {np : Nat} {fm : List W → FR} {fs : List (Rho → R (Md × W))} {σ : L2.St} {H : Hp} {Q : VK} (hnp : fs.length = np) (hq : tM K Y (mCall I J fm fs) σ H Q) :
    tMA K Y fs σ H fun vs H1 => spM K Y.ct J np fm vs H1 Q (WE Y.wx σ) := by
  obtain ⟨F, ρ, S, q⟩ := hq
  have bl : ∀ {fs : List (Rho → R (Md × W))} {ρ ρ' : Rho} {bs : List (Md × W)}, mHold fs ρ = .ok bs ρ' → bs.length = fs.length := fun {fs} => by
    induction fs with
    | nil => intro ρ ρ' bs e; cases e; rfl
    | cons f fs ih =>
      intro ρ ρ' bs e
      have e1 : (f ρ).bind (fun b ρ1 => (mHold fs ρ1).bind fun bs ρ2 => .ok (b :: bs) ρ2) = .ok bs ρ' := e
      cases q1 : f ρ with
      | ok b ρ1 =>
        rw [q1] at e1
        have e2 : (mHold fs ρ1).bind (fun bs ρ2 => R.ok (b :: bs) ρ2) = .ok bs ρ' := e1
        cases q2 : mHold fs ρ1 with
        | ok bs1 ρ2 =>
          rw [q2] at e2
          cases e2
          rw [List.length_cons, List.length_cons, ih q2]
        | exc c ns ws ρ2 => rw [q2] at e2; cases e2
        | stk => rw [q2] at e2; cases e2
      | exc c ns ws ρ1 => rw [q1] at e1; cases e1
      | stk => rw [q1] at e1; cases e1
  have hb := RunG.bind q
  have hb2 := RunG.withP (p := fun bs => bs.length = np) (fun bs ρ1 e => by rw [bl e, hnp]) hb
  refine ⟨F, ρ, S, hb2.imp fun bs ρ1 F1 H1 S1 k1 ⟨hlen, q1⟩ F2 vs S2 k2 hvs => ?_⟩
  obtain ⟨F3, xs, ρ3, S3, k3, xr, q3⟩ := callA_ok S2 hvs (RunG.bind (q1.rebase k2))
  have vl : vs.length = bs.length := by
    have : ∀ {bs : List (Md × W)} {vs : List V}, HeldL σ K F2 H1 bs vs → vs.length = bs.length := fun {bs} => by
      induction bs with
      | nil => intro vs h; have e : vs = [] := h; rw [e]; rfl
      | cons b bs ih =>
        rintro vs ⟨v, r, e, _, h⟩
        rw [e, List.length_cons, List.length_cons, ih h]
    exact this hvs
  split at q3
  · rename_i hc
    cases er : resX ρ3 xs with
    | none => rw [er] at q3; exact q3.elim
    | some args =>
      rw [er] at q3
      dsimp only at q3
      obtain ⟨g1, g2, g3⟩ := x_lent S3 (k := 0) xr er
      have el : lentA J vs = (lentX 0 xs vs).map fun t => (t.1, t.2.2) := by
        rw [← hc.2, ← g1]
        exact lentA_eq fun t ht => by have := (g3 t ht).2.1; rwa [Nat.sub_zero] at this
      have hl : ∀ (t : Nat × Nat × Addr), t ∈ lentX 0 xs vs → σ[t.2.1]? = some (some (.ref t.2.2)) ∧ ∃ w, ρ3[t.2.1]? = some (.own w) := fun t ht => (g3 t ht).2.2
      have nd : ((lentX 0 xs vs).map (·.2.1)).Nodup := by rw [g2]; exact hc.1
      refine ⟨F3, args, by rw [vl, hlen], S3.f2, x_args S3 xr er (fun j hj _ => by rw [hc.2]; exact hj) (fun j hj => by rw [hc.2] at hj; exact hj), ⟨?_, ?_⟩, ?_⟩
      · rw [el, List.map_map]
        show (lentX 0 xs vs).map (·.1) = J
        rw [g1, hc.2]
      · rw [el]
        intro p hp q hq epq
        obtain ⟨t, ht, et⟩ := List.mem_map.mp hp
        obtain ⟨u, hu, eu⟩ := List.mem_map.mp hq
        subst et
        subst eu
        obtain ⟨h1, w1, h2⟩ := hl t ht
        obtain ⟨h3, w2, h4⟩ := hl u hu
        have e1 : t.2.2 = u.2.2 := epq
        rw [← e1] at h3
        have es := S3.sep _ _ _ _ _ h2 h4 h1 h3
        obtain ⟨n, en⟩ := List.mem_iff_getElem?.mp ht
        obtain ⟨m, em⟩ := List.mem_iff_getElem?.mp hu
        have nm := nodup_get nd (i := n) (j := m) (x := t.2.1) (by rw [List.getElem?_map, en]; rfl) (by rw [List.getElem?_map, em, es]; rfl)
        subst nm
        rw [en] at em
        cases em
        rfl
      · have eA : (lentA J vs).map (·.2) = (lentX 0 xs vs).map (·.2.2) := by
          rw [el, List.map_map]
          rfl
        rw [eA, el]
        cases ef : fm args with
        | stk => rw [ef] at q3; exact q3.elim
        | exc c ns ws outs =>
          rw [ef] at q3
          intro F' H' d ee oo x
          obtain ⟨S4, k4⟩ := sr_called S3 hl nd ee oo
          rw [g2] at S4
          exact q3 F' H' d S4 x
        | ok fr w outs =>
          rw [ef] at q3
          intro F' H' v ee oo hv
          obtain ⟨S4, k4⟩ := sr_called S3 hl nd ee oo
          rw [g2] at S4
          refine q3 F' H' S4 k4 v ?_
          cases fr with
          | false => exact hv
          | true =>
            obtain ⟨a, ea, o, nf, h0⟩ := hv
            refine ⟨a, ea, o, nf, ?_, fun i w' hi ei => ?_⟩
            · cases q5 : Y.B.H0 a with
              | none => rfl
              | some u => exact absurd h0 (S3.alive a (by rw [q5]; exact (fun z => nomatch z)))
            · have q6 : ∃ w0, ρ3[i]? = some (.own w0) := by
                have hlen2 : outs.length = (slotsX xs).length := by rw [oo.1, ← g2, List.length_map, List.length_map]
                obtain ⟨_, p2⟩ := putOuts_get (ρ := ρ3) hc.1 hlen2 fun i hi => by
                  rw [← g2] at hi
                  obtain ⟨t, ht, et⟩ := List.mem_map.mp hi
                  obtain ⟨_, w, h2⟩ := hl t ht
                  rw [← et]
                  exact (List.getElem?_eq_some_iff.mp h2).1
                rcases p2 i with ⟨n, u, e1, _, _⟩ | ⟨_, e1⟩
                · rw [← g2, List.getElem?_map] at e1
                  obtain ⟨t, et, e1⟩ := Option.map_eq_some_iff.mp e1
                  obtain ⟨_, w0, h2⟩ := hl t (List.mem_of_getElem? et)
                  rw [e1] at h2
                  exact ⟨w0, h2⟩
                · rw [e1] at hi
                  exact ⟨w', hi⟩
              obtain ⟨w0, h6⟩ := q6
              obtain ⟨b, eb, ob, _⟩ := S3.slot i _ h6
              rw [ei] at eb
              cases eb
              obtain ⟨u, hu, _⟩ := ob.some
              rw [h0] at hu
              cases hu
  · exact q3.elim
section
variable {X : Cx} {Y : Yx I} {J : List Nat} {k : Nat} {f : Addr} {fd : FuncData} {ps : List Str} {np : Nat} {fm : List W → FR} {x : Str} {p pos : Pos} {e : Expr} {es : List Expr} {fs : List (Rho → R (Md × W))}
theorem pem_call (F : FnOk X.prog X.w X.K X.mg X.base (L2.CX X.prog X.w) k f fd ps (spM X.K Y.ct J np fm)) (hr : Room k X.A) (tk : Takes X Y.wx) (hg : Gl X x) (hm : X.mg x = some (.ref f)) (hk : PySem.W.keepIn X.K (.ref f) = true) (hb : Binds X.K fd ps [])
    (ha : PAM X Y (e :: es) fs) (hn : fs.length = np) (hdb : (x == ("__debug__" : Str)) = false := by decide) (he : starEach (e :: es) X.env = (false, eval e X.env) :: starEach es X.env := by rfl) (hpl : (backTo pos (starEach es X.env)).any (·.1) = false := by rfl) :
    PEM X Y (.Call (.Name x p) (e :: es) [] pos) (mCall I J fm fs) := pe_weak (pe_callS F hr hg hm hk hb (fun σ => passAt tk σ) ha hdb he hpl) fun _ _ _ hq => call_of hn hq
end
end ML

set_option maxHeartbeats 4000000
namespace ML
open PySem PySem.Spec PyProof.Rows L2
variable {I : List Nat}
/-! ### a list comprehension -/
def wipeR (ρ : Rho) : List Nat → Rho
  | [] => ρ
  | v :: vs => (wipeR ρ vs).set v .no
theorem wipeR_len (ρ : Rho) : ∀ vs, (wipeR ρ vs).length = ρ.length
  | [] => rfl
  | v :: vs => by unfold wipeR; rw [List.length_set, wipeR_len ρ vs]
theorem wipeR_get {ρ : Rho} {i : Nat} {s : Sl} : ∀ {vs : List Nat}, (wipeR ρ vs)[i]? = some s → s = .no ∨ (i ∉ vs ∧ ρ[i]? = some s)
  | [], h => .inr ⟨by simp, h⟩
  | v :: vs, h => by
    unfold wipeR at h
    rcases set_cases h with ⟨_, e, _⟩ | ⟨n, e⟩
    · exact .inl e
    · rcases wipeR_get e with q | ⟨q1, q2⟩
      · exact .inl q
      · exact .inr ⟨fun z => by cases z with
          | head => exact n rfl
          | tail _ z => exact q1 z, q2⟩
theorem wipeR_ne {ρ : Rho} {i : Nat} : ∀ {vs : List Nat}, i ∉ vs → (wipeR ρ vs)[i]? = ρ[i]?
  | [], _ => rfl
  | v :: vs, h => by
    unfold wipeR
    rw [set_ne (fun e => h (by rw [e]; exact List.mem_cons_self)), wipeR_ne fun z => h (List.mem_cons_of_mem _ z)]
theorem wipe_ne {σ : L2.St} {i : Nat} : ∀ {vs : List Nat}, i ∉ vs → (wipe σ vs)[i]? = σ[i]?
  | [], _ => rfl
  | v :: vs, h => by
    unfold wipe
    rw [set_ne (fun e => h (by rw [e]; exact List.mem_cons_self)), wipe_ne fun z => h (List.mem_cons_of_mem _ z)]
section
variable {K : PySem.W.Frag} {B : Bd} {F F' : Fz} {H H' : Hp} {σ : L2.St} {ρ : Rho}
theorem SR.wiped (S : SR K B F H σ ρ) {vs : List Nat} (u : ∀ i ∈ vs, unlent B i) : SR K B F H (wipe σ vs) (wipeR ρ vs) := by
  have get : ∀ {i : Nat} {s : Sl}, (wipeR ρ vs)[i]? = some s → s = .no ∨ (ρ[i]? = some s ∧ (wipe σ vs)[i]? = σ[i]?) := fun {i s} h => by
    rcases wipeR_get h with q | ⟨q1, q2⟩
    · exact .inl q
    · exact .inr ⟨q2, wipe_ne q1⟩
  refine ⟨by rw [wipe_length, wipeR_len]; exact S.len, fun i s h => ?_, fun i j w w' a h1 h2 e1 e2 => ?_, fun p hp => ?_, S.ext, S.alive, S.f0, S.f1, S.f2⟩
  · rcases get h with q | ⟨q1, q2⟩
    · rw [q]; trivial
    · rw [q2]; exact S.slot i s q1
  · rcases get h1 with q | ⟨q1, q2⟩
    · cases q
    · rcases get h2 with q | ⟨q3, q4⟩
      · cases q
      · rw [q2] at e1
        rw [q4] at e2
        exact S.sep i j w w' a q1 q3 e1 e2
  · obtain ⟨h1, w, h2⟩ := S.lent p hp
    have n : p.1 ∉ vs := fun z => u _ z (List.mem_map.mpr ⟨p, hp, rfl⟩)
    exact ⟨by rw [wipe_ne n]; exact h1, w, by rw [wipeR_ne n]; exact h2⟩
theorem SR.unwiped {vs : List Nat} (S : SR K B F H (wipe σ vs) ρ) (u : ∀ i ∈ vs, unlent B i) : SR K B F H σ (wipeR ρ vs) := by
  have get : ∀ {i : Nat} {s : Sl}, (wipeR ρ vs)[i]? = some s → s = .no ∨ (ρ[i]? = some s ∧ (wipe σ vs)[i]? = σ[i]?) := fun {i s} h => by
    rcases wipeR_get h with q | ⟨q1, q2⟩
    · exact .inl q
    · exact .inr ⟨q2, wipe_ne q1⟩
  refine ⟨by rw [wipeR_len, ← S.len, wipe_length], fun i s h => ?_, fun i j w w' a h1 h2 e1 e2 => ?_, fun p hp => ?_, S.ext, S.alive, S.f0, S.f1, S.f2⟩
  · rcases get h with q | ⟨q1, q2⟩
    · rw [q]; trivial
    · rw [← q2]; exact S.slot i s q1
  · rcases get h1 with q | ⟨q1, q2⟩
    · cases q
    · rcases get h2 with q | ⟨q3, q4⟩
      · cases q
      · rw [← q2] at e1
        rw [← q4] at e2
        exact S.sep i j w w' a q1 q3 e1 e2
  · obtain ⟨h1, w, h2⟩ := S.lent p hp
    have n : p.1 ∉ vs := fun z => u _ z (List.mem_map.mpr ⟨p, hp, rfl⟩)
    exact ⟨by rw [← wipe_ne (σ := σ) n]; exact h1, w, by rw [wipeR_ne n]; exact h2⟩
/-- the list at D, that nobody else knows, with what it holds -/
def Bd.wit (B : Bd) (D : Addr) (vs : List V) : Bd := { B with H0 := upd B.H0 D (.lst vs) }
theorem wit_kept {D : Addr} {vs : List V} {a : Addr} (h : a ≠ D) : (B.wit D vs).kept a ↔ B.kept a := by
  unfold Bd.kept Bd.wit
  dsimp only
  rw [upd_ne h]
theorem SR.enter (S : SR K B F H σ ρ) {D : Addr} (n : H D = none) : SR K (B.wit D []) F (upd H D (.lst [])) σ ρ ∧ Keeps F H F (upd H D (.lst [])) := by
  have e : Ext [] F H F (upd H D (.lst [])) := Ext.new n S.f2
  have S' := S.grow e
  have h0 : B.H0 D = none := by
    cases q : B.H0 D with
    | none => rfl
    | some u => exact absurd n (S.alive D (by rw [q]; exact (fun z => nomatch z)))
  refine ⟨⟨S'.len, fun i s h => ?_, S'.sep, S'.lent, fun a o k h => ?_, fun a h => ?_, S'.f0, fun a h => ?_, S'.f2⟩, e.keeps⟩
  · have q := S'.slot i s h
    cases s with
    | no => trivial
    | val w => exact q
    | own w =>
      obtain ⟨a, e1, o, nf, nk⟩ := q
      refine ⟨a, e1, o, nf, fun k => ?_⟩
      have na : a ≠ D := fun z => by
        obtain ⟨b, eb, ob, _⟩ := S.slot i _ h
        rw [e1] at eb
        cases eb
        obtain ⟨u, hu, _⟩ := ob.some
        rw [z, n] at hu
        cases hu
      exact nk ((wit_kept na).mp k)
  · by_cases ea : a = D
    · subst ea
      rw [show (B.wit a []).H0 a = some (.lst []) from upd_same] at h
      cases h
      exact upd_same
    · rw [show (B.wit D []).H0 a = B.H0 a from upd_ne ea] at h
      exact S'.ext a o ((wit_kept ea).mp k) h
  · by_cases ea : a = D
    · rw [ea, upd_same]; exact (fun z => nomatch z)
    · rw [show (B.wit D []).H0 a = B.H0 a from upd_ne ea] at h
      exact S'.alive a h
  · rcases S.f1 a h with q | q
    · exact .inl q
    · by_cases ea : a = D
      · exact absurd n (by rw [← ea]; exact S.f2 a h)
      · exact .inr (by rw [show (B.wit D []).H0 a = B.H0 a from upd_ne ea]; exact q)
theorem SR.wit_at {D : Addr} {vs : List V} (S : SR K (B.wit D vs) F H σ ρ) (nd : ∀ p ∈ B.I, p.2 ≠ D) (nf : ¬ B.F0 D) : H D = some (.lst vs) ∧ ¬ F D ∧ ∀ (i : Nat) (w : W), ρ[i]? = some (.own w) → σ[i]? ≠ some (some (.ref D)) := by
  have kD : (B.wit D vs).kept D := ⟨by rw [show (B.wit D vs).H0 D = some (.lst vs) from upd_same]; exact (fun z => nomatch z), nd⟩
  refine ⟨S.ext D _ kD upd_same, fun f => ?_, fun i w h e => ?_⟩
  · rcases S.f1 D f with q | q
    · exact nf q
    · rw [show (B.wit D vs).H0 D = some (.lst vs) from upd_same] at q; cases q
  · obtain ⟨a, e1, _, _, nk⟩ := S.slot i _ h
    rw [e] at e1
    cases e1
    exact nk kD
theorem SR.witPut {D : Addr} {vs us : List V} (S : SR K (B.wit D vs) F H σ ρ) (nd : ∀ p ∈ B.I, p.2 ≠ D) (nf : ¬ B.F0 D) : SR K (B.wit D us) F (upd H D (.lst us)) σ ρ ∧ Keeps F H F (upd H D (.lst us)) := by
  obtain ⟨hD, fD, sD⟩ := S.wit_at nd nf
  have k : Keeps F H F (upd H D (.lst us)) := ⟨fun _ h => h, fun b x hb c => by
    have nb : b ≠ D := fun z => by
      subst z
      rcases c with c | c
      · exact fD c
      · rw [hD] at hb; cases hb; exact c trivial
    rw [upd_ne nb]
    exact hb⟩
  refine ⟨⟨S.len, fun i s h => ?_, S.sep, S.lent, fun a o ka h => ?_, fun a h => ?_, S.f0, fun a h => ?_, fun a h => ?_⟩, k⟩
  · have q := S.slot i s h
    cases s with
    | no => trivial
    | val w => obtain ⟨v, e1, r⟩ := q; exact ⟨v, e1, r.mono k⟩
    | own w =>
      obtain ⟨a, e1, o, nfa, nk⟩ := q
      have na : a ≠ D := fun z => sD i w h (by rw [e1, z])
      refine ⟨a, e1, ?_, nfa, fun k => nk ((wit_kept na).mpr ((wit_kept na).mp k))⟩
      cases w with
      | lst l => obtain ⟨vs, h1, h2⟩ := o; exact ⟨vs, by rw [upd_ne na]; exact h1, h2.mono k⟩
      | dK ks l => obtain ⟨vs, h1, m, h2⟩ := o; exact ⟨vs, by rw [upd_ne na]; exact h1, m, h2.mono k⟩
      | _ => exact o
  · by_cases ea : a = D
    · subst ea
      rw [show (B.wit a us).H0 a = some (.lst us) from upd_same] at h
      cases h
      exact upd_same
    · rw [upd_ne ea]
      refine S.ext a o ((wit_kept ea).mpr ((wit_kept ea).mp ka)) ?_
      rw [show (B.wit D vs).H0 a = B.H0 a from upd_ne ea]
      rw [show (B.wit D us).H0 a = B.H0 a from upd_ne ea] at h
      exact h
  · by_cases ea : a = D
    · rw [ea, upd_same]; exact (fun z => nomatch z)
    · rw [upd_ne ea]
      refine S.alive a ?_
      rw [show (B.wit D vs).H0 a = B.H0 a from upd_ne ea]
      rw [show (B.wit D us).H0 a = B.H0 a from upd_ne ea] at h
      exact h
  · rcases S.f1 a h with q | q
    · exact .inl q
    · by_cases ea : a = D
      · exact absurd h (by rw [ea]; exact fD)
      · exact .inr (by rw [show (B.wit D us).H0 a = B.H0 a from upd_ne ea]; rw [show (B.wit D vs).H0 a = B.H0 a from upd_ne ea] at q; exact q)
  · by_cases ea : a = D
    · rw [ea, upd_same]; exact (fun z => nomatch z)
    · rw [upd_ne ea]; exact S.f2 a h
theorem SR.leave {D : Addr} {vs : List V} (S : SR K (B.wit D vs) F H σ ρ) (nd : ∀ p ∈ B.I, p.2 ≠ D) (nf : ¬ B.F0 D) (h0 : B.H0 D = none) {ws : List W} (r : RepL K F H ws vs) : SR K B F H σ ρ ∧ Fre K B F H σ ρ (.lst ws) (.ref D) := by
  obtain ⟨hD, fD, sD⟩ := S.wit_at nd nf
  refine ⟨⟨S.len, fun i s h => ?_, S.sep, S.lent, fun a o ka h => ?_, fun a h => ?_, S.f0, fun a h => ?_, S.f2⟩, D, rfl, ⟨vs, hD, r⟩, fD, h0, sD⟩
  · have q := S.slot i s h
    cases s with
    | no => trivial
    | val w => exact q
    | own w =>
      obtain ⟨a, e1, o, nfa, nk⟩ := q
      have na : a ≠ D := fun z => sD i w h (by rw [e1, z])
      exact ⟨a, e1, o, nfa, fun k => nk ((wit_kept na).mpr k)⟩
  · have na : a ≠ D := fun z => by rw [z, h0] at h; cases h
    refine S.ext a o ((wit_kept na).mpr ka) ?_
    rw [show (B.wit D vs).H0 a = B.H0 a from upd_ne na]
    exact h
  · have na : a ≠ D := fun z => h (by rw [z, h0])
    refine S.alive a ?_
    rw [show (B.wit D vs).H0 a = B.H0 a from upd_ne na]
    exact h
  · rcases S.f1 a h with q | q
    · exact .inl q
    · by_cases ea : a = D
      · exact .inr (by rw [ea, h0])
      · exact .inr (by rw [show (B.wit D vs).H0 a = B.H0 a from upd_ne ea] at q; exact q)
end
/-- the block's targets: names in slots -/
inductive CT where
  | nm (i : Nat) | tp (is : List Nat)
def CT.ix : CT → List Nat
  | .nm i => [i]
  | .tp is => is
def setsR : List Nat → List W → Rho → Option Rho
  | [], [], ρ => some ρ
  | i :: is, w :: ws, ρ => setsR is ws (ρ.set i (.val w))
  | _, _, _ => none
def CT.put (t : CT) (w : W) (ρ : Rho) : Option Rho := match t, w with
  | .nm i, w => some (ρ.set i (.val w))
  | .tp is, .tup l => setsR is l ρ
  | _, _ => none
def gNames : List Nat → TGs
  | [] => gNil
  | i :: is => gCons (gName i) (gNames is)
def CT.tg (K : PySem.W.Frag) : CT → TG
  | .nm i => gName i
  | .tp is => L2.gTup K is.length (gNames is)
def compL (vs : List Nat) (put : W → Rho → Option Rho) (c : Rho → R Bool) (fe : Rho → R W) : List W → List W → Rho → R (Md × W)
  | acc, [], ρ => if acc.length ≤ sizeLine then .ok (.fre, .lst acc) (wipeR ρ vs) else .stk
  | acc, w :: ws, ρ => match put w (wipeR ρ vs) with
    | some ρ1 => (c ρ1).bind fun b ρ2 => if b then (fe ρ2).bind fun y ρ3 => if acc.length < sizeLine then compL vs put c fe (acc ++ [y]) ws ρ3 else .stk else compL vs put c fe acc ws ρ2
    | none => .stk
def mEl (I : List Nat) (f : Rho → R (Md × W)) : Rho → R W := fun ρ => (f ρ).bind (toVal I)
def noExc {α : Type} (r : R α) : R α := match r with
  | .exc _ _ _ _ => .stk
  | r => r
def mLc (I : List Nat) (it : Rho → R (List W)) (t : CT) (c : Rho → R Bool) (fe : Rho → R (Md × W)) : Rho → R (Md × W) := fun ρ => (it ρ).bind fun ws ρ1 => if t.ix.all (fun i => decide (i ∉ I)) then noExc (compL t.ix t.put c (mEl I fe) [] ws ρ1) else .stk
def mYes : Rho → R Bool := fun ρ => .ok true ρ
end ML

set_option maxHeartbeats 4000000
namespace ML
open PySem PySem.Spec PyProof.Rows L2
variable {I : List Nat}
theorem bind_ok {α β : Type} {r : R α} {k : α → Rho → R β} {b : β} {ρ' : Rho} (h : r.bind k = .ok b ρ') : ∃ a ρ1, r = .ok a ρ1 ∧ k a ρ1 = .ok b ρ' := by
  cases r with
  | ok a ρ1 => exact ⟨a, ρ1, rfl, h⟩
  | exc c ns ws ρ => cases h
  | stk => cases h
theorem compL_fre {vs : List Nat} {put : W → Rho → Option Rho} {c : Rho → R Bool} {fe : Rho → R W} {b : Md × W} {ρe : Rho} : ∀ {ws acc : List W} {ρ : Rho}, compL vs put c fe acc ws ρ = .ok b ρe → ∃ L, b = (.fre, .lst L)
  | [], acc, ρ, h => by
    unfold compL at h
    split at h
    · cases h; exact ⟨_, rfl⟩
    · cases h
  | w :: ws, acc, ρ, h => by
    unfold compL at h
    split at h
    · obtain ⟨t, ρ2, _, h2⟩ := bind_ok h
      split at h2
      · obtain ⟨y, ρ3, _, h3⟩ := bind_ok h2
        split at h3
        · exact compL_fre h3
        · cases h3
      · exact compL_fre h2
    · cases h
/-- readings whatever is built meanwhile -/
def tMx (K : PySem.W.Frag) (ct : Str → Addr) (I : List Nat) (f : Rho → R (Md × W)) : TE := fun σ H Q => ∃ (Y : Yx I), Y.ct = ct ∧ (Y.wx = fun _ _ _ _ => False) ∧ tM K Y f σ H Q
def tMTx (K : PySem.W.Frag) (ct : Str → Addr) (I : List Nat) (f : Rho → R Bool) : TT := fun σ H Q => ∃ (Y : Yx I), Y.ct = ct ∧ (Y.wx = fun _ _ _ _ => False) ∧ tMT K Y f σ H Q
theorem pe_x {X : Cx} {ct : Str → Addr} {e : Expr} {f : Rho → R (Md × W)} (h : ∀ Y : Yx I, Y.ct = ct → (Y.wx = fun _ _ _ _ => False) → PEM X Y e f) : PE X e (tMx X.K ct I f) := ⟨fun pins s σ H Q J ⟨Y, e1, e2, hq⟩ => (h Y e1 e2).run pins s σ H Q J hq⟩
theorem pts_x {X : Cx} {ct : Str → Addr} {e : Expr} {f : Rho → R Bool} (h : ∀ Y : Yx I, Y.ct = ct → (Y.wx = fun _ _ _ _ => False) → PTM X Y e f) : PTs X [e] (tMTx X.K ct I f) := pts_one ⟨fun pins s σ H Q J ⟨Y, e1, e2, hq⟩ => (h Y e1 e2).run pins s σ H Q J hq⟩
/-- the clause's tests: none or one -/
def PCs (X : Cx) (ct : Str → Addr) (I : List Nat) (ifs : List Expr) (c : Rho → R Bool) : Prop := PTs X ifs (tMTx X.K ct I c)
theorem pcs_nil {X : Cx} {ct : Str → Addr} : PCs X ct I [] mYes := ⟨fun pins s σ H Q J ⟨Y, _, _, F, ρ, S, q⟩ => pts_nil.run pins s σ H Q J (q F H S .refl)⟩
theorem pcs_one {X : Cx} {ct : Str → Addr} {e : Expr} {c : Rho → R Bool} (h : ∀ Y : Yx I, Y.ct = ct → (Y.wx = fun _ _ _ _ => False) → PTM X Y e c) : PCs X ct I [e] c := pts_x h
section
variable {K : PySem.W.Frag} {B : Bd} {F F' : Fz} {H H' : Hp} {σ : L2.St} {ρ ρ' : Rho}
theorem sets_ok : ∀ {is : List Nat} {l : List W} {xs : List V} {σ : L2.St} {ρ ρ' : Rho} {Q : L2.St → Hp → Prop}, SR K B F H σ ρ → RepL K F H l xs → (∀ i ∈ is, unlent B i) → setsR is l ρ = some ρ' →
    (∀ σ', SR K B F H σ' ρ' → σ'.length = σ.length → (∀ j, j ∉ is → σ'[j]? = σ[j]?) → Q σ' H) → xs.length = is.length ∧ gNames is xs σ H Q
  | [], [], xs, σ, ρ, ρ', Q, S, r, _, e, q => by
    have ex : xs = [] := r
    subst ex
    cases e
    exact ⟨rfl, rfl, q σ S rfl fun _ _ => rfl⟩
  | i :: is, w :: l, xs, σ, ρ, ρ', Q, S, r, u, e, q => by
    obtain ⟨v, vs, rfl, r1, r2⟩ := r
    have := sets_ok (is := is) (l := l) (xs := vs) (σ := σ.set i (some v)) (ρ := ρ.set i (.val w)) (ρ' := ρ') (Q := Q) (S.setVal (u i List.mem_cons_self) r1) r2 (fun j hj => u j (List.mem_cons_of_mem _ hj)) e fun σ' S' hl hs => q σ' S' (by rw [hl, List.length_set]) fun j hj => by
      rw [hs j fun z => hj (List.mem_cons_of_mem _ z), set_ne fun z => hj (by rw [z]; exact List.mem_cons_self)]
    exact ⟨by rw [List.length_cons, List.length_cons, this.1], v, vs, rfl, this.2⟩
  | [], _ :: _, _, _, _, _, _, _, _, _, e, _ => by cases e
  | _ :: _, [], _, _, _, _, _, _, _, _, e, _ => by cases e
theorem wipe_in {σ : L2.St} {i : Nat} : ∀ {vs : List Nat}, i ∈ vs → i < σ.length → (wipe σ vs)[i]? = some none
  | v :: vs, h, l => by
    unfold wipe
    by_cases e : i = v
    · subst e
      exact set_eq (by rw [wipe_length]; exact l)
    · rw [set_ne e]
      cases h with
      | head => exact absurd rfl e
      | tail _ h => exact wipe_in h l
theorem wipe_same {σ σ' : L2.St} {vs : List Nat} (hl : σ'.length = σ.length) (h : ∀ j, j ∉ vs → σ'[j]? = σ[j]?) : wipe σ' vs = wipe σ vs := by
  apply List.ext_getElem?
  intro j
  by_cases hj : j ∈ vs
  · by_cases l : j < σ.length
    · rw [wipe_in hj l, wipe_in hj (by rw [hl]; exact l)]
    · rw [List.getElem?_eq_none (by rw [wipe_length]; omega), List.getElem?_eq_none (by rw [wipe_length]; omega)]
  · rw [wipe_ne hj, wipe_ne hj, h j hj]
theorem put_ok {t : CT} {w : W} {v : V} {Q : L2.St → Hp → Prop} (S : SR K B F H (wipe σ t.ix) ρ) (r : Rep K F H w v) (u : ∀ i ∈ t.ix, unlent B i) (e : t.put w ρ = some ρ')
    (q : ∀ σ', SR K B F H σ' ρ' → wipe σ' t.ix = wipe σ t.ix → Q σ' H) : t.tg K v (wipe σ t.ix) H Q := by
  have fin : ∀ σ', σ'.length = (wipe σ t.ix).length → (∀ j, j ∉ t.ix → σ'[j]? = (wipe σ t.ix)[j]?) → wipe σ' t.ix = wipe σ t.ix := fun σ' hl hs => wipe_same (by rw [hl, wipe_length]) fun j hj => by rw [hs j hj, wipe_ne hj]
  cases t with
  | nm i =>
    cases e
    exact q _ (S.setVal (u i List.mem_cons_self) r) (fin _ (by rw [List.length_set]) fun j hj => set_ne fun z => hj (by rw [z]; exact List.mem_cons_self))
  | tp is =>
    cases w with
    | tup l =>
      obtain ⟨a, vs, rfl, hs, rl⟩ := r
      have := sets_ok S rl u e fun σ' S' hl hx => q σ' S' (fin σ' hl hx)
      exact ⟨a, vs, rfl, hs.seq, this.1, this.2⟩
    | _ => cases e
end
theorem lc_of {K : PySem.W.Frag} {Y : Yx I} {it : Rho → R (List W)} {t : CT} {c : Rho → R Bool} {fe : Rho → R (Md × W)} {σ : L2.St} {H : Hp} {Q : VK} (hq : tM K Y (mLc I it t c fe) σ H Q) :
    tLc (tMI K Y it) (t.tg K) (tMTx K Y.ct I c) (tMx K Y.ct I fe) t.ix σ H Q := by
  obtain ⟨F, ρ, S, q⟩ := hq
  refine ⟨F, ρ, S, (RunG.bind q).imp fun ws ρ1 F1 H1 S1 k1 q1 J hJ D nD => ?_⟩
  split at q1
  · rename_i hix
    have un : ∀ i ∈ t.ix, i ∉ I := fun i hi => of_decide_eq_true (List.all_eq_true.mp hix i hi)
    have u : ∀ i ∈ t.ix, unlent Y.B i := fun i hi => Y.un (un i hi)
    cases er : compL t.ix t.put c (mEl I fe) [] ws ρ1 with
    | exc cc ns us ρ' => rw [er] at q1; exact q1.elim
    | stk => rw [er] at q1; exact q1.elim
    | ok b ρe =>
      rw [er] at q1
      obtain ⟨L, rfl⟩ := compL_fre er
      obtain ⟨S2, k2⟩ := S1.enter nD
      have nd : ∀ p ∈ Y.B.I, p.2 ≠ D := fun p hp z => by
        obtain ⟨h1, w, h2⟩ := S1.lent p hp
        obtain ⟨a, ea, o, _⟩ := S1.slot _ _ h2
        rw [h1] at ea
        cases ea
        obtain ⟨x, hx, _⟩ := o.some
        rw [z, nD] at hx
        cases hx
      have nf : ¬ Y.B.F0 D := fun z => S1.f2 D (S1.f0 D z) nD
      have h0 : Y.B.H0 D = none := by
        cases q : Y.B.H0 D with
        | none => rfl
        | some x => exact absurd nD (S1.alive D (by rw [q]; exact (fun z => nomatch z)))
      refine ⟨fun i m H => ∃ F ρ acc vacc, SR K (Y.B.wit D vacc) F H (wipe σ t.ix) (wipeR ρ t.ix) ∧ RepL K F H acc vacc ∧ Keeps F1 H1 F H ∧ compL t.ix t.put c (mEl I fe) acc (ws.drop i) ρ = .ok (.fre, .lst L) ρe ∧ m = ws.length - i,
        ⟨_, F1, ρ1, [], [], S2.wiped u, rfl, k2, er, rfl⟩, ?_⟩
      rintro i m H ⟨F, ρ, acc, vacc, S, ra, k, ec, rfl⟩
      have hi := hJ F H k S.f2 i
      cases ed : ws.drop i with
      | nil =>
        rw [ed] at ec
        unfold compL at ec
        split at ec
        · cases ec
          obtain ⟨S3, fr⟩ := S.leave nd nf h0 ra
          have S4 := S3.unwiped u
          refine .inl ⟨hi.2 (List.drop_eq_nil_iff.mp ed), ?_⟩
          have ew : wipeR (wipeR ρ t.ix) t.ix = wipeR ρ t.ix := by
            apply List.ext_getElem?
            intro j
            by_cases hj : j ∈ t.ix
            · have g : ∀ (ρ : Rho) (vs : List Nat), j ∈ vs → (wipeR ρ vs)[j]? = if j < ρ.length then some .no else none := fun ρ vs => by
                induction vs with
                | nil => intro h; cases h
                | cons v vs ih =>
                  intro h
                  unfold wipeR
                  by_cases e : j = v
                  · subst e
                    rw [List.getElem?_set, if_pos rfl, wipeR_len]
                  · rw [set_ne e]
                    cases h with
                    | head => exact absurd rfl e
                    | tail _ h => exact ih h
              rw [g _ _ hj, g _ _ hj, wipeR_len]
            · rw [wipeR_ne hj]
          rw [ew] at S4
          refine q1 F H S4 k _ ?_
          obtain ⟨a, ea, o, n1, n2, n3⟩ := fr
          refine ⟨a, ea, o, n1, n2, fun j w' hj ej => ?_⟩
          rcases wipeR_get hj with z | ⟨z1, z2⟩
          · cases z
          · exact n3 j w' hj (by rw [wipe_ne z1]; exact ej)
        · cases ec
      | cons w r =>
        obtain ⟨ew, er2⟩ := drop_get ed
        obtain ⟨go, yl⟩ := hi.1 w ew
        have lt := (List.getElem?_eq_some_iff.mp ew).1
        refine .inr ⟨go, fun H' => ∃ F ρ acc vacc, SR K (Y.B.wit D vacc) F H' (wipe σ t.ix) (wipeR ρ t.ix) ∧ RepL K F H' acc vacc ∧ Keeps F1 H1 F H' ∧ compL t.ix t.put c (mEl I fe) acc (ws.drop (i + 1)) ρ = .ok (.fre, .lst L) ρe,
          fun H' ⟨F', ρ', acc', vacc', a1, a2, a3, a4⟩ => ⟨ws.length - (i + 1), by omega, F', ρ', acc', vacc', a1, a2, a3, a4, rfl⟩, fun x H'' y => ?_⟩
        obtain ⟨F2, ex, rx⟩ := yl x H'' y
        rw [ed] at ec
        unfold compL at ec
        split at ec
        · rename_i ρ3 ep
          obtain ⟨b, ρ4, ecb, ec2⟩ := bind_ok ec
          have u' : ∀ i ∈ t.ix, unlent (Y.B.wit D vacc) i := u
          refine put_ok (S.grow ex) rx u' ep fun σ' S5 hw => ⟨hw, ?_⟩
          have kx : Keeps F1 H1 F2 H'' := k.trans ex.keeps
          have ra2 : RepL K F2 H'' acc vacc := ra.mono ex.keeps
          refine ⟨⟨Y.ct, Y.B.wit D vacc, fun _ _ _ _ => False, Y.hI⟩, rfl, rfl, F2, ρ3, S5, ?_⟩
          rw [ecb]
          intro F6 H6 S6 k6
          cases b with
          | false =>
            rw [if_neg Bool.false_ne_true] at ec2
            rw [if_neg Bool.false_ne_true]
            have S7 := SR.wiped (vs := t.ix) S6 u'
            rw [hw] at S7
            exact ⟨F6, ρ4, acc, vacc, S7, ra2.mono k6, kx.trans k6, by rw [er2]; exact ec2⟩
          | true =>
            rw [if_pos rfl] at ec2
            rw [if_pos rfl]
            obtain ⟨yw, ρ7, ey, ec3⟩ := bind_ok ec2
            obtain ⟨bm, ρ6, e6, e7⟩ := bind_ok (show (fe ρ4).bind (toVal I) = .ok yw ρ7 from ey)
            refine ⟨⟨Y.ct, Y.B.wit D vacc, fun _ _ _ _ => False, Y.hI⟩, rfl, rfl, F6, ρ4, S6, ?_⟩
            rw [e6]
            intro F8 H8 S8 k8 v8 hv8
            split at ec3
            · rename_i hsz
              have qv : RunG K (⟨Y.ct, Y.B.wit D vacc, fun _ _ _ _ => False, Y.hI⟩ : Yx I) F8 H8 σ' (toVal I bm ρ6) fun w ρ _ _ => w = yw ∧ ρ = ρ7 := by
                rw [e7]
                exact fun _ _ _ _ => ⟨rfl, rfl⟩
              obtain ⟨F9, yw', ρ9, S9, k9, r9, ⟨e9, e10⟩⟩ := S8.toVal hv8 qv
              subst e9
              subst e10
              obtain ⟨hD, fD, _⟩ := S9.wit_at nd nf
              have ra9 := (ra2.mono k6).mono (k8.trans k9)
              obtain ⟨Sa, ka⟩ := S9.witPut (us := vacc ++ [v8]) nd nf
              refine ⟨vacc, hD, by rw [← ra9.len]; exact hsz, F9, ρ9, acc ++ [yw'], vacc ++ [v8], ?_, RepL.mono ka _ (ra9.append (.cons r9 .nil)), ((kx.trans k6).trans (k8.trans k9)).trans ka, by rw [er2]; exact ec3⟩
              have Sb := SR.wiped (vs := t.ix) Sa u'
              rw [hw] at Sb
              exact Sb
            · cases ec3
        · cases ec
  · exact q1.elim
section
variable {X : Cx} {Y : Yx I} {elt tg iter : Expr} {ifs : List Expr} {scope : Scope} {own : List (Str × Nat)} {pos : Pos} {it : Rho → R (List W)} {t : CT} {c : Rho → R Bool} {fe : Rho → R (Md × W)}
theorem pem_lc (hc : X.calm = true) (hN : X.N.Nodup) (hi : PIM X Y tg iter it) (ok : BlkOk X.N X.env.scope scope own) (ho : own.map (·.2) = t.ix)
    (hg : ∀ (s : Shared) (H : Hp) (C : Addr) (cl : List (Str × Addr)) (fp : List Addr), PG (X.blk s H scope (compEnvC scope cl C X.env) fp) tg (t.tg X.K))
    (ht : ∀ (s : Shared) (H : Hp) (C : Addr) (cl : List (Str × Addr)) (fp : List Addr), PCs (X.blk s H scope (compEnvC scope cl C X.env) fp) Y.ct I ifs c)
    (he : ∀ (s : Shared) (H : Hp) (C : Addr) (cl : List (Str × Addr)) (fp : List Addr) (Y' : Yx I), Y'.ct = Y.ct → (Y'.wx = fun _ _ _ _ => False) → PEM (X.blk s H scope (compEnvC scope cl C X.env) fp) Y' elt fe)
    (hs : ∀ x, foldedSetIterable iter X.env x = pure x := by intro _; rfl) : PEM X Y (.ListComp elt [⟨tg, iter, ifs, 0⟩] scope pos) (mLc I it t c fe) :=
  pe_weak (pe_lc (tt := tMTx X.K Y.ct I c) (te := tMx X.K Y.ct I fe) hc hN hi ok hg ht (fun s H C cl fp => pe_x (he s H C cl fp)) hs) fun σ H Q hq => by
    rw [ho]
    exact lc_of hq
/-- x = [..] on one line -/
theorem psm_setLc {i : Nat} {y : Str} {py spos : Pos} (hc : X.calm = true) (hN : X.N.Nodup) (hy : X.N[i]? = some y) (hyl : X.env.scope.names.lookup y = some .local)
    (hsw : swapsWith (.ListComp elt [⟨tg, iter, ifs, 0⟩] scope pos) (some (.Name y py)) spos.line X.env = pure true) (hi : PIM X Y tg iter it) (ok : BlkOk X.N X.env.scope scope own) (ho : own.map (·.2) = t.ix)
    (hg : ∀ (s : Shared) (H : Hp) (C : Addr) (cl : List (Str × Addr)) (fp : List Addr), PG (X.blk s H scope (compEnvC scope cl C X.env) fp) tg (t.tg X.K))
    (ht : ∀ (s : Shared) (H : Hp) (C : Addr) (cl : List (Str × Addr)) (fp : List Addr), PCs (X.blk s H scope (compEnvC scope cl C X.env) fp) Y.ct I ifs c)
    (he : ∀ (s : Shared) (H : Hp) (C : Addr) (cl : List (Str × Addr)) (fp : List Addr) (Y' : Yx I), Y'.ct = Y.ct → (Y'.wx = fun _ _ _ _ => False) → PEM (X.blk s H scope (compEnvC scope cl C X.env) fp) Y' elt fe)
    (hs : ∀ x, foldedSetIterable iter X.env x = pure x := by intro _; rfl) : PSM X Y (.Assign [.Name y py] (.ListComp elt [⟨tg, iter, ifs, 0⟩] scope pos) spos) (mSet I i (mLc I it t c fe)) :=
  ps_weak (ps_setLc (tt := tMTx X.K Y.ct I c) (te := tMx X.K Y.ct I fe) hc hN hy hyl hsw hi ok hg ht (fun s H C cl fp => pe_x (he s H C cl fp)) hs) fun D σ H hq => by
    obtain ⟨F, ρ, S, q⟩ := hq
    rw [ho]
    exact lc_of ⟨F, ρ, S, (RunS.bindE q).imp fun b ρ1 F1 H1 S1 k1 q1 v hv => store_of S1 hv q1⟩
end
end ML

set_option maxHeartbeats 4000000
namespace ML
open PySem PySem.Spec PyProof.Rows L2
variable {I : List Nat}
/-! ### built-ins -/
theorem CallR.or {X : Cx} {f : Value} {r r' : List V → Hp → VK → Prop} (h : CallR X f r) (h' : CallR X f r') : CallR X f (fun xs H Q => r xs H Q ∨ r' xs H Q) := by
  intro pins s σ H xs us Q I rs q
  rcases q with q | q
  · exact h pins s σ H xs us Q I rs q
  · exact h' pins s σ H xs us Q I rs q
section
variable {K : PySem.W.Frag} {F : Fz} {H : Hp}
theorem PkL.one {w : W} {vs : List V} (h : PkL K F H [w] vs) : ∃ v, vs = [v] ∧ PkR K F H w v := by
  obtain ⟨v, r, e, h1, h2⟩ := h
  have e2 : r = [] := h2
  exact ⟨v, by rw [e, e2], h1⟩
theorem PkL.two {w u : W} {vs : List V} (h : PkL K F H [w, u] vs) : ∃ v x, vs = [v, x] ∧ PkR K F H w v ∧ PkR K F H u x := by
  obtain ⟨v, r, e, h1, h2⟩ := h
  obtain ⟨x, e2, h3⟩ := PkL.one h2
  exact ⟨v, x, by rw [e, e2], h1, h3⟩
end
def gInt : GC
  | [.int i] => some (.val, .int i)
  | [.bl k] => some (.val, .int (if k then 1 else 0))
  | [.str a] => if a.length ≤ 640 then (PySem.intText? a).map fun n => (.val, .int n) else none
  | _ => none
abbrev rInt1 : List V → Hp → VK → Prop := fun xs H Q => (∃ i, xs = [.int i] ∧ Q (.int i) H) ∨ ∃ k, xs = [.bl k] ∧ Q (.int (if k then 1 else 0)) H
abbrev rIntS : List V → Hp → VK → Prop := fun xs H Q => ∃ a n, xs = [.str a] ∧ PySem.intText? a = some n ∧ a.length ≤ 640 ∧ Q (.int n) H
theorem c_int {X : Cx} : CallR X (.type "int") (fun xs H Q => rInt1 xs H Q ∨ rIntS xs H Q) := CallR.or call_int1 call_int_str
theorem g_int {K : PySem.W.Frag} : CallW K (fun xs H Q => rInt1 xs H Q ∨ rIntS xs H Q) gInt := by
  intro xs m z e F H vs Q t p q
  unfold gInt at e
  split at e
  · cases e
    obtain ⟨v, rfl, h⟩ := p.one
    cases h.int
    exact .inl (.inl ⟨_, rfl, old_val t (K := K) (z := .int _) rfl q⟩)
  · cases e
    obtain ⟨v, rfl, h⟩ := p.one
    cases h.bl
    exact .inl (.inr ⟨_, rfl, old_val t (K := K) (z := .int _) rfl q⟩)
  · split at e
    · rename_i a hl
      obtain ⟨n, en, e2⟩ := Option.map_eq_some_iff.mp e
      cases e2
      obtain ⟨v, rfl, h⟩ := p.one
      cases h.str
      exact .inr ⟨_, n, rfl, en, hl, old_val t (K := K) (z := .int _) rfl q⟩
    · cases e
  · cases e
def gStr : GC
  | [.int i] => if i.natAbs.log2 < 1920 then some (.val, .str (toString i)) else none
  | [.str a] => some (.val, .str a)
  | _ => none
abbrev rStrI : List V → Hp → VK → Prop := fun xs H Q => ∃ i, xs = [.int i] ∧ i.natAbs.log2 < 1920 ∧ Q (.str (toString i)) H
abbrev rStrS : List V → Hp → VK → Prop := fun xs H Q => ∃ a, xs = [.str a] ∧ Q (.str a) H
theorem c_str {X : Cx} : CallR X (.type "str") (fun xs H Q => rStrI xs H Q ∨ rStrS xs H Q) := CallR.or call_str_int SkE.call_str_str
theorem g_str {K : PySem.W.Frag} : CallW K (fun xs H Q => rStrI xs H Q ∨ rStrS xs H Q) gStr := by
  intro xs m z e F H vs Q t p q
  unfold gStr at e
  split at e
  · split at e
    · rename_i hl
      cases e
      obtain ⟨v, rfl, h⟩ := p.one
      cases h.int
      exact .inl ⟨_, rfl, hl, old_val t (K := K) (z := .str _) rfl q⟩
    · cases e
  · cases e
    obtain ⟨v, rfl, h⟩ := p.one
    cases h.str
    exact .inr ⟨_, rfl, old_val t (K := K) (z := .str _) rfl q⟩
  · cases e
def gLen : GC
  | [.str a] => if a.length ≤ sizeLine then some (.val, .int a.length) else none
  | [w] => (itemsW w).map fun l => (.val, .int l.length)
  | _ => none
theorem g_len {K : PySem.W.Frag} : CallW K (fun xs H Q => ∃ x n, xs = [x] ∧ LenV K x H n ∧ Q (.int n) H) gLen := by
  intro xs m z e F H vs Q t p q
  unfold gLen at e
  split at e
  · split at e
    · rename_i hl
      cases e
      obtain ⟨v, rfl, h⟩ := p.one
      cases h.str
      exact ⟨_, _, rfl, ⟨hl, rfl⟩, old_val t (K := K) (z := .int _) rfl q⟩
    · cases e
  · obtain ⟨l, el, e2⟩ := Option.map_eq_some_iff.mp e
    cases e2
    obtain ⟨v, rfl, h⟩ := p.one
    obtain ⟨a, us, rfl, hs, r⟩ := h.seq el
    refine ⟨_, l.length, rfl, ?_, old_val t (K := K) (z := .int _) rfl q⟩
    rcases hs with hs | hs
    · exact .inl ⟨us, hs, r.len⟩
    · exact .inr ⟨us, hs, r.len⟩
  · cases e
def gMin : GC
  | [.int i, .int j] => some (.val, .int (if j < i then j else i))
  | _ => none
theorem g_min {K : PySem.W.Frag} : CallW K (fun xs H Q => ∃ i j, xs = [.int i, .int j] ∧ Q (.int (if j < i then j else i)) H) gMin := by
  intro xs m z e F H vs Q t p q
  unfold gMin at e
  split at e
  · cases e
    obtain ⟨v, x, rfl, h, h'⟩ := p.two
    cases h.int
    cases h'.int
    exact ⟨_, _, rfl, old_val t (K := K) (z := .int _) rfl q⟩
  · cases e
def gMax : GC
  | [.int i, .int j] => some (.val, .int (if j > i then j else i))
  | _ => none
theorem g_max {K : PySem.W.Frag} : CallW K (fun xs H Q => ∃ i j, xs = [.int i, .int j] ∧ Q (.int (if j > i then j else i)) H) gMax := by
  intro xs m z e F H vs Q t p q
  unfold gMax at e
  split at e
  · cases e
    obtain ⟨v, x, rfl, h, h'⟩ := p.two
    cases h.int
    cases h'.int
    exact ⟨_, _, rfl, old_val t (K := K) (z := .int _) rfl q⟩
  · cases e
def gTupC : GC
  | [.tup l] => some (.val, .tup l)
  | [.lst l] => some (.val, .tup l)
  | [.frl l] => some (.val, .tup l)
  | _ => none
theorem g_tupC {K : PySem.W.Frag} : CallW K (fun xs H Q => ∃ p ys, xs = [.ref p] ∧ ((SqL K H p ys ∧ ∀ l, H l = none → Q (.ref l) (upd H l (.tup ys))) ∨ (SqT K H p ys ∧ Q (.ref p) H))) gTupC := by
  intro xs m z e F H vs Q t p q
  unfold gTupC at e
  split at e
  · cases e
    obtain ⟨v, rfl, h⟩ := p.one
    obtain ⟨a, us, rfl, hs, r⟩ := h.tup
    exact ⟨a, us, rfl, .inr ⟨hs.seq, old_val t (show Rep K F H (.tup _) (.ref a) from ⟨a, us, rfl, hs, r⟩) q⟩⟩
  · cases e
    obtain ⟨v, rfl, h⟩ := p.one
    obtain ⟨a, us, rfl, hs, r⟩ := h.lst
    exact ⟨a, us, rfl, .inl ⟨.of hs, fun l hl => new_tup t r q hl⟩⟩
  · cases e
    obtain ⟨v, rfl, h⟩ := p.one
    obtain ⟨a, us, rfl, hs, r⟩ := h.frl
    exact ⟨a, us, rfl, .inl ⟨hs.seq, fun l hl => new_tup t r q hl⟩⟩
  · cases e
def gLstC : GC
  | [w] => (itemsW w).map fun l => (.fre, .lst l)
  | _ => none
theorem g_lstC {K : PySem.W.Frag} : CallW K (fun xs H Q => ∃ p ys, xs = [.ref p] ∧ (SqL K H p ys ∨ SqT K H p ys) ∧ ∀ l, H l = none → Q (.ref l) (upd H l (.lst ys))) gLstC := by
  intro xs m z e F H vs Q t p q
  unfold gLstC at e
  split at e
  · obtain ⟨l, el, e2⟩ := Option.map_eq_some_iff.mp e
    cases e2
    obtain ⟨v, rfl, h⟩ := p.one
    obtain ⟨a, us, rfl, hs, r⟩ := h.seq el
    exact ⟨a, us, rfl, hs, fun l hl => new_lst t r q hl⟩
  · cases e
/-! isinstance -/
def tyN : W → Option String
  | .non => some "NoneType"
  | .bl _ => some "bool"
  | .int _ => some "int"
  | .str _ => some "str"
  | .tup _ => some "tuple"
  | .lst _ => some "list"
  | .frl _ => some "list"
  | .dK _ _ => some "dict"
  | _ => none
def isB : String → String → Option Bool
  | "NoneType", "bool" => some false | "NoneType", "int" => some false | "NoneType", "str" => some false | "NoneType", "tuple" => some false | "NoneType", "list" => some false
  | "bool", "bool" => some true | "bool", "int" => some true | "bool", "str" => some false | "bool", "tuple" => some false | "bool", "list" => some false
  | "int", "bool" => some false | "int", "int" => some true | "int", "str" => some false | "int", "tuple" => some false | "int", "list" => some false
  | "str", "bool" => some false | "str", "int" => some false | "str", "str" => some true | "str", "tuple" => some false | "str", "list" => some false
  | "tuple", "bool" => some false | "tuple", "int" => some false | "tuple", "str" => some false | "tuple", "tuple" => some true | "tuple", "list" => some false
  | "list", "bool" => some false | "list", "int" => some false | "list", "str" => some false | "list", "tuple" => some false | "list", "list" => some true
  | _, _ => none
theorem isB_ok {a b : String} {r : Bool} (h : isB a b = some r) : kitB a b = some r := by
  unfold isB at h
  split at h <;> first | (cases h; decide +kernel) | cases h
theorem tyN_ok {K : PySem.W.Frag} {F : Fz} {H : Hp} {w : W} {v : V} {n : String} (h : PkR K F H w v) (e : tyN w = some n) : TyX K H v (.type n) := by
  cases w with
  | non => cases e; cases h.non; exact .base .non
  | bl b => cases e; cases h.bl; exact .base (.bl b)
  | int b => cases e; cases h.int; exact .base (.int b)
  | str b => cases e; cases h.str; exact .base (.str b)
  | tup l =>
    cases e
    obtain ⟨a, us, rfl, hs, r⟩ := h.tup
    rcases hs with hs | ⟨o, its, k, ho, hc, _⟩
    · exact .base (.tup hs)
    · exact .kTuple ho hc
  | lst l => cases e; obtain ⟨a, us, rfl, hs, r⟩ := h.lst; exact .base (.lst hs)
  | frl l =>
    cases e
    obtain ⟨a, us, rfl, hs, r⟩ := h.frl
    rcases hs with ⟨o, hs⟩ | ⟨o, its, k, ho, hc, _⟩
    · exact .base (.frz hs)
    · exact .kList ho hc
  | dK ks l => cases e; obtain ⟨a, us, rfl, hs, _⟩ := h.dK; exact .base (.dK hs)
  | _ => cases e
def isAny (n : String) : List W → Option Bool
  | [] => some false
  | .ty c :: r => match isB n c, isAny n r with
    | some a, some b => some (a || b)
    | _, _ => none
  | _ => none
def gIsi : GC
  | [x, .ty c] => (tyN x).bind fun n => (isB n c).map fun b => (.val, .bl b)
  | [x, .tup cs] => (tyN x).bind fun n => (isAny n cs).map fun b => (.val, .bl b)
  | _ => none
theorem isAny_ok {K : PySem.W.Frag} {F : Fz} {H : Hp} {n : String} : ∀ {cs : List W} {vs : List V} {b : Bool}, RepL K F H cs vs → isAny n cs = some b → ∃ us, Paired ClsV vs us ∧ PySem.W.kitAny K (.type n) us = some b
  | [], _, _, r, e => by
    cases r
    cases e
    exact ⟨[], .nil, rfl⟩
  | .ty c :: cs, _, b, r, e => by
    obtain ⟨v, vs, rfl, r1, r2⟩ := r
    cases r1
    have e1 : (match isB n c, isAny n cs with
      | some a, some b => some (a || b)
      | _, _ => none) = some b := e
    cases q : isB n c with
    | none => rw [q] at e1; cases e1
    | some t =>
      cases q2 : isAny n cs with
      | none => rw [q, q2] at e1; cases e1
      | some t2 =>
        rw [q, q2] at e1
        cases e1
        obtain ⟨us, hu, hk2⟩ := isAny_ok r2 q2
        exact ⟨.type c :: us, .cons (.ty c) hu, kitAny_cons (kit_ty (isB_ok q)) (fun z => by rw [z]; exact hk2) fun z => by rw [z]; rfl⟩
  | .non :: _, _, _, _, e => by cases e
  | .bl _ :: _, _, _, _, e => by cases e
  | .int _ :: _, _, _, _, e => by cases e
  | .str _ :: _, _, _, _, e => by cases e
  | .fn _ :: _, _, _, _, e => by cases e
  | .tup _ :: _, _, _, _, e => by cases e
  | .lst _ :: _, _, _, _, e => by cases e
  | .frl _ :: _, _, _, _, e => by cases e
  | .dK _ _ :: _, _, _, _, e => by cases e
theorem g_isi {K : PySem.W.Frag} : CallW K (fun xs H Q => rIsi K xs H Q ∨ rIsiT K xs H Q ∨ rIsiK K xs H Q) gIsi := by
  intro xs m z e F H vs Q t p q
  unfold gIsi at e
  split at e
  · obtain ⟨n, en, e1⟩ := Option.bind_eq_some_iff.mp e
    obtain ⟨b, eb, e2⟩ := Option.map_eq_some_iff.mp e1
    cases e2
    obtain ⟨v, x, rfl, h, h'⟩ := p.two
    cases h'.rep (fun _ => W.noConfusion) fun _ _ => W.noConfusion
    exact .inl ⟨v, _, _, _, b, rfl, .ty _, tyN_ok h en, kit_ty (isB_ok eb), old_val t (K := K) (z := .bl _) rfl q⟩
  · obtain ⟨n, en, e1⟩ := Option.bind_eq_some_iff.mp e
    obtain ⟨b, eb, e2⟩ := Option.map_eq_some_iff.mp e1
    cases e2
    obtain ⟨v, x, rfl, h, h'⟩ := p.two
    obtain ⟨a, us, rfl, hs, r⟩ := h'.tup
    obtain ⟨ws, hp, hk⟩ := isAny_ok r eb
    have fin : Q (.bl b) H := old_val t (K := K) (z := .bl _) rfl q
    rcases hs with hs | ⟨o, its, k, ho, hc, hd, _, hv⟩
    · exact .inr (.inl ⟨v, a, us, _, ws, b, rfl, hs, hp, tyN_ok h en, hk, fin⟩)
    · obtain ⟨oc, od, dt, osl⟩ := o
      cases hc
      cases hd
      have e3 := ClsV.all hp hv
      refine .inr (.inr ⟨v, a, od, ws, k, osl, _, b, rfl, ?_, tyN_ok h en, hk, fin⟩)
      rw [ho, ← e3]
  · cases e
theorem c_isi {X : Cx} : CallR X (.builtin "isinstance") (fun xs H Q => rIsi X.K xs H Q ∨ rIsiT X.K xs H Q ∨ rIsiK X.K xs H Q) := CallR.or call_isi (CallR.or call_isiT call_isiK)
section
variable {X : Cx} {Y : Yx I} {x : Str} {p pos : Pos} {e : Expr} {es : List Expr} {fs : List (Rho → R (Md × W))} {r : List V → Hp → VK → Prop} {g : GC} {id T : String}
theorem pem_callB (hc : CallR X (.builtin id) r) (hg : Gl X x) (hm : X.mg x = none) (hv : bootBuiltins x = some (.builtin id)) (hw : CallW X.K r g) (ha : PAM X Y (e :: es) fs) (hn : x ≠ "__name__" := by decide) (hdb : (x == ("__debug__" : Str)) = false := by decide)
    (he : starEach (e :: es) X.env = (false, eval e X.env) :: starEach es X.env := by rfl) (hpl : (backTo pos (starEach es X.env)).any (·.1) = false := by rfl) : PEM X Y (.Call (.Name x p) (e :: es) [] pos) (mCB g fs) :=
  pe_weak (pe_callB hc hg hm hv ha hn hdb he hpl) fun _ _ _ hq => tCB_of hw hq
theorem pem_callTy (hc : CallR X (.type T) r) (hg : Gl X x) (hm : X.mg x = none) (hv : bootBuiltins x = some (.type T)) (hw : CallW X.K r g) (ha : PAM X Y (e :: es) fs) (hn : x ≠ "__name__" := by decide) (hdb : (x == ("__debug__" : Str)) = false := by decide)
    (he : starEach (e :: es) X.env = (false, eval e X.env) :: starEach es X.env := by rfl) (hpl : (backTo pos (starEach es X.env)).any (·.1) = false := by rfl) : PEM X Y (.Call (.Name x p) (e :: es) [] pos) (mCB g fs) :=
  pe_weak (pe_callTy hc hg hm hv ha hn hdb he hpl) fun _ _ _ hq => tCB_of hw hq
theorem pem_ty (hg : Gl X x) (hm : X.mg x = none) (hv : bootBuiltins x = some (.type T)) (hn : x ≠ "__name__" := by decide) (hdb : (x == ("__debug__" : Str)) = false := by decide) : PEM X Y (.Name x pos) (mC (.ty T)) := pem_c (pe_bltn (v := .ty T) hg hm hv rfl hn hdb) fun _ _ => rfl
theorem pem_glob {v : V} {u : Value} {w : W} (hg : Gl X x) (hm : X.mg x = some u) (r : RelV v u) (h : ∀ F H, Rep X.K F H w v) (hdb : (x == ("__debug__" : Str)) = false := by decide) : PEM X Y (.Name x pos) (mC w) := pem_c (pe_glob hg hm r hdb) h
end
/-! ### subscripts -/
theorem atI_rep {K : PySem.W.Frag} {F : Fz} {H : Hp} {l : List W} {vs : List V} {i : Int} {w : W} (r : RepL K F H l vs) (e : atI l i = some w) : ∃ v, atI vs i = some v ∧ Rep K F H w v := by
  unfold atI at e ⊢
  rw [← r.len]
  obtain ⟨j, ej, e2⟩ := Option.bind_eq_some_iff.mp e
  obtain ⟨v, ev, rv⟩ := r.get e2
  exact ⟨v, by rw [ej]; exact ev, rv⟩
def gIx : GW := fun x y => match x, y with
  | .str z, .int i => if z.length ≤ sizeLine then (atI z.cps.toList i).map fun c => (.val, .str ⟨#[c]⟩) else none
  | x, .int i => (itemsW x).bind fun l => (atI l i).map fun w => (.val, w)
  | _, _ => none
theorem g_ix {K : PySem.W.Frag} : OpW K (rIx K) gIx := by
  intro x y m z e F H vx vy Q t px py q
  unfold gIx at e
  split at e
  · split at e
    · rename_i hl
      obtain ⟨c, ec, e2⟩ := Option.map_eq_some_iff.mp e
      cases e2
      cases px.str
      cases py.int
      exact .inr (.inr ⟨_, _, c, rfl, rfl, hl, ec, old_val t (K := K) (z := .str _) rfl q⟩)
    · cases e
  · obtain ⟨l, el, e1⟩ := Option.bind_eq_some_iff.mp e
    obtain ⟨w, ew, e2⟩ := Option.map_eq_some_iff.mp e1
    cases e2
    cases py.int
    obtain ⟨a, vs, rfl, hs, r⟩ := px.seq el
    obtain ⟨v, ev, rv⟩ := atI_rep r ew
    rcases hs with hs | hs
    · exact .inl ⟨a, vs, _, v, rfl, rfl, hs, ev, old_val t rv q⟩
    · exact .inr (.inl ⟨a, vs, _, v, rfl, rfl, hs, ev, old_val t rv q⟩)
  · cases e
theorem pem_ix {X : Cx} {Y : Yx I} {a b : Expr} {pos : Pos} {fa fb : Rho → R (Md × W)} (ha : PEM X Y a fa) (hb : PEM X Y b fb) (hs : PlainIx b := by exact fun _ _ => rfl) : PEM X Y (.Subscript a b pos) (mOp gIx fa fb) := pe_weak (pe_ix ix_seq ha hb hs) fun _ _ _ hq => tOp_of g_ix hq
end ML

set_option maxHeartbeats 4000000
namespace ML
open PySem PySem.Spec PyProof.Rows L2
variable {I : List Nat}
/-! ### slices -/
def cutW (xs : List W) (lo hi : Option Int) : List W := (xs.drop (HT.sIx xs.length 0 lo)).take (HT.sIx xs.length xs.length hi - HT.sIx xs.length 0 lo)
theorem RepL.cut {K : PySem.W.Frag} {F : Fz} {H : Hp} {l : List W} {vs : List V} (r : RepL K F H l vs) (lo hi : Option Int) : RepL K F H (cutW l lo hi) (cutV vs lo hi) := by
  unfold cutW cutV
  rw [r.len]
  exact (r.drop _).take _
def gSl (x : W) (lo hi : Option Int) : Option (Md × W) := match x with
  | .str z => if z.length ≤ sizeLine then some (.val, .str (cutS z lo hi)) else none
  | .tup l => some (.val, .tup (cutW l lo hi))
  | .lst l => some (.fre, .lst (cutW l lo hi))
  | .frl l => some (.fre, .lst (cutW l lo hi))
  | _ => none
def mPart : Option (Rho → R (Md × W)) → Rho → R (Option Int)
  | none, ρ => .ok none ρ
  | some f, ρ => (f ρ).bind fun b ρ1 => match b.1, b.2 with
    | .val, .int i => .ok (some i) ρ1
    | _, _ => .stk
def mSl (fa : Rho → R (Md × W)) (lo hi : Option (Rho → R (Md × W))) : Rho → R (Md × W) := fun ρ => (fa ρ).bind fun x ρ1 => (mPart lo ρ1).bind fun l ρ2 => (mPart hi ρ2).bind fun h ρ3 => match peek x.1 x.2 ρ3 with
  | some u => lift (gSl u l h) ρ3
  | none => .stk
def tMO (K : PySem.W.Frag) (Y : Yx I) (f : Option (Rho → R (Md × W))) : TO := fun σ H Q => ∃ F ρ, SR K Y.B F H σ ρ ∧ RunG K Y F H σ (mPart f ρ) fun o ρ' F' H' => Q o H'
def POM (X : Cx) (Y : Yx I) (e : Option Expr) (f : Option (Rho → R (Md × W))) : Prop := PO X e (tMO X.K Y f)
theorem po_weak {X : Cx} {e : Option Expr} {t t' : TO} (h : PO X e t) (q : ∀ σ H Q, t' σ H Q → t σ H Q) : PO X e t' := ⟨fun pins s σ H Q J hq => h.run pins s σ H Q J (q _ _ _ hq)⟩
theorem pom_none {X : Cx} {Y : Yx I} : POM X Y none none := po_weak po_none fun σ H Q hq => by
  obtain ⟨F, ρ, S, q⟩ := hq
  exact q F H S .refl
theorem pom_some {X : Cx} {Y : Yx I} {e : Expr} {f : Rho → R (Md × W)} (h : PEM X Y e f) : POM X Y (some e) (some f) := po_weak (po_some h) fun σ H Q hq => by
  obtain ⟨F, ρ, S, q⟩ := hq
  refine ⟨F, ρ, S, (RunG.bind q).imp fun b ρ1 F1 H1 S1 k1 q1 v hv => ?_⟩
  obtain ⟨m, w⟩ := b
  dsimp only at q1
  split at q1
  · exact ⟨_, hv, q1 F1 H1 S1 .refl⟩
  · exact q1.elim
def rSlM (K : PySem.W.Frag) : V → Option Int → Option Int → Hp → VK → Prop := fun x lo hi H Q => rSlL K x lo hi H Q ∨ rSlA K x lo hi H Q ∨ rSlS x lo hi H Q
theorem sl_m {X : Cx} : L2.SlR X (rSlM X.K) := L2.SlR.or sl_list (L2.SlR.or sl_tupA sl_str)
theorem cut_all {xs : List W} {lo hi : Option Int} (h : HT.sIx xs.length 0 lo = 0 ∧ HT.sIx xs.length xs.length hi = xs.length) : cutW xs lo hi = xs := by
  unfold cutW
  rw [h.1, h.2, Nat.sub_zero, List.drop_zero, List.take_length]
theorem g_sl {K : PySem.W.Frag} {x z : W} {lo hi : Option Int} {m : Md} (e : gSl x lo hi = some (m, z)) {F : Fz} {H : Hp} {vx : V} {Q : VK} (t : Tight F H) (px : PkR K F H x vx)
    (q : ∀ F' H' v, Ext [] F H F' H' → NewR K H F' H' m z v → Q v H') : rSlM K vx lo hi H Q := by
  unfold gSl at e
  split at e
  · split at e
    · rename_i hl
      cases e
      cases px.str
      exact .inr (.inr ⟨_, rfl, hl, old_val t (K := K) (z := .str _) rfl q⟩)
    · cases e
  · cases e
    obtain ⟨a, vs, rfl, hs, r⟩ := px.tup
    refine .inr (.inl ⟨a, vs, rfl, hs.seq, fun hw => ?_, fun _ p hp => new_tup t (r.cut lo hi) q hp⟩)
    rw [← r.len] at hw
    rw [cut_all hw] at q
    exact old_val t (show Rep K F H (.tup _) (.ref a) from ⟨a, vs, rfl, hs, r⟩) q
  · cases e
    obtain ⟨a, vs, rfl, hs, r⟩ := px.lst
    exact .inl ⟨a, vs, rfl, .of hs, fun p hp => new_lst t (r.cut lo hi) q hp⟩
  · cases e
    obtain ⟨a, vs, rfl, hs, r⟩ := px.frl
    exact .inl ⟨a, vs, rfl, hs.seq, fun p hp => new_lst t (r.cut lo hi) q hp⟩
  · cases e
theorem pem_slice {X : Cx} {Y : Yx I} {e : Expr} {lo hi : Option Expr} {pos p2 : Pos} {f : Rho → R (Md × W)} {fl fh : Option (Rho → R (Md × W))} (he : PEM X Y e f) (hl : POM X Y lo fl) (hh : POM X Y hi fh) : PEM X Y (.Subscript e (.Slice lo hi none p2) pos) (mSl f fl fh) :=
  pe_weak (pe_slice sl_m he hl hh) fun σ H Q hq => by
    obtain ⟨F, ρ, S, q⟩ := hq
    refine ⟨F, ρ, S, (RunG.bind q).imp fun x ρ1 F1 H1 S1 k1 q1 v1 hv1 => ?_⟩
    obtain ⟨F1', S1', k1', hd1⟩ := S1.hold hv1
    refine ⟨F1', ρ1, S1', (RunG.bind (q1.rebase k1')).imp fun l ρ2 F2 H2 S2 k2 q2 => ?_⟩
    refine ⟨F2, ρ2, S2, (RunG.bind q2).imp fun h ρ3 F3 H3 S3 k3 q3 => ?_⟩
    cases e1 : peek x.1 x.2 ρ3 with
    | none => rw [e1] at q3; exact q3.elim
    | some u =>
      rw [e1] at q3
      obtain ⟨⟨m, z⟩, ez, qz⟩ := lift_ok q3
      exact g_sl ez S3.f2 (S3.peek hd1 (k2.trans k3) e1) fun F' H' v ee hn => qz F' H' (S3.grow ee) ee.keeps v (S3.newR ee hn)
/-! ### methods of an own list -/
/-- x.append(e) -/
def mAppend (i : Nat) (I : List Nat) (fe : Rho → R (Md × W)) : Rho → R (Md × W) := fun ρ => match ownAt ρ i with
  | some (.lst _) => (fe ρ).bind fun b ρ1 => (toVal I b ρ1).bind fun w ρ2 => match ownAt ρ2 i with
    | some (.lst l) => if l.length < sizeLine then .ok (.val, .non) (ρ2.set i (.own (.lst (l ++ [w])))) else .stk
    | _ => .stk
  | _ => .stk
theorem own_list {K : PySem.W.Frag} {B : Bd} {F : Fz} {H : Hp} {σ : L2.St} {ρ : Rho} (S : SR K B F H σ ρ) {i : Nat} {w : W} (h : ownAt ρ i = some w) : ∃ a, σ[i]? = some (some (.ref a)) ∧ OwnR K F H w a := by
  obtain ⟨a, e, o, _⟩ := S.slot i _ (ownAt_get h)
  exact ⟨a, e, o⟩
section
variable {X : Cx} {Y : Yx I} {e o : Expr} {pos apos : Pos} {fe : Rho → R (Md × W)} {i : Nat}
theorem pem_append (ho : PE X o (tVar i)) (he : PEM X Y e fe) (hbase : attributeBase o "append" X.env (eval o X.env) = eval o X.env := by rfl)
    (hfew : ((backTo pos (starEach (e :: []) X.env)).all (fun x => !x.1) && (backToKw pos (keywordEach [] X.env)).all (fun x => x.1.isSome) && decide ((e :: []).length + ([] : List Keyword).length + (if ([] : List Keyword).isEmpty then 0 else 1) < 30)) = true := by rfl)
    (hline : (apos.endLine == pos.line) = true := by rfl) (hs : starEach (e :: []) X.env = (false, eval e X.env) :: starEach [] X.env := by rfl) (hplain : (backTo pos (starEach [] X.env)).any (·.1) = false := by rfl) :
    PEM X Y (.Call (.Attribute o "append" apos) [e] [] pos) (mAppend i I fe) :=
  pe_weak (pe_bm PySem.F.plainAttrs_list PySem.F.slot_list_append PySem.F.type_list_append mt_append ho (pa_cons (te := tM X.K Y fe) he pa_nil hs) hbase hfew hline hs hplain) fun σ H Q hq => by
    obtain ⟨F, ρ, S, q⟩ := hq
    unfold mAppend at q
    cases e0 : ownAt ρ i with
    | none => rw [e0] at q; exact q.elim
    | some w0 =>
      rw [e0] at q
      obtain ⟨a, ea, ow⟩ := own_list S e0
      have ty : ∀ {ρ2 F2 H2 w}, SR X.K Y.B F2 H2 σ ρ2 → ownAt ρ2 i = some (.lst w) → ∃ vs, H2 a = some (.lst vs) ∧ RepL X.K F2 H2 w vs := fun {ρ2 F2 H2 w} S2 e2 => by
        obtain ⟨b, eb, ob⟩ := own_list S2 e2
        rw [ea] at eb
        cases eb
        exact ob
      refine ⟨.ref a, ea, ?_, ?_⟩
      · cases w0 with
        | lst l => obtain ⟨vs, h1, _⟩ := ow; exact .inl ⟨rfl, vs, .of h1⟩
        | dK ks l => exact q.elim
        | _ => exact ow.elim
      · have q : RunG X.K Y F H σ ((fe ρ).bind fun b ρ1 => (toVal I b ρ1).bind fun w ρ2 => match ownAt ρ2 i with
          | some (.lst l) => if l.length < sizeLine then .ok (.val, .non) (ρ2.set i (.own (.lst (l ++ [w])))) else .stk
          | _ => .stk) fun b ρ' F' H' => ∀ v, VR X.K Y.B F' H' σ ρ' b.1 b.2 v → Q v H' := by
          cases w0 with
          | lst l => exact q
          | dK ks l => exact q.elim
          | _ => exact ow.elim
        refine ⟨F, ρ, S, (RunG.bind q).imp fun b ρ1 F1 H1 S1 k1 q1 v hv => ?_⟩
        obtain ⟨F2, w, ρ2, S2, k2, r, q2⟩ := S1.toVal hv (RunG.bind q1)
        cases e2 : ownAt ρ2 i with
        | none => rw [e2] at q2; exact q2.elim
        | some u =>
          rw [e2] at q2
          cases u with
          | lst l =>
            dsimp only at q2
            split at q2
            · rename_i hl
              obtain ⟨vs, h1, r1⟩ := ty S2 e2
              refine ⟨a, vs, v, rfl, rfl, h1, by rw [← r1.len]; exact hl, ?_⟩
              have ka : Keeps F2 H1 F2 (upd H1 a (.lst (vs ++ [v]))) := by
                obtain ⟨b, eb, ob, nf, nk⟩ := S2.slot i _ (ownAt_get e2)
                rw [ea] at eb
                cases eb
                exact ⟨fun _ h => h, fun x o ho c => by
                  have nx : x ≠ a := fun z => by
                    subst z
                    rcases c with c | c
                    · exact nf c
                    · rw [h1] at ho; cases ho; exact c trivial
                  rw [upd_ne nx]
                  exact ho⟩
              obtain ⟨S3, k3⟩ := S2.put (w' := .lst (l ++ [w])) (o := .lst (vs ++ [v])) (ownAt_get e2) ea trivial ⟨vs ++ [v], upd_same, (RepL.mono ka _ r1).append (.cons (r.mono ka) .nil)⟩
              exact q2 F2 _ S3 k3 .non rfl
            · exact q2.elim
          | _ => exact q2.elim
end
end ML

set_option maxHeartbeats 4000000
namespace ML
open PySem PySem.Spec PyProof.Rows L2
variable {I : List Nat}
section
variable {K : PySem.W.Frag} {B : Bd} {F : Fz} {H : Hp} {σ : L2.St} {ρ : Rho}
/-- an own list's items are changed -/
theorem SR.putL (S : SR K B F H σ ρ) {i : Nat} {w : W} {a : Addr} {l' : List W} {vs' : List V} (h : ownAt ρ i = some w) (e : σ[i]? = some (some (.ref a))) (r : RepL K F H l' vs') :
    SR K B F (upd H a (.lst vs')) σ (ρ.set i (.own (.lst l'))) ∧ Keeps F H F (upd H a (.lst vs')) := by
  obtain ⟨b, eb, ob, nf, nk⟩ := S.slot i _ (ownAt_get h)
  rw [e] at eb
  cases eb
  obtain ⟨u, hu, mu⟩ := ob.some
  have ka : Keeps F H F (upd H a (.lst vs')) := ⟨fun _ h => h, fun x o ho c => by
    have nx : x ≠ a := fun z => by
      subst z
      rcases c with c | c
      · exact nf c
      · rw [hu] at ho; cases ho; exact c mu
    rw [upd_ne nx]
    exact ho⟩
  exact S.put (w' := .lst l') (o := .lst vs') (ownAt_get h) e trivial ⟨vs', upd_same, r.mono ka⟩
theorem own_lst (S : SR K B F H σ ρ) {i : Nat} {l : List W} (h : ownAt ρ i = some (.lst l)) : ∃ a vs, σ[i]? = some (some (.ref a)) ∧ H a = some (.lst vs) ∧ RepL K F H l vs := by
  obtain ⟨a, e, vs, h1, h2⟩ := own_list S h
  exact ⟨a, vs, e, h1, h2⟩
end
/-! ### x.pop(), x.pop(k) -/
def mPop (i : Nat) : Rho → R (Md × W) := fun ρ => match ownAt ρ i with
  | some (.lst l) => (match l[l.length - 1]? with
    | some w => .ok (.val, w) (ρ.set i (.own (.lst l.dropLast)))
    | none => .stk)
  | _ => .stk
theorem RepL.dropLast {K : PySem.W.Frag} {F : Fz} {H : Hp} {l : List W} {vs : List V} (r : RepL K F H l vs) : RepL K F H l.dropLast vs.dropLast := by
  rw [List.dropLast_eq_take, List.dropLast_eq_take, r.len]
  exact r.take _
theorem RepL.erase {K : PySem.W.Frag} {F : Fz} {H : Hp} : ∀ {l : List W} {vs : List V} (k : Nat), RepL K F H l vs → RepL K F H (l.eraseIdx k) (vs.eraseIdx k)
  | [], _, _, h => by cases h; rfl
  | w :: l, _, 0, ⟨v, r, e, _, h2⟩ => by rw [e]; exact h2
  | w :: l, _, k + 1, ⟨v, r, e, h1, h2⟩ => by rw [e]; exact ⟨v, _, rfl, h1, RepL.erase k h2⟩
section
variable {X : Cx} {Y : Yx I} {e o : Expr} {pos apos : Pos} {fe : Rho → R (Md × W)} {i : Nat}
theorem pem_pop (ho : PE X o (tVar i)) (hbase : attributeBase o "pop" X.env (eval o X.env) = eval o X.env := by rfl) (hline : (apos.endLine == pos.line) = true := by rfl) :
    PEM X Y (.Call (.Attribute o "pop" apos) [] [] pos) (mPop i) :=
  pe_weak (pe_bm0 PySem.F.plainAttrs_list PySem.F.slot_list_pop PySem.F.type_list_pop mt_pop ho hbase hline) fun σ H Q hq => by
    obtain ⟨F, ρ, S, q⟩ := hq
    unfold mPop at q
    split at q
    · rename_i l e0
      obtain ⟨a, vs, ea, h1, r⟩ := own_lst S e0
      split at q
      · rename_i w ew
        obtain ⟨v, ev, rv⟩ := r.get ew
        rw [r.len] at ev
        obtain ⟨S2, k2⟩ := S.putL e0 ea r.dropLast
        exact ⟨.ref a, ea, .inl ⟨rfl, vs, .of h1⟩, a, vs, v, rfl, rfl, h1, ev, q F _ S2 k2 v (rv.mono k2)⟩
      · exact q.elim
    · exact q.elim
/-- x.pop(k), k a written place -/
def mPopAt (i : Nat) (k : Int) : Rho → R (Md × W) := fun ρ => match ownAt ρ i with
  | some (.lst l) => (match seqIndex? k l.length with
    | some j => (match l[j]? with
      | some w => if -(2 ^ 63) ≤ k ∧ k < 2 ^ 63 then .ok (.val, w) (ρ.set i (.own (.lst (l.eraseIdx j)))) else .stk
      | none => .stk)
    | none => .stk)
  | _ => .stk
theorem pem_popAt {k : Int} {jj : Nat} {kp : Pos} (ho : PE X o (tVar i)) (hbase : attributeBase o "pop" X.env (eval o X.env) = eval o X.env := by rfl)
    (hfew : ((backTo pos (starEach ((.Constant (.int k) jj kp) :: []) X.env)).all (fun x => !x.1) && (backToKw pos (keywordEach [] X.env)).all (fun x => x.1.isSome) && decide (((.Constant (.int k) jj kp : Expr) :: []).length + ([] : List Keyword).length + (if ([] : List Keyword).isEmpty then 0 else 1) < 30)) = true := by rfl)
    (hline : (apos.endLine == pos.line) = true := by rfl) (hs : starEach ((.Constant (.int k) jj kp) :: []) X.env = (false, eval (.Constant (.int k) jj kp) X.env) :: starEach [] X.env := by rfl) (hplain : (backTo pos (starEach [] X.env)).any (·.1) = false := by rfl) :
    PEM X Y (.Call (.Attribute o "pop" apos) [.Constant (.int k) jj kp] [] pos) (mPopAt i k) :=
  pe_weak (pe_bm PySem.F.plainAttrs_list PySem.F.slot_list_pop PySem.F.type_list_pop mt_popAt ho (pa_cons pe_int pa_nil hs) hbase hfew hline hs hplain) fun σ H Q hq => by
    obtain ⟨F, ρ, S, q⟩ := hq
    unfold mPopAt at q
    split at q
    · rename_i l e0
      obtain ⟨a, vs, ea, h1, r⟩ := own_lst S e0
      split at q
      · rename_i j ej
        split at q
        · rename_i w ew
          split at q
          · rename_i hk
            obtain ⟨v, ev, rv⟩ := r.get ew
            rw [r.len] at ej
            obtain ⟨S2, k2⟩ := S.putL e0 ea (r.erase j)
            exact ⟨.ref a, ea, .inl ⟨rfl, vs, .of h1⟩, a, vs, k, j, v, rfl, rfl, h1, hk.1, hk.2, ej, ev, q F _ S2 k2 v (rv.mono k2)⟩
          · exact q.elim
        · exact q.elim
      · exact q.elim
    · exact q.elim
/-- x[k] = e, x an own list -/
def mStoreAt (i : Nat) (I : List Nat) (fk fe : Rho → R (Md × W)) : Rho → R Fl := fun ρ => (fe ρ).bind fun b ρ1 => (toVal I b ρ1).bind fun w ρ2 => match ownAt ρ2 i with
  | some (.lst _) => (fk ρ2).bind fun kb ρ3 => (match kb.1, kb.2, ownAt ρ3 i with
    | .val, .int k, some (.lst l) => (match ixN l.length k with
      | some j => .ok .nx (ρ3.set i (.own (.lst (l.set j w))))
      | none => .stk)
    | _, _, _ => .stk)
  | _ => .stk
theorem psm_storeAt {st : Stmt} {fk : Rho → R (Md × W)} (h : PS X st (tAsg (tM X.K Y fe) (L2.gSub (tVar i) (tM X.K Y fk) rSetL))) : PSM X Y st (mStoreAt i I fk fe) := ps_weak h fun D σ H hq => by
  obtain ⟨F, ρ, S, q⟩ := hq
  refine ⟨F, ρ, S, (RunS.bindE q).imp fun b ρ1 F1 H1 S1 k1 q1 v hv => ?_⟩
  obtain ⟨F2, w, ρ2, S2, k2, r, q2⟩ := S1.toVal hv (RunS.bindE (σ := σ) q1)
  split at q2
  · rename_i l0 e0
    obtain ⟨a, vs0, ea, h1, r1⟩ := own_lst S2 e0
    refine ⟨.ref a, ea, F2, ρ2, S2, (RunS.bindE (σ := σ) q2).imp fun kb ρ3 F3 H3 S3 k3 q3 kv hkv => ?_⟩
    obtain ⟨km, kw⟩ := kb
    dsimp only at q3
    split at q3
    · rename_i k l ek
      split at q3
      · rename_i j ej
        obtain ⟨b, vs, eb, h2, r2⟩ := own_lst S3 ek
        rw [ea] at eb
        cases eb
        cases (show kv = .int k from hkv)
        obtain ⟨S4, k4⟩ := S3.putL ek ea (r2.set j (r.mono k3))
        exact ⟨a, vs, k, j, rfl, rfl, h2, by rw [← r2.len]; exact ej, q3 F3 _ σ S4 k4⟩
      · exact q3.elim
    · exact q3.elim
  · exact q2.elim
/-! ### x += e of ints -/
def mAugI (f : Int → Int → Int) (i : Nat) (I : List Nat) (fe : Rho → R (Md × W)) : Rho → R Fl := fun ρ => match ρ[i]? with
  | some (.val (.int x)) => (fe ρ).bind fun b ρ1 => (match b.1, b.2 with
    | .val, .int y => if i ∈ I then .stk else .ok .nx (ρ1.set i (.val (.int (f x y))))
    | _, _ => .stk)
  | _ => .stk
theorem psm_augI {st : Stmt} {f : Int → Int → Int} (h : PS X st (tAug i (tM X.K Y fe) (ipI f))) : PSM X Y st (mAugI f i I fe) := ps_weak h fun D σ H hq => by
  obtain ⟨F, ρ, S, q⟩ := hq
  unfold mAugI at q
  split at q
  · rename_i x ex
    obtain ⟨v, ev, rv⟩ := S.slot i _ ex
    cases rv
    refine ⟨_, ev, F, ρ, S, (RunS.bindE (σ := σ) q).imp fun b ρ1 F1 H1 S1 k1 q1 v hv => ?_⟩
    obtain ⟨m, w⟩ := b
    dsimp only at q1
    split at q1
    · split at q1
      · exact q1.elim
      · rename_i y n
        cases (show v = .int y from hv)
        exact ⟨x, y, rfl, rfl, q1 F1 H1 _ (S1.setVal (Y.un n) (w := .int (f x y)) rfl) .refl⟩
    · exact q1.elim
  · exact q.elim
end
/-! ### ranges, backwards -/
theorem it_ints {K : PySem.W.Frag} {F : Fz} {H : Hp} {J : It} {n : Nat} {f : Nat → Int} (hg : ∀ i H, i < n → J.go i H) (hy : ∀ i H x H', J.yld i H x H' → H' = H ∧ x = .int (f i)) (hs : ∀ i H, n ≤ i → J.stop i H) :
    ItR K J F H ((List.range n).map fun i => .int (f i)) := by
  intro F' H' k t i
  refine ⟨fun w ew => ?_, fun h => hs i H' (by rw [List.length_map, List.length_range] at h; exact h)⟩
  rw [List.getElem?_map] at ew
  obtain ⟨j, ej, e⟩ := Option.map_eq_some_iff.mp ew
  have lt := (List.getElem?_eq_some_iff.mp ej).1
  rw [List.length_range] at lt
  rw [List.getElem?_range lt] at ej
  cases ej
  refine ⟨hg i H' lt, fun x H'' y => ?_⟩
  obtain ⟨e1, e2⟩ := hy i H' x H'' y
  rw [e1, e2, ← e]
  exact ⟨F', .refl t, rfl⟩
def intsW (lo : Int) (n : Nat) : List W := (List.range n).map fun i => .int (lo + (i : Nat))
def okR (i : Int) : Bool := decide (-(2 ^ 62) ≤ i) && decide (i < 2 ^ 62)
theorem okR_is {i : Int} (h : okR i = true) : -(2 ^ 62) ≤ i ∧ i < 2 ^ 62 := by
  have h' : (decide (-(2 ^ 62) ≤ i) && decide (i < 2 ^ 62)) = true := h
  rw [Bool.and_eq_true_iff] at h'
  exact ⟨of_decide_eq_true h'.1, of_decide_eq_true h'.2⟩
def mRange1 (fs : List (Rho → R (Md × W))) : Rho → R (List W) := fun ρ => (mHold fs ρ).bind fun bs ρ1 => match bs with
  | [(.val, .int j)] => if okR j then .ok (intsW 0 j.toNat) ρ1 else .stk
  | _ => .stk
def mRange2 (fs : List (Rho → R (Md × W))) : Rho → R (List W) := fun ρ => (mHold fs ρ).bind fun bs ρ1 => match bs with
  | [(.val, .int i), (.val, .int j)] => if okR i && okR j then .ok (intsW i (j - i).toNat) ρ1 else .stk
  | _ => .stk
section
variable {X : Cx} {Y : Yx I} {tg a b e : Expr} {fs : List (Rho → R (Md × W))} {fe fa fb : Rho → R (Md × W)} {p pos p2 pos2 : Pos}
theorem pim_range1 (hg : Gl X "range") (hm : X.mg "range" = none) (ha : PAM X Y [a] fs) (hs : starEach [a] X.env = [(false, eval a X.env)] := by rfl) : PIM X Y tg (.Call (.Name "range" p) [a] [] pos) (mRange1 fs) := pi_weak (pi_range1 hg hm ha hs) fun σ H Q hq => by
  obtain ⟨F, ρ, S, q⟩ := hq
  refine ⟨F, ρ, S, (RunG.bind q).imp fun bs ρ1 F1 H1 S1 k1 q1 F2 vs S2 k2 hvs => ?_⟩
  split at q1
  · split at q1
    · rename_i j hj
      obtain ⟨v, r, rfl, h1, h2⟩ := hvs
      cases (show v = .int j from h1)
      cases (show r = [] from h2)
      obtain ⟨o1, o2⟩ := okR_is hj
      exact ⟨j, rfl, o1, o2, q1 F2 H1 S2 k2 _ (it_ints (fun _ _ h => h) (fun _ _ _ _ h => h) fun _ _ h => h)⟩
    · exact q1.elim
  · exact q1.elim
theorem pim_range2 (hg : Gl X "range") (hm : X.mg "range" = none) (ha : PAM X Y [a, b] fs) (hs : starEach [a, b] X.env = [(false, eval a X.env), (false, eval b X.env)] := by rfl) (hs2 : starEach [b] X.env = [(false, eval b X.env)] := by rfl) : PIM X Y tg (.Call (.Name "range" p) [a, b] [] pos) (mRange2 fs) :=
  pi_weak (pi_range2 hg hm ha hs hs2) fun σ H Q hq => by
    obtain ⟨F, ρ, S, q⟩ := hq
    refine ⟨F, ρ, S, (RunG.bind q).imp fun bs ρ1 F1 H1 S1 k1 q1 F2 vs S2 k2 hvs => ?_⟩
    split at q1
    · split at q1
      · rename_i i j hj
        rw [Bool.and_eq_true_iff] at hj
        obtain ⟨v, r, rfl, h1, u, r2, rfl, h3, h4⟩ := hvs
        cases (show v = .int i from h1)
        cases (show u = .int j from h3)
        cases (show r2 = [] from h4)
        exact ⟨i, j, rfl, ⟨(okR_is hj.1).1, (okR_is hj.1).2, (okR_is hj.2).1, (okR_is hj.2).2⟩, q1 F2 H1 S2 k2 _ (it_ints (fun _ _ h => h) (fun _ _ _ _ h => h) fun _ _ h => h)⟩
      · exact q1.elim
    · exact q1.elim
/-- reversed(x) of a list, a tuple -/
def mRev (I : List Nat) (f : Rho → R (Md × W)) : Rho → R (List W) := fun ρ => (f ρ).bind fun b ρ1 => (toVal I b ρ1).bind fun w ρ2 => lift ((itemsW w).map List.reverse) ρ2
theorem pim_rev (hg : Gl X "reversed") (hm : X.mg "reversed" = none) (he : PEM X Y e fe) (hs : starEach [e] X.env = (false, eval e X.env) :: starEach [] X.env := by rfl) : PIM X Y tg (.Call (.Name "reversed" p) [e] [] pos) (mRev I fe) := pi_weak (RT.pi_revA hg hm he hs) fun σ H Q hq => by
  obtain ⟨F, ρ, S, q⟩ := hq
  refine ⟨F, ρ, S, (RunG.bind q).imp fun b ρ1 F1 H1 S1 k1 q1 v hv => ?_⟩
  obtain ⟨F2, w, ρ2, S2, k2, r, q2⟩ := S1.toVal hv (RunG.bind q1)
  obtain ⟨ws, ew, q3⟩ := lift_ok q2
  obtain ⟨l, el, rfl⟩ := Option.map_eq_some_iff.mp ew
  have q4 := q3 F2 H1 S2 .refl
  have rev : ∀ {l : List W} {vs : List V} {i : Nat} {w : W}, l.length = vs.length → l.reverse[i]? = some w → i < vs.length ∧ l[vs.length - 1 - i]? = some w := fun {l vs i w} el ew => by
    have lt := (List.getElem?_eq_some_iff.mp ew).1
    rw [List.length_reverse] at lt
    rw [List.getElem?_reverse lt, el] at ew
    exact ⟨by omega, ew⟩
  cases w with
  | tup l' =>
    cases el
    obtain ⟨a, vs, rfl, hs, rl⟩ := r
    refine ⟨a, vs, rfl, .inr ⟨hs.seq, q4 _ fun F' H' k t i => ⟨fun w ew => ?_, fun h => by rw [List.length_reverse, rl.len] at h; exact h⟩⟩⟩
    obtain ⟨lt, eg⟩ := rev rl.len ew
    obtain ⟨v, ev, rv⟩ := rl.get eg
    refine ⟨⟨lt, vs, v, (k.sqU hs).seq, ev⟩, ?_⟩
    rintro x H'' ⟨rfl, y⟩
    have e := y vs (k.sqU hs).seq
    rw [ev] at e
    cases e
    exact ⟨F', .refl t, rv.mono k⟩
  | lst l' =>
    cases el
    obtain ⟨a, vs, rfl, fa, hs, rl⟩ := r
    refine ⟨a, vs, rfl, .inl ⟨.of hs, q4 _ fun F' H' k t i => ⟨fun w ew => ?_, fun h => by rw [List.length_reverse, rl.len] at h; exact h⟩⟩⟩
    obtain ⟨lt, eg⟩ := rev rl.len ew
    obtain ⟨v, ev, rv⟩ := rl.get eg
    have hs' : SqL X.K H' a vs := .of (k.h a _ hs (.inl fa))
    refine ⟨⟨lt, vs, v, hs', ev⟩, ?_⟩
    rintro x H'' ⟨rfl, y⟩
    have e := y vs hs'
    rw [ev] at e
    cases e
    exact ⟨F', .refl t, rv.mono k⟩
  | frl l' =>
    cases el
    obtain ⟨a, vs, rfl, hs, rl⟩ := r
    refine ⟨a, vs, rfl, .inl ⟨hs.seq, q4 _ fun F' H' k t i => ⟨fun w ew => ?_, fun h => by rw [List.length_reverse, rl.len] at h; exact h⟩⟩⟩
    obtain ⟨lt, eg⟩ := rev rl.len ew
    obtain ⟨v, ev, rv⟩ := rl.get eg
    have hs' : SqL X.K H' a vs := (k.frl hs).seq
    refine ⟨⟨lt, vs, v, hs', ev⟩, ?_⟩
    rintro x H'' ⟨rfl, y⟩
    have e := y vs hs'
    rw [ev] at e
    cases e
    exact ⟨F', .refl t, rv.mono k⟩
  | _ => cases el
/-! ### texts -/
def strsW : List W → Option (List Str)
  | [] => some []
  | .str s :: l => (strsW l).map (s :: ·)
  | _ => none
/-- x.join(l) -/
def gJoin : GW := fun x y => match x, itemsW y with
  | .str a, some l => (strsW l).bind fun ys => if (ys.map (·.length)).sum + ys.length * a.length ≤ 16777216 then some (.val, .str (Txt.join a ys)) else none
  | _, _ => none
theorem strs_rep {K : PySem.W.Frag} {F : Fz} {H : Hp} : ∀ {l : List W} {vs : List V} {ys : List Str}, RepL K F H l vs → strsW l = some ys → vs = ys.map V.str
  | [], _, _, r, e => by cases e; exact r
  | w :: l, _, ys, ⟨v, r, e0, h1, h2⟩, e => by
    cases w with
    | str s =>
      obtain ⟨zs, ez, rfl⟩ := Option.map_eq_some_iff.mp (show (strsW l).map _ = some ys from e)
      cases h1
      rw [e0, strs_rep h2 ez]
      rfl
    | _ => cases e
def mJoin (fx fl : Rho → R (Md × W)) : Rho → R (Md × W) := fun ρ => (fx ρ).bind fun x ρ1 => match x.1, x.2 with
  | .val, .str a => (mHold [fl] ρ1).bind fun bs ρ2 => (match peekL bs ρ2 with
    | some [y] => lift (gJoin (.str a) y) ρ2
    | _ => .stk)
  | _, _ => .stk
theorem pem_join {o : Expr} {apos : Pos} {fx : Rho → R (Md × W)} (ho : PEM X Y o fx) (he : PEM X Y e fe) (hbase : attributeBase o "join" X.env (eval o X.env) = eval o X.env := by rfl)
    (hfew : ((backTo pos (starEach (e :: []) X.env)).all (fun x => !x.1) && (backToKw pos (keywordEach [] X.env)).all (fun x => x.1.isSome) && decide ((e :: []).length + ([] : List Keyword).length + (if ([] : List Keyword).isEmpty then 0 else 1) < 30)) = true := by rfl)
    (hline : (apos.endLine == pos.line) = true := by rfl) (hs : starEach (e :: []) X.env = (false, eval e X.env) :: starEach [] X.env := by rfl) (hplain : (backTo pos (starEach [] X.env)).any (·.1) = false := by rfl) :
    PEM X Y (.Call (.Attribute o "join" apos) [e] [] pos) (mJoin fx fe) :=
  pe_weak (pe_bm PySem.F.plainAttrs_str PySem.F.slot_str_join PySem.F.type_str_join mt_join ho (pam_cons he pam_nil hs) hbase hfew hline hs hplain) fun σ H Q hq => by
    obtain ⟨F, ρ, S, q⟩ := hq
    refine ⟨F, ρ, S, (RunG.bind q).imp fun x ρ1 F1 H1 S1 k1 q1 v hv => ?_⟩
    obtain ⟨m, w⟩ := x
    dsimp only at q1
    split at q1
    · rename_i a
      cases (show v = .str a from hv)
      refine ⟨rfl, F1, ρ1, S1, (RunG.bind q1).imp fun bs ρ2 F2 H2 S2 k2 q2 F3 vs S3 k3 hvs => ?_⟩
      have q3 := q2.rebase k3
      split at q3
      · rename_i y ey
        obtain ⟨⟨m, z⟩, ez, qz⟩ := lift_ok q3
        obtain ⟨u, rfl, hu⟩ := PkL.one (S3.peekL hvs ey)
        unfold gJoin at ez
        split at ez
        · rename_i l ea el
          cases ea
          obtain ⟨ys, eys, e1⟩ := Option.bind_eq_some_iff.mp ez
          split at e1
          · rename_i hz
            cases e1
            obtain ⟨b, us, rfl, hs, r⟩ := hu.seq el
            have e2 := strs_rep r eys
            rw [e2] at hs
            exact ⟨_, b, ys, rfl, rfl, hs, hz, old_val S3.f2 (K := X.K) (z := .str _) rfl fun F' H' v ee hn => qz F' H' (S3.grow ee) ee.keeps v (S3.newR ee hn)⟩
          · cases e1
        · cases ez
      · exact q3.elim
    · exact q1.elim
/-! ### a def without arguments, a statement that is never reached, a try that runs through -/
theorem pem_call0 {k : Nat} {f : Addr} {fd : FuncData} {ps : List Str} {fm : List W → FR} {x : Str} (F : FnOk X.prog X.w X.K X.mg X.base (L2.CX X.prog X.w) k f fd ps (spM X.K Y.ct [] 0 fm)) (hr : Room k X.A) (hE : ∀ args, match fm args with
      | .exc _ _ _ _ => False
      | _ => True) (hg : Gl X x) (hm : X.mg x = some (.ref f)) (hk : PySem.W.keepIn X.K (.ref f) = true) (hb : Binds X.K fd ps []) (hdb : (x == ("__debug__" : Str)) = false := by decide) : PEM X Y (.Call (.Name x p) [] [] pos) (mCall I [] fm []) :=
  pe_weak (pe_call0 F hr hg hm hk hb .nil passL hdb) fun σ H Q hq => by
    have h1 := call_of (np := 0) rfl hq
    obtain ⟨F0, ρ, S, q⟩ := h1
    have q2 := q F0 H S .refl F0 [] S .refl rfl
    show spM X.K Y.ct [] 0 fm [] H Q E0
    obtain ⟨F1, args, a1, a2, a3, a4, a5⟩ := q2
    refine ⟨F1, args, a1, a2, a3, a4, ?_⟩
    have hx := hE args
    cases e : fm args with
    | ok fr w outs => rw [e] at a5; exact a5
    | exc c ns ws outs => rw [e] at hx; exact hx.elim
    | stk => rw [e] at a5; exact a5
def mStk {α : Type} : Rho → R α := fun _ => .stk
theorem psm_never {st : Stmt} : PSM X Y st mStk := ps_weak ps_never fun D σ H hq => by
  obtain ⟨F, ρ, S, q⟩ := hq
  exact q
theorem psms_never {st : List Stmt} : PSMs X Y st mStk := pss_weak pss_never fun D σ H hq => by
  obtain ⟨F, ρ, S, q⟩ := hq
  exact q
def mThru (g : Rho → R Fl) : Rho → R Fl := fun ρ => noExc (g ρ)
theorem psm_thru {body : List Stmt} {h0 : ExceptHandler} {hs : List ExceptHandler} {g : Rho → R Fl} (hb : ∀ Y' : Yx I, Y'.ct = Y.ct → (Y'.wx = fun _ _ _ _ => False) → PSMs X.nox Y' body g) : PSM X Y (.Try body (h0 :: hs) [] [] pos) (mThru g) :=
  ps_weak (ps_try_thru0 (hb ⟨Y.ct, Y.B, fun _ _ _ _ => False, Y.hI⟩ rfl rfl)) fun D σ H hq => by
    obtain ⟨F, ρ, S, q⟩ := hq
    refine ⟨F, ρ, S, ?_⟩
    unfold mThru at q
    cases e : g ρ with
    | ok fl ρ' => rw [e] at q; exact q
    | exc c ns ws ρ' => rw [e] at q; exact q.elim
    | stk => rw [e] at q; exact q
end
end ML

set_option maxHeartbeats 4000000
namespace ML
open PySem PySem.Spec PyProof.Rows L2
variable {I : List Nat}
/-! ### defs by names -/
/-- a def of the text, under its name -/
def Src (K : PySem.W.Frag) (mg : Str → Option Value) (x : Str) (st : Stmt) : Prop := ∃ fd, FunD K x x (defArgs st) (defBody st) (defScope st) [] [] (He.ga K x) fd ∧ mg x = some (.ref (He.ga K x))
/-- the def x keeps its mirror's promise, called with room k -/
def Def (P : Program) (w : World) (K : PySem.W.Frag) (mg : Str → Option Value) (base : Heap) (ct : Str → Addr) (k : Nat) (x : Str) (ps : List Str) (J : List Nat) (fm : List W → FR) : Prop :=
  ∃ f fd, mg x = some (.ref f) ∧ PySem.W.keepIn K (.ref f) = true ∧ Binds K fd ps [] ∧ FnOk P w K mg base (L2.CX P w) k f fd ps (spM K ct J ps.length fm) ∧ ∃ oc od osl, K.lookup f = some ⟨oc, od, .func fd, osl⟩
section
variable {P : Program} {w : World} {K : PySem.W.Frag} {mg : Str → Option Value} {base : Heap} {ct : Str → Addr} {j k : Nat} {x : Str} {ps : List Str} {J : List Nat} {fm : List W → FR}
theorem Def.mono (D : Def P w K mg base ct j x ps J fm) (h : j ≤ k) : Def P w K mg base ct k x ps J fm := by
  obtain ⟨f, fd, h1, h2, h3, h4, h5⟩ := D
  exact ⟨f, fd, h1, h2, h3, h4.mono h, h5⟩
theorem Def.congr {fm' : List W → FR} (D : Def P w K mg base ct k x ps J fm) (h : ∀ args, args.length = ps.length → fm' args = .stk ∨ fm' args = fm args) : Def P w K mg base ct k x ps J fm' := by
  obtain ⟨f, fd, h1, h2, h3, h4, h5⟩ := D
  refine ⟨f, fd, h1, h2, h3, h4.imp fun vs H Q E ⟨F, args, a1, a2, a3, a4, a5⟩ => ⟨F, args, a1, a2, a3, a4, ?_⟩, h5⟩
  rcases h args (by rw [a3.len, a1]) with e | e
  · rw [e] at a5; exact a5.elim
  · rw [e] at a5; exact a5
/-- from the text -/
theorem def_mk {st : Stmt} {N : List Str} {g : Rho → R Fl} (T : Src K mg x st) (S : FnScope N ps (defScope st)) (hn : ps.length ≤ N.length)
    (hbi : ∀ (kV doc pm : Value) (an : Option Addr) (cdv ct : Value) (us : List Value), us.length = ps.length → bindArgs (PySem.W.fnOf x x (defArgs st) (defBody st) (defScope st) .none kV doc pm an cdv ct) ⟨us, []⟩ = pure (ps.zip us))
    (hb : ∀ (f : Addr) (cdv : Value) (A : Around) (outer : List Env) (s : Shared) (H : Hp) (E : XK) (Y : Yx J), Room k (cxOf (L2.CX P w) P w K mg base N x (defScope st) f cdv A outer s H E).A → Y.ct = ct → Takes (cxOf (L2.CX P w) P w K mg base N x (defScope st) f cdv A outer s H E) Y.wx →
      PSMs (cxOf (L2.CX P w) P w K mg base N x (defScope st) f cdv A outer s H E) Y (defBody st) g) : Def P w K mg base ct (k + 1) x ps J (mFun J N.length g) := by
  obtain ⟨fd, F, hm⟩ := T
  obtain ⟨oc, od, dV, kV, doc, pm, an, cdv, ct, osl, _, lk, _⟩ := F.ex
  exact ⟨_, fd, hm, F.kp, F.bindsN hbi, fn_ok F S hn (fun _ _ => rfl) (hb _), oc, od, osl, lk⟩
end
section
variable {X : Cx} {Y : Yx I} {ct : Str → Addr} {k : Nat} {x : Str} {ps : List Str} {J : List Nat} {fm : List W → FR} {p pos : Pos} {e : Expr} {es : List Expr} {fs : List (Rho → R (Md × W))}
theorem pem_callD (D : Def X.prog X.w X.K X.mg X.base ct k x ps J fm) (hct : Y.ct = ct) (hr : Room k X.A) (tk : Takes X Y.wx) (hg : Gl X x) (ha : PAM X Y (e :: es) fs) (hn : fs.length = ps.length)
    (hdb : (x == ("__debug__" : Str)) = false := by decide) (he : starEach (e :: es) X.env = (false, eval e X.env) :: starEach es X.env := by rfl) (hpl : (backTo pos (starEach es X.env)).any (·.1) = false := by rfl) :
    PEM X Y (.Call (.Name x p) (e :: es) [] pos) (mCall I J fm fs) := by
  obtain ⟨f, fd, h1, h2, h3, h4, _⟩ := D
  subst hct
  exact pem_call h4 hr tk hg h1 h2 h3 ha hn hdb he hpl
theorem pem_callD0 (D : Def X.prog X.w X.K X.mg X.base ct k x [] [] fm) (hE : ∀ args, match fm args with
      | .exc _ _ _ _ => False
      | _ => True) (hct : Y.ct = ct) (hr : Room k X.A) (hg : Gl X x) (hdb : (x == ("__debug__" : Str)) = false := by decide) : PEM X Y (.Call (.Name x p) [] [] pos) (mCall I [] fm []) := by
  obtain ⟨f, fd, h1, h2, h3, h4, _⟩ := D
  subst hct
  exact pem_call0 h4 hr hE hg h1 h2 h3 hdb
theorem takesF (h : Y.wx = fun _ _ _ _ => False) : Takes X Y.wx := by
  rw [h]
  exact takes0
theorem hu200 {A : Around} (hr : Room k A) : A.units + 200 < cLine := by have := hr.un; omega
/-- a module's text or whole number, a module's tuple -/
theorem pem_gc {v : V} {w : W} (h : ∃ u, X.mg x = some u ∧ RelV v u) (hg : Gl X x) (r : ∀ F H, Rep X.K F H w v) (hdb : (x == ("__debug__" : Str)) = false := by decide) : PEM X Y (.Name x pos) (mC w) := by
  obtain ⟨u, h1, h2⟩ := h
  exact pem_glob hg h1 h2 r hdb
theorem pem_gt {ws : List W} {vs : List V} (h : ∃ a, X.mg x = some (.ref a) ∧ TupK X.K a vs ∧ RepL X.K (fun _ => False) (fun _ => none) ws vs) (hg : Gl X x) (hdb : (x == ("__debug__" : Str)) = false := by decide) : PEM X Y (.Name x pos) (mC (.tup ws)) := by
  obtain ⟨a, h1, h2, h3⟩ := h
  have k : ∀ F H, Keeps (fun _ => False) (fun _ => none) F H := fun F H => ⟨fun _ h => h.elim, fun _ _ h _ => by cases h⟩
  exact pem_glob (v := .ref a) hg h1 rfl (fun F H => ⟨a, vs, rfl, .inr h2, h3.mono (k F H)⟩) hdb
end
end ML

set_option maxHeartbeats 4000000
namespace ML
open PySem PySem.Spec PyProof.Rows L2
variable {I : List Nat}
/-! ### all, any -/
def boolsW : List W → Option (List Bool)
  | [] => some []
  | .bl b :: l => (boolsW l).map (b :: ·)
  | _ => none
theorem bools_rep {K : PySem.W.Frag} {F : Fz} {H : Hp} : ∀ {l : List W} {vs : List V} {ys : List Bool}, RepL K F H l vs → boolsW l = some ys → vs = ys.map V.bl
  | [], _, _, r, e => by cases e; exact r
  | w :: l, _, ys, ⟨v, r, e0, h1, h2⟩, e => by
    cases w with
    | bl s =>
      obtain ⟨zs, ez, rfl⟩ := Option.map_eq_some_iff.mp (show (boolsW l).map _ = some ys from e)
      cases h1
      rw [e0, bools_rep h2 ez]
      rfl
    | _ => cases e
def gAll : GC
  | [.lst l] => (boolsW l).map fun bs => (.val, .bl (bs.all id))
  | _ => none
def gAny : GC
  | [.lst l] => (boolsW l).map fun bs => (.val, .bl (bs.any id))
  | _ => none
theorem g_all {K : PySem.W.Frag} : CallW K (rAll K) gAll := by
  intro xs m z e F H vs Q t p q
  unfold gAll at e
  split at e
  · obtain ⟨bs, eb, e2⟩ := Option.map_eq_some_iff.mp e
    cases e2
    obtain ⟨v, rfl, h⟩ := p.one
    obtain ⟨a, us, rfl, hs, r⟩ := h.lst
    rw [bools_rep r eb] at hs
    exact ⟨a, bs, rfl, .of hs, old_val t (K := K) (z := .bl _) rfl q⟩
  · cases e
theorem g_any {K : PySem.W.Frag} : CallW K (rAny K) gAny := by
  intro xs m z e F H vs Q t p q
  unfold gAny at e
  split at e
  · obtain ⟨bs, eb, e2⟩ := Option.map_eq_some_iff.mp e
    cases e2
    obtain ⟨v, rfl, h⟩ := p.one
    obtain ⟨a, us, rfl, hs, r⟩ := h.lst
    rw [bools_rep r eb] at hs
    exact ⟨a, bs, rfl, .of hs, old_val t (K := K) (z := .bl _) rfl q⟩
  · cases e
/-! ### a dict of the text with text keys -/
structure DctK (K : PySem.W.Frag) (w : World) (d : Addr) (ks : List Str) (vs : List V) : Prop where
  at_ : ∃ es n, K.lookup d = some ⟨.type "dict", none, .dict es n, #[]⟩ ∧ es.toList.map He.keyOf = He.keysIn w.params ks ∧ Vals vs (es.toList.map (·.val)) ∧ (d == sysModules) = false
def lookS (z : Str) : List Str → List V → Option V
  | k :: ks, v :: vs => if k = z then some v else lookS z ks vs
  | _, _ => none
theorem find_lit {P : Params} {z : Str} : ∀ {l : List DictEntry} {ks : List Str} {vs : List V}, l.map He.keyOf = He.keysIn P ks → Vals vs (l.map (·.val)) →
    l.any (·.refKey) = false ∧ match lookS z ks vs with
      | some v => ∃ e, l.find? (·.key.isStr z) = some e ∧ RelV v e.val
      | none => l.find? (·.key.isStr z) = none
  | [], [], vs, _, r => by cases r; exact ⟨rfl, rfl⟩
  | [], k :: ks, _, h, _ => by cases h
  | e :: l, [], _, h, _ => by cases h
  | e :: l, k :: ks, vs, h, r => by
    cases r with
    | cons r1 r2 =>
      rename_i v vs'
      have h1 : He.keyOf e :: l.map He.keyOf = some (k, PyData.keyHash P k) :: He.keysIn P ks := h
      injection h1 with h2 h3
      obtain ⟨g1, g2⟩ := find_lit (z := z) h3 r2
      have hk : ∃ t, e.key = .str k t := by
        unfold He.keyOf at h2
        split at h2
        · rename_i x t q
          obtain ⟨h5, _⟩ := Prod.mk.inj (Option.some.inj h2)
          exact ⟨t, by rw [q, h5]⟩
        · cases h2
      obtain ⟨t, et⟩ := hk
      have is : e.key.isStr z = decide (k = z) := by
        rw [et]
        show (k == z) = decide (k = z)
        by_cases q : k = z
        · subst q; simp
        · rw [decide_eq_false q]; exact beq_eq_false_iff_ne.mpr q
      refine ⟨?_, ?_⟩
      · rw [List.any_cons, g1]
        have : e.refKey = false := by unfold DictEntry.refKey; rw [et]
        rw [this]
        rfl
      · unfold lookS
        by_cases q : k = z
        · rw [if_pos q]
          refine ⟨e, ?_, r1⟩
          rw [List.find?_cons, is, decide_eq_true q]
        · rw [if_neg q]
          have e2 : (e :: l).find? (·.key.isStr z) = l.find? (·.key.isStr z) := by rw [List.find?_cons, is, decide_eq_false q]
          rw [e2]
          exact g2
theorem DctK.at {K : PySem.W.Frag} {w : World} {d : Addr} {ks : List Str} {vs : List V} (D : DctK K w d ks vs) (z : Str) : match lookS z ks vs with
    | some v => KDct K w d z v
    | none => PySem.W.nsIn K d z = some none := by
  obtain ⟨es, n, h1, h2, h3, h4⟩ := D.at_
  obtain ⟨g1, g2⟩ := find_lit (z := z) h2 h3
  have lit := He.keysLit_of h2
  cases q : lookS z ks vs with
  | some v =>
    rw [q] at g2
    obtain ⟨e, e1, e2⟩ := g2
    refine ⟨es, n, e.val, h1, lit, ?_, e2⟩
    unfold PySem.W.nsIn
    rw [h1]
    show (match es.toList.find? (·.key.isStr z) with
      | some e => some (some e.val)
      | none => if es.toList.any (·.refKey) then none else some none) = _
    rw [e1]
  | none =>
    rw [q] at g2
    unfold PySem.W.nsIn
    rw [h1]
    show (match es.toList.find? (·.key.isStr z) with
      | some e => some (some e.val)
      | none => if es.toList.any (·.refKey) then none else some none) = _
    rw [g2, g1]
    rfl
def lookW (z : Str) : List Str → List W → Option W
  | k :: ks, v :: vs => if k = z then some v else lookW z ks vs
  | _, _ => none
theorem look_rep {K : PySem.W.Frag} {F : Fz} {H : Hp} {z : Str} : ∀ {ks : List Str} {ws : List W} {vs : List V}, RepL K F H ws vs → match lookW z ks ws with
    | some w => ∃ v, lookS z ks vs = some v ∧ Rep K F H w v
    | none => lookS z ks vs = none
  | [], _, _, _ => rfl
  | k :: ks, [], _, r => by cases r; rfl
  | k :: ks, w :: ws, _, ⟨v, r, e, h1, h2⟩ => by
    rw [e]
    unfold lookW lookS
    by_cases q : k = z
    · rw [if_pos q, if_pos q]
      exact ⟨v, rfl, h1⟩
    · rw [if_neg q, if_neg q]
      exact look_rep h2
/-- what a global dict is: its keys, its values -/
def GDctF (w : World) (K : PySem.W.Frag) (mg : Str → Option Value) (x : Str) (ks : List Str) (ws : List W) : Prop := ∃ d vs, mg x = some (.ref d) ∧ DctK K w d ks vs ∧ RepL K (fun _ => False) (fun _ => none) ws vs
abbrev GDct (X : Cx) (x : Str) (ks : List Str) (ws : List W) : Prop := GDctF X.w X.K X.mg x ks ws
def mInK (neg : Bool) (ks : List Str) (fa : Rho → R (Md × W)) : Rho → R (Md × W) := fun ρ => (fa ρ).bind fun b ρ1 => match b.1, b.2 with
  | .val, .str z => .ok (.val, .bl (if neg then !(ks.contains z) else ks.contains z)) ρ1
  | _, _ => .stk
def mIxK (ks : List Str) (ws : List W) (fa : Rho → R (Md × W)) : Rho → R (Md × W) := fun ρ => (fa ρ).bind fun b ρ1 => match b.1, b.2 with
  | .val, .str z => (match lookW z ks ws with
    | some w => .ok (.val, w) ρ1
    | none => .stk)
  | _, _ => .stk
theorem lookS_has {z : Str} : ∀ {ks : List Str} {vs : List V}, ks.length = vs.length → (lookS z ks vs).isSome = ks.contains z
  | [], [], _ => rfl
  | [], _ :: _, h => by cases h
  | k :: ks, [], h => by cases h
  | k :: ks, v :: vs, h => by
    unfold lookS
    have ih := lookS_has (z := z) (ks := ks) (vs := vs) (by simpa using h)
    rw [List.contains_cons]
    by_cases q : k = z
    · subst q
      rw [if_pos rfl]
      simp
    · rw [if_neg q, ih]
      have : (z == k) = false := beq_eq_false_iff_ne.mpr fun e => q e.symm
      rw [this, Bool.false_or]
section
variable {X : Cx} {Y : Yx I} {a : Expr} {x : Str} {ks : List Str} {ws : List W} {fa : Rho → R (Md × W)} {pos p : Pos}
theorem dct_len (D : GDct X x ks ws) : ks.length = ws.length := by
  obtain ⟨d, vs, _, ⟨es, n, _, h2, h3, _⟩, r⟩ := D
  have e1 : (es.toList.map He.keyOf).length = ks.length := by rw [h2]; unfold He.keysIn; rw [List.length_map]
  have e2 := h3.length
  rw [List.length_map] at e1 e2
  rw [r.len, e2, e1]
/-- x in D, x not in D -/
theorem pem_inK (D : GDct X x ks ws) (hg : Gl X x) (ha : PEM X Y a fa) (hdb : (x == ("__debug__" : Str)) = false := by decide) (hb : behindInMarks .In (.Name x p) = false := by rfl) : PEM X Y (.Compare a [.In] [.Name x p] pos) (mInK false ks fa) := by
  have hl := dct_len D
  obtain ⟨d, vs, h1, h2, h3⟩ := D
  obtain ⟨es, n, g1, g2, g3, g4⟩ := h2.at_
  have KD : KDict X.K X.w d es n := ⟨g1, He.keysLit_of g2, g4⟩
  refine pe_weak (pe_cmpR (op_in_kd KD) ha (pe_glob (v := .ref d) hg h1 rfl hdb) hb) fun σ H Q hq => ?_
  obtain ⟨F, ρ, S, q⟩ := hq
  refine ⟨F, ρ, S, (RunG.bind q).imp fun b ρ1 F1 H1 S1 k1 q1 v hv => ?_⟩
  obtain ⟨m, w⟩ := b
  dsimp only at q1
  split at q1
  · rename_i z
    cases (show v = .str z from hv)
    have D := h2.at z
    have hs := lookS_has (z := z) (ks := ks) (vs := vs) (by rw [hl, h3.len])
    cases e : lookS z ks vs with
    | some v =>
      rw [e] at D hs
      obtain ⟨es', n', u, _, _, e3, _⟩ := D
      refine ⟨z, _, rfl, rfl, e3, ?_⟩
      exact q1 F1 H1 S1 .refl _ (by show V.bl true = V.bl (ks.contains z); rw [← hs]; rfl)
    | none =>
      rw [e] at D hs
      refine ⟨z, _, rfl, rfl, D, ?_⟩
      exact q1 F1 H1 S1 .refl _ (by show V.bl false = V.bl (ks.contains z); rw [← hs]; rfl)
  · exact q1.elim
theorem pem_notInK (D : GDct X x ks ws) (hg : Gl X x) (ha : PEM X Y a fa) (hdb : (x == ("__debug__" : Str)) = false := by decide) (hb : behindInMarks .NotIn (.Name x p) = false := by rfl) : PEM X Y (.Compare a [.NotIn] [.Name x p] pos) (mInK true ks fa) := by
  have hl := dct_len D
  obtain ⟨d, vs, h1, h2, h3⟩ := D
  obtain ⟨es, n, g1, g2, g3, g4⟩ := h2.at_
  have KD : KDict X.K X.w d es n := ⟨g1, He.keysLit_of g2, g4⟩
  refine pe_weak (pe_cmpR (op_notIn_kd KD) ha (pe_glob (v := .ref d) hg h1 rfl hdb) hb) fun σ H Q hq => ?_
  obtain ⟨F, ρ, S, q⟩ := hq
  refine ⟨F, ρ, S, (RunG.bind q).imp fun b ρ1 F1 H1 S1 k1 q1 v hv => ?_⟩
  obtain ⟨m, w⟩ := b
  dsimp only at q1
  split at q1
  · rename_i z
    cases (show v = .str z from hv)
    have D := h2.at z
    have hs := lookS_has (z := z) (ks := ks) (vs := vs) (by rw [hl, h3.len])
    cases e : lookS z ks vs with
    | some v =>
      rw [e] at D hs
      obtain ⟨es', n', u, _, _, e3, _⟩ := D
      refine ⟨z, _, rfl, rfl, e3, ?_⟩
      exact q1 F1 H1 S1 .refl _ (by show V.bl false = V.bl (!(ks.contains z)); rw [← hs]; rfl)
    | none =>
      rw [e] at D hs
      refine ⟨z, _, rfl, rfl, D, ?_⟩
      exact q1 F1 H1 S1 .refl _ (by show V.bl true = V.bl (!(ks.contains z)); rw [← hs]; rfl)
  · exact q1.elim
/-- as a test -/
theorem ptm_inK (D : GDct X x ks ws) (hg : Gl X x) (ha : PEM X Y a fa) (hdb : (x == ("__debug__" : Str)) = false := by decide) (hb : behindInMarks .In (.Name x p) = false := by rfl) : PTM X Y (.Compare a [.In] [.Name x p] pos) (mTest (mInK false ks fa)) := by
  have hl := dct_len D
  obtain ⟨d, vs, h1, h2, h3⟩ := D
  obtain ⟨es, n, g1, g2, g3, g4⟩ := h2.at_
  have KD : KDict X.K X.w d es n := ⟨g1, He.keysLit_of g2, g4⟩
  refine pt_weak (pt_cmpR (op_in_kd KD) ha (pe_glob (v := .ref d) hg h1 rfl hdb) hb) fun σ H Q hq => ?_
  obtain ⟨F, ρ, S, q⟩ := test_of hq
  refine ⟨F, ρ, S, (RunG.bind q).imp fun b ρ1 F1 H1 S1 k1 q1 v hv => ?_⟩
  obtain ⟨m, w⟩ := b
  dsimp only at q1
  split at q1
  · rename_i z
    cases (show v = .str z from hv)
    have D := h2.at z
    have hs := lookS_has (z := z) (ks := ks) (vs := vs) (by rw [hl, h3.len])
    cases e : lookS z ks vs with
    | some v =>
      rw [e] at D hs
      obtain ⟨es', n', u, _, _, e3, _⟩ := D
      refine ⟨z, _, rfl, rfl, e3, ?_⟩
      exact q1 F1 H1 S1 .refl (.bl true) (by show V.bl true = V.bl (ks.contains z); rw [← hs]; rfl)
    | none =>
      rw [e] at D hs
      refine ⟨z, _, rfl, rfl, D, ?_⟩
      exact q1 F1 H1 S1 .refl (.bl false) (by show V.bl false = V.bl (ks.contains z); rw [← hs]; rfl)
  · exact q1.elim
theorem ptm_notInK (D : GDct X x ks ws) (hg : Gl X x) (ha : PEM X Y a fa) (hdb : (x == ("__debug__" : Str)) = false := by decide) (hb : behindInMarks .NotIn (.Name x p) = false := by rfl) : PTM X Y (.Compare a [.NotIn] [.Name x p] pos) (mTest (mInK true ks fa)) := by
  have hl := dct_len D
  obtain ⟨d, vs, h1, h2, h3⟩ := D
  obtain ⟨es, n, g1, g2, g3, g4⟩ := h2.at_
  have KD : KDict X.K X.w d es n := ⟨g1, He.keysLit_of g2, g4⟩
  refine pt_weak (pt_cmpR (op_notIn_kd KD) ha (pe_glob (v := .ref d) hg h1 rfl hdb) hb) fun σ H Q hq => ?_
  obtain ⟨F, ρ, S, q⟩ := test_of hq
  refine ⟨F, ρ, S, (RunG.bind q).imp fun b ρ1 F1 H1 S1 k1 q1 v hv => ?_⟩
  obtain ⟨m, w⟩ := b
  dsimp only at q1
  split at q1
  · rename_i z
    cases (show v = .str z from hv)
    have D := h2.at z
    have hs := lookS_has (z := z) (ks := ks) (vs := vs) (by rw [hl, h3.len])
    cases e : lookS z ks vs with
    | some v =>
      rw [e] at D hs
      obtain ⟨es', n', u, _, _, e3, _⟩ := D
      refine ⟨z, _, rfl, rfl, e3, ?_⟩
      exact q1 F1 H1 S1 .refl (.bl false) (by show V.bl false = V.bl (!(ks.contains z)); rw [← hs]; rfl)
    | none =>
      rw [e] at D hs
      refine ⟨z, _, rfl, rfl, D, ?_⟩
      exact q1 F1 H1 S1 .refl (.bl true) (by show V.bl true = V.bl (!(ks.contains z)); rw [← hs]; rfl)
  · exact q1.elim
/-- D[x] -/
theorem pem_ixK (D : GDct X x ks ws) (hg : Gl X x) (ha : PEM X Y a fa) (hs : PlainIx a := by exact fun _ _ => rfl) (hdb : (x == ("__debug__" : Str)) = false := by decide) : PEM X Y (.Subscript (.Name x p) a pos) (mIxK ks ws fa) := by
  obtain ⟨d, vs, h1, h2, h3⟩ := D
  refine pe_weak (pe_ix ix_kdict (pe_glob (v := .ref d) hg h1 rfl hdb) ha hs) fun σ H Q hq => ?_
  obtain ⟨F, ρ, S, q⟩ := hq
  refine ⟨F, ρ, S, (RunG.bind q).imp fun b ρ1 F1 H1 S1 k1 q1 v hv => ?_⟩
  obtain ⟨m, w⟩ := b
  dsimp only at q1
  split at q1
  · rename_i z
    cases (show v = .str z from hv)
    split at q1
    · rename_i w2 e
      have kk : Keeps (fun _ => False) (fun _ => none) F1 H1 := ⟨fun _ h => h.elim, fun _ _ h _ => by cases h⟩
      have L := look_rep (z := z) (ks := ks) (h3.mono kk)
      rw [e] at L
      obtain ⟨v2, e2, r2⟩ := L
      have D2 := h2.at z
      rw [e2] at D2
      exact ⟨d, z, v2, rfl, rfl, D2, q1 F1 H1 S1 .refl v2 r2⟩
    · exact q1.elim
  · exact q1.elim
end
/-! ### a local name that holds one of some defs -/
def mCallL (I : List Nat) (i : Nat) (cs : List (Str × (List W → FR))) (fs : List (Rho → R (Md × W))) : Rho → R (Md × W) := fun ρ => match ρ[i]? with
  | some (.val (.fn x)) => (match cs.lookup x with
    | some fm => mCall I [] fm fs ρ
    | none => .stk)
  | _ => .stk
/-- the defs that it may hold -/
def Cands (X : Cx) (ct : Str → Addr) (k : Nat) (ps : List Str) (cs : List (Str × (List W → FR))) : Prop := ∀ (x : Str) (fm : List W → FR), cs.lookup x = some fm → X.mg x = some (.ref (He.ga X.K x)) ∧ Def X.prog X.w X.K X.mg X.base ct k x ps [] fm
theorem cands_nil {X : Cx} {ct : Str → Addr} {k : Nat} {ps : List Str} : Cands X ct k ps [] := fun x fm e => by cases e
theorem cands_cons {X : Cx} {ct : Str → Addr} {k : Nat} {ps : List Str} {cs : List (Str × (List W → FR))} {y : Str} {st : Stmt} {gm : List W → FR} (T : Src X.K X.mg y st) (D : Def X.prog X.w X.K X.mg X.base ct k y ps [] gm) (C : Cands X ct k ps cs) : Cands X ct k ps ((y, gm) :: cs) := fun x fm e => by
  have e1 : (match x == y with
    | true => some gm
    | false => cs.lookup x) = some fm := e
  cases q : x == y with
  | true =>
    rw [q] at e1
    cases e1
    have := beq_iff_eq.mp q
    subst this
    obtain ⟨fd, _, hm⟩ := T
    exact ⟨hm, D⟩
  | false =>
    rw [q] at e1
    exact C x fm e1
section
variable {X : Cx} {Y : Yx I} {ct : Str → Addr} {k i np : Nat} {x : Str} {ps : List Str} {cs : List (Str × (List W → FR))} {p pos : Pos} {e : Expr} {es : List Expr} {fs : List (Rho → R (Md × W))}
theorem pem_callL (C : Cands X ct k ps cs) (hct : Y.ct = ct) (hr : Room k X.A) (tk : Takes X Y.wx) (hv : PE X (.Name x p) (tVar i)) (ha : PAM X Y (e :: es) fs) (hn : fs.length = ps.length)
    (he : starEach (e :: es) X.env = (false, eval e X.env) :: starEach es X.env := by rfl) (hpl : (backTo pos (starEach es X.env)).any (·.1) = false := by rfl) :
    PEM X Y (.Call (.Name x p) (e :: es) [] pos) (mCallL I i cs fs) := ⟨fun pins s σ H Q J hq => by
  obtain ⟨F, ρ, S, q⟩ := hq
  unfold mCallL at q
  split at q
  · rename_i y ey
    split at q
    · rename_i fm ef
      obtain ⟨hga, f, fd, h1, h2, h3, h4, _⟩ := C y fm ef
      rw [hga] at h1
      cases h1
      subst hct
      obtain ⟨v, ev, rv⟩ := S.slot i _ ey
      cases (show v = .ref (He.ga X.K y) from rv)
      refine wpAny_Call_Name_kw (thn (hv.run pins s σ H (fun u H2 => u = .ref (He.ga X.K y) ∧ H2 = H) J ⟨_, ev, rfl, rfl⟩) fun u s1 ⟨v1, H1, J1, r1, e1, e2⟩ => ?_)
      subst e1 e2
      cases r1
      have hw := call_of hn (Y := Y) (J := []) (fm := fm) (σ := σ) (Q := Q) ⟨F, ρ, S, q⟩
      refine PySem.W.callWith_K (h₀ := X.base) J1.ok.mod.kin h2 (thn (ha.run pos pins s1 σ _ _ J1 hw) fun us s2 ⟨vs, H2, J2, r2, q2⟩ => ⟨J2.kIn, ?_⟩) he hpl
      exact run_fnS h4 hr h3 (passAt tk σ) J2 r2 q2
    · exact q.elim
  · exact q.elim⟩
end
end ML

set_option maxHeartbeats 4000000
namespace ML
open PySem PySem.Spec PyProof.Rows L2 He
/-! ### the head's facts -/
def tupAtB (K : PySem.W.Frag) (p : PySem.W.Frag → Addr) (vs : List Dv) : Bool := match K.lookup (p K) with
  | some ⟨.type c, _, .seq its _, _⟩ => decide (c = "tuple") && (decide (its.size ≤ sizeLine) && relAll (vs.map (Dv.v K)) its.toList)
  | _ => false
theorem tupAtB_ok {K : PySem.W.Frag} {p : PySem.W.Frag → Addr} {vs : List Dv} (h : tupAtB K p vs = true) : TupK K (p K) (vs.map (Dv.v K)) := by
  unfold tupAtB at h
  split at h
  · rename_i oc od its n osl q
    obtain ⟨h1, h2⟩ := ba h
    obtain ⟨h3, h4⟩ := ba h2
    exact ⟨_, its, n, q, congrArg Value.type (of_decide_eq_true h1), rfl, of_decide_eq_true h3, relAll_ok h4⟩
  · cases h
def lstAtB (K : PySem.W.Frag) (p : PySem.W.Frag → Addr) (vs : List Dv) : Bool := match K.lookup (p K) with
  | some ⟨.type c, none, .seq its _, _⟩ => decide (c = "list") && (decide (its.size ≤ sizeLine) && relAll (vs.map (Dv.v K)) its.toList)
  | _ => false
theorem lstAtB_ok {K : PySem.W.Frag} {p : PySem.W.Frag → Addr} {vs : List Dv} (h : lstAtB K p vs = true) : LstK K (p K) (vs.map (Dv.v K)) := by
  unfold lstAtB at h
  split at h
  · rename_i oc its n osl q
    obtain ⟨h1, h2⟩ := ba h
    obtain ⟨h3, h4⟩ := ba h2
    exact ⟨_, its, n, q, congrArg Value.type (of_decide_eq_true h1), rfl, rfl, of_decide_eq_true h3, relAll_ok h4⟩
  · cases h
/-- the i-th value of the dict x, of the tuple at p -/
def dvAt (x : Str) (i : Nat) (K : PySem.W.Frag) : Addr := match K.lookup (ga K x) with
  | some ⟨_, _, .dict es _, _⟩ => (match es.toList[i]? with
    | some e => (match e.val with
      | .ref a => a
      | _ => 0)
    | none => 0)
  | _ => 0
def sqAt (p : PySem.W.Frag → Addr) (i : Nat) (K : PySem.W.Frag) : Addr := match K.lookup (p K) with
  | some ⟨_, _, .seq its _, _⟩ => (match its.toList[i]? with
    | some (.ref a) => a
    | _ => 0)
  | _ => 0
def gaP (x : Str) (K : PySem.W.Frag) : Addr := ga K x
def dctB (K : PySem.W.Frag) (x : Str) (vs : List Dv) : Bool := match K.lookup (ga K x) with
  | some ⟨.type c, none, .dict es n, sl⟩ => decide (c = "dict") && (sl.isEmpty && (!(ga K x == sysModules) && relAll (vs.map (Dv.v K)) (es.toList.map (·.val))))
  | _ => false
theorem dctK_ok {K : PySem.W.Frag} {w : World} {x : Str} {vs : List Dv} {ks : List Str} (h : dctB K x vs = true) (hk : dicW K (ga K x) = some (keysIn w.params ks)) : DctK K w (ga K x) ks (vs.map (Dv.v K)) := by
  unfold dctB at h
  split at h
  · rename_i c es n sl q
    obtain ⟨h1, h2⟩ := ba h
    obtain ⟨h3, h4⟩ := ba h2
    obtain ⟨h5, h6⟩ := ba h4
    have e1 : c = "dict" := of_decide_eq_true h1
    have e2 : sl = #[] := Array.isEmpty_iff.mp h3
    have e5 : (ga K x == sysModules) = false := by
      cases z : (ga K x == sysModules) with
      | false => rfl
      | true => rw [z] at h5; cases h5
    subst e1
    subst e2
    refine ⟨es, n, q, ?_, relAll_ok h6, e5⟩
    unfold dicW at hk
    rw [q] at hk
    dsimp only at hk
    split at hk
    · exact Option.some.inj hk
    · cases hk
  · cases h
/-- a Hook with one more Bool -/
abbrev AlM : Type := AlT × Bool
def obsM (fa : List Fa) (fn : List DefD) (ts : List Tab) (more : PySem.W.Frag → Bool) (K : PySem.W.Frag) : AlM := (obsT fa fn ts K, more K)
def valM (fn : List DefD) (ts : List Tab) (w : World) : AlM := (valT fn ts w, true)
def obsMG (n : Nat) (fa : List Fa) (fn : List DefD) (ts : List Tab) (more : PySem.W.Frag → Bool) (g : Addr → Option Obj) : AlM := obsM fa fn ts more (frG g (asD g n))
def SaysM (fa : List Fa) (fn : List DefD) (ts : List Tab) (more : PySem.W.Frag → Bool) (w : World) (K : PySem.W.Frag) : Prop := obsM fa fn ts more K = valM fn ts w
def hookM (n : Nat) (fa : List Fa) (fn : List DefD) (ts : List Tab) (more : PySem.W.Frag → Bool) : PySem.W.Hook where
  α := AlM
  obs := fun s => obsMG n fa fn ts more s.heap.get?
  val := fun w => valM fn ts w
  says := fun w h => ∃ K : PySem.W.Frag, K.In h ∧ SaysM fa fn ts more w K
  of := fun _ _ e => ⟨_, frG_in, e⟩
  keeps := fun _ _ _ ⟨K, hK, c⟩ k => ⟨K, PySem.W.Frag.In.keeps hK k, c⟩
theorem obsMG_eq {n : Nat} {fa : List Fa} {fn : List DefD} {ts : List Tab} {more : PySem.W.Frag → Bool} {g : Addr → Option Obj} {s : Shared} (h : ∀ a, g a = s.heap.get? a) : obsMG n fa fn ts more g = (hookM n fa fn ts more).obs s := by
  have e : g = s.heap.get? := funext h
  rw [e] <;> rfl
section
variable {fa : List Fa} {fn : List DefD} {ts : List Tab} {more : PySem.W.Frag → Bool} {w : World} {K : PySem.W.Frag}
theorem SaysM.t (c : SaysM fa fn ts more w K) : SaysT fa fn ts w K := congrArg (fun z : AlM => z.1) c
theorem SaysM.m (c : SaysM fa fn ts more w K) : more K = true := congrArg (fun z : AlM => z.2) c
theorem SaysM.fact (c : SaysM fa fn ts more w K) (i : Nat) {f : Fa} (h : fa[i]? = some f := by rfl) : f.ok K = true := c.t.d.fact i h
theorem SaysM.tabK (c : SaysM fa fn ts more w K) (i : Nat) {t : Tab} (h : ts[i]? = some t := by rfl) : dicW K (t.1 K) = some (keysIn w.params t.2) := by
  have e : ts.map (fun t => dicW K (t.1 K)) = ts.map fun t => some (keysIn w.params t.2) := congrArg (fun z : AlT => z.2) c.t
  have e2 : (ts.map fun t => dicW K (t.1 K))[i]? = (ts.map fun t => some (keysIn w.params t.2))[i]? := by rw [e]
  rw [List.getElem?_map, List.getElem?_map, h] at e2
  exact Option.some.inj e2
/-- all of some checks -/
theorem all_at {l : List (PySem.W.Frag → Bool)} (h : (l.all fun f => f K) = true) (i : Nat) {f : PySem.W.Frag → Bool} (e : l[i]? = some f := by rfl) : f K = true := List.all_eq_true.mp h f (List.mem_of_getElem? e)
theorem src_ok {h : Heap} {mg : Str → Option Value} (X : K.In h) (G : h.Ns mainGlobals mg) (c : SaysM fa fn ts more w K) (i j : Nat) {x : Str} {st : Stmt} (e : fn[i]? = some ⟨(x, none), x, x, defArgs st, defBody st, defScope st, [], []⟩ := by rfl) (e2 : fa[j]? = some (.glo x) := by rfl) : Src K mg x st := by
  obtain ⟨fd, F⟩ := c.t.d.def_ i e
  exact ⟨fd, F, glo_ok X G (c.fact j e2)⟩
end
/-! ### the law -/
theorem fn0 {P : Program} {w : World} {K : PySem.W.Frag} {mg : Str → Option Value} {base : Heap} {k : Nat} {f : Addr} {fd : FuncData} {ps : List Str} {sp : Sp} (F : FnOk P w K mg base (L2.CX P w) k f fd ps sp) : FnOk P w K mg base CX0 k f fd ps (fun vs H Q _ => sp vs H Q fun _ _ _ => False) :=
  ⟨fun vs H Q _ h => F.len vs H Q _ h, fun A outer s H args us vs Q E hr he hb hv hs => codeAny_mono (F.run A outer s H args us vs Q _ hr he hb hv hs) fun r s' hq => by
    cases r with
    | ok fl => cases fl <;> exact hq
    | error e =>
      obtain ⟨_, _, _, _, _, _, _, _, _, _, _, _, z⟩ := (show L2.CX P w outer H s (fun _ _ _ => False) e s' from hq)
      exact z.elim⟩
/-- what is wanted of the law's mirror -/
def spEnd (K : PySem.W.Frag) (fm : List W → FR) : Sp := fun vs H Q _ => spM K (He.ga K) [] 1 fm vs H Q fun _ _ _ => False
theorem end_sp {K : PySem.W.Frag} {fm : List W → FR} (hfm : ∀ ns : List Int, ns.length ≤ 63 → fm [.frl (ns.map W.int)] = .ok false (.bl true) []) (H : Hp) (a : Addr) (ns : List Int) (hn : ns.length ≤ 63) (hO : Only H) (hS : SqL K H a (ns.map V.int)) :
    spEnd K fm [.ref a] H (fun v _ => v = .bl true) fun _ _ _ => False := by
  have reps : ∀ (F : Fz) (H : Hp) (l : List Int), RepL K F H (l.map W.int) (l.map V.int) := fun F H l => by
    induction l with
    | nil => rfl
    | cons i l ih => exact ⟨_, _, rfl, rfl, ih⟩
  have hF : FrlL K H a (ns.map V.int) := by
    rcases hS with (h | h) | h
    · rcases hO a with q | ⟨o, xs, q⟩
      · rw [q] at h; cases h
      · rw [q] at h; cases h
    · exact .inl h
    · exact .inr h
  refine ⟨fun _ => False, [.frl (ns.map W.int)], rfl, fun _ h => h.elim, ⟨.ref a, [], rfl, ⟨a, _, rfl, hF, reps _ _ _⟩, rfl⟩, ⟨rfl, fun p hp => by cases hp⟩, ?_⟩
  rw [hfm ns hn]
  intro F' H' v _ _ h
  exact h
/-- the law's def as the end wants it -/
theorem end_fn {P : Program} {w : World} {K : PySem.W.Frag} {mg : Str → Option Value} {k : Nat} {x p : Str} {st : Stmt} {f : Addr} {fm : List W → FR} (T : Src K mg x st) (hfa : mg x = some (.ref f))
    (hb : ∀ (fd : FuncData), FunD K x x (defArgs st) (defBody st) (defScope st) [] [] (He.ga K x) fd → ∀ (s : Shared) (v : Value), BindsTo s fd ⟨[v], []⟩ [(p, v)])
    (D : ∀ base : Heap, K.In base → base.Ns mainGlobals mg → Def P w K mg base (He.ga K) k x [p] [] fm) :
    ∃ fd : FuncData, (∀ (s : Shared) (v : Value), BindsTo s fd ⟨[v], []⟩ [(p, v)]) ∧ ∀ base : Heap, K.In base → base.Ns mainGlobals mg → FnOk P w K mg base CX0 k f fd [p] (spEnd K fm) := by
  obtain ⟨fd, F, hm⟩ := T
  refine ⟨fd, hb fd F, fun base hK hG => ?_⟩
  obtain ⟨f', fd', h1, _, _, h4, oc, od, osl, lk⟩ := D base hK hG
  rw [hfa] at h1 hm
  cases h1
  have e : f = He.ga K x := by cases hm; rfl
  obtain ⟨oc2, od2, _, _, _, _, _, _, _, osl2, _, lk2, _⟩ := F.ex
  rw [e, lk2] at lk
  cases lk
  exact fn0 h4
end ML

set_option maxHeartbeats 4000000
namespace ML
open PySem PySem.Spec PyProof.Rows L2
/-! ### reckoning with mirrors: what each does at a frame that is known -/
section
variable {α β : Type} {I J : List Nat} {ρ : Rho}
@[simp] theorem ev_bo (a : α) (ρ : Rho) (k : α → Rho → R β) : R.bind (.ok a ρ) k = k a ρ := rfl
@[simp] theorem ev_bs (k : α → Rho → R β) : R.bind .stk k = .stk := rfl
@[simp] theorem ev_bx (c : Str) (ns : List Str) (ws : List W) (ρ : Rho) (k : α → Rho → R β) : R.bind (.exc c ns ws ρ) k = .exc c ns ws ρ := rfl
@[simp] theorem ev_ls (a : α) : lift (some a) ρ = .ok a ρ := rfl
@[simp] theorem ev_ln : lift (none : Option α) ρ = .stk := rfl
theorem ev_var (i : Nat) : mVar i ρ = (match ρ[i]? with
  | some (.val w) => .ok (.val, w) ρ
  | some (.own w) => .ok (.bor i, w) ρ
  | _ => .stk) := rfl
@[simp] theorem ev_c (w : W) : mC w ρ = .ok (.val, w) ρ := rfl
@[simp] theorem ev_op (g : GW) (fa fb : Rho → R (Md × W)) : mOp g fa fb ρ = (fa ρ).bind fun x ρ1 => (fb ρ1).bind fun y ρ2 => (match peek x.1 x.2 ρ2, peek y.1 y.2 ρ2 with
  | some u, some v => lift (g u v) ρ2
  | _, _ => .stk) := rfl
@[simp] theorem ev_pv (w : W) : peek .val w ρ = some w := rfl
@[simp] theorem ev_pf (w : W) : peek .fre w ρ = some w := rfl
@[simp] theorem ev_pb (i : Nat) (w : W) : peek (.bor i) w ρ = (match ρ[i]? with
  | some (.own u) => some u
  | some (.val u) => some u
  | _ => none) := rfl
@[simp] theorem ev_tv (w : W) : toVal I (.val, w) ρ = .ok w ρ := rfl
@[simp] theorem ev_tf (w : W) : toVal I (.fre, w) ρ = .ok w ρ := rfl
@[simp] theorem ev_tb (i : Nat) (w : W) : toVal I (.bor i, w) ρ = (match ρ[i]? with
  | some (.own u) => if i ∈ I then .stk else .ok u (ρ.set i (.val u))
  | some (.val u) => .ok u ρ
  | _ => .stk) := rfl
@[simp] theorem ev_seq (g g' : Rho → R Fl) : mSeq g g' ρ = thenF (g ρ) g' := rfl
@[simp] theorem ev_tn (k : Rho → R Fl) : thenF (.ok .nx ρ) k = k ρ := rfl
@[simp] theorem ev_tr (m : Md) (w : W) (k : Rho → R Fl) : thenF (.ok (.rt m w) ρ) k = .ok (.rt m w) ρ := rfl
@[simp] theorem ev_tbk (k : Rho → R Fl) : thenF (.ok .bk ρ) k = .ok .bk ρ := rfl
@[simp] theorem ev_tct (k : Rho → R Fl) : thenF (.ok .ct ρ) k = .ok .ct ρ := rfl
@[simp] theorem ev_ts (k : Rho → R Fl) : thenF .stk k = .stk := rfl
@[simp] theorem ev_tx (c : Str) (ns : List Str) (ws : List W) (k : Rho → R Fl) : thenF (.exc c ns ws ρ) k = .exc c ns ws ρ := rfl
@[simp] theorem ev_lpn (k : Rho → R Fl) : loopF (.ok .nx ρ) k = k ρ := rfl
@[simp] theorem ev_lpc (k : Rho → R Fl) : loopF (.ok .ct ρ) k = k ρ := rfl
@[simp] theorem ev_lpb (k : Rho → R Fl) : loopF (.ok .bk ρ) k = .ok .nx ρ := rfl
@[simp] theorem ev_lpr (m : Md) (w : W) (k : Rho → R Fl) : loopF (.ok (.rt m w) ρ) k = .ok (.rt m w) ρ := rfl
@[simp] theorem ev_next : mNext ρ = .ok .nx ρ := rfl
@[simp] theorem ev_set (i : Nat) (f : Rho → R (Md × W)) : mSet I i f ρ = (f ρ).bind fun b ρ1 => mStore I i b ρ1 := rfl
@[simp] theorem ev_sv (i : Nat) (w : W) : mStore I i (.val, w) ρ = if i ∈ I then .stk else .ok .nx (ρ.set i (.val w)) := by
  unfold mStore
  rfl
@[simp] theorem ev_sf (i : Nat) (w : W) : mStore I i (.fre, w) ρ = if i ∈ I then .stk else .ok .nx (ρ.set i (.own w)) := by
  unfold mStore
  rfl
@[simp] theorem ev_sb (i j : Nat) (w : W) : mStore I i (.bor j, w) ρ = if i ∈ I then .stk else (toVal I (.bor j, w) ρ).bind fun w ρ1 => .ok .nx (ρ1.set i (.val w)) := by
  unfold mStore
  rfl
@[simp] theorem ev_drop (f : Rho → R (Md × W)) : mDrop f ρ = (f ρ).bind fun _ ρ1 => .ok .nx ρ1 := rfl
def retB (I : List Nat) (b : Md × W) (ρ1 : Rho) : R Fl := match b.1 with
  | .val => .ok (.rt .val b.2) ρ1
  | .fre => .ok (.rt .fre b.2) ρ1
  | .bor i => if i ∈ I then .stk else .ok (.rt .fre b.2) (ρ1.set i .no)
@[simp] theorem ev_retv (f : Rho → R (Md × W)) : mRet I f ρ = (f ρ).bind (retB I) := rfl
@[simp] theorem ev_rbv (w : W) : retB I (.val, w) ρ = .ok (.rt .val w) ρ := rfl
@[simp] theorem ev_rbf (w : W) : retB I (.fre, w) ρ = .ok (.rt .fre w) ρ := rfl
@[simp] theorem ev_rbb (i : Nat) (w : W) : retB I (.bor i, w) ρ = if i ∈ I then .stk else .ok (.rt .fre w) (ρ.set i .no) := rfl
@[simp] theorem ev_retn : mRetN ρ = .ok (.rt .val .non) ρ := rfl
@[simp] theorem ev_bool (m : Md) (c : Bool) : boolOf (m, .bl c) ρ = .ok c ρ := rfl
@[simp] theorem ev_test (f : Rho → R (Md × W)) : mTest f ρ = (f ρ).bind boolOf := rfl
@[simp] theorem ev_not (c : Rho → R Bool) : mNot c ρ = (c ρ).bind fun b ρ1 => .ok (!b) ρ1 := rfl
@[simp] theorem ev_and (c c' : Rho → R Bool) : mAnd c c' ρ = (c ρ).bind fun b ρ1 => if b then c' ρ1 else .ok false ρ1 := rfl
@[simp] theorem ev_or (c c' : Rho → R Bool) : mOr c c' ρ = (c ρ).bind fun b ρ1 => if b then .ok true ρ1 else c' ρ1 := rfl
@[simp] theorem ev_notv (f : Rho → R (Md × W)) : mNotV f ρ = ((f ρ).bind boolOf).bind fun b ρ1 => .ok (.val, .bl (!b)) ρ1 := rfl
@[simp] theorem ev_andv (f g : Rho → R (Md × W)) : mAndV f g ρ = ((f ρ).bind boolOf).bind fun b ρ1 => if b then g ρ1 else .ok (.val, .bl false) ρ1 := rfl
@[simp] theorem ev_orv (f g : Rho → R (Md × W)) : mOrV f g ρ = ((f ρ).bind boolOf).bind fun b ρ1 => if b then .ok (.val, .bl true) ρ1 else g ρ1 := rfl
@[simp] theorem ev_ife (c : Rho → R Bool) (f g : Rho → R (Md × W)) : mIfE c f g ρ = (c ρ).bind fun b ρ1 => if b then f ρ1 else g ρ1 := rfl
@[simp] theorem ev_if (c : Rho → R Bool) (f g : Rho → R Fl) : mIf c f g ρ = (c ρ).bind fun b ρ1 => if b then f ρ1 else g ρ1 := rfl
@[simp] theorem ev_isn (n : Bool) (f : Rho → R (Md × W)) : mIsN n f ρ = (f ρ).bind fun x ρ1 => .ok (.val, .bl (if n then !nonW x.2 else nonW x.2)) ρ1 := rfl
@[simp] theorem ev_gset (i : Nat) (w : W) : gSet I i w ρ = if i ∈ I then none else some (ρ.set i (.val w)) := rfl
@[simp] theorem ev_gts (t : W → Rho → Option Rho) (ts : List (W → Rho → Option Rho)) (w : W) (ws : List W) : gTups (t :: ts) (w :: ws) ρ = (t w ρ).bind fun ρ1 => gTups ts ws ρ1 := rfl
@[simp] theorem ev_gtn : gTups [] [] ρ = some ρ := rfl
@[simp] theorem ev_gtup (ts : List (W → Rho → Option Rho)) (l : List W) : gTup ts (.tup l) ρ = gTups ts l ρ := rfl
@[simp] theorem ev_asgt (t : W → Rho → Option Rho) (f : Rho → R (Md × W)) : mAsgT I t f ρ = (f ρ).bind fun b ρ1 => (toVal I b ρ1).bind fun w ρ2 => (match t w ρ2 with
  | some ρ3 => .ok .nx ρ3
  | none => .stk) := rfl
@[simp] theorem ev_forn (tg : W → Rho → Option Rho) (g : Rho → R Fl) : forL tg g [] ρ = .ok .nx ρ := rfl
theorem ev_forc (tg : W → Rho → Option Rho) (g : Rho → R Fl) (w : W) (ws : List W) : forL tg g (w :: ws) ρ = (match tg w ρ with
  | some ρ1 => loopF (g ρ1) (forL tg g ws)
  | none => .stk) := rfl
@[simp] theorem ev_for (it : Rho → R (List W)) (tg : W → Rho → Option Rho) (g : Rho → R Fl) : mFor it tg g ρ = (it ρ).bind fun ws ρ1 => forL tg g ws ρ1 := rfl
@[simp] theorem ev_itt (l : List W) : itemsW (.tup l) = some l := rfl
@[simp] theorem ev_itl (l : List W) : itemsW (.lst l) = some l := rfl
@[simp] theorem ev_itf (l : List W) : itemsW (.frl l) = some l := rfl
@[simp] theorem ev_items (f : Rho → R (Md × W)) : mItems I f ρ = (f ρ).bind fun b ρ1 => (toVal I b ρ1).bind fun w ρ2 => lift (itemsX w) ρ2 := rfl
@[simp] theorem ev_ixt (l : List W) : itemsX (.tup l) = some l := rfl
@[simp] theorem ev_ixl (l : List W) : itemsX (.lst l) = some l := rfl
@[simp] theorem ev_ixf (l : List W) : itemsX (.frl l) = some l := rfl
@[simp] theorem ev_rev (f : Rho → R (Md × W)) : mRev I f ρ = (f ρ).bind fun b ρ1 => (toVal I b ρ1).bind fun w ρ2 => lift ((itemsW w).map List.reverse) ρ2 := rfl
@[simp] theorem ev_hn : mHold [] ρ = .ok [] ρ := rfl
@[simp] theorem ev_hc (f : Rho → R (Md × W)) (fs : List (Rho → R (Md × W))) : mHold (f :: fs) ρ = (f ρ).bind fun b ρ1 => (mHold fs ρ1).bind fun bs ρ2 => .ok (b :: bs) ρ2 := rfl
@[simp] theorem ev_pn : peekL [] ρ = some [] := rfl
@[simp] theorem ev_pc (b : Md × W) (bs : List (Md × W)) : peekL (b :: bs) ρ = (match peek b.1 b.2 ρ, peekL bs ρ with
  | some w, some ws => some (w :: ws)
  | _, _ => none) := rfl
@[simp] theorem ev_vn : valsL I [] ρ = .ok [] ρ := rfl
@[simp] theorem ev_vc (b : Md × W) (bs : List (Md × W)) : valsL I (b :: bs) ρ = (toVal I b ρ).bind fun w ρ1 => (valsL I bs ρ1).bind fun ws ρ2 => .ok (w :: ws) ρ2 := rfl
@[simp] theorem ev_tup (fs : List (Rho → R (Md × W))) : mTup I fs ρ = (mHold fs ρ).bind fun bs ρ1 => (valsL I bs ρ1).bind fun ws ρ2 => if ws.length ≤ sizeLine then .ok (.val, .tup ws) ρ2 else .stk := rfl
@[simp] theorem ev_lst (fs : List (Rho → R (Md × W))) : mLst I fs ρ = (mHold fs ρ).bind fun bs ρ1 => (valsL I bs ρ1).bind fun ws ρ2 => if ws.length ≤ sizeLine then .ok (.fre, .lst ws) ρ2 else .stk := rfl
@[simp] theorem ev_cb (g : GC) (fs : List (Rho → R (Md × W))) : mCB g fs ρ = (mHold fs ρ).bind fun bs ρ1 => (match peekL bs ρ1 with
  | some ws => lift (g ws) ρ1
  | none => .stk) := rfl
@[simp] theorem ev_fun (n : Nat) (g : Rho → R Fl) (args : List W) : mFun J n g args = finF J (g (rho0 J args n)) := rfl
@[simp] theorem ev_fn : finF J (.ok .nx ρ) = (match outsOf J ρ with
  | some outs => .ok false .non outs
  | none => .stk) := rfl
@[simp] theorem ev_fv (w : W) : finF J (.ok (.rt .val w) ρ) = (match outsOf J ρ with
  | some outs => .ok false w outs
  | none => .stk) := by
  unfold finF
  cases h : outsOf J ρ <;> simp [h]
@[simp] theorem ev_ff (w : W) : finF J (.ok (.rt .fre w) ρ) = (match outsOf J ρ with
  | some outs => .ok true w outs
  | none => .stk) := by
  unfold finF
  cases h : outsOf J ρ <;> simp [h]
@[simp] theorem ev_on : outsOf [] ρ = some [] := rfl
@[simp] theorem ev_oc (i : Nat) (is : List Nat) : outsOf (i :: is) ρ = (match ownAt ρ i, outsOf is ρ with
  | some w, some ws => some (w :: ws)
  | _, _ => none) := rfl
theorem ev_own (i : Nat) : ownAt ρ i = (match ρ[i]? with
  | some (.own w) => some w
  | _ => none) := rfl
@[simp] theorem ev_call (fm : List W → FR) (fs : List (Rho → R (Md × W))) : mCall I J fm fs ρ = (mHold fs ρ).bind fun bs ρ1 => (callA I J 0 bs ρ1).bind fun xs ρ2 =>
  if (slotsX xs).Nodup ∧ posX 0 xs = J then (match resX ρ2 xs with
    | some args => (match fm args with
      | .ok fr w outs => .ok (if fr then .fre else .val, w) (putOuts (slotsX xs) outs ρ2)
      | .exc c ns ws outs => .exc c ns ws (putOuts (slotsX xs) outs ρ2)
      | .stk => .stk)
    | none => .stk)
  else .stk := rfl
@[simp] theorem ev_can (k : Nat) : callA I J k [] ρ = .ok [] ρ := rfl
@[simp] theorem ev_cac (k : Nat) (b : Md × W) (bs : List (Md × W)) : callA I J k (b :: bs) ρ = if k ∈ J then (match b.1 with
      | .bor i => (callA I J (k + 1) bs ρ).bind fun xs ρ1 => .ok (.inr i :: xs) ρ1
      | _ => .stk)
    else (toVal I b ρ).bind fun w ρ1 => (callA I J (k + 1) bs ρ1).bind fun xs ρ2 => .ok (.inl w :: xs) ρ2 := rfl
@[simp] theorem ev_sxn : slotsX [] = [] := rfl
@[simp] theorem ev_sxl (w : W) (xs : List (W ⊕ Nat)) : slotsX (.inl w :: xs) = slotsX xs := rfl
@[simp] theorem ev_sxr (i : Nat) (xs : List (W ⊕ Nat)) : slotsX (.inr i :: xs) = i :: slotsX xs := rfl
@[simp] theorem ev_pxn (k : Nat) : posX k [] = [] := rfl
@[simp] theorem ev_pxl (k : Nat) (w : W) (xs : List (W ⊕ Nat)) : posX k (.inl w :: xs) = posX (k + 1) xs := rfl
@[simp] theorem ev_pxr (k i : Nat) (xs : List (W ⊕ Nat)) : posX k (.inr i :: xs) = k :: posX (k + 1) xs := rfl
@[simp] theorem ev_rxn : resX ρ [] = some [] := rfl
@[simp] theorem ev_rxl (w : W) (xs : List (W ⊕ Nat)) : resX ρ (.inl w :: xs) = (resX ρ xs).map (w :: ·) := rfl
@[simp] theorem ev_rxr (i : Nat) (xs : List (W ⊕ Nat)) : resX ρ (.inr i :: xs) = (match ownAt ρ i, resX ρ xs with
    | some w, some ws => some (w :: ws)
    | _, _ => none) := rfl
@[simp] theorem ev_pon (ws : List W) : putOuts [] ws ρ = ρ := by
  unfold putOuts
  rfl
@[simp] theorem ev_poc (i : Nat) (is : List Nat) (w : W) (ws : List W) : putOuts (i :: is) (w :: ws) ρ = putOuts is ws (ρ.set i (.own w)) := rfl
@[simp] theorem ev_app (i : Nat) (fe : Rho → R (Md × W)) : mAppend i I fe ρ = (match ownAt ρ i with
  | some (.lst _) => (fe ρ).bind fun b ρ1 => (toVal I b ρ1).bind fun w ρ2 => (match ownAt ρ2 i with
    | some (.lst l) => if l.length < sizeLine then .ok (.val, .non) (ρ2.set i (.own (.lst (l ++ [w])))) else .stk
    | _ => .stk)
  | _ => .stk) := rfl
@[simp] theorem ev_r1 (fs : List (Rho → R (Md × W))) : mRange1 fs ρ = (mHold fs ρ).bind fun bs ρ1 => (match bs with
  | [(.val, .int j)] => if okR j then .ok (intsW 0 j.toNat) ρ1 else .stk
  | _ => .stk) := rfl
@[simp] theorem ev_r2 (fs : List (Rho → R (Md × W))) : mRange2 fs ρ = (mHold fs ρ).bind fun bs ρ1 => (match bs with
  | [(.val, .int i), (.val, .int j)] => if okR i && okR j then .ok (intsW i (j - i).toNat) ρ1 else .stk
  | _ => .stk) := rfl
@[simp] theorem ev_sl (fa : Rho → R (Md × W)) (lo hi : Option (Rho → R (Md × W))) : mSl fa lo hi ρ = (fa ρ).bind fun x ρ1 => (mPart lo ρ1).bind fun l ρ2 => (mPart hi ρ2).bind fun h ρ3 => (match peek x.1 x.2 ρ3 with
  | some u => lift (gSl u l h) ρ3
  | none => .stk) := rfl
@[simp] theorem ev_mpn : mPart none ρ = .ok none ρ := rfl
@[simp] theorem ev_mps (f : Rho → R (Md × W)) : mPart (some f) ρ = (f ρ).bind fun b ρ1 => (match b.1, b.2 with
    | .val, .int i => .ok (some i) ρ1
    | _, _ => .stk) := rfl
@[simp] theorem ev_join (fx fl : Rho → R (Md × W)) : mJoin fx fl ρ = (fx ρ).bind fun x ρ1 => (match x.1, x.2 with
  | .val, .str a => (mHold [fl] ρ1).bind fun bs ρ2 => (match peekL bs ρ2 with
    | some [y] => lift (gJoin (.str a) y) ρ2
    | _ => .stk)
  | _, _ => .stk) := rfl
@[simp] theorem ev_ink (neg : Bool) (ks : List Str) (fa : Rho → R (Md × W)) : mInK neg ks fa ρ = (fa ρ).bind fun b ρ1 => (match b.1, b.2 with
  | .val, .str z => .ok (.val, .bl (if neg then !(ks.contains z) else ks.contains z)) ρ1
  | _, _ => .stk) := rfl
@[simp] theorem ev_ixk (ks : List Str) (vs : List W) (fa : Rho → R (Md × W)) : mIxK ks vs fa ρ = (fa ρ).bind fun b ρ1 => (match b.1, b.2 with
  | .val, .str z => (match lookW z ks vs with
    | some w => .ok (.val, w) ρ1
    | none => .stk)
  | _, _ => .stk) := rfl
@[simp] theorem ev_storeAt (i : Nat) (fk fe : Rho → R (Md × W)) : mStoreAt i I fk fe ρ = (fe ρ).bind fun b ρ1 => (toVal I b ρ1).bind fun w ρ2 => (match ownAt ρ2 i with
  | some (.lst _) => (fk ρ2).bind fun kb ρ3 => (match kb.1, kb.2, ownAt ρ3 i with
    | .val, .int k, some (.lst l) => (match ixN l.length k with
      | some j => .ok .nx (ρ3.set i (.own (.lst (l.set j w))))
      | none => .stk)
    | _, _, _ => .stk)
  | _ => .stk) := rfl
@[simp] theorem ev_el (f : Rho → R (Md × W)) : mEl I f ρ = (f ρ).bind (toVal I) := rfl
theorem ev_lc (it : Rho → R (List W)) (t : CT) (c : Rho → R Bool) (fe : Rho → R (Md × W)) : mLc I it t c fe ρ = (it ρ).bind fun ws ρ1 => if t.ix.all (fun i => decide (i ∉ I)) then noExc (compL t.ix t.put c (mEl I fe) [] ws ρ1) else .stk := rfl
@[simp] theorem ev_nx (a : α) : noExc (.ok a ρ) = .ok a ρ := rfl
@[simp] theorem ev_yes : mYes ρ = .ok true ρ := rfl
@[simp] theorem ev_thru (g : Rho → R Fl) : mThru g ρ = noExc (g ρ) := rfl
@[simp] theorem ev_rhoA (k : Nat) (w : W) (ws : List W) : rhoA J k (w :: ws) = (if k ∈ J then .own w else .val w) :: rhoA J (k + 1) ws := rfl
@[simp] theorem ev_rhoN (k : Nat) : rhoA J k [] = [] := rfl
@[simp] theorem ev_rho0 (args : List W) (n : Nat) : rho0 J args n = rhoA J 0 args ++ List.replicate (n - args.length) .no := rfl
end
/-! ### operators at known values -/
@[simp] theorem ev_addI (i j : Int) : gAdd (.int i) (.int j) = some (.val, .int (i + j)) := rfl
theorem ev_addS (x y : Str) : gAdd (.str x) (.str y) = if x.length + y.length ≤ sizeLine then some (.val, .str (x ++ y)) else none := rfl
@[simp] theorem ev_addL (x y : List W) : gAdd (.lst x) (.lst y) = if x.length + y.length ≤ sizeLine then some (.fre, .lst (x ++ y)) else none := rfl
@[simp] theorem ev_addT (x y : List W) : gAdd (.tup x) (.tup y) = if x.length + y.length ≤ sizeLine then some (.val, .tup (x ++ y)) else none := rfl
@[simp] theorem ev_sub (i j : Int) : gSub (.int i) (.int j) = some (.val, .int (i - j)) := rfl
@[simp] theorem ev_mulI (i j : Int) : gMul (.int i) (.int j) = if okMul i j then some (.val, .int (i * j)) else none := rfl
theorem ev_mod {i j : Int} (h : 0 < j) : gMod (.int i) (.int j) = some (.val, .int (i % j)) := by
  unfold gMod gI
  simp [h]
theorem ev_div {i j : Int} (h : 0 < j) (h' : j < 1073741824) : gFdiv (.int i) (.int j) = some (.val, .int (i / j)) := by
  unfold gFdiv gI
  simp [h, h']
@[simp] theorem ev_cmp (p : Int → Int → Bool) (i j : Int) : gCmp p (.int i) (.int j) = some (.val, .bl (p i j)) := rfl
@[simp] theorem ev_intI (i : Int) : gInt [.int i] = some (.val, .int i) := rfl
@[simp] theorem ev_intB (k : Bool) : gInt [.bl k] = some (.val, .int (if k then 1 else 0)) := rfl
@[simp] theorem ev_strS (a : Str) : gStr [.str a] = some (.val, .str a) := rfl
@[simp] theorem ev_lenT (l : List W) : gLen [.tup l] = some (.val, .int l.length) := rfl
@[simp] theorem ev_lenL (l : List W) : gLen [.lst l] = some (.val, .int l.length) := rfl
@[simp] theorem ev_lenF (l : List W) : gLen [.frl l] = some (.val, .int l.length) := rfl
theorem ev_lenS (a : Str) : gLen [.str a] = if a.length ≤ sizeLine then some (.val, .int a.length) else none := rfl
@[simp] theorem ev_min (i j : Int) : gMin [.int i, .int j] = some (.val, .int (if j < i then j else i)) := rfl
@[simp] theorem ev_max (i j : Int) : gMax [.int i, .int j] = some (.val, .int (if j > i then j else i)) := rfl
@[simp] theorem ev_tcT (l : List W) : gTupC [.tup l] = some (.val, .tup l) := rfl
@[simp] theorem ev_tcL (l : List W) : gTupC [.lst l] = some (.val, .tup l) := rfl
@[simp] theorem ev_tcF (l : List W) : gTupC [.frl l] = some (.val, .tup l) := rfl
@[simp] theorem ev_ixT (l : List W) (i : Int) : gIx (.tup l) (.int i) = (atI l i).map fun w => (.val, w) := rfl
@[simp] theorem ev_ixL (l : List W) (i : Int) : gIx (.lst l) (.int i) = (atI l i).map fun w => (.val, w) := rfl
@[simp] theorem ev_ixF (l : List W) (i : Int) : gIx (.frl l) (.int i) = (atI l i).map fun w => (.val, w) := rfl
theorem ev_ixS (z : Str) (i : Int) : gIx (.str z) (.int i) = if z.length ≤ sizeLine then (atI z.cps.toList i).map fun c => (.val, .str ⟨#[c]⟩) else none := rfl
section
variable {α : Type}
theorem atI_nat (l : List α) (n : Nat) : atI l (n : Int) = l[n]? := by
  unfold atI ixN
  rw [if_pos (Int.natCast_nonneg n)]
  by_cases h : n < l.length
  · rw [if_pos (by omega)]
    simp
  · rw [if_neg (by omega)]
    simp [List.getElem?_eq_none (Nat.le_of_not_lt h)]
@[simp] theorem atI_0 (l : List α) : atI l 0 = l[0]? := atI_nat l 0
@[simp] theorem atI_1 (l : List α) : atI l 1 = l[1]? := atI_nat l 1
@[simp] theorem atI_lit (l : List α) (n : Nat) : atI l (no_index (OfNat.ofNat n) : Int) = l[n]? := atI_nat l n
theorem atI_of {l : List α} {i : Int} {n : Nat} (h : i = n) : atI l i = l[n]? := by rw [h, atI_nat]
end
/-! ### == on texts, whole numbers; in -/
theorem ev_eqS (x y : Str) : eqW (.str x) (.str y) = some (decide (x = y)) := by
  have h : eqW (.str x) (.str y) = some (decide (V.str x = V.str y)) := rfl
  rw [h]
  simp
theorem ev_eqI (x y : Int) : eqW (.int x) (.int y) = some (decide (x = y)) := by
  have h : eqW (.int x) (.int y) = some (decide (V.int x = V.int y)) := rfl
  rw [h]
  simp
@[simp] theorem ev_gEqS (x y : Str) : gEq (.str x) (.str y) = some (.val, .bl (decide (x = y))) := by
  unfold gEq
  rw [ev_eqS]
  rfl
@[simp] theorem ev_gEqI (x y : Int) : gEq (.int x) (.int y) = some (.val, .bl (decide (x = y))) := by
  unfold gEq
  rw [ev_eqI]
  rfl
@[simp] theorem ev_gNeS (x y : Str) : gNe (.str x) (.str y) = some (.val, .bl (!decide (x = y))) := by
  unfold gNe
  rw [ev_eqS]
  rfl
@[simp] theorem ev_gNeI (x y : Int) : gNe (.int x) (.int y) = some (.val, .bl (!decide (x = y))) := by
  unfold gNe
  rw [ev_eqI]
  rfl
theorem inV_str (x : Str) (l : List Str) : inV (V.str x) (l.map V.str) = decide (x ∈ l) := by
  unfold inV
  induction l with
  | nil => rfl
  | cons y l ih =>
    rw [List.map_cons, List.any_cons, ih]
    have e : eqV (V.str y) (V.str x) = decide (y = x) := by
      have : eqV (V.str y) (V.str x) = (y == x) := rfl
      rw [this]
      by_cases h : y = x <;> simp [h]
    rw [e]
    by_cases h : y = x
    · simp [h]
    · have h' : ¬ x = y := fun z => h z.symm
      simp [h, h']
theorem in_strs (neg : Bool) (x : Str) (l : List Str) (w : W) (h : itemsW w = some (l.map W.str)) (hw : ∀ z, w ≠ .str z) : inW neg (.str x) w = some (if neg then !decide (x ∈ l) else decide (x ∈ l)) := by
  have e1 : (l.map W.str).all flatW = true := by simp [flatW]
  have e2 : (l.map W.str).map toV = l.map V.str := by simp [toV]
  have e3 : inW neg (.str x) w = (match itemsW w with
    | some l => if flatW (.str x) && l.all flatW then some (if neg then !inV (toV (.str x)) (l.map toV) else inV (toV (.str x)) (l.map toV)) else none
    | none => none) := by
    cases w with
    | str z => exact (hw z rfl).elim
    | _ => rfl
  rw [e3, h]
  dsimp only
  rw [e1, e2, show toV (.str x) = V.str x from rfl, inV_str]
  rfl
end ML

set_option maxHeartbeats 4000000
namespace ML
open PySem PySem.Spec PyProof.Rows L2
/-! ### texts as lists of code points -/
def S (l : List Nat) : Str := ⟨l.toArray⟩
theorem S_is (l : List Nat) : S l = SX.S l := rfl
theorem S_of (x : Str) : x = S x.cps.toList := rfl
@[simp] theorem S_eq (a b : List Nat) : (S a = S b) = (a = b) := propext ⟨fun h => SX.S_inj h, fun h => by rw [h]⟩
@[simp] theorem S_ite (p : Prop) [Decidable p] (a b : List Nat) : (if p then S a else S b) = S (if p then a else b) := by split <;> rfl
@[simp] theorem S_beq (a b : List Nat) : (S a == S b) = decide (a = b) := SX.S_beq_eq
@[simp] theorem S_cps (a : List Nat) : (S a).cps.toList = a := rfl
@[simp] theorem S_len (a : List Nat) : (S a).length = a.length := SX.S_len a
@[simp] theorem S_cat (a b : List Nat) : S a ++ S b = S (a ++ b) := SX.S_cat a b
theorem line_is : sizeLine = 16777216 := rfl
theorem ev_addSS {a b : List Nat} (h : a.length + b.length ≤ 16777216) : gAdd (.str (S a)) (.str (S b)) = some (.val, .str (S (a ++ b))) := by
  rw [ev_addS, S_len, S_len, S_cat, line_is, if_pos h]
theorem ev_lenSS {a : List Nat} (h : a.length ≤ 16777216) : gLen [.str (S a)] = some (.val, .int a.length) := by
  rw [ev_lenS, S_len, line_is, if_pos h]
theorem ev_ixSS {a : List Nat} {i : Int} (h : a.length ≤ 16777216) : gIx (.str (S a)) (.int i) = (atI a i).map fun c => (.val, .str (S [c])) := by
  rw [ev_ixS, S_len, S_cps, line_is, if_pos h]
  rfl
theorem ev_strI {n : Nat} (h : n < 1000) : gStr [.int n] = some (.val, .str (S (TL.numL n))) := by
  have h1 : ((n : Int)).natAbs.log2 < 1920 := by
    rw [Int.natAbs_natCast]
    have := Nat.log2_le_self n
    omega
  have h2 : gStr [.int n] = if ((n : Int)).natAbs.log2 < 1920 then some (.val, .str (toString (n : Int))) else none := rfl
  rw [h2, if_pos h1]
  exact congrArg (fun z => some (Md.val, W.str z)) (SX.num_S n)
theorem in_SS (neg : Bool) (c : Nat) (l : List Nat) : gIn neg (.str (S [c])) (.str (S l)) = some (.val, .bl (if neg then !decide (c ∈ l) else decide (c ∈ l))) := rfl
theorem in_ST (neg : Bool) (x : List Nat) (l : List (List Nat)) (w : W) (h : itemsW w = some (l.map fun z => W.str (S z))) (hw : ∀ z, w ≠ .str z) : gIn neg (.str (S x)) w = some (.val, .bl (if neg then !decide (x ∈ l) else decide (x ∈ l))) := by
  unfold gIn
  rw [in_strs neg (S x) (l.map S) w (by rw [h, List.map_map]; rfl) hw]
  have e : (S x ∈ l.map S) = (x ∈ l) := propext ⟨fun h => by
    obtain ⟨y, hy, e⟩ := List.mem_map.mp h
    rw [S_eq] at e
    rw [← e]; exact hy, fun h => List.mem_map.mpr ⟨x, h, rfl⟩⟩
  simp only [e]
  rfl
theorem strsW_S : ∀ l : List (List Nat), strsW (l.map fun z => W.str (S z)) = some (l.map S)
  | [] => rfl
  | z :: l => by
    rw [List.map_cons, List.map_cons]
    show (strsW _).map _ = _
    rw [strsW_S l]
    rfl
theorem ev_joinS {a : List Nat} {l : List (List Nat)} {w : W} (hw : itemsW w = some (l.map fun z => W.str (S z))) (h : (l.map List.length).sum + l.length * a.length ≤ 16777216) : gJoin (.str (S a)) w = some (.val, .str (S (TL.joinL a l))) := by
  have e : gJoin (.str (S a)) w = (match itemsW w with
    | some l => (strsW l).bind fun ys => if (ys.map (·.length)).sum + ys.length * (S a).length ≤ 16777216 then some (.val, .str (Txt.join (S a) ys)) else none
    | none => none) := by
    unfold gJoin
    rw [hw]
  rw [e, hw]
  dsimp only
  rw [strsW_S, Option.bind_some, List.map_map, List.length_map, S_len]
  have e2 : (l.map ((fun x : Str => x.length) ∘ S)) = l.map List.length := List.map_congr_left fun x _ => S_len x
  rw [e2, if_pos h]
  have := SX.join_S a l
  exact congrArg (fun z => some (Md.val, W.str z)) this
@[simp] theorem ev_ixs (l : List Nat) : itemsX (.str (S l)) = some (l.map fun c => .str (S [c])) := rfl
/-! ### two lists side by side -/
inductive All2 {α β : Type} (R : α → β → Prop) : List α → List β → Prop
  | nil : All2 R [] []
  | cons {a : α} {b : β} {l : List α} {m : List β} : R a b → All2 R l m → All2 R (a :: l) (b :: m)
theorem All2.imp {α β : Type} {R Q : α → β → Prop} (f : ∀ a b, R a b → Q a b) {l : List α} {m : List β} (h : All2 R l m) : All2 Q l m := by
  induction h with
  | nil => exact .nil
  | cons h _ ih => exact .cons (f _ _ h) ih
theorem All2.len {α β : Type} {R : α → β → Prop} {l : List α} {m : List β} (h : All2 R l m) : l.length = m.length := by
  induction h with
  | nil => rfl
  | cons _ _ ih => rw [List.length_cons, List.length_cons, ih]
theorem All2.same {α : Type} {R : α → α → Prop} : ∀ {l : List α}, (∀ a ∈ l, R a a) → All2 R l l
  | [], _ => .nil
  | a :: l, h => .cons (h a (List.mem_cons_self ..)) (All2.same fun b hb => h b (List.mem_cons_of_mem _ hb))
/-- a comprehension over one name that leaves the frame alone -/
theorem comp2 {α : Type} {i : Nat} {fe : Rho → R W} {g : α → W} {Q : W → α → Prop} {ρ : Rho} (h : ∀ w z, Q w z → fe (ρ.set i (.val w)) = .ok (g z) (ρ.set i (.val w))) :
    ∀ {ws : List W} {zs : List α} {acc : List W} {ρ' : Rho}, All2 Q ws zs → acc.length + ws.length ≤ sizeLine → ρ'.set i .no = ρ → compL [i] (CT.put (.nm i)) mYes fe acc ws ρ' = .ok (.fre, .lst (acc ++ zs.map g)) ρ
  | [], _, acc, ρ', .nil, hl, hr => by
    unfold compL
    rw [if_pos (show acc.length ≤ sizeLine from hl)]
    show R.ok _ (wipeR ρ' [i]) = _
    rw [show wipeR ρ' [i] = ρ'.set i .no from rfl, hr, List.map_nil, List.append_nil]
  | w :: ws, z :: zs, acc, ρ', .cons q qs, hl, hr => by
    have hl' : acc.length + (ws.length + 1) ≤ sizeLine := hl
    unfold compL
    rw [show wipeR ρ' [i] = ρ'.set i .no from rfl, hr]
    show (R.bind (mYes (ρ.set i (.val w))) _) = _
    rw [ev_yes, ev_bo, if_pos rfl, h w z q, ev_bo, if_pos (by omega)]
    rw [comp2 h qs (by rw [List.length_append, List.length_singleton]; omega) (by rw [List.set_set, ← hr, List.set_set]), List.append_assoc]
    rfl
/-- for over one name, an invariant along two lists -/
theorem for_inv {α : Type} {i : Nat} {g : Rho → R Fl} {Q : W → α → Prop} {P : List α → Rho → Prop} (hi : i ∉ ([] : List Nat) ∨ True) : ∀ {ws : List W} {zs : List α} {ρ : Rho}, All2 Q ws zs →
    (∀ w z zs' ρ, Q w z → P (z :: zs') ρ → ∃ ρ1, g (ρ.set i (.val w)) = .ok .nx ρ1 ∧ P zs' ρ1) → P zs ρ → ∃ ρ1, forL (fun w ρ => some (ρ.set i (.val w))) g ws ρ = .ok .nx ρ1 ∧ P [] ρ1
  | [], _, ρ, .nil, _, hp => ⟨ρ, rfl, hp⟩
  | w :: ws, z :: zs, ρ, .cons q qs, h, hp => by
    obtain ⟨ρ1, e, hp1⟩ := h w z zs ρ q hp
    obtain ⟨ρ2, e2, hp2⟩ := for_inv hi qs h hp1
    refine ⟨ρ2, ?_, hp2⟩
    show loopF (g (ρ.set i (.val w))) (forL _ g ws) = _
    rw [e]
    exact e2
theorem gset_is {I : List Nat} {i : Nat} (h : i ∉ I) : gSet I i = fun w ρ => some (ρ.set i (.val w)) := by
  funext w ρ
  unfold gSet
  rw [if_neg h]
@[simp] theorem cut_from (xs : List W) (n : Nat) : cutW xs (some (no_index (OfNat.ofNat n) : Int)) none = xs.drop n := by
  have e : ∀ n : Nat, cutW xs (some (n : Int)) none = xs.drop n := fun n => by
    unfold cutW
    rw [HT.sIx_nat, HT.sIx_none]
    by_cases h : n ≤ xs.length
    · rw [Nat.min_eq_left h, List.take_of_length_le (by rw [List.length_drop]; omega)]
    · rw [Nat.min_eq_right (by omega), List.drop_eq_nil_of_le (Nat.le_refl _), List.drop_eq_nil_of_le (by omega), List.take_nil]
  exact e n
@[simp] theorem cut_from1 (xs : List W) : cutW xs (some 1) none = xs.drop 1 := cut_from xs 1
@[simp] theorem ev_slT (l : List W) (lo hi : Option Int) : gSl (.tup l) lo hi = some (.val, .tup (cutW l lo hi)) := rfl
@[simp] theorem ev_slL (l : List W) (lo hi : Option Int) : gSl (.lst l) lo hi = some (.fre, .lst (cutW l lo hi)) := rfl
/-- [m(x) for x in ..] -/
theorem e_lc1 {α : Type} {m : List W → FR} {i : Nat} {f : Rho → R (Md × W)} {bs : List W} {zs : List α} {g : α → W} {ρ : Rho} (h : All2 (fun b z => m [b] = .ok false (g z) []) bs zs) (hf : f ρ = .ok (.val, .tup bs) ρ) (hi : i < ρ.length) (hn : ρ.set i .no = ρ) (hl : bs.length ≤ sizeLine) :
    mLc [] (mItems [] f) (.nm i) mYes (mCall [] [] m [mVar i]) ρ = .ok (.fre, .lst (zs.map g)) ρ := by
  have e1 : mLc [] (mItems [] f) (.nm i) mYes (mCall [] [] m [mVar i]) ρ = noExc (compL [i] (CT.put (.nm i)) mYes (mEl [] (mCall [] [] m [mVar i])) [] bs ρ) := by
    rw [ev_lc, ev_items, hf]
    simp [CT.ix]
  rw [e1, comp2 (g := g) (Q := fun b z => m [b] = .ok false (g z) []) (ρ := ρ) ?_ h (by simpa using hl) hn]
  · rfl
  · intro w z q
    have e2 : (ρ.set i (.val w))[i]? = some (.val w) := by rw [List.getElem?_set_self hi]
    simp [ev_var, e2, q]
end ML

set_option maxHeartbeats 4000000
namespace ML
open PySem PySem.Spec PyProof.Rows L2
variable {I : List Nat}
/-! ### a text many times -/
def rRepS : R2 := fun x y H Q => ∃ s n, x = .str s ∧ y = .int n ∧ 0 ≤ n ∧ n ≤ 10000 ∧ s.length ≤ 1000 ∧ Q (.str (Txt.mul s n)) H
theorem mulOk_small {s : Str} {n : Int} (h0 : 0 ≤ n) (h1 : n ≤ 10000) (h2 : s.length ≤ 1000) : MulOk s n := by
  refine ⟨by simp; omega, fun h3 _ => ?_, fun h3 _ => ?_⟩
  · have h4 : (92233720368547 : Int) ≤ (2 ^ 63 - 1) / n := by
      refine (Int.le_ediv_iff_mul_le (by omega)).mpr ?_
      omega
    omega
  · obtain ⟨k, rfl⟩ := Int.eq_ofNat_of_zero_le h0
    have h4 : s.length * k ≤ 1000 * 10000 := Nat.mul_le_mul h2 (by omega)
    have h5 : ((k : Int)).toNat = k := rfl
    rw [h5]
    have h6 : 1000 * 10000 ≤ (sizeLine : Nat) := by decide
    exact decide_eq_false (by omega)
theorem op_repS {X : Cx} : OpR X (binaryOp .Mult) rRepS := by
  intro pins s σ H x y v u Q I rx ry h
  obtain ⟨z, n, rfl, rfl, h0, h1, h2, q⟩ := h
  obtain ⟨t, rfl⟩ := rx
  obtain ⟨t2, rfl⟩ := ry
  exact SB.mul (mulOk_small h0 h1 h2) fun t' k => ⟨.str (Txt.mul z n), H, I.tok _, ⟨_, rfl⟩, q⟩
def gMulS : GW
  | .str s, .int n => if 0 ≤ n ∧ n ≤ 10000 ∧ s.length ≤ 1000 then some (.val, .str (Txt.mul s n)) else none
  | x, y => gMul x y
def rMulS : R2 := fun x y H Q => rRepS x y H Q ∨ rMulM x y H Q
theorem o_mulS {X : Cx} : OpR X (binaryOp .Mult) rMulS := OpR.or op_repS o_mul
theorem g_mulS {K : PySem.W.Frag} : OpW K rMulS gMulS := by
  intro x y m z e F H vx vy Q t px py q
  unfold gMulS at e
  split at e
  · split at e
    · rename_i h
      cases e; cases px.str; cases py.int
      exact .inl ⟨_, _, rfl, rfl, h.1, h.2.1, h.2.2, old_val t (K := K) (z := .str _) rfl q⟩
    · cases e
  · exact .inr (g_mul x y m z e F H vx vy Q t px py q)
/-! ### a fresh list, lent as the last argument -/
def finFr (I J : List Nat) (fm : List W → FR) (n : Nat) (ρ : Rho) (bs : List (Md × W)) : R (Md × W) := match callA I J 0 bs ρ with
  | .ok xs ρ3 => if (slotsX xs).Nodup ∧ posX 0 xs = J then (match resX ρ3 xs with
    | some args => (match fm args with
      | .ok fr w outs => .ok (if fr then .fre else .val, w) ((putOuts (slotsX xs) outs ρ3).take n)
      | .exc c ns ws outs => .exc c ns ws ((putOuts (slotsX xs) outs ρ3).take n)
      | .stk => .stk)
    | none => .stk) else .stk
  | _ => .stk
def mCallF (I J : List Nat) (fm : List W → FR) (fs : List (Rho → R (Md × W))) (fl : Rho → R (Md × W)) : Rho → R (Md × W) := fun ρ => (mHold fs ρ).bind fun bs ρ1 => (fl ρ1).bind fun b ρ2 => match b with
  | (.fre, w) => finFr I J fm ρ2.length (ρ2 ++ [.own w]) (bs ++ [(.bor ρ2.length, w)])
  | _ => .stk
def tMAF (K : PySem.W.Frag) (Y : Yx I) (fs : List (Rho → R (Md × W))) (fl : Rho → R (Md × W)) : TA := fun σ H Q => ∃ F ρ, SR K Y.B F H σ ρ ∧ RunG K Y F H σ (mHold fs ρ) fun bs ρ1 F1 H1 => RunG K Y F1 H1 σ (fl ρ1) fun b ρ2 F2 H2 =>
  ∀ F3 vs v, SR K Y.B F3 H2 σ ρ2 → Keeps F2 H2 F3 H2 → HeldL σ K F3 H2 bs vs → VR K Y.B F3 H2 σ ρ2 b.1 b.2 v → Q (vs ++ [v]) H2
def PAMF (X : Cx) (Y : Yx I) (es : List Expr) (fs : List (Rho → R (Md × W))) (fl : Rho → R (Md × W)) : Prop := PA X es (tMAF X.K Y fs fl)
section
variable {X : Cx} {Y : Yx I} {e : Expr} {es : List Expr} {f fl : Rho → R (Md × W)} {fs : List (Rho → R (Md × W))}
theorem pamf_one (h1 : PEM X Y e fl) (hs : starEach [e] X.env = (false, eval e X.env) :: starEach [] X.env := by rfl) : PAMF X Y [e] [] fl := pa_weak (pa_cons h1 pa_nil hs) fun σ H Q hq => by
  obtain ⟨F, ρ, S, q⟩ := hq
  refine ⟨F, ρ, S, (show RunG _ Y F H σ (fl ρ) _ from q F H S .refl).imp fun b ρ1 F1 H1 S1 k1 q1 v hv => ?_⟩
  exact q1 F1 [] v S1 .refl rfl hv
theorem pamf_cons (h1 : PEM X Y e f) (h2 : PAMF X Y es fs fl) (hs : starEach (e :: es) X.env = (false, eval e X.env) :: starEach es X.env := by rfl) : PAMF X Y (e :: es) (f :: fs) fl := pa_weak (pa_cons h1 h2 hs) fun σ H Q hq => by
  obtain ⟨F, ρ, S, q⟩ := hq
  refine ⟨F, ρ, S, (RunG.bind q).imp fun b ρ1 F1 H1 S1 k1 q1 v hv => ?_⟩
  obtain ⟨F1', S1', k1', hd1⟩ := S1.hold hv
  refine ⟨F1', ρ1, S1', (RunG.bind (q1.rebase k1')).imp fun bs ρ2 F2 H2 S2 k2 q2 => ?_⟩
  exact (show RunG _ Y F2 H2 σ (fl ρ2) _ from q2 F2 H2 S2 .refl).imp fun c ρ3 F3 H3 S3 k3 q3 F4 vs u S4 k4 hvs hu => q3 F4 (v :: vs) u S4 k4 ⟨v, vs, rfl, hd1.mono ((k2.trans k3).trans k4), hvs⟩ hu
end
section
variable {K : PySem.W.Frag} {B : Bd} {F : Fz} {H : Hp} {σ : L2.St} {ρ : Rho}
theorem SR.plus (S : SR K B F H σ ρ) {w : W} {v : V} (h : Fre K B F H σ ρ w v) : SR K B F H (σ ++ [some v]) (ρ ++ [.own w]) := by
  obtain ⟨a, rfl, o, nf, h0, hs⟩ := h
  have new : ∀ {j : Nat} {u : W}, (ρ ++ [Sl.own w])[j]? = some (.own u) → (σ ++ [some (.ref a)])[j]? = some (some (.ref a)) → j = ρ.length := fun {j u} h1 h2 => by
    by_cases lt : j < ρ.length
    · rw [List.getElem?_append_left lt] at h1
      rw [List.getElem?_append_left (by rw [S.len]; exact lt)] at h2
      exact absurd h2 (hs j u h1)
    · have : j < (ρ ++ [Sl.own w]).length := (List.getElem?_eq_some_iff.mp h1).1
      simp at this
      omega
  refine ⟨by simp [S.len], fun i s h => ?_, fun i j u u' b h1 h2 e1 e2 => ?_, fun p hp => ?_, S.ext, S.alive, S.f0, S.f1, S.f2⟩
  · by_cases lt : i < ρ.length
    · rw [List.getElem?_append_left lt] at h
      rw [List.getElem?_append_left (by rw [S.len]; exact lt)]
      exact S.slot i s h
    · have : i < (ρ ++ [Sl.own w]).length := (List.getElem?_eq_some_iff.mp h).1
      have e : i = ρ.length := by simp at this; omega
      subst e
      rw [List.getElem?_append_right (Nat.le_refl _), Nat.sub_self] at h
      cases (Option.some.inj h)
      rw [← S.len, List.getElem?_append_right (Nat.le_refl _), Nat.sub_self]
      exact ⟨a, rfl, o, nf, fun k => k.1 h0⟩
  · by_cases li : i < ρ.length
    · by_cases lj : j < ρ.length
      · rw [List.getElem?_append_left li] at h1
        rw [List.getElem?_append_left lj] at h2
        rw [List.getElem?_append_left (by rw [S.len]; exact li)] at e1
        rw [List.getElem?_append_left (by rw [S.len]; exact lj)] at e2
        exact S.sep i j u u' b h1 h2 e1 e2
      · have : j < (ρ ++ [Sl.own w]).length := (List.getElem?_eq_some_iff.mp h2).1
        have e : j = ρ.length := by simp at this; omega
        have e2' := e2
        rw [e, ← S.len, List.getElem?_append_right (Nat.le_refl _), Nat.sub_self] at e2'
        have eb : a = b := by simpa using e2'
        subst eb
        rw [e]
        exact new h1 e1
    · have : i < (ρ ++ [Sl.own w]).length := (List.getElem?_eq_some_iff.mp h1).1
      have e : i = ρ.length := by simp at this; omega
      have e1' := e1
      rw [e, ← S.len, List.getElem?_append_right (Nat.le_refl _), Nat.sub_self] at e1'
      have eb : a = b := by simpa using e1'
      subst eb
      rw [e, new h2 e2]
  · obtain ⟨h1, u, h2⟩ := S.lent p hp
    have l1 : p.1 < σ.length := (List.getElem?_eq_some_iff.mp h1).1
    have l2 : p.1 < ρ.length := (List.getElem?_eq_some_iff.mp h2).1
    exact ⟨by rw [List.getElem?_append_left l1]; exact h1, u, by rw [List.getElem?_append_left l2]; exact h2⟩
theorem SR.minus {F' : Fz} {H' : Hp} {σ' : L2.St} {ρ' : Rho} (S : SR K B F' H' (σ ++ σ') ρ') (hI : ∀ p ∈ B.I, p.1 < σ.length) : SR K B F' H' σ (ρ'.take σ.length) := by
  have at_ : ∀ {i : Nat} {s : Sl}, (ρ'.take σ.length)[i]? = some s → i < σ.length ∧ ρ'[i]? = some s := fun {i s} h => by
    rw [List.getElem?_take] at h
    split at h
    · exact ⟨by assumption, h⟩
    · cases h
  refine ⟨?_, fun i s h => ?_, fun i j u u' b h1 h2 e1 e2 => ?_, fun p hp => ?_, S.ext, S.alive, S.f0, S.f1, S.f2⟩
  · rw [List.length_take, ← S.len, List.length_append]; omega
  · obtain ⟨l, h1⟩ := at_ h
    have := S.slot i s h1
    rwa [List.getElem?_append_left l] at this
  · obtain ⟨l1, g1⟩ := at_ h1
    obtain ⟨l2, g2⟩ := at_ h2
    exact S.sep i j u u' b g1 g2 (by rw [List.getElem?_append_left l1]; exact e1) (by rw [List.getElem?_append_left l2]; exact e2)
  · obtain ⟨h1, u, h2⟩ := S.lent p hp
    have l := hI p hp
    rw [List.getElem?_append_left l] at h1
    exact ⟨h1, u, by rw [List.getElem?_take, if_pos l]; exact h2⟩
end
theorem HeldL.plus {σ : L2.St} {K : PySem.W.Frag} {F : Fz} {H : Hp} {v : V} : ∀ {bs : List (Md × W)} {vs : List V}, HeldL σ K F H bs vs → HeldL (σ ++ [some v]) K F H bs vs
  | [], _, h => h
  | (m, w) :: bs, _, ⟨u, r, e, h1, h2⟩ => ⟨u, r, e, by
      cases m with
      | val => exact h1
      | fre => exact h1
      | bor i =>
        have h3 : σ[i]? = some (some u) := h1
        show (σ ++ [some v])[i]? = some (some u)
        rw [List.getElem?_append_left (List.getElem?_eq_some_iff.mp h3).1]
        exact h3, HeldL.plus h2⟩
theorem HeldL.snoc {σ : L2.St} {K : PySem.W.Frag} {F : Fz} {H : Hp} {b : Md × W} {v : V} (hb : Held σ K F H b.1 b.2 v) : ∀ {bs : List (Md × W)} {vs : List V}, HeldL σ K F H bs vs → HeldL σ K F H (bs ++ [b]) (vs ++ [v])
  | [], _, h => by
    have e : _ = [] := h
    subst e
    exact ⟨v, [], rfl, hb, rfl⟩
  | c :: bs, _, ⟨u, r, e, h1, h2⟩ => ⟨u, r ++ [v], by rw [e]; rfl, h1, HeldL.snoc hb h2⟩
theorem HeldL.len {σ : L2.St} {K : PySem.W.Frag} {F : Fz} {H : Hp} : ∀ {bs : List (Md × W)} {vs : List V}, HeldL σ K F H bs vs → vs.length = bs.length
  | [], _, h => by have e : _ = [] := h; rw [e]; rfl
  | b :: bs, _, ⟨v, r, e, _, h⟩ => by rw [e, List.length_cons, List.length_cons, HeldL.len h]
theorem mHold_len : ∀ {fs : List (Rho → R (Md × W))} {ρ ρ' : Rho} {bs : List (Md × W)}, mHold fs ρ = .ok bs ρ' → bs.length = fs.length
  | [], _, _, _, e => by cases e; rfl
  | f :: fs, ρ, ρ', bs, e => by
    have e1 : (f ρ).bind (fun b ρ1 => (mHold fs ρ1).bind fun bs ρ2 => .ok (b :: bs) ρ2) = .ok bs ρ' := e
    cases q1 : f ρ with
    | ok b ρ1 =>
      rw [q1] at e1
      have e2 : (mHold fs ρ1).bind (fun bs ρ2 => R.ok (b :: bs) ρ2) = .ok bs ρ' := e1
      cases q2 : mHold fs ρ1 with
      | ok bs1 ρ2 =>
        rw [q2] at e2
        cases e2
        rw [List.length_cons, List.length_cons, mHold_len q2]
      | exc c ns ws ρ2 => rw [q2] at e2; cases e2
      | stk => rw [q2] at e2; cases e2
    | exc c ns ws ρ1 => rw [q1] at e1; cases e1
    | stk => rw [q1] at e1; cases e1
theorem callF_of {K : PySem.W.Frag} {Y : Yx I} {J : List Nat} {np : Nat} {fm : List W → FR} {fs : List (Rho → R (Md × W))} {fl : Rho → R (Md × W)} {σ : L2.St} {H : Hp} {Q : VK} (hnp : fs.length + 1 = np) (hq : tM K Y (mCallF I J fm fs fl) σ H Q) :
    tMAF K Y fs fl σ H fun vs H1 => spM K Y.ct J np fm vs H1 Q (WE Y.wx σ) := by
  obtain ⟨F, ρ, S, q⟩ := hq
  have hb := RunG.bind q
  have hb2 := RunG.withP (p := fun bs => bs.length + 1 = np) (fun bs ρ1 e => by rw [mHold_len e, hnp]) hb
  refine ⟨F, ρ, S, hb2.imp fun bs ρ1 F1 H1 S1 k1 ⟨hlen, q1⟩ => (RunG.bind q1).imp fun b ρb Fb Hb Sb kb q2 F2 vs v S2 k2 hvs hv => ?_⟩
  replace q2 := q2.rebase k2
  obtain ⟨m, wl⟩ := b
  cases m with
  | val => exact q2.elim
  | bor i => exact q2.elim
  | fre =>
    have SP := S2.plus hv
    have hn : σ.length = ρb.length := S2.len
    have hI : ∀ p ∈ Y.B.I, p.1 < σ.length := fun p hp => (List.getElem?_eq_some_iff.mp (S2.lent p hp).1).1
    have HV : HeldL (σ ++ [some v]) K F2 Hb (bs ++ [(.bor ρb.length, wl)]) (vs ++ [v]) := (hvs.plus).snoc (b := (.bor ρb.length, wl)) (by
      show (σ ++ [some v])[ρb.length]? = some (some v)
      rw [← hn, List.getElem?_append_right (Nat.le_refl _), Nat.sub_self]
      rfl)
    have vl : (vs ++ [v]).length = np := by rw [HV.len, List.length_append]; exact hlen
    replace q2 : RunG K Y F2 Hb σ (finFr I J fm ρb.length (ρb ++ [.own wl]) (bs ++ [(.bor ρb.length, wl)])) _ := q2
    unfold finFr at q2
    cases ec : callA I J 0 (bs ++ [(.bor ρb.length, wl)]) (ρb ++ [.own wl]) with
    | stk => rw [ec] at q2; exact q2.elim
    | exc c ns ws ρx => rw [ec] at q2; exact q2.elim
    | ok xs ρ3 =>
      rw [ec] at q2
      dsimp only at q2
      obtain ⟨F3, xs', ρ3', S3, k3, xr, e1, e2⟩ := callA_ok (Y := Y) (J := J) (P := fun xs' ρ' _ _ => xs' = xs ∧ ρ' = ρ3) SP HV (by rw [ec]; exact fun _ _ _ _ => ⟨rfl, rfl⟩)
      subst e1 e2
      replace q2 := q2.rebase k3
      split at q2
      · rename_i hc
        cases er : resX ρ3' xs' with
        | none => rw [er] at q2; exact q2.elim
        | some args =>
          rw [er] at q2
          dsimp only at q2
          obtain ⟨g1, g2, g3⟩ := x_lent S3 (k := 0) xr er
          have el : lentA J (vs ++ [v]) = (lentX 0 xs' (vs ++ [v])).map fun t => (t.1, t.2.2) := by
            rw [← hc.2, ← g1]
            exact lentA_eq fun t ht => by have := (g3 t ht).2.1; rwa [Nat.sub_zero] at this
          have hl : ∀ (t : Nat × Nat × Addr), t ∈ lentX 0 xs' (vs ++ [v]) → (σ ++ [some v])[t.2.1]? = some (some (.ref t.2.2)) ∧ ∃ w, ρ3'[t.2.1]? = some (.own w) := fun t ht => (g3 t ht).2.2
          have nd : ((lentX 0 xs' (vs ++ [v])).map (·.2.1)).Nodup := by rw [g2]; exact hc.1
          refine ⟨F3, args, vl, S3.f2, x_args S3 xr er (fun j hj _ => by rw [hc.2]; exact hj) (fun j hj => by rw [hc.2] at hj; exact hj), ⟨?_, ?_⟩, ?_⟩
          · rw [el, List.map_map]
            show (lentX 0 xs' (vs ++ [v])).map (·.1) = J
            rw [g1, hc.2]
          · rw [el]
            intro p hp q hq epq
            obtain ⟨t, ht, et⟩ := List.mem_map.mp hp
            obtain ⟨u, hu, eu⟩ := List.mem_map.mp hq
            subst et
            subst eu
            obtain ⟨h1, w1, h2⟩ := hl t ht
            obtain ⟨h3, w2, h4⟩ := hl u hu
            have e1 : t.2.2 = u.2.2 := epq
            rw [← e1] at h3
            have es := S3.sep _ _ _ _ _ h2 h4 h1 h3
            obtain ⟨n, en⟩ := List.mem_iff_getElem?.mp ht
            obtain ⟨m, em⟩ := List.mem_iff_getElem?.mp hu
            have nm := nodup_get nd (i := n) (j := m) (x := t.2.1) (by rw [List.getElem?_map, en]; rfl) (by rw [List.getElem?_map, em, es]; rfl)
            subst nm
            rw [en] at em
            cases em
            rfl
          · have eA : (lentA J (vs ++ [v])).map (·.2) = (lentX 0 xs' (vs ++ [v])).map (·.2.2) := by
              rw [el, List.map_map]
              rfl
            rw [eA, el]
            cases ef : fm args with
            | stk => rw [ef] at q2; exact q2.elim
            | exc c ns ws outs =>
              rw [ef] at q2
              intro F' H' d ee oo x
              obtain ⟨S4, k4⟩ := sr_called S3 hl nd ee oo
              rw [g2] at S4
              have S5 := S4.minus hI
              rw [hn] at S5
              exact q2 F' H' d S5 x
            | ok fr w outs =>
              rw [ef] at q2
              intro F' H' u ee oo hu
              obtain ⟨S4, k4⟩ := sr_called S3 hl nd ee oo
              rw [g2] at S4
              have S5 := S4.minus hI
              rw [hn] at S5
              refine q2 F' H' S5 k4 u ?_
              cases fr with
              | false => exact hu
              | true =>
                obtain ⟨a, ea, o, nf, h0⟩ := hu
                refine ⟨a, ea, o, nf, ?_, fun i w' hi ei => ?_⟩
                · cases q5 : Y.B.H0 a with
                  | none => rfl
                  | some u => exact absurd h0 (S3.alive a (by rw [q5]; exact (fun z => nomatch z)))
                · have li : i < σ.length := (List.getElem?_eq_some_iff.mp ei).1
                  rw [List.getElem?_take, if_pos (by rw [← hn]; exact li)] at hi
                  have ei2 : (σ ++ [some v])[i]? = some (some (.ref a)) := by rw [List.getElem?_append_left li]; exact ei
                  have q6 : ∃ w0, ρ3'[i]? = some (.own w0) := by
                    have hlen2 : outs.length = (slotsX xs').length := by rw [oo.1, ← g2, List.length_map, List.length_map]
                    obtain ⟨_, p2⟩ := putOuts_get (ρ := ρ3') hc.1 hlen2 fun i hi => by
                      rw [← g2] at hi
                      obtain ⟨t, ht, et⟩ := List.mem_map.mp hi
                      obtain ⟨_, w, h2⟩ := hl t ht
                      rw [← et]
                      exact (List.getElem?_eq_some_iff.mp h2).1
                    rcases p2 i with ⟨n, u, e1, _, _⟩ | ⟨_, e1⟩
                    · rw [← g2, List.getElem?_map] at e1
                      obtain ⟨t, et, e1⟩ := Option.map_eq_some_iff.mp e1
                      obtain ⟨_, w0, h2⟩ := hl t (List.mem_of_getElem? et)
                      rw [e1] at h2
                      exact ⟨w0, h2⟩
                    · rw [e1] at hi
                      exact ⟨w', hi⟩
                  obtain ⟨w0, h6⟩ := q6
                  obtain ⟨b, eb, ob, _⟩ := S3.slot i _ h6
                  rw [ei2] at eb
                  cases eb
                  obtain ⟨u, hu, _⟩ := ob.some
                  rw [h0] at hu
                  cases hu
      · exact q2.elim
section
variable {X : Cx} {Y : Yx I} {J : List Nat} {k : Nat} {f : Addr} {fd : FuncData} {ps : List Str} {np : Nat} {fm : List W → FR} {x : Str} {p pos : Pos} {e : Expr} {es : List Expr} {fs : List (Rho → R (Md × W))} {fl : Rho → R (Md × W)}
theorem pem_callF (F : FnOk X.prog X.w X.K X.mg X.base (L2.CX X.prog X.w) k f fd ps (spM X.K Y.ct J np fm)) (hr : Room k X.A) (tk : Takes X Y.wx) (hg : Gl X x) (hm : X.mg x = some (.ref f)) (hk : PySem.W.keepIn X.K (.ref f) = true) (hb : Binds X.K fd ps [])
    (ha : PAMF X Y (e :: es) fs fl) (hn : fs.length + 1 = np) (hdb : (x == ("__debug__" : Str)) = false := by decide) (he : starEach (e :: es) X.env = (false, eval e X.env) :: starEach es X.env := by rfl) (hpl : (backTo pos (starEach es X.env)).any (·.1) = false := by rfl) :
    PEM X Y (.Call (.Name x p) (e :: es) [] pos) (mCallF I J fm fs fl) := pe_weak (pe_callS F hr hg hm hk hb (fun σ => passAt tk σ) ha hdb he hpl) fun _ _ _ hq => callF_of hn hq
end
section
variable {X : Cx} {Y : Yx I} {ct : Str → Addr} {k : Nat} {x : Str} {ps : List Str} {J : List Nat} {fm : List W → FR} {p pos : Pos} {e : Expr} {es : List Expr} {fs : List (Rho → R (Md × W))} {fl : Rho → R (Md × W)}
theorem pem_callFD (D : Def X.prog X.w X.K X.mg X.base ct k x ps J fm) (hct : Y.ct = ct) (hr : Room k X.A) (tk : Takes X Y.wx) (hg : Gl X x) (ha : PAMF X Y (e :: es) fs fl) (hn : fs.length + 1 = ps.length)
    (hdb : (x == ("__debug__" : Str)) = false := by decide) (he : starEach (e :: es) X.env = (false, eval e X.env) :: starEach es X.env := by rfl) (hpl : (backTo pos (starEach es X.env)).any (·.1) = false := by rfl) :
    PEM X Y (.Call (.Name x p) (e :: es) [] pos) (mCallF I J fm fs fl) := by
  obtain ⟨f, fd, h1, h2, h3, h4, _⟩ := D
  subst hct
  exact pem_callF h4 hr tk hg h1 h2 h3 ha hn hdb he hpl
end
end ML

set_option maxHeartbeats 4000000
namespace K06
open PySem PySem.Spec PyProof.Rows L2 ML

def top (i : Nat) : Stmt := PySem.Challenge.pw_heardsaid_k06_read_freely.main.body.getD i (.Pass ⟨0, 0, 0, 0⟩)
abbrev s_frozen : Stmt := top 4
abbrev s_is_name : Stmt := top 9
abbrev s_is_number : Stmt := top 17
abbrev s_kind_of_piece : Stmt := top 18
abbrev s_piece_at : Stmt := top 19
abbrev s_tokens : Stmt := top 20
abbrev s_passed : Stmt := top 25
abbrev s_enclosed : Stmt := top 26
abbrev s_after_name : Stmt := top 27
abbrev s_arguments_at : Stmt := top 28
abbrev s_in_parentheses : Stmt := top 29
abbrev s_if_at : Stmt := top 30
abbrev s_while_at : Stmt := top 31
abbrev s_new_at : Stmt := top 32
abbrev s_parameter_at : Stmt := top 33
abbrev s_parameters_at : Stmt := top 34
abbrev s_let_at : Stmt := top 35
abbrev s_item_at : Stmt := top 37
abbrev s_sequence_at : Stmt := top 38
abbrev s_read_block : Stmt := top 39
abbrev s_parts_of : Stmt := top 42
abbrev s_grouped : Stmt := top 45
abbrev s_text_of_leaf : Stmt := top 46
abbrev s_text_of_binding : Stmt := top 47
abbrev s_text_of : Stmt := top 48
abbrev s_write_block : Stmt := top 49
abbrev s__law_whole : Stmt := top 51
abbrev s__law_cell : Stmt := top 52
abbrev s__law_digits : Stmt := top 53
abbrev s__law_reader : Stmt := top 54
abbrev s__law_next : Stmt := top 55
abbrev s__law_reserved : Stmt := top 56
abbrev s__law_name : Stmt := top 57
abbrev s__law_names : Stmt := top 58
abbrev s__law_split : Stmt := top 59
abbrev s__law_number : Stmt := top 60
abbrev s__law_any_leaf : Stmt := top 61
abbrev s__law_parameters : Stmt := top 62
abbrev s__law_any : Stmt := top 63
abbrev s__law_around : Stmt := top 64
abbrev s__law_layered : Stmt := top 65
abbrev s__law_grouped : Stmt := top 66
abbrev s__law_head : Stmt := top 67
abbrev s__law_text : Stmt := top 68
abbrev s__law_wrapped : Stmt := top 69
abbrev s__law_item : Stmt := top 70
abbrev s__law_sequence : Stmt := top 71
abbrev s__law_listing : Stmt := top 72
abbrev s__law_row : Stmt := top 73
abbrev s__law_merging : Stmt := top 74
abbrev s__law_joined : Stmt := top 75
abbrev s__law_same : Stmt := top 76
abbrev s__law_built : Stmt := top 77
abbrev s__law_free_text : Stmt := top 78
abbrev s__law_read : Stmt := top 79
abbrev s_law : Stmt := top 80
abbrev s_BadText___init__ : Stmt := inClass (top 2) 0

abbrev k_SIGNS_reading : List Str := ["+", "=", "<"]
abbrev w_SIGNS_reading : List W := [.str "plus", .str "equal", .str "less"]
abbrev k_LEAVES_reading : List Str := ["skip", "quit", "[]"]
abbrev w_LEAVES_reading : List W := [.tup [.str "skip"], .tup [.str "quit"], .tup [.str "hole"]]
abbrev k_FORMS : List Str := ["(", "if", "while", "new", "let"]
abbrev w_FORMS : List W := [.fn "in_parentheses", .fn "if_at", .fn "while_at", .fn "new_at", .fn "let_at"]
abbrev k_SIGNS_writing : List Str := ["plus", "equal", "less"]
abbrev w_SIGNS_writing : List W := [.str " + ", .str " = ", .str " < "]
structure Txt (w : World) (K : PySem.W.Frag) (mg : Str → Option Value) : Prop where
  s_frozen : Src K mg "frozen" s_frozen
  s_is_name : Src K mg "is_name" s_is_name
  s_is_number : Src K mg "is_number" s_is_number
  s_kind_of_piece : Src K mg "kind_of_piece" s_kind_of_piece
  s_piece_at : Src K mg "piece_at" s_piece_at
  s_tokens : Src K mg "tokens" s_tokens
  s_passed : Src K mg "passed" s_passed
  s_enclosed : Src K mg "enclosed" s_enclosed
  s_after_name : Src K mg "after_name" s_after_name
  s_arguments_at : Src K mg "arguments_at" s_arguments_at
  s_in_parentheses : Src K mg "in_parentheses" s_in_parentheses
  s_if_at : Src K mg "if_at" s_if_at
  s_while_at : Src K mg "while_at" s_while_at
  s_new_at : Src K mg "new_at" s_new_at
  s_parameter_at : Src K mg "parameter_at" s_parameter_at
  s_parameters_at : Src K mg "parameters_at" s_parameters_at
  s_let_at : Src K mg "let_at" s_let_at
  s_item_at : Src K mg "item_at" s_item_at
  s_sequence_at : Src K mg "sequence_at" s_sequence_at
  s_read_block : Src K mg "read_block" s_read_block
  s_parts_of : Src K mg "parts_of" s_parts_of
  s_grouped : Src K mg "grouped" s_grouped
  s_text_of_leaf : Src K mg "text_of_leaf" s_text_of_leaf
  s_text_of_binding : Src K mg "text_of_binding" s_text_of_binding
  s_text_of : Src K mg "text_of" s_text_of
  s_write_block : Src K mg "write_block" s_write_block
  s__law_whole : Src K mg "_law_whole" s__law_whole
  s__law_cell : Src K mg "_law_cell" s__law_cell
  s__law_digits : Src K mg "_law_digits" s__law_digits
  s__law_reader : Src K mg "_law_reader" s__law_reader
  s__law_next : Src K mg "_law_next" s__law_next
  s__law_reserved : Src K mg "_law_reserved" s__law_reserved
  s__law_name : Src K mg "_law_name" s__law_name
  s__law_names : Src K mg "_law_names" s__law_names
  s__law_split : Src K mg "_law_split" s__law_split
  s__law_number : Src K mg "_law_number" s__law_number
  s__law_any_leaf : Src K mg "_law_any_leaf" s__law_any_leaf
  s__law_parameters : Src K mg "_law_parameters" s__law_parameters
  s__law_any : Src K mg "_law_any" s__law_any
  s__law_around : Src K mg "_law_around" s__law_around
  s__law_layered : Src K mg "_law_layered" s__law_layered
  s__law_grouped : Src K mg "_law_grouped" s__law_grouped
  s__law_head : Src K mg "_law_head" s__law_head
  s__law_text : Src K mg "_law_text" s__law_text
  s__law_wrapped : Src K mg "_law_wrapped" s__law_wrapped
  s__law_item : Src K mg "_law_item" s__law_item
  s__law_sequence : Src K mg "_law_sequence" s__law_sequence
  s__law_listing : Src K mg "_law_listing" s__law_listing
  s__law_row : Src K mg "_law_row" s__law_row
  s__law_merging : Src K mg "_law_merging" s__law_merging
  s__law_joined : Src K mg "_law_joined" s__law_joined
  s__law_same : Src K mg "_law_same" s__law_same
  s__law_built : Src K mg "_law_built" s__law_built
  s__law_free_text : Src K mg "_law_free_text" s__law_free_text
  s__law_read : Src K mg "_law_read" s__law_read
  s_law : Src K mg "law" s_law
  b_int : mg "int" = none
  b_str : mg "str" = none
  b_tuple : mg "tuple" = none
  b_list : mg "list" = none
  b_bool : mg "bool" = none
  b_len : mg "len" = none
  b_min : mg "min" = none
  b_isinstance : mg "isinstance" = none
  b_range : mg "range" = none
  b_reversed : mg "reversed" = none
  b_all : mg "all" = none
  d_SIGNS_reading : GDctF w K mg "SIGNS_reading" k_SIGNS_reading w_SIGNS_reading
  d_LEAVES_reading : GDctF w K mg "LEAVES_reading" k_LEAVES_reading w_LEAVES_reading
  d_FORMS : GDctF w K mg "FORMS" k_FORMS w_FORMS
  d_SIGNS_writing : GDctF w K mg "SIGNS_writing" k_SIGNS_writing w_SIGNS_writing
  c_LETTERS : ∃ u, mg "LETTERS" = some u ∧ RelV (.str "abcdefghijklmnopqrstuvwxyz") u
  c_DIGITS : ∃ u, mg "DIGITS" = some u ∧ RelV (.str "0123456789") u
  c_NAME : ∃ u, mg "NAME" = some u ∧ RelV (.str "NAME") u
  c_NUMBER : ∃ u, mg "NUMBER" = some u ∧ RelV (.str "NUMBER") u
  c_BAD : ∃ u, mg "BAD" = some u ∧ RelV (.str "BAD") u
  c_END : ∃ u, mg "END" = some u ∧ RelV (.str "END") u
  c_RESERVED : ∃ a, mg "RESERVED" = some (.ref a) ∧ TupK K a [.str "skip", .str "quit", .str "if", .str "then", .str "else", .str "fi", .str "while", .str "do", .str "od", .str "new", .str "in", .str "end", .str "let", .str "be", .str "command", .str "number"] 
  c_SYMBOLS : ∃ a, mg "SYMBOLS" = some (.ref a) ∧ TupK K a [.str ":=", .str ";", .str ",", .str "(", .str ")", .str "+", .str "=", .str "<", .str "[]"] 
  c_SPACES : ∃ a, mg "SPACES" = some (.ref a) ∧ TupK K a [.str " ", .str "\n"] 
  c_KINDS : ∃ a, mg "KINDS" = some (.ref a) ∧ TupK K a [.str "command", .str "number"] 
  c_LEAVES_blocks : ∃ a, mg "LEAVES_blocks" = some (.ref a) ∧ TupK K a [.str "skip", .str "quit", .str "number", .str "get", .str "hole"] 
abbrev w_LETTERS : W := .str "abcdefghijklmnopqrstuvwxyz"
abbrev w_DIGITS : W := .str "0123456789"
abbrev w_NAME : W := .str "NAME"
abbrev w_NUMBER : W := .str "NUMBER"
abbrev w_BAD : W := .str "BAD"
abbrev w_END : W := .str "END"
abbrev w_RESERVED : W := .tup [.str "skip", .str "quit", .str "if", .str "then", .str "else", .str "fi", .str "while", .str "do", .str "od", .str "new", .str "in", .str "end", .str "let", .str "be", .str "command", .str "number"]
abbrev w_SYMBOLS : W := .tup [.str ":=", .str ";", .str ",", .str "(", .str ")", .str "+", .str "=", .str "<", .str "[]"]
abbrev w_SPACES : W := .tup [.str " ", .str "\n"]
abbrev w_KINDS : W := .tup [.str "command", .str "number"]
abbrev w_LEAVES_blocks : W := .tup [.str "skip", .str "quit", .str "number", .str "get", .str "hole"]
section
variable {X : Cx} {I : List Nat} {Y : Yx I} {pos : Pos}
theorem pg_LETTERS (T : Txt X.w X.K X.mg) (hg : Gl X "LETTERS" := by rfl) : PEM X Y (.Name "LETTERS" pos) (mC w_LETTERS) := pem_gc T.c_LETTERS hg fun _ _ => rfl
theorem pg_DIGITS (T : Txt X.w X.K X.mg) (hg : Gl X "DIGITS" := by rfl) : PEM X Y (.Name "DIGITS" pos) (mC w_DIGITS) := pem_gc T.c_DIGITS hg fun _ _ => rfl
theorem pg_NAME (T : Txt X.w X.K X.mg) (hg : Gl X "NAME" := by rfl) : PEM X Y (.Name "NAME" pos) (mC w_NAME) := pem_gc T.c_NAME hg fun _ _ => rfl
theorem pg_NUMBER (T : Txt X.w X.K X.mg) (hg : Gl X "NUMBER" := by rfl) : PEM X Y (.Name "NUMBER" pos) (mC w_NUMBER) := pem_gc T.c_NUMBER hg fun _ _ => rfl
theorem pg_BAD (T : Txt X.w X.K X.mg) (hg : Gl X "BAD" := by rfl) : PEM X Y (.Name "BAD" pos) (mC w_BAD) := pem_gc T.c_BAD hg fun _ _ => rfl
theorem pg_END (T : Txt X.w X.K X.mg) (hg : Gl X "END" := by rfl) : PEM X Y (.Name "END" pos) (mC w_END) := pem_gc T.c_END hg fun _ _ => rfl
theorem pg_RESERVED (T : Txt X.w X.K X.mg) (hg : Gl X "RESERVED" := by rfl) : PEM X Y (.Name "RESERVED" pos) (mC w_RESERVED) := by
  obtain ⟨a, h1, h2⟩ := T.c_RESERVED
  exact pem_gt ⟨a, h1, h2, .cons rfl (.cons rfl (.cons rfl (.cons rfl (.cons rfl (.cons rfl (.cons rfl (.cons rfl (.cons rfl (.cons rfl (.cons rfl (.cons rfl (.cons rfl (.cons rfl (.cons rfl (.cons rfl RepL.nil)))))))))))))))⟩ hg
theorem pg_SYMBOLS (T : Txt X.w X.K X.mg) (hg : Gl X "SYMBOLS" := by rfl) : PEM X Y (.Name "SYMBOLS" pos) (mC w_SYMBOLS) := by
  obtain ⟨a, h1, h2⟩ := T.c_SYMBOLS
  exact pem_gt ⟨a, h1, h2, .cons rfl (.cons rfl (.cons rfl (.cons rfl (.cons rfl (.cons rfl (.cons rfl (.cons rfl (.cons rfl RepL.nil))))))))⟩ hg
theorem pg_SPACES (T : Txt X.w X.K X.mg) (hg : Gl X "SPACES" := by rfl) : PEM X Y (.Name "SPACES" pos) (mC w_SPACES) := by
  obtain ⟨a, h1, h2⟩ := T.c_SPACES
  exact pem_gt ⟨a, h1, h2, .cons rfl (.cons rfl RepL.nil)⟩ hg
theorem pg_KINDS (T : Txt X.w X.K X.mg) (hg : Gl X "KINDS" := by rfl) : PEM X Y (.Name "KINDS" pos) (mC w_KINDS) := by
  obtain ⟨a, h1, h2⟩ := T.c_KINDS
  exact pem_gt ⟨a, h1, h2, .cons rfl (.cons rfl RepL.nil)⟩ hg
theorem pg_LEAVES_blocks (T : Txt X.w X.K X.mg) (hg : Gl X "LEAVES_blocks" := by rfl) : PEM X Y (.Name "LEAVES_blocks" pos) (mC w_LEAVES_blocks) := by
  obtain ⟨a, h1, h2⟩ := T.c_LEAVES_blocks
  exact pem_gt ⟨a, h1, h2, .cons rfl (.cons rfl (.cons rfl (.cons rfl (.cons rfl RepL.nil))))⟩ hg
end

end K06
namespace K06
open PySem PySem.Spec PyProof.Rows L2 ML
def d_frozen : He.DefD := ⟨("frozen", none), "frozen", "frozen", defArgs s_frozen, defBody s_frozen, defScope s_frozen, [], []⟩
def d_is_name : He.DefD := ⟨("is_name", none), "is_name", "is_name", defArgs s_is_name, defBody s_is_name, defScope s_is_name, [], []⟩
def d_is_number : He.DefD := ⟨("is_number", none), "is_number", "is_number", defArgs s_is_number, defBody s_is_number, defScope s_is_number, [], []⟩
def d_kind_of_piece : He.DefD := ⟨("kind_of_piece", none), "kind_of_piece", "kind_of_piece", defArgs s_kind_of_piece, defBody s_kind_of_piece, defScope s_kind_of_piece, [], []⟩
def d_piece_at : He.DefD := ⟨("piece_at", none), "piece_at", "piece_at", defArgs s_piece_at, defBody s_piece_at, defScope s_piece_at, [], []⟩
def d_tokens : He.DefD := ⟨("tokens", none), "tokens", "tokens", defArgs s_tokens, defBody s_tokens, defScope s_tokens, [], []⟩
def d_passed : He.DefD := ⟨("passed", none), "passed", "passed", defArgs s_passed, defBody s_passed, defScope s_passed, [], []⟩
def d_enclosed : He.DefD := ⟨("enclosed", none), "enclosed", "enclosed", defArgs s_enclosed, defBody s_enclosed, defScope s_enclosed, [], []⟩
def d_after_name : He.DefD := ⟨("after_name", none), "after_name", "after_name", defArgs s_after_name, defBody s_after_name, defScope s_after_name, [], []⟩
def d_arguments_at : He.DefD := ⟨("arguments_at", none), "arguments_at", "arguments_at", defArgs s_arguments_at, defBody s_arguments_at, defScope s_arguments_at, [], []⟩
def d_in_parentheses : He.DefD := ⟨("in_parentheses", none), "in_parentheses", "in_parentheses", defArgs s_in_parentheses, defBody s_in_parentheses, defScope s_in_parentheses, [], []⟩
def d_if_at : He.DefD := ⟨("if_at", none), "if_at", "if_at", defArgs s_if_at, defBody s_if_at, defScope s_if_at, [], []⟩
def d_while_at : He.DefD := ⟨("while_at", none), "while_at", "while_at", defArgs s_while_at, defBody s_while_at, defScope s_while_at, [], []⟩
def d_new_at : He.DefD := ⟨("new_at", none), "new_at", "new_at", defArgs s_new_at, defBody s_new_at, defScope s_new_at, [], []⟩
def d_parameter_at : He.DefD := ⟨("parameter_at", none), "parameter_at", "parameter_at", defArgs s_parameter_at, defBody s_parameter_at, defScope s_parameter_at, [], []⟩
def d_parameters_at : He.DefD := ⟨("parameters_at", none), "parameters_at", "parameters_at", defArgs s_parameters_at, defBody s_parameters_at, defScope s_parameters_at, [], []⟩
def d_let_at : He.DefD := ⟨("let_at", none), "let_at", "let_at", defArgs s_let_at, defBody s_let_at, defScope s_let_at, [], []⟩
def d_item_at : He.DefD := ⟨("item_at", none), "item_at", "item_at", defArgs s_item_at, defBody s_item_at, defScope s_item_at, [], []⟩
def d_sequence_at : He.DefD := ⟨("sequence_at", none), "sequence_at", "sequence_at", defArgs s_sequence_at, defBody s_sequence_at, defScope s_sequence_at, [], []⟩
def d_read_block : He.DefD := ⟨("read_block", none), "read_block", "read_block", defArgs s_read_block, defBody s_read_block, defScope s_read_block, [], []⟩
def d_parts_of : He.DefD := ⟨("parts_of", none), "parts_of", "parts_of", defArgs s_parts_of, defBody s_parts_of, defScope s_parts_of, [], []⟩
def d_grouped : He.DefD := ⟨("grouped", none), "grouped", "grouped", defArgs s_grouped, defBody s_grouped, defScope s_grouped, [], []⟩
def d_text_of_leaf : He.DefD := ⟨("text_of_leaf", none), "text_of_leaf", "text_of_leaf", defArgs s_text_of_leaf, defBody s_text_of_leaf, defScope s_text_of_leaf, [], []⟩
def d_text_of_binding : He.DefD := ⟨("text_of_binding", none), "text_of_binding", "text_of_binding", defArgs s_text_of_binding, defBody s_text_of_binding, defScope s_text_of_binding, [], []⟩
def d_text_of : He.DefD := ⟨("text_of", none), "text_of", "text_of", defArgs s_text_of, defBody s_text_of, defScope s_text_of, [], []⟩
def d_write_block : He.DefD := ⟨("write_block", none), "write_block", "write_block", defArgs s_write_block, defBody s_write_block, defScope s_write_block, [], []⟩
def d__law_whole : He.DefD := ⟨("_law_whole", none), "_law_whole", "_law_whole", defArgs s__law_whole, defBody s__law_whole, defScope s__law_whole, [], []⟩
def d__law_cell : He.DefD := ⟨("_law_cell", none), "_law_cell", "_law_cell", defArgs s__law_cell, defBody s__law_cell, defScope s__law_cell, [], []⟩
def d__law_digits : He.DefD := ⟨("_law_digits", none), "_law_digits", "_law_digits", defArgs s__law_digits, defBody s__law_digits, defScope s__law_digits, [], []⟩
def d__law_reader : He.DefD := ⟨("_law_reader", none), "_law_reader", "_law_reader", defArgs s__law_reader, defBody s__law_reader, defScope s__law_reader, [], []⟩
def d__law_next : He.DefD := ⟨("_law_next", none), "_law_next", "_law_next", defArgs s__law_next, defBody s__law_next, defScope s__law_next, [], []⟩
def d__law_reserved : He.DefD := ⟨("_law_reserved", none), "_law_reserved", "_law_reserved", defArgs s__law_reserved, defBody s__law_reserved, defScope s__law_reserved, [], []⟩
def d__law_name : He.DefD := ⟨("_law_name", none), "_law_name", "_law_name", defArgs s__law_name, defBody s__law_name, defScope s__law_name, [], []⟩
def d__law_names : He.DefD := ⟨("_law_names", none), "_law_names", "_law_names", defArgs s__law_names, defBody s__law_names, defScope s__law_names, [], []⟩
def d__law_split : He.DefD := ⟨("_law_split", none), "_law_split", "_law_split", defArgs s__law_split, defBody s__law_split, defScope s__law_split, [], []⟩
def d__law_number : He.DefD := ⟨("_law_number", none), "_law_number", "_law_number", defArgs s__law_number, defBody s__law_number, defScope s__law_number, [], []⟩
def d__law_any_leaf : He.DefD := ⟨("_law_any_leaf", none), "_law_any_leaf", "_law_any_leaf", defArgs s__law_any_leaf, defBody s__law_any_leaf, defScope s__law_any_leaf, [], []⟩
def d__law_parameters : He.DefD := ⟨("_law_parameters", none), "_law_parameters", "_law_parameters", defArgs s__law_parameters, defBody s__law_parameters, defScope s__law_parameters, [], []⟩
def d__law_any : He.DefD := ⟨("_law_any", none), "_law_any", "_law_any", defArgs s__law_any, defBody s__law_any, defScope s__law_any, [], []⟩
def d__law_around : He.DefD := ⟨("_law_around", none), "_law_around", "_law_around", defArgs s__law_around, defBody s__law_around, defScope s__law_around, [], []⟩
def d__law_layered : He.DefD := ⟨("_law_layered", none), "_law_layered", "_law_layered", defArgs s__law_layered, defBody s__law_layered, defScope s__law_layered, [], []⟩
def d__law_grouped : He.DefD := ⟨("_law_grouped", none), "_law_grouped", "_law_grouped", defArgs s__law_grouped, defBody s__law_grouped, defScope s__law_grouped, [], []⟩
def d__law_head : He.DefD := ⟨("_law_head", none), "_law_head", "_law_head", defArgs s__law_head, defBody s__law_head, defScope s__law_head, [], []⟩
def d__law_text : He.DefD := ⟨("_law_text", none), "_law_text", "_law_text", defArgs s__law_text, defBody s__law_text, defScope s__law_text, [], []⟩
def d__law_wrapped : He.DefD := ⟨("_law_wrapped", none), "_law_wrapped", "_law_wrapped", defArgs s__law_wrapped, defBody s__law_wrapped, defScope s__law_wrapped, [], []⟩
def d__law_item : He.DefD := ⟨("_law_item", none), "_law_item", "_law_item", defArgs s__law_item, defBody s__law_item, defScope s__law_item, [], []⟩
def d__law_sequence : He.DefD := ⟨("_law_sequence", none), "_law_sequence", "_law_sequence", defArgs s__law_sequence, defBody s__law_sequence, defScope s__law_sequence, [], []⟩
def d__law_listing : He.DefD := ⟨("_law_listing", none), "_law_listing", "_law_listing", defArgs s__law_listing, defBody s__law_listing, defScope s__law_listing, [], []⟩
def d__law_row : He.DefD := ⟨("_law_row", none), "_law_row", "_law_row", defArgs s__law_row, defBody s__law_row, defScope s__law_row, [], []⟩
def d__law_merging : He.DefD := ⟨("_law_merging", none), "_law_merging", "_law_merging", defArgs s__law_merging, defBody s__law_merging, defScope s__law_merging, [], []⟩
def d__law_joined : He.DefD := ⟨("_law_joined", none), "_law_joined", "_law_joined", defArgs s__law_joined, defBody s__law_joined, defScope s__law_joined, [], []⟩
def d__law_same : He.DefD := ⟨("_law_same", none), "_law_same", "_law_same", defArgs s__law_same, defBody s__law_same, defScope s__law_same, [], []⟩
def d__law_built : He.DefD := ⟨("_law_built", none), "_law_built", "_law_built", defArgs s__law_built, defBody s__law_built, defScope s__law_built, [], []⟩
def d__law_free_text : He.DefD := ⟨("_law_free_text", none), "_law_free_text", "_law_free_text", defArgs s__law_free_text, defBody s__law_free_text, defScope s__law_free_text, [], []⟩
def d__law_read : He.DefD := ⟨("_law_read", none), "_law_read", "_law_read", defArgs s__law_read, defBody s__law_read, defScope s__law_read, [], []⟩
def d_law : He.DefD := ⟨("law", none), "law", "law", defArgs s_law, defBody s_law, defScope s_law, [], []⟩
def hfn0 : List He.DefD := [d_frozen, d_is_name, d_is_number, d_kind_of_piece, d_piece_at, d_tokens, d_passed, d_enclosed, d_after_name, d_arguments_at, d_in_parentheses, d_if_at]
def hfn1 : List He.DefD := [d_while_at, d_new_at, d_parameter_at, d_parameters_at, d_let_at, d_item_at, d_sequence_at, d_read_block, d_parts_of, d_grouped, d_text_of_leaf, d_text_of_binding]
def hfn2 : List He.DefD := [d_text_of, d_write_block, d__law_whole, d__law_cell, d__law_digits, d__law_reader, d__law_next, d__law_reserved, d__law_name, d__law_names, d__law_split, d__law_number]
def hfn3 : List He.DefD := [d__law_any_leaf, d__law_parameters, d__law_any, d__law_around, d__law_layered, d__law_grouped, d__law_head, d__law_text, d__law_wrapped, d__law_item, d__law_sequence, d__law_listing]
def hfn4 : List He.DefD := [d__law_row, d__law_merging, d__law_joined, d__law_same, d__law_built, d__law_free_text, d__law_read, d_law]
def hfn : List He.DefD := hfn0 ++ hfn1 ++ hfn2 ++ hfn3 ++ hfn4
def hfa0 : List He.Fa := [.glo "frozen", .glo "is_name", .glo "is_number", .glo "kind_of_piece", .glo "piece_at", .glo "tokens", .glo "passed", .glo "enclosed", .glo "after_name", .glo "arguments_at", .glo "in_parentheses", .glo "if_at"]
def hfa1 : List He.Fa := [.glo "while_at", .glo "new_at", .glo "parameter_at", .glo "parameters_at", .glo "let_at", .glo "item_at", .glo "sequence_at", .glo "read_block", .glo "parts_of", .glo "grouped", .glo "text_of_leaf", .glo "text_of_binding"]
def hfa2 : List He.Fa := [.glo "text_of", .glo "write_block", .glo "_law_whole", .glo "_law_cell", .glo "_law_digits", .glo "_law_reader", .glo "_law_next", .glo "_law_reserved", .glo "_law_name", .glo "_law_names", .glo "_law_split", .glo "_law_number"]
def hfa3 : List He.Fa := [.glo "_law_any_leaf", .glo "_law_parameters", .glo "_law_any", .glo "_law_around", .glo "_law_layered", .glo "_law_grouped", .glo "_law_head", .glo "_law_text", .glo "_law_wrapped", .glo "_law_item", .glo "_law_sequence", .glo "_law_listing"]
def hfa4 : List He.Fa := [.glo "_law_row", .glo "_law_merging", .glo "_law_joined", .glo "_law_same", .glo "_law_built", .glo "_law_free_text", .glo "_law_read", .glo "law", .free "int", .free "str", .free "tuple", .free "list"]
def hfa5 : List He.Fa := [.free "bool", .free "len", .free "min", .free "isinstance", .free "range", .free "reversed", .free "all", .str "LETTERS" "abcdefghijklmnopqrstuvwxyz", .str "DIGITS" "0123456789", .str "NAME" "NAME", .str "NUMBER" "NUMBER", .str "BAD" "BAD"]
def hfa6 : List He.Fa := [.str "END" "END", .glo "RESERVED", .glo "SYMBOLS", .glo "SPACES", .glo "KINDS", .glo "LEAVES_blocks", .glo "SIGNS_reading", .glo "LEAVES_reading", .glo "FORMS", .glo "SIGNS_writing"]
def hfa : List He.Fa := hfa0 ++ hfa1 ++ hfa2 ++ hfa3 ++ hfa4 ++ hfa5 ++ hfa6
def hts0 : List He.Tab := [(gaP "SIGNS_reading", ["+", "=", "<"]), (gaP "LEAVES_reading", ["skip", "quit", "[]"]), (gaP "FORMS", ["(", "if", "while", "new", "let"]), (gaP "SIGNS_writing", ["plus", "equal", "less"])]
def hts : List He.Tab := hts0
def hms0 : List (PySem.W.Frag → Bool) := [(fun K => tupAtB K (gaP "RESERVED") [.str "skip", .str "quit", .str "if", .str "then", .str "else", .str "fi", .str "while", .str "do", .str "od", .str "new", .str "in", .str "end", .str "let", .str "be", .str "command", .str "number"]), (fun K => tupAtB K (gaP "SYMBOLS") [.str ":=", .str ";", .str ",", .str "(", .str ")", .str "+", .str "=", .str "<", .str "[]"]), (fun K => tupAtB K (gaP "SPACES") [.str " ", .str "\n"]), (fun K => tupAtB K (gaP "KINDS") [.str "command", .str "number"])]
def hms1 : List (PySem.W.Frag → Bool) := [(fun K => tupAtB K (gaP "LEAVES_blocks") [.str "skip", .str "quit", .str "number", .str "get", .str "hole"]), (fun K => dctB K "SIGNS_reading" [.str "plus", .str "equal", .str "less"]), (fun K => tupAtB K (dvAt "LEAVES_reading" 0) [.str "skip"]), (fun K => tupAtB K (dvAt "LEAVES_reading" 1) [.str "quit"])]
def hms2 : List (PySem.W.Frag → Bool) := [(fun K => tupAtB K (dvAt "LEAVES_reading" 2) [.str "hole"]), (fun K => dctB K "LEAVES_reading" [.adr (dvAt "LEAVES_reading" 0), .adr (dvAt "LEAVES_reading" 1), .adr (dvAt "LEAVES_reading" 2)]), (fun K => dctB K "FORMS" [.glo "in_parentheses", .glo "if_at", .glo "while_at", .glo "new_at", .glo "let_at"]), (fun K => dctB K "SIGNS_writing" [.str " + ", .str " = ", .str " < "])]
def hms : List (PySem.W.Frag → Bool) := hms0 ++ hms1 ++ hms2
def hmore (K : PySem.W.Frag) : Bool := hms.all fun f => f K
abbrev hR : PySem.W.OpenRow := PySem.W.OpenLaw.row PySem.Challenge.rw_heardsaid_k06_read_freely
abbrev hhk : PySem.W.Hook := hookM 5 hfa hfn hts hmore
def hob (s : PySem.W.SharedT) : AlM := obsMG 5 hfa hfn hts hmore (HandSHeadRun.getT s)
theorem hob_eq (s : PySem.W.SharedT) : hob s = hhk.obs s.abs := obsMG_eq (HandSHeadRun.getT_eq s)
def hnames0 : List Str := ["HeardError", "BadText", "frozen", "LETTERS", "DIGITS", "RESERVED", "is_name", "SYMBOLS", "SPACES", "NAME", "NUMBER", "BAD"]
def hnames1 : List Str := ["END", "is_number", "kind_of_piece", "piece_at", "tokens", "SIGNS_reading", "LEAVES_reading", "KINDS", "passed", "enclosed", "after_name", "arguments_at"]
def hnames2 : List Str := ["in_parentheses", "if_at", "while_at", "new_at", "parameter_at", "parameters_at", "let_at", "FORMS", "item_at", "sequence_at", "read_block", "LEAVES_blocks"]
def hnames3 : List Str := ["parts_of", "SIGNS_writing", "grouped", "text_of_leaf", "text_of_binding", "text_of", "write_block", "_law_whole", "_law_cell", "_law_digits", "_law_reader", "_law_next"]
def hnames4 : List Str := ["_law_reserved", "_law_name", "_law_names", "_law_split", "_law_number", "_law_any_leaf", "_law_parameters", "_law_any", "_law_around", "_law_layered", "_law_grouped", "_law_head"]
def hnames5 : List Str := ["_law_text", "_law_wrapped", "_law_item", "_law_sequence", "_law_listing", "_law_row", "_law_merging", "_law_joined", "_law_same", "_law_built", "_law_free_text", "_law_read"]
def hnames : List Str := hnames0 ++ hnames1 ++ hnames2 ++ hnames3 ++ hnames4 ++ hnames5
theorem hrun (w : World) : HandSHeadRun.RunEq hR (PySem.W.view hR.prog [80]) hhk hob 20000 hnames w :=
  PySem.W.byRow2 "special-get-raises" (P := fun w => HandSHeadRun.RunEq hR (PySem.W.view hR.prog [80]) hhk hob 20000 hnames w) (fun w => by intro os; kernel_rfl) (fun w => by intro os; kernel_rfl) w
theorem txt_ok {w : World} {K : PySem.W.Frag} {h : Heap} {mg : Str → Option Value} (X : K.In h) (G : h.Ns mainGlobals mg) (c : SaysM hfa hfn hts hmore w K) : Txt w K mg := by
  have M := c.m
  exact {
    s_frozen := src_ok X G c 0 0,
    s_is_name := src_ok X G c 1 1,
    s_is_number := src_ok X G c 2 2,
    s_kind_of_piece := src_ok X G c 3 3,
    s_piece_at := src_ok X G c 4 4,
    s_tokens := src_ok X G c 5 5,
    s_passed := src_ok X G c 6 6,
    s_enclosed := src_ok X G c 7 7,
    s_after_name := src_ok X G c 8 8,
    s_arguments_at := src_ok X G c 9 9,
    s_in_parentheses := src_ok X G c 10 10,
    s_if_at := src_ok X G c 11 11,
    s_while_at := src_ok X G c 12 12,
    s_new_at := src_ok X G c 13 13,
    s_parameter_at := src_ok X G c 14 14,
    s_parameters_at := src_ok X G c 15 15,
    s_let_at := src_ok X G c 16 16,
    s_item_at := src_ok X G c 17 17,
    s_sequence_at := src_ok X G c 18 18,
    s_read_block := src_ok X G c 19 19,
    s_parts_of := src_ok X G c 20 20,
    s_grouped := src_ok X G c 21 21,
    s_text_of_leaf := src_ok X G c 22 22,
    s_text_of_binding := src_ok X G c 23 23,
    s_text_of := src_ok X G c 24 24,
    s_write_block := src_ok X G c 25 25,
    s__law_whole := src_ok X G c 26 26,
    s__law_cell := src_ok X G c 27 27,
    s__law_digits := src_ok X G c 28 28,
    s__law_reader := src_ok X G c 29 29,
    s__law_next := src_ok X G c 30 30,
    s__law_reserved := src_ok X G c 31 31,
    s__law_name := src_ok X G c 32 32,
    s__law_names := src_ok X G c 33 33,
    s__law_split := src_ok X G c 34 34,
    s__law_number := src_ok X G c 35 35,
    s__law_any_leaf := src_ok X G c 36 36,
    s__law_parameters := src_ok X G c 37 37,
    s__law_any := src_ok X G c 38 38,
    s__law_around := src_ok X G c 39 39,
    s__law_layered := src_ok X G c 40 40,
    s__law_grouped := src_ok X G c 41 41,
    s__law_head := src_ok X G c 42 42,
    s__law_text := src_ok X G c 43 43,
    s__law_wrapped := src_ok X G c 44 44,
    s__law_item := src_ok X G c 45 45,
    s__law_sequence := src_ok X G c 46 46,
    s__law_listing := src_ok X G c 47 47,
    s__law_row := src_ok X G c 48 48,
    s__law_merging := src_ok X G c 49 49,
    s__law_joined := src_ok X G c 50 50,
    s__law_same := src_ok X G c 51 51,
    s__law_built := src_ok X G c 52 52,
    s__law_free_text := src_ok X G c 53 53,
    s__law_read := src_ok X G c 54 54,
    s_law := src_ok X G c 55 55,
    b_int := He.free_ok X G (c.fact 56 (f := .free "int")),
    b_str := He.free_ok X G (c.fact 57 (f := .free "str")),
    b_tuple := He.free_ok X G (c.fact 58 (f := .free "tuple")),
    b_list := He.free_ok X G (c.fact 59 (f := .free "list")),
    b_bool := He.free_ok X G (c.fact 60 (f := .free "bool")),
    b_len := He.free_ok X G (c.fact 61 (f := .free "len")),
    b_min := He.free_ok X G (c.fact 62 (f := .free "min")),
    b_isinstance := He.free_ok X G (c.fact 63 (f := .free "isinstance")),
    b_range := He.free_ok X G (c.fact 64 (f := .free "range")),
    b_reversed := He.free_ok X G (c.fact 65 (f := .free "reversed")),
    b_all := He.free_ok X G (c.fact 66 (f := .free "all")),
    c_LETTERS := by obtain ⟨t, e⟩ := He.str_ok X G (c.fact 67 (f := .str "LETTERS" "abcdefghijklmnopqrstuvwxyz")); exact ⟨_, e, t, rfl⟩,
    c_DIGITS := by obtain ⟨t, e⟩ := He.str_ok X G (c.fact 68 (f := .str "DIGITS" "0123456789")); exact ⟨_, e, t, rfl⟩,
    c_NAME := by obtain ⟨t, e⟩ := He.str_ok X G (c.fact 69 (f := .str "NAME" "NAME")); exact ⟨_, e, t, rfl⟩,
    c_NUMBER := by obtain ⟨t, e⟩ := He.str_ok X G (c.fact 70 (f := .str "NUMBER" "NUMBER")); exact ⟨_, e, t, rfl⟩,
    c_BAD := by obtain ⟨t, e⟩ := He.str_ok X G (c.fact 71 (f := .str "BAD" "BAD")); exact ⟨_, e, t, rfl⟩,
    c_END := by obtain ⟨t, e⟩ := He.str_ok X G (c.fact 72 (f := .str "END" "END")); exact ⟨_, e, t, rfl⟩,
    c_RESERVED := ⟨_, He.glo_ok X G (c.fact 73 (f := .glo "RESERVED")), tupAtB_ok (p := gaP "RESERVED") (vs := [.str "skip", .str "quit", .str "if", .str "then", .str "else", .str "fi", .str "while", .str "do", .str "od", .str "new", .str "in", .str "end", .str "let", .str "be", .str "command", .str "number"]) (all_at M 0)⟩,
    c_SYMBOLS := ⟨_, He.glo_ok X G (c.fact 74 (f := .glo "SYMBOLS")), tupAtB_ok (p := gaP "SYMBOLS") (vs := [.str ":=", .str ";", .str ",", .str "(", .str ")", .str "+", .str "=", .str "<", .str "[]"]) (all_at M 1)⟩,
    c_SPACES := ⟨_, He.glo_ok X G (c.fact 75 (f := .glo "SPACES")), tupAtB_ok (p := gaP "SPACES") (vs := [.str " ", .str "\n"]) (all_at M 2)⟩,
    c_KINDS := ⟨_, He.glo_ok X G (c.fact 76 (f := .glo "KINDS")), tupAtB_ok (p := gaP "KINDS") (vs := [.str "command", .str "number"]) (all_at M 3)⟩,
    c_LEAVES_blocks := ⟨_, He.glo_ok X G (c.fact 77 (f := .glo "LEAVES_blocks")), tupAtB_ok (p := gaP "LEAVES_blocks") (vs := [.str "skip", .str "quit", .str "number", .str "get", .str "hole"]) (all_at M 4)⟩,
    d_SIGNS_reading := ⟨_, _, He.glo_ok X G (c.fact 78 (f := .glo "SIGNS_reading")), dctK_ok (vs := [.str "plus", .str "equal", .str "less"]) (all_at M 5) (c.tabK 0 (t := (gaP "SIGNS_reading", ["+", "=", "<"]))), ⟨_, _, rfl, rfl, ⟨_, _, rfl, rfl, ⟨_, _, rfl, rfl, rfl⟩⟩⟩⟩,
    d_LEAVES_reading := ⟨_, _, He.glo_ok X G (c.fact 79 (f := .glo "LEAVES_reading")), dctK_ok (vs := [.adr (dvAt "LEAVES_reading" 0), .adr (dvAt "LEAVES_reading" 1), .adr (dvAt "LEAVES_reading" 2)]) (all_at M 9) (c.tabK 1 (t := (gaP "LEAVES_reading", ["skip", "quit", "[]"]))), ⟨_, _, rfl, ⟨_, _, rfl, .inr (tupAtB_ok (p := dvAt "LEAVES_reading" 0) (vs := [.str "skip"]) (all_at M 6)), ⟨_, _, rfl, rfl, rfl⟩⟩, ⟨_, _, rfl, ⟨_, _, rfl, .inr (tupAtB_ok (p := dvAt "LEAVES_reading" 1) (vs := [.str "quit"]) (all_at M 7)), ⟨_, _, rfl, rfl, rfl⟩⟩, ⟨_, _, rfl, ⟨_, _, rfl, .inr (tupAtB_ok (p := dvAt "LEAVES_reading" 2) (vs := [.str "hole"]) (all_at M 8)), ⟨_, _, rfl, rfl, rfl⟩⟩, rfl⟩⟩⟩⟩,
    d_FORMS := ⟨_, _, He.glo_ok X G (c.fact 80 (f := .glo "FORMS")), dctK_ok (vs := [.glo "in_parentheses", .glo "if_at", .glo "while_at", .glo "new_at", .glo "let_at"]) (all_at M 10) (c.tabK 2 (t := (gaP "FORMS", ["(", "if", "while", "new", "let"]))), ⟨_, _, rfl, rfl, ⟨_, _, rfl, rfl, ⟨_, _, rfl, rfl, ⟨_, _, rfl, rfl, ⟨_, _, rfl, rfl, rfl⟩⟩⟩⟩⟩⟩,
    d_SIGNS_writing := ⟨_, _, He.glo_ok X G (c.fact 81 (f := .glo "SIGNS_writing")), dctK_ok (vs := [.str " + ", .str " = ", .str " < "]) (all_at M 11) (c.tabK 3 (t := (gaP "SIGNS_writing", ["plus", "equal", "less"]))), ⟨_, _, rfl, rfl, ⟨_, _, rfl, rfl, ⟨_, _, rfl, rfl, rfl⟩⟩⟩⟩ }
end K06

namespace K06
open PySem PySem.Spec PyProof.Rows L2 ML
section
variable {P : Program} {w : World} {K : PySem.W.Frag} {mg : Str → Option Value} {base : Heap} {ct : Str → Addr} {k : Nat}
/-! frozen -/
theorem sc_frozen : FnScope ["value", "parts", "part"] ["value"] (defScope s_frozen) := ⟨rfl, rfl, rfl, by decide +kernel, rfl, by decide +kernel, by decide +kernel⟩
def body_frozen (m_frozen : List W → FR) : Rho → ML.R Fl := mSeq (mIf (mNot (mTest (mCB gIsi [mVar 0, mTup [] [mC (.ty "list"), mC (.ty "tuple")]]))) (mRet [] (mVar 0)) (mNext)) (mSeq (mSet [] 1 (mLst [] [])) (mSeq (mFor (mItems [] (mVar 0)) (gSet [] 2) (mDrop (mAppend 1 [] (mCall [] [] m_frozen [mVar 2])))) (mRet [] (mCB gTupC [mVar 1]))))
def fun_frozen (m_frozen : List W → FR) : List W → FR := mFun [] 3 (body_frozen m_frozen)
theorem def_frozen (T : Txt w K mg) {m_frozen : List W → FR} (D_frozen : Def P w K mg base ct k "frozen" ["value"] [] m_frozen) : Def P w K mg base ct (k + 1) "frozen" ["value"] [] (fun_frozen m_frozen) :=
  def_mk (N := ["value", "parts", "part"]) (g := body_frozen m_frozen) T.s_frozen sc_frozen (by decide) (fun _ _ _ _ _ _ us hl => match us, hl with | [_], _ => rfl) fun f cdv A outer s H E Y hr hct tk =>
    (psm_cons (psm_if (ptm_not (ptm_val (pem_callB (c_isi) rfl T.b_isinstance (by rfl) g_isi (pam_cons (pem_var 0 (pv 0)) (pam_cons (pem_tup (pam_cons (pem_ty rfl T.b_list (by rfl)) (pam_cons (pem_ty rfl T.b_tuple (by rfl)) (pam_nil)))) (pam_nil)))))) (psm_one (psm_ret (pem_var 0 (pv 0)))) (psm_nil)) (psm_cons (psm_set (i := 1) sc_frozen.nd rfl (Or.inl rfl) (pem_lst (pam_nil))) (psm_cons (psm_for (passes_of rfl) rfl (pim_seq (pem_var 0 (pv 0))) (pgm_name (pg_name (i := 2) sc_frozen.nd rfl (Or.inl rfl))) (psm_one (psm_expr (pem_append (pv 1) (pem_callD D_frozen hct hr tk rfl (pam_cons (pem_var 2 (pv 2)) (pam_nil)) rfl))))) (psm_one (psm_ret (pem_callTy call_tuple_of rfl T.b_tuple (by rfl) g_tupC (pam_cons (pem_var 1 (pv 1)) (pam_nil))))))))
/-! is_name -/
theorem sc_is_name : FnScope ["text", "char"] ["text"] (defScope s_is_name) := ⟨rfl, rfl, rfl, by decide +kernel, rfl, by decide +kernel, by decide +kernel⟩
def body_is_name : Rho → ML.R Fl := mSeq (mIf (mOr (mTest (mOp (gCmp (fun i j => decide (i < j))) (mCB gLen [mVar 0]) (mC (.int 1)))) (mOr (mTest (mOp (gCmp (fun i j => decide (j < i))) (mCB gLen [mVar 0]) (mC (.int 8)))) (mTest (mOp (gIn false) (mVar 0) (mC w_RESERVED))))) (mRet [] (mC (.bl false))) (mNext)) (mRet [] (mAndV (mOp (gIn false) (mOp gIx (mVar 0) (mC (.int 0))) (mC w_LETTERS)) (mCB gAll [mLc [] (mItems [] (mVar 0)) (.nm 1) (mYes) (mOrV (mOp (gIn false) (mVar 1) (mC w_LETTERS)) (mOp (gIn false) (mVar 1) (mC w_DIGITS)))])))
def fun_is_name : List W → FR := mFun [] 2 (body_is_name)
theorem def_is_name (T : Txt w K mg) : Def P w K mg base ct (k + 1) "is_name" ["text"] [] (fun_is_name) :=
  def_mk (N := ["text", "char"]) (g := body_is_name) T.s_is_name sc_is_name (by decide) (fun _ _ _ _ _ _ us hl => match us, hl with | [_], _ => rfl) fun f cdv A outer s H E Y hr hct tk =>
    (psm_cons (psm_if (PW.pt (pwm_or (ptm_cmp op_lt g_cmp (pem_callB (call_len) rfl T.b_len (by rfl) g_len (pam_cons (pem_var 0 (pv 0)) (pam_nil))) (pem_int) (nomark _)) (pwm_or (ptm_cmp op_gt g_cmp (pem_callB (call_len) rfl T.b_len (by rfl) g_len (pam_cons (pem_var 0 (pv 0)) (pam_nil))) (pem_int) (nomark _)) (pwm_or1 (ptm_cmp o_in g_in (pem_var 0 (pv 0)) (pg_RESERVED T) rfl))))) (psm_one (psm_ret (pem_bl))) (psm_nil)) (psm_one (psm_ret (pem_and (pem_cmp o_in g_in (pem_ix (pem_var 0 (pv 0)) (pem_int)) (pg_LETTERS T) rfl) (pem_one (pem_callB (cr_all rfl) rfl T.b_all (by rfl) g_all (pam_cons (pem_lc (own := [("char", 1)]) (t := .nm 1) rfl sc_is_name.nd (pim_seq (pem_var 0 (pv 0))) (blkOk_by (N := ["text", "char"]) (sc := defScope s_is_name) (by decide +kernel)) rfl (fun _ _ _ _ _ => pg_name (i := 1) sc_is_name.nd rfl (by first | exact Or.inl rfl | exact Or.inr rfl) (by first | exact .inl rfl | exact .inr rfl)) (fun _ _ _ _ _ => pcs_nil) (fun _ _ _ _ _ Y1 hY1 wY1 => (pem_or (pem_cmp o_in g_in (pem_var 1 (pv 1)) (pg_LETTERS T) rfl) (pem_one (pem_cmp o_in g_in (pem_var 1 (pv 1)) (pg_DIGITS T) rfl))))) (pam_nil))))))))
/-! is_number -/
theorem sc_is_number : FnScope ["piece", "char"] ["piece"] (defScope s_is_number) := ⟨rfl, rfl, rfl, by decide +kernel, rfl, by decide +kernel, by decide +kernel⟩
def body_is_number : Rho → ML.R Fl := mSeq (mIf (mOr (mTest (mOp (gCmp (fun i j => decide (j < i))) (mCB gLen [mVar 0]) (mC (.int 3)))) (mNot (mTest (mCB gAll [mLc [] (mItems [] (mVar 0)) (.nm 1) (mYes) (mOp (gIn false) (mVar 1) (mC w_DIGITS))])))) (mRet [] (mC (.bl false))) (mNext)) (mRet [] (mOrV (mOp gEq (mVar 0) (mC (.str "0"))) (mOp gNe (mOp gIx (mVar 0) (mC (.int 0))) (mC (.str "0")))))
def fun_is_number : List W → FR := mFun [] 2 (body_is_number)
theorem def_is_number (T : Txt w K mg) : Def P w K mg base ct (k + 1) "is_number" ["piece"] [] (fun_is_number) :=
  def_mk (N := ["piece", "char"]) (g := body_is_number) T.s_is_number sc_is_number (by decide) (fun _ _ _ _ _ _ us hl => match us, hl with | [_], _ => rfl) fun f cdv A outer s H E Y hr hct tk =>
    (psm_cons (psm_if (PW.pt (pwm_or (ptm_cmp op_gt g_cmp (pem_callB (call_len) rfl T.b_len (by rfl) g_len (pam_cons (pem_var 0 (pv 0)) (pam_nil))) (pem_int) (nomark _)) (pwm_or1 (ptm_not (ptm_val (pem_callB (cr_all rfl) rfl T.b_all (by rfl) g_all (pam_cons (pem_lc (own := [("char", 1)]) (t := .nm 1) rfl sc_is_number.nd (pim_seq (pem_var 0 (pv 0))) (blkOk_by (N := ["piece", "char"]) (sc := defScope s_is_number) (by decide +kernel)) rfl (fun _ _ _ _ _ => pg_name (i := 1) sc_is_number.nd rfl (by first | exact Or.inl rfl | exact Or.inr rfl) (by first | exact .inl rfl | exact .inr rfl)) (fun _ _ _ _ _ => pcs_nil) (fun _ _ _ _ _ Y1 hY1 wY1 => (pem_cmp o_in g_in (pem_var 1 (pv 1)) (pg_DIGITS T) rfl))) (pam_nil)))))))) (psm_one (psm_ret (pem_bl))) (psm_nil)) (psm_one (psm_ret (pem_or (pem_cmp (o_eq (hu200 hr)) g_eq (pem_var 0 (pv 0)) (pem_str) (nomark _)) (pem_one (pem_cmp (o_ne (hu200 hr)) g_ne (pem_ix (pem_var 0 (pv 0)) (pem_int)) (pem_str) (nomark _)))))))
/-! kind_of_piece -/
theorem sc_kind_of_piece : FnScope ["piece"] ["piece"] (defScope s_kind_of_piece) := ⟨rfl, rfl, rfl, by decide +kernel, rfl, by decide +kernel, by decide +kernel⟩
def body_kind_of_piece (m_is_name : List W → FR) (m_is_number : List W → FR) : Rho → ML.R Fl := mSeq (mIf (mOr (mTest (mOp (gIn false) (mVar 0) (mC w_SYMBOLS))) (mTest (mOp (gIn false) (mVar 0) (mC w_RESERVED)))) (mRet [] (mVar 0)) (mNext)) (mSeq (mIf (mTest (mCall [] [] m_is_name [mVar 0])) (mRet [] (mC w_NAME)) (mNext)) (mSeq (mIf (mTest (mCall [] [] m_is_number [mVar 0])) (mRet [] (mC w_NUMBER)) (mNext)) (mRet [] (mC w_BAD))))
def fun_kind_of_piece (m_is_name : List W → FR) (m_is_number : List W → FR) : List W → FR := mFun [] 1 (body_kind_of_piece m_is_name m_is_number)
theorem def_kind_of_piece (T : Txt w K mg) {m_is_name : List W → FR} (D_is_name : Def P w K mg base ct k "is_name" ["text"] [] m_is_name) {m_is_number : List W → FR} (D_is_number : Def P w K mg base ct k "is_number" ["piece"] [] m_is_number) : Def P w K mg base ct (k + 1) "kind_of_piece" ["piece"] [] (fun_kind_of_piece m_is_name m_is_number) :=
  def_mk (N := ["piece"]) (g := body_kind_of_piece m_is_name m_is_number) T.s_kind_of_piece sc_kind_of_piece (by decide) (fun _ _ _ _ _ _ us hl => match us, hl with | [_], _ => rfl) fun f cdv A outer s H E Y hr hct tk =>
    (psm_cons (psm_if (PW.pt (pwm_or (ptm_cmp o_in g_in (pem_var 0 (pv 0)) (pg_SYMBOLS T) rfl) (pwm_or1 (ptm_cmp o_in g_in (pem_var 0 (pv 0)) (pg_RESERVED T) rfl)))) (psm_one (psm_ret (pem_var 0 (pv 0)))) (psm_nil)) (psm_cons (psm_if (ptm_val (pem_callD D_is_name hct hr tk rfl (pam_cons (pem_var 0 (pv 0)) (pam_nil)) rfl)) (psm_one (psm_ret (pg_NAME T))) (psm_nil)) (psm_cons (psm_if (ptm_val (pem_callD D_is_number hct hr tk rfl (pam_cons (pem_var 0 (pv 0)) (pam_nil)) rfl)) (psm_one (psm_ret (pg_NUMBER T))) (psm_nil)) (psm_one (psm_ret (pg_BAD T))))))
/-! piece_at -/
theorem sc_piece_at : FnScope ["text", "at", "end"] ["text", "at"] (defScope s_piece_at) := ⟨rfl, rfl, rfl, by decide +kernel, rfl, by decide +kernel, by decide +kernel⟩
noncomputable def body_piece_at : Rho → ML.R Fl := mSeq (mSet [] 2 (mVar 1)) (mSeq (mWhile (mAnd (mTest (mOp (gCmp (fun i j => decide (i < j))) (mVar 2) (mCB gLen [mVar 0]))) (mOr (mTest (mOp (gIn false) (mOp gIx (mVar 0) (mVar 2)) (mC w_LETTERS))) (mTest (mOp (gIn false) (mOp gIx (mVar 0) (mVar 2)) (mC w_DIGITS))))) (mAugI (fun i j => i + j) 2 [] (mC (.int 1)))) (mSeq (mIf (mTest (mOp (gCmp (fun i j => decide (j < i))) (mVar 2) (mVar 1))) (mRet [] (mSl (mVar 0) (some (mVar 1)) (some (mVar 2)))) (mNext)) (mSeq (mIf (mTest (mOp (gIn false) (mSl (mVar 0) (some (mVar 1)) (some (mOp gAdd (mVar 1) (mC (.int 2))))) (mC w_SYMBOLS))) (mRet [] (mSl (mVar 0) (some (mVar 1)) (some (mOp gAdd (mVar 1) (mC (.int 2)))))) (mNext)) (mRet [] (mOp gIx (mVar 0) (mVar 1))))))
noncomputable def fun_piece_at : List W → FR := mFun [] 3 (body_piece_at)
theorem def_piece_at (T : Txt w K mg) : Def P w K mg base ct (k + 1) "piece_at" ["text", "at"] [] (fun_piece_at) :=
  def_mk (N := ["text", "at", "end"]) (g := body_piece_at) T.s_piece_at sc_piece_at (by decide) (fun _ _ _ _ _ _ us hl => match us, hl with | [_, _], _ => rfl) fun f cdv A outer s H E Y hr hct tk =>
    (psm_cons (psm_set (i := 2) sc_piece_at.nd rfl (Or.inl rfl) (pem_var 1 (pv 1))) (psm_cons (psm_while (passes_of rfl) (PW.pt (pwm_and (ptm_cmp op_lt g_cmp (pem_var 2 (pv 2)) (pem_callB (call_len) rfl T.b_len (by rfl) g_len (pam_cons (pem_var 0 (pv 0)) (pam_nil))) (nomark _)) (pwm_and1 (PW.pt (pwm_or (ptm_cmp o_in g_in (pem_ix (pem_var 0 (pv 0)) (pem_var 2 (pv 2))) (pg_LETTERS T) rfl) (pwm_or1 (ptm_cmp o_in g_in (pem_ix (pem_var 0 (pv 0)) (pem_var 2 (pv 2))) (pg_DIGITS T) rfl))))))) (psm_one (psm_augI (ps_aug (i := 2) sc_piece_at.nd rfl (Or.inl rfl) (pem_int) ip_add)))) (psm_cons (psm_if (ptm_cmp op_gt g_cmp (pem_var 2 (pv 2)) (pem_var 1 (pv 1)) (nomark _)) (psm_one (psm_ret (pem_slice (pem_var 0 (pv 0)) (pom_some (pem_var 1 (pv 1))) (pom_some (pem_var 2 (pv 2)))))) (psm_nil)) (psm_cons (psm_if (ptm_cmp o_in g_in (pem_slice (pem_var 0 (pv 0)) (pom_some (pem_var 1 (pv 1))) (pom_some (pem_op o_add g_add (pem_var 1 (pv 1)) (pem_int)))) (pg_SYMBOLS T) rfl) (psm_one (psm_ret (pem_slice (pem_var 0 (pv 0)) (pom_some (pem_var 1 (pv 1))) (pom_some (pem_op o_add g_add (pem_var 1 (pv 1)) (pem_int)))))) (psm_nil)) (psm_one (psm_ret (pem_ix (pem_var 0 (pv 0)) (pem_var 1 (pv 1)))))))))
/-! tokens -/
theorem sc_tokens : FnScope ["text", "row", "at", "piece"] ["text"] (defScope s_tokens) := ⟨rfl, rfl, rfl, by decide +kernel, rfl, by decide +kernel, by decide +kernel⟩
noncomputable def body_tokens (m_piece_at : List W → FR) (m_kind_of_piece : List W → FR) : Rho → ML.R Fl := mSeq (mSet [] 1 (mLst [] [])) (mSeq (mSet [] 2 (mC (.int 0))) (mSeq (mWhile (mTest (mOp (gCmp (fun i j => decide (i < j))) (mVar 2) (mCB gLen [mVar 0]))) (mSeq (mSet [] 3 (mCall [] [] m_piece_at [mVar 0, mVar 2])) (mSeq (mIf (mTest (mOp (gIn true) (mVar 3) (mC w_SPACES))) (mDrop (mAppend 1 [] (mTup [] [mCall [] [] m_kind_of_piece [mVar 3], mVar 3, mVar 2]))) (mNext)) (mAugI (fun i j => i + j) 2 [] (mCB gLen [mVar 3]))))) (mSeq (mDrop (mAppend 1 [] (mTup [] [mC w_END, mC (.str ""), mCB gLen [mVar 0]]))) (mRet [] (mCB gTupC [mVar 1])))))
noncomputable def fun_tokens (m_piece_at : List W → FR) (m_kind_of_piece : List W → FR) : List W → FR := mFun [] 4 (body_tokens m_piece_at m_kind_of_piece)
theorem def_tokens (T : Txt w K mg) {m_piece_at : List W → FR} (D_piece_at : Def P w K mg base ct k "piece_at" ["text", "at"] [] m_piece_at) {m_kind_of_piece : List W → FR} (D_kind_of_piece : Def P w K mg base ct k "kind_of_piece" ["piece"] [] m_kind_of_piece) : Def P w K mg base ct (k + 1) "tokens" ["text"] [] (fun_tokens m_piece_at m_kind_of_piece) :=
  def_mk (N := ["text", "row", "at", "piece"]) (g := body_tokens m_piece_at m_kind_of_piece) T.s_tokens sc_tokens (by decide) (fun _ _ _ _ _ _ us hl => match us, hl with | [_], _ => rfl) fun f cdv A outer s H E Y hr hct tk =>
    (psm_cons (psm_set (i := 1) sc_tokens.nd rfl (Or.inl rfl) (pem_lst (pam_nil))) (psm_cons (psm_set (i := 2) sc_tokens.nd rfl (Or.inl rfl) (pem_int)) (psm_cons (psm_while (passes_of rfl) (ptm_cmp op_lt g_cmp (pem_var 2 (pv 2)) (pem_callB (call_len) rfl T.b_len (by rfl) g_len (pam_cons (pem_var 0 (pv 0)) (pam_nil))) (nomark _)) (psm_cons (psm_set (i := 3) sc_tokens.nd rfl (Or.inl rfl) (pem_callD D_piece_at hct hr tk rfl (pam_cons (pem_var 0 (pv 0)) (pam_cons (pem_var 2 (pv 2)) (pam_nil))) rfl)) (psm_cons (psm_if (ptm_cmp o_notin g_in (pem_var 3 (pv 3)) (pg_SPACES T) rfl) (psm_one (psm_expr (pem_append (pv 1) (pem_tup (pam_cons (pem_callD D_kind_of_piece hct hr tk rfl (pam_cons (pem_var 3 (pv 3)) (pam_nil)) rfl) (pam_cons (pem_var 3 (pv 3)) (pam_cons (pem_var 2 (pv 2)) (pam_nil)))))))) (psm_nil)) (psm_one (psm_augI (ps_aug (i := 2) sc_tokens.nd rfl (Or.inl rfl) (pem_callB (call_len) rfl T.b_len (by rfl) g_len (pam_cons (pem_var 3 (pv 3)) (pam_nil))) ip_add)))))) (psm_cons (psm_expr (pem_append (pv 1) (pem_tup (pam_cons (pg_END T) (pam_cons (pem_str) (pam_cons (pem_callB (call_len) rfl T.b_len (by rfl) g_len (pam_cons (pem_var 0 (pv 0)) (pam_nil))) (pam_nil))))))) (psm_one (psm_ret (pem_callTy call_tuple_of rfl T.b_tuple (by rfl) g_tupC (pam_cons (pem_var 1 (pv 1)) (pam_nil)))))))))
/-! passed -/
theorem sc_passed : FnScope ["row", "at", "kind"] ["row", "at", "kind"] (defScope s_passed) := ⟨rfl, rfl, rfl, by decide +kernel, rfl, by decide +kernel, by decide +kernel⟩
def body_passed : Rho → ML.R Fl := mSeq (mIf (mTest (mOp gNe (mOp gIx (mOp gIx (mVar 0) (mVar 1)) (mC (.int 0))) (mVar 2))) (mStk) (mNext)) (mRet [] (mOp gAdd (mVar 1) (mC (.int 1))))
def fun_passed : List W → FR := mFun [] 3 (body_passed)
theorem def_passed (T : Txt w K mg) : Def P w K mg base ct (k + 1) "passed" ["row", "at", "kind"] [] (fun_passed) :=
  def_mk (N := ["row", "at", "kind"]) (g := body_passed) T.s_passed sc_passed (by decide) (fun _ _ _ _ _ _ us hl => match us, hl with | [_, _, _], _ => rfl) fun f cdv A outer s H E Y hr hct tk =>
    (psm_cons (psm_if (ptm_cmp (o_ne (hu200 hr)) g_ne (pem_ix (pem_ix (pem_var 0 (pv 0)) (pem_var 1 (pv 1))) (pem_int)) (pem_var 2 (pv 2)) (nomark _)) (psm_one (psm_never)) (psm_nil)) (psm_one (psm_ret (pem_op o_add g_add (pem_var 1 (pv 1)) (pem_int)))))
/-! enclosed -/
theorem sc_enclosed : FnScope ["row", "at", "last", "block", "after"] ["row", "at", "last"] (defScope s_enclosed) := ⟨rfl, rfl, rfl, by decide +kernel, rfl, by decide +kernel, by decide +kernel⟩
def body_enclosed (m_sequence_at : List W → FR) (m_passed : List W → FR) : Rho → ML.R Fl := mSeq (mAsgT [] (gTup [gSet [] 3, gSet [] 4]) (mCall [] [] m_sequence_at [mVar 0, mVar 1])) (mRet [] (mTup [] [mVar 3, mCall [] [] m_passed [mVar 0, mVar 4, mVar 2]]))
def fun_enclosed (m_sequence_at : List W → FR) (m_passed : List W → FR) : List W → FR := mFun [] 5 (body_enclosed m_sequence_at m_passed)
theorem def_enclosed (T : Txt w K mg) {m_sequence_at : List W → FR} (D_sequence_at : Def P w K mg base ct k "sequence_at" ["row", "at"] [] m_sequence_at) {m_passed : List W → FR} (D_passed : Def P w K mg base ct k "passed" ["row", "at", "kind"] [] m_passed) : Def P w K mg base ct (k + 1) "enclosed" ["row", "at", "last"] [] (fun_enclosed m_sequence_at m_passed) :=
  def_mk (N := ["row", "at", "last", "block", "after"]) (g := body_enclosed m_sequence_at m_passed) T.s_enclosed sc_enclosed (by decide) (fun _ _ _ _ _ _ us hl => match us, hl with | [_, _, _], _ => rfl) fun f cdv A outer s H E Y hr hct tk =>
    (psm_cons (psm_asgT (ps_asg (pem_callD D_sequence_at hct hr tk rfl (pam_cons (pem_var 0 (pv 0)) (pam_cons (pem_var 1 (pv 1)) (pam_nil))) rfl) (pgm_tup (pg_tup rfl (pgms_cons (pgm_name (pg_name (i := 3) sc_enclosed.nd rfl (Or.inl rfl))) (pgms_cons (pgm_name (pg_name (i := 4) sc_enclosed.nd rfl (Or.inl rfl))) (pgms_nil)))) rfl))) (psm_one (psm_ret (pem_tup (pam_cons (pem_var 3 (pv 3)) (pam_cons (pem_callD D_passed hct hr tk rfl (pam_cons (pem_var 0 (pv 0)) (pam_cons (pem_var 4 (pv 4)) (pam_cons (pem_var 2 (pv 2)) (pam_nil)))) rfl) (pam_nil)))))))
/-! after_name -/
theorem sc_after_name : FnScope ["row", "at", "name", "following", "value", "after", "arguments"] ["row", "at"] (defScope s_after_name) := ⟨rfl, rfl, rfl, by decide +kernel, rfl, by decide +kernel, by decide +kernel⟩
def body_after_name (m_item_at : List W → FR) (m_arguments_at : List W → FR) : Rho → ML.R Fl := mSeq (mSet [] 2 (mOp gIx (mOp gIx (mVar 0) (mVar 1)) (mC (.int 1)))) (mSeq (mSet [] 3 (mOp gIx (mOp gIx (mVar 0) (mOp gAdd (mVar 1) (mC (.int 1)))) (mC (.int 0)))) (mSeq (mIf (mTest (mOp gEq (mVar 3) (mC (.str ":=")))) (mSeq (mAsgT [] (gTup [gSet [] 4, gSet [] 5]) (mCall [] [] m_item_at [mVar 0, mOp gAdd (mVar 1) (mC (.int 2))])) (mRet [] (mTup [] [mTup [] [mC (.str "set"), mVar 2, mVar 4], mVar 5]))) (mNext)) (mSeq (mIf (mTest (mOp gEq (mVar 3) (mC (.str "(")))) (mSeq (mAsgT [] (gTup [gSet [] 6, gSet [] 5]) (mCall [] [] m_arguments_at [mVar 0, mOp gAdd (mVar 1) (mC (.int 2))])) (mRet [] (mTup [] [mTup [] [mC (.str "call"), mVar 2, mVar 6], mVar 5]))) (mNext)) (mRet [] (mTup [] [mTup [] [mC (.str "get"), mVar 2], mOp gAdd (mVar 1) (mC (.int 1))])))))
def fun_after_name (m_item_at : List W → FR) (m_arguments_at : List W → FR) : List W → FR := mFun [] 7 (body_after_name m_item_at m_arguments_at)
theorem def_after_name (T : Txt w K mg) {m_item_at : List W → FR} (D_item_at : Def P w K mg base ct k "item_at" ["row", "at"] [] m_item_at) {m_arguments_at : List W → FR} (D_arguments_at : Def P w K mg base ct k "arguments_at" ["row", "at"] [] m_arguments_at) : Def P w K mg base ct (k + 1) "after_name" ["row", "at"] [] (fun_after_name m_item_at m_arguments_at) :=
  def_mk (N := ["row", "at", "name", "following", "value", "after", "arguments"]) (g := body_after_name m_item_at m_arguments_at) T.s_after_name sc_after_name (by decide) (fun _ _ _ _ _ _ us hl => match us, hl with | [_, _], _ => rfl) fun f cdv A outer s H E Y hr hct tk =>
    (psm_cons (psm_set (i := 2) sc_after_name.nd rfl (Or.inl rfl) (pem_ix (pem_ix (pem_var 0 (pv 0)) (pem_var 1 (pv 1))) (pem_int))) (psm_cons (psm_set (i := 3) sc_after_name.nd rfl (Or.inl rfl) (pem_ix (pem_ix (pem_var 0 (pv 0)) (pem_op o_add g_add (pem_var 1 (pv 1)) (pem_int))) (pem_int))) (psm_cons (psm_if (ptm_cmp (o_eq (hu200 hr)) g_eq (pem_var 3 (pv 3)) (pem_str) (nomark _)) (psm_cons (psm_asgT (ps_asg (pem_callD D_item_at hct hr tk rfl (pam_cons (pem_var 0 (pv 0)) (pam_cons (pem_op o_add g_add (pem_var 1 (pv 1)) (pem_int)) (pam_nil))) rfl) (pgm_tup (pg_tup rfl (pgms_cons (pgm_name (pg_name (i := 4) sc_after_name.nd rfl (Or.inl rfl))) (pgms_cons (pgm_name (pg_name (i := 5) sc_after_name.nd rfl (Or.inl rfl))) (pgms_nil)))) rfl))) (psm_one (psm_ret (pem_tup (pam_cons (pem_tup (pam_cons (pem_str) (pam_cons (pem_var 2 (pv 2)) (pam_cons (pem_var 4 (pv 4)) (pam_nil))))) (pam_cons (pem_var 5 (pv 5)) (pam_nil))))))) (psm_nil)) (psm_cons (psm_if (ptm_cmp (o_eq (hu200 hr)) g_eq (pem_var 3 (pv 3)) (pem_str) (nomark _)) (psm_cons (psm_asgT (ps_asg (pem_callD D_arguments_at hct hr tk rfl (pam_cons (pem_var 0 (pv 0)) (pam_cons (pem_op o_add g_add (pem_var 1 (pv 1)) (pem_int)) (pam_nil))) rfl) (pgm_tup (pg_tup rfl (pgms_cons (pgm_name (pg_name (i := 6) sc_after_name.nd rfl (Or.inl rfl))) (pgms_cons (pgm_name (pg_name (i := 5) sc_after_name.nd rfl (Or.inl rfl))) (pgms_nil)))) rfl))) (psm_one (psm_ret (pem_tup (pam_cons (pem_tup (pam_cons (pem_str) (pam_cons (pem_var 2 (pv 2)) (pam_cons (pem_var 6 (pv 6)) (pam_nil))))) (pam_cons (pem_var 5 (pv 5)) (pam_nil))))))) (psm_nil)) (psm_one (psm_ret (pem_tup (pam_cons (pem_tup (pam_cons (pem_str) (pam_cons (pem_var 2 (pv 2)) (pam_nil)))) (pam_cons (pem_op o_add g_add (pem_var 1 (pv 1)) (pem_int)) (pam_nil))))))))))
/-! arguments_at -/
theorem sc_arguments_at : FnScope ["row", "at", "parts", "block", "after"] ["row", "at"] (defScope s_arguments_at) := ⟨rfl, rfl, rfl, by decide +kernel, rfl, by decide +kernel, by decide +kernel⟩
noncomputable def body_arguments_at (m_sequence_at : List W → FR) (m_passed : List W → FR) : Rho → ML.R Fl := mSeq (mIf (mTest (mOp gEq (mOp gIx (mOp gIx (mVar 0) (mVar 1)) (mC (.int 0))) (mC (.str ")")))) (mRet [] (mTup [] [mTup [] [], mOp gAdd (mVar 1) (mC (.int 1))])) (mNext)) (mSeq (mSet [] 2 (mLst [] [])) (mSeq (mAsgT [] (gTup [gSet [] 3, gSet [] 4]) (mCall [] [] m_sequence_at [mVar 0, mVar 1])) (mSeq (mDrop (mAppend 2 [] (mVar 3))) (mSeq (mWhile (mTest (mOp gEq (mOp gIx (mOp gIx (mVar 0) (mVar 4)) (mC (.int 0))) (mC (.str ",")))) (mSeq (mAsgT [] (gTup [gSet [] 3, gSet [] 4]) (mCall [] [] m_sequence_at [mVar 0, mOp gAdd (mVar 4) (mC (.int 1))])) (mDrop (mAppend 2 [] (mVar 3))))) (mRet [] (mTup [] [mCB gTupC [mVar 2], mCall [] [] m_passed [mVar 0, mVar 4, mC (.str ")")]]))))))
noncomputable def fun_arguments_at (m_sequence_at : List W → FR) (m_passed : List W → FR) : List W → FR := mFun [] 5 (body_arguments_at m_sequence_at m_passed)
theorem def_arguments_at (T : Txt w K mg) {m_sequence_at : List W → FR} (D_sequence_at : Def P w K mg base ct k "sequence_at" ["row", "at"] [] m_sequence_at) {m_passed : List W → FR} (D_passed : Def P w K mg base ct k "passed" ["row", "at", "kind"] [] m_passed) : Def P w K mg base ct (k + 1) "arguments_at" ["row", "at"] [] (fun_arguments_at m_sequence_at m_passed) :=
  def_mk (N := ["row", "at", "parts", "block", "after"]) (g := body_arguments_at m_sequence_at m_passed) T.s_arguments_at sc_arguments_at (by decide) (fun _ _ _ _ _ _ us hl => match us, hl with | [_, _], _ => rfl) fun f cdv A outer s H E Y hr hct tk =>
    (psm_cons (psm_if (ptm_cmp (o_eq (hu200 hr)) g_eq (pem_ix (pem_ix (pem_var 0 (pv 0)) (pem_var 1 (pv 1))) (pem_int)) (pem_str) (nomark _)) (psm_one (psm_ret (pem_tup (pam_cons (pem_tup (pam_nil)) (pam_cons (pem_op o_add g_add (pem_var 1 (pv 1)) (pem_int)) (pam_nil)))))) (psm_nil)) (psm_cons (psm_set (i := 2) sc_arguments_at.nd rfl (Or.inl rfl) (pem_lst (pam_nil))) (psm_cons (psm_asgT (ps_asg (pem_callD D_sequence_at hct hr tk rfl (pam_cons (pem_var 0 (pv 0)) (pam_cons (pem_var 1 (pv 1)) (pam_nil))) rfl) (pgm_tup (pg_tup rfl (pgms_cons (pgm_name (pg_name (i := 3) sc_arguments_at.nd rfl (Or.inl rfl))) (pgms_cons (pgm_name (pg_name (i := 4) sc_arguments_at.nd rfl (Or.inl rfl))) (pgms_nil)))) rfl))) (psm_cons (psm_expr (pem_append (pv 2) (pem_var 3 (pv 3)))) (psm_cons (psm_while (passes_of rfl) (ptm_cmp (o_eq (hu200 hr)) g_eq (pem_ix (pem_ix (pem_var 0 (pv 0)) (pem_var 4 (pv 4))) (pem_int)) (pem_str) (nomark _)) (psm_cons (psm_asgT (ps_asg (pem_callD D_sequence_at hct hr tk rfl (pam_cons (pem_var 0 (pv 0)) (pam_cons (pem_op o_add g_add (pem_var 4 (pv 4)) (pem_int)) (pam_nil))) rfl) (pgm_tup (pg_tup rfl (pgms_cons (pgm_name (pg_name (i := 3) sc_arguments_at.nd rfl (Or.inl rfl))) (pgms_cons (pgm_name (pg_name (i := 4) sc_arguments_at.nd rfl (Or.inl rfl))) (pgms_nil)))) rfl))) (psm_one (psm_expr (pem_append (pv 2) (pem_var 3 (pv 3))))))) (psm_one (psm_ret (pem_tup (pam_cons (pem_callTy call_tuple_of rfl T.b_tuple (by rfl) g_tupC (pam_cons (pem_var 2 (pv 2)) (pam_nil))) (pam_cons (pem_callD D_passed hct hr tk rfl (pam_cons (pem_var 0 (pv 0)) (pam_cons (pem_var 4 (pv 4)) (pam_cons (pem_str) (pam_nil)))) rfl) (pam_nil)))))))))))
/-! in_parentheses -/
theorem sc_in_parentheses : FnScope ["row", "at", "first", "after", "sign", "second"] ["row", "at"] (defScope s_in_parentheses) := ⟨rfl, rfl, rfl, by decide +kernel, rfl, by decide +kernel, by decide +kernel⟩
def body_in_parentheses (m_sequence_at : List W → FR) (m_passed : List W → FR) (m_enclosed : List W → FR) : Rho → ML.R Fl := mSeq (mAsgT [] (gTup [gSet [] 2, gSet [] 3]) (mCall [] [] m_sequence_at [mVar 0, mVar 1])) (mSeq (mSet [] 4 (mOp gIx (mOp gIx (mVar 0) (mVar 3)) (mC (.int 0)))) (mSeq (mIf (mTest (mInK true k_SIGNS_reading (mVar 4))) (mRet [] (mTup [] [mVar 2, mCall [] [] m_passed [mVar 0, mVar 3, mC (.str ")")]])) (mNext)) (mSeq (mAsgT [] (gTup [gSet [] 5, gSet [] 3]) (mCall [] [] m_enclosed [mVar 0, mOp gAdd (mVar 3) (mC (.int 1)), mC (.str ")")])) (mRet [] (mTup [] [mTup [] [mIxK k_SIGNS_reading w_SIGNS_reading (mVar 4), mVar 2, mVar 5], mVar 3])))))
def fun_in_parentheses (m_sequence_at : List W → FR) (m_passed : List W → FR) (m_enclosed : List W → FR) : List W → FR := mFun [] 6 (body_in_parentheses m_sequence_at m_passed m_enclosed)
theorem def_in_parentheses (T : Txt w K mg) {m_sequence_at : List W → FR} (D_sequence_at : Def P w K mg base ct k "sequence_at" ["row", "at"] [] m_sequence_at) {m_passed : List W → FR} (D_passed : Def P w K mg base ct k "passed" ["row", "at", "kind"] [] m_passed) {m_enclosed : List W → FR} (D_enclosed : Def P w K mg base ct k "enclosed" ["row", "at", "last"] [] m_enclosed) : Def P w K mg base ct (k + 1) "in_parentheses" ["row", "at"] [] (fun_in_parentheses m_sequence_at m_passed m_enclosed) :=
  def_mk (N := ["row", "at", "first", "after", "sign", "second"]) (g := body_in_parentheses m_sequence_at m_passed m_enclosed) T.s_in_parentheses sc_in_parentheses (by decide) (fun _ _ _ _ _ _ us hl => match us, hl with | [_, _], _ => rfl) fun f cdv A outer s H E Y hr hct tk =>
    (psm_cons (psm_asgT (ps_asg (pem_callD D_sequence_at hct hr tk rfl (pam_cons (pem_var 0 (pv 0)) (pam_cons (pem_var 1 (pv 1)) (pam_nil))) rfl) (pgm_tup (pg_tup rfl (pgms_cons (pgm_name (pg_name (i := 2) sc_in_parentheses.nd rfl (Or.inl rfl))) (pgms_cons (pgm_name (pg_name (i := 3) sc_in_parentheses.nd rfl (Or.inl rfl))) (pgms_nil)))) rfl))) (psm_cons (psm_set (i := 4) sc_in_parentheses.nd rfl (Or.inl rfl) (pem_ix (pem_ix (pem_var 0 (pv 0)) (pem_var 3 (pv 3))) (pem_int))) (psm_cons (psm_if (ptm_notInK T.d_SIGNS_reading rfl (pem_var 4 (pv 4))) (psm_one (psm_ret (pem_tup (pam_cons (pem_var 2 (pv 2)) (pam_cons (pem_callD D_passed hct hr tk rfl (pam_cons (pem_var 0 (pv 0)) (pam_cons (pem_var 3 (pv 3)) (pam_cons (pem_str) (pam_nil)))) rfl) (pam_nil)))))) (psm_nil)) (psm_cons (psm_asgT (ps_asg (pem_callD D_enclosed hct hr tk rfl (pam_cons (pem_var 0 (pv 0)) (pam_cons (pem_op o_add g_add (pem_var 3 (pv 3)) (pem_int)) (pam_cons (pem_str) (pam_nil)))) rfl) (pgm_tup (pg_tup rfl (pgms_cons (pgm_name (pg_name (i := 5) sc_in_parentheses.nd rfl (Or.inl rfl))) (pgms_cons (pgm_name (pg_name (i := 3) sc_in_parentheses.nd rfl (Or.inl rfl))) (pgms_nil)))) rfl))) (psm_one (psm_ret (pem_tup (pam_cons (pem_tup (pam_cons (pem_ixK T.d_SIGNS_reading rfl (pem_var 4 (pv 4))) (pam_cons (pem_var 2 (pv 2)) (pam_cons (pem_var 5 (pv 5)) (pam_nil))))) (pam_cons (pem_var 3 (pv 3)) (pam_nil))))))))))
/-! if_at -/
theorem sc_if_at : FnScope ["row", "at", "test", "after", "yes", "no"] ["row", "at"] (defScope s_if_at) := ⟨rfl, rfl, rfl, by decide +kernel, rfl, by decide +kernel, by decide +kernel⟩
def body_if_at (m_enclosed : List W → FR) : Rho → ML.R Fl := mSeq (mAsgT [] (gTup [gSet [] 2, gSet [] 3]) (mCall [] [] m_enclosed [mVar 0, mVar 1, mC (.str "then")])) (mSeq (mAsgT [] (gTup [gSet [] 4, gSet [] 3]) (mCall [] [] m_enclosed [mVar 0, mVar 3, mC (.str "else")])) (mSeq (mAsgT [] (gTup [gSet [] 5, gSet [] 3]) (mCall [] [] m_enclosed [mVar 0, mVar 3, mC (.str "fi")])) (mRet [] (mTup [] [mTup [] [mC (.str "if"), mVar 2, mVar 4, mVar 5], mVar 3]))))
def fun_if_at (m_enclosed : List W → FR) : List W → FR := mFun [] 6 (body_if_at m_enclosed)
theorem def_if_at (T : Txt w K mg) {m_enclosed : List W → FR} (D_enclosed : Def P w K mg base ct k "enclosed" ["row", "at", "last"] [] m_enclosed) : Def P w K mg base ct (k + 1) "if_at" ["row", "at"] [] (fun_if_at m_enclosed) :=
  def_mk (N := ["row", "at", "test", "after", "yes", "no"]) (g := body_if_at m_enclosed) T.s_if_at sc_if_at (by decide) (fun _ _ _ _ _ _ us hl => match us, hl with | [_, _], _ => rfl) fun f cdv A outer s H E Y hr hct tk =>
    (psm_cons (psm_asgT (ps_asg (pem_callD D_enclosed hct hr tk rfl (pam_cons (pem_var 0 (pv 0)) (pam_cons (pem_var 1 (pv 1)) (pam_cons (pem_str) (pam_nil)))) rfl) (pgm_tup (pg_tup rfl (pgms_cons (pgm_name (pg_name (i := 2) sc_if_at.nd rfl (Or.inl rfl))) (pgms_cons (pgm_name (pg_name (i := 3) sc_if_at.nd rfl (Or.inl rfl))) (pgms_nil)))) rfl))) (psm_cons (psm_asgT (ps_asg (pem_callD D_enclosed hct hr tk rfl (pam_cons (pem_var 0 (pv 0)) (pam_cons (pem_var 3 (pv 3)) (pam_cons (pem_str) (pam_nil)))) rfl) (pgm_tup (pg_tup rfl (pgms_cons (pgm_name (pg_name (i := 4) sc_if_at.nd rfl (Or.inl rfl))) (pgms_cons (pgm_name (pg_name (i := 3) sc_if_at.nd rfl (Or.inl rfl))) (pgms_nil)))) rfl))) (psm_cons (psm_asgT (ps_asg (pem_callD D_enclosed hct hr tk rfl (pam_cons (pem_var 0 (pv 0)) (pam_cons (pem_var 3 (pv 3)) (pam_cons (pem_str) (pam_nil)))) rfl) (pgm_tup (pg_tup rfl (pgms_cons (pgm_name (pg_name (i := 5) sc_if_at.nd rfl (Or.inl rfl))) (pgms_cons (pgm_name (pg_name (i := 3) sc_if_at.nd rfl (Or.inl rfl))) (pgms_nil)))) rfl))) (psm_one (psm_ret (pem_tup (pam_cons (pem_tup (pam_cons (pem_str) (pam_cons (pem_var 2 (pv 2)) (pam_cons (pem_var 4 (pv 4)) (pam_cons (pem_var 5 (pv 5)) (pam_nil)))))) (pam_cons (pem_var 3 (pv 3)) (pam_nil)))))))))
/-! while_at -/
theorem sc_while_at : FnScope ["row", "at", "test", "after", "body"] ["row", "at"] (defScope s_while_at) := ⟨rfl, rfl, rfl, by decide +kernel, rfl, by decide +kernel, by decide +kernel⟩
def body_while_at (m_enclosed : List W → FR) : Rho → ML.R Fl := mSeq (mAsgT [] (gTup [gSet [] 2, gSet [] 3]) (mCall [] [] m_enclosed [mVar 0, mVar 1, mC (.str "do")])) (mSeq (mAsgT [] (gTup [gSet [] 4, gSet [] 3]) (mCall [] [] m_enclosed [mVar 0, mVar 3, mC (.str "od")])) (mRet [] (mTup [] [mTup [] [mC (.str "while"), mVar 2, mVar 4], mVar 3])))
def fun_while_at (m_enclosed : List W → FR) : List W → FR := mFun [] 5 (body_while_at m_enclosed)
theorem def_while_at (T : Txt w K mg) {m_enclosed : List W → FR} (D_enclosed : Def P w K mg base ct k "enclosed" ["row", "at", "last"] [] m_enclosed) : Def P w K mg base ct (k + 1) "while_at" ["row", "at"] [] (fun_while_at m_enclosed) :=
  def_mk (N := ["row", "at", "test", "after", "body"]) (g := body_while_at m_enclosed) T.s_while_at sc_while_at (by decide) (fun _ _ _ _ _ _ us hl => match us, hl with | [_, _], _ => rfl) fun f cdv A outer s H E Y hr hct tk =>
    (psm_cons (psm_asgT (ps_asg (pem_callD D_enclosed hct hr tk rfl (pam_cons (pem_var 0 (pv 0)) (pam_cons (pem_var 1 (pv 1)) (pam_cons (pem_str) (pam_nil)))) rfl) (pgm_tup (pg_tup rfl (pgms_cons (pgm_name (pg_name (i := 2) sc_while_at.nd rfl (Or.inl rfl))) (pgms_cons (pgm_name (pg_name (i := 3) sc_while_at.nd rfl (Or.inl rfl))) (pgms_nil)))) rfl))) (psm_cons (psm_asgT (ps_asg (pem_callD D_enclosed hct hr tk rfl (pam_cons (pem_var 0 (pv 0)) (pam_cons (pem_var 3 (pv 3)) (pam_cons (pem_str) (pam_nil)))) rfl) (pgm_tup (pg_tup rfl (pgms_cons (pgm_name (pg_name (i := 4) sc_while_at.nd rfl (Or.inl rfl))) (pgms_cons (pgm_name (pg_name (i := 3) sc_while_at.nd rfl (Or.inl rfl))) (pgms_nil)))) rfl))) (psm_one (psm_ret (pem_tup (pam_cons (pem_tup (pam_cons (pem_str) (pam_cons (pem_var 2 (pv 2)) (pam_cons (pem_var 4 (pv 4)) (pam_nil))))) (pam_cons (pem_var 3 (pv 3)) (pam_nil))))))))
/-! new_at -/
theorem sc_new_at : FnScope ["row", "at", "after", "number", "inner"] ["row", "at"] (defScope s_new_at) := ⟨rfl, rfl, rfl, by decide +kernel, rfl, by decide +kernel, by decide +kernel⟩
def body_new_at (m_passed : List W → FR) (m_enclosed : List W → FR) : Rho → ML.R Fl := mSeq (mSet [] 2 (mCall [] [] m_passed [mVar 0, mCall [] [] m_passed [mVar 0, mVar 1, mC w_NAME], mC (.str ":=")])) (mSeq (mSet [] 3 (mOp gIx (mOp gIx (mVar 0) (mVar 2)) (mC (.int 1)))) (mSeq (mSet [] 2 (mCall [] [] m_passed [mVar 0, mCall [] [] m_passed [mVar 0, mVar 2, mC w_NUMBER], mC (.str "in")])) (mSeq (mAsgT [] (gTup [gSet [] 4, gSet [] 2]) (mCall [] [] m_enclosed [mVar 0, mVar 2, mC (.str "end")])) (mRet [] (mTup [] [mTup [] [mC (.str "new"), mOp gIx (mOp gIx (mVar 0) (mVar 1)) (mC (.int 1)), mCB gInt [mVar 3], mVar 4], mVar 2])))))
def fun_new_at (m_passed : List W → FR) (m_enclosed : List W → FR) : List W → FR := mFun [] 5 (body_new_at m_passed m_enclosed)
theorem def_new_at (T : Txt w K mg) {m_passed : List W → FR} (D_passed : Def P w K mg base ct k "passed" ["row", "at", "kind"] [] m_passed) {m_enclosed : List W → FR} (D_enclosed : Def P w K mg base ct k "enclosed" ["row", "at", "last"] [] m_enclosed) : Def P w K mg base ct (k + 1) "new_at" ["row", "at"] [] (fun_new_at m_passed m_enclosed) :=
  def_mk (N := ["row", "at", "after", "number", "inner"]) (g := body_new_at m_passed m_enclosed) T.s_new_at sc_new_at (by decide) (fun _ _ _ _ _ _ us hl => match us, hl with | [_, _], _ => rfl) fun f cdv A outer s H E Y hr hct tk =>
    (psm_cons (psm_set (i := 2) sc_new_at.nd rfl (Or.inl rfl) (pem_callD D_passed hct hr tk rfl (pam_cons (pem_var 0 (pv 0)) (pam_cons (pem_callD D_passed hct hr tk rfl (pam_cons (pem_var 0 (pv 0)) (pam_cons (pem_var 1 (pv 1)) (pam_cons (pg_NAME T) (pam_nil)))) rfl) (pam_cons (pem_str) (pam_nil)))) rfl)) (psm_cons (psm_set (i := 3) sc_new_at.nd rfl (Or.inl rfl) (pem_ix (pem_ix (pem_var 0 (pv 0)) (pem_var 2 (pv 2))) (pem_int))) (psm_cons (psm_set (i := 2) sc_new_at.nd rfl (Or.inl rfl) (pem_callD D_passed hct hr tk rfl (pam_cons (pem_var 0 (pv 0)) (pam_cons (pem_callD D_passed hct hr tk rfl (pam_cons (pem_var 0 (pv 0)) (pam_cons (pem_var 2 (pv 2)) (pam_cons (pg_NUMBER T) (pam_nil)))) rfl) (pam_cons (pem_str) (pam_nil)))) rfl)) (psm_cons (psm_asgT (ps_asg (pem_callD D_enclosed hct hr tk rfl (pam_cons (pem_var 0 (pv 0)) (pam_cons (pem_var 2 (pv 2)) (pam_cons (pem_str) (pam_nil)))) rfl) (pgm_tup (pg_tup rfl (pgms_cons (pgm_name (pg_name (i := 4) sc_new_at.nd rfl (Or.inl rfl))) (pgms_cons (pgm_name (pg_name (i := 2) sc_new_at.nd rfl (Or.inl rfl))) (pgms_nil)))) rfl))) (psm_one (psm_ret (pem_tup (pam_cons (pem_tup (pam_cons (pem_str) (pam_cons (pem_ix (pem_ix (pem_var 0 (pv 0)) (pem_var 1 (pv 1))) (pem_int)) (pam_cons (pem_callTy c_int rfl T.b_int (by rfl) g_int (pam_cons (pem_var 3 (pv 3)) (pam_nil))) (pam_cons (pem_var 4 (pv 4)) (pam_nil)))))) (pam_cons (pem_var 2 (pv 2)) (pam_nil))))))))))
/-! parameter_at -/
theorem sc_parameter_at : FnScope ["row", "at", "after"] ["row", "at"] (defScope s_parameter_at) := ⟨rfl, rfl, rfl, by decide +kernel, rfl, by decide +kernel, by decide +kernel⟩
def body_parameter_at (m_passed : List W → FR) : Rho → ML.R Fl := mSeq (mSet [] 2 (mCall [] [] m_passed [mVar 0, mVar 1, mC w_NAME])) (mSeq (mIf (mTest (mOp (gIn true) (mOp gIx (mOp gIx (mVar 0) (mVar 2)) (mC (.int 0))) (mC w_KINDS))) (mStk) (mNext)) (mRet [] (mTup [] [mTup [] [mOp gIx (mOp gIx (mVar 0) (mVar 1)) (mC (.int 1)), mOp gIx (mOp gIx (mVar 0) (mVar 2)) (mC (.int 1))], mOp gAdd (mVar 2) (mC (.int 1))])))
def fun_parameter_at (m_passed : List W → FR) : List W → FR := mFun [] 3 (body_parameter_at m_passed)
theorem def_parameter_at (T : Txt w K mg) {m_passed : List W → FR} (D_passed : Def P w K mg base ct k "passed" ["row", "at", "kind"] [] m_passed) : Def P w K mg base ct (k + 1) "parameter_at" ["row", "at"] [] (fun_parameter_at m_passed) :=
  def_mk (N := ["row", "at", "after"]) (g := body_parameter_at m_passed) T.s_parameter_at sc_parameter_at (by decide) (fun _ _ _ _ _ _ us hl => match us, hl with | [_, _], _ => rfl) fun f cdv A outer s H E Y hr hct tk =>
    (psm_cons (psm_set (i := 2) sc_parameter_at.nd rfl (Or.inl rfl) (pem_callD D_passed hct hr tk rfl (pam_cons (pem_var 0 (pv 0)) (pam_cons (pem_var 1 (pv 1)) (pam_cons (pg_NAME T) (pam_nil)))) rfl)) (psm_cons (psm_if (ptm_cmp o_notin g_in (pem_ix (pem_ix (pem_var 0 (pv 0)) (pem_var 2 (pv 2))) (pem_int)) (pg_KINDS T) rfl) (psm_one (psm_never)) (psm_nil)) (psm_one (psm_ret (pem_tup (pam_cons (pem_tup (pam_cons (pem_ix (pem_ix (pem_var 0 (pv 0)) (pem_var 1 (pv 1))) (pem_int)) (pam_cons (pem_ix (pem_ix (pem_var 0 (pv 0)) (pem_var 2 (pv 2))) (pem_int)) (pam_nil)))) (pam_cons (pem_op o_add g_add (pem_var 2 (pv 2)) (pem_int)) (pam_nil))))))))
/-! parameters_at -/
theorem sc_parameters_at : FnScope ["row", "at", "parts", "pair", "after"] ["row", "at"] (defScope s_parameters_at) := ⟨rfl, rfl, rfl, by decide +kernel, rfl, by decide +kernel, by decide +kernel⟩
noncomputable def body_parameters_at (m_parameter_at : List W → FR) (m_passed : List W → FR) : Rho → ML.R Fl := mSeq (mIf (mTest (mOp gEq (mOp gIx (mOp gIx (mVar 0) (mVar 1)) (mC (.int 0))) (mC (.str ")")))) (mRet [] (mTup [] [mTup [] [], mOp gAdd (mVar 1) (mC (.int 1))])) (mNext)) (mSeq (mSet [] 2 (mLst [] [])) (mSeq (mAsgT [] (gTup [gSet [] 3, gSet [] 4]) (mCall [] [] m_parameter_at [mVar 0, mVar 1])) (mSeq (mDrop (mAppend 2 [] (mVar 3))) (mSeq (mWhile (mTest (mOp gEq (mOp gIx (mOp gIx (mVar 0) (mVar 4)) (mC (.int 0))) (mC (.str ",")))) (mSeq (mAsgT [] (gTup [gSet [] 3, gSet [] 4]) (mCall [] [] m_parameter_at [mVar 0, mOp gAdd (mVar 4) (mC (.int 1))])) (mDrop (mAppend 2 [] (mVar 3))))) (mRet [] (mTup [] [mCB gTupC [mVar 2], mCall [] [] m_passed [mVar 0, mVar 4, mC (.str ")")]]))))))
noncomputable def fun_parameters_at (m_parameter_at : List W → FR) (m_passed : List W → FR) : List W → FR := mFun [] 5 (body_parameters_at m_parameter_at m_passed)
theorem def_parameters_at (T : Txt w K mg) {m_parameter_at : List W → FR} (D_parameter_at : Def P w K mg base ct k "parameter_at" ["row", "at"] [] m_parameter_at) {m_passed : List W → FR} (D_passed : Def P w K mg base ct k "passed" ["row", "at", "kind"] [] m_passed) : Def P w K mg base ct (k + 1) "parameters_at" ["row", "at"] [] (fun_parameters_at m_parameter_at m_passed) :=
  def_mk (N := ["row", "at", "parts", "pair", "after"]) (g := body_parameters_at m_parameter_at m_passed) T.s_parameters_at sc_parameters_at (by decide) (fun _ _ _ _ _ _ us hl => match us, hl with | [_, _], _ => rfl) fun f cdv A outer s H E Y hr hct tk =>
    (psm_cons (psm_if (ptm_cmp (o_eq (hu200 hr)) g_eq (pem_ix (pem_ix (pem_var 0 (pv 0)) (pem_var 1 (pv 1))) (pem_int)) (pem_str) (nomark _)) (psm_one (psm_ret (pem_tup (pam_cons (pem_tup (pam_nil)) (pam_cons (pem_op o_add g_add (pem_var 1 (pv 1)) (pem_int)) (pam_nil)))))) (psm_nil)) (psm_cons (psm_set (i := 2) sc_parameters_at.nd rfl (Or.inl rfl) (pem_lst (pam_nil))) (psm_cons (psm_asgT (ps_asg (pem_callD D_parameter_at hct hr tk rfl (pam_cons (pem_var 0 (pv 0)) (pam_cons (pem_var 1 (pv 1)) (pam_nil))) rfl) (pgm_tup (pg_tup rfl (pgms_cons (pgm_name (pg_name (i := 3) sc_parameters_at.nd rfl (Or.inl rfl))) (pgms_cons (pgm_name (pg_name (i := 4) sc_parameters_at.nd rfl (Or.inl rfl))) (pgms_nil)))) rfl))) (psm_cons (psm_expr (pem_append (pv 2) (pem_var 3 (pv 3)))) (psm_cons (psm_while (passes_of rfl) (ptm_cmp (o_eq (hu200 hr)) g_eq (pem_ix (pem_ix (pem_var 0 (pv 0)) (pem_var 4 (pv 4))) (pem_int)) (pem_str) (nomark _)) (psm_cons (psm_asgT (ps_asg (pem_callD D_parameter_at hct hr tk rfl (pam_cons (pem_var 0 (pv 0)) (pam_cons (pem_op o_add g_add (pem_var 4 (pv 4)) (pem_int)) (pam_nil))) rfl) (pgm_tup (pg_tup rfl (pgms_cons (pgm_name (pg_name (i := 3) sc_parameters_at.nd rfl (Or.inl rfl))) (pgms_cons (pgm_name (pg_name (i := 4) sc_parameters_at.nd rfl (Or.inl rfl))) (pgms_nil)))) rfl))) (psm_one (psm_expr (pem_append (pv 2) (pem_var 3 (pv 3))))))) (psm_one (psm_ret (pem_tup (pam_cons (pem_callTy call_tuple_of rfl T.b_tuple (by rfl) g_tupC (pam_cons (pem_var 2 (pv 2)) (pam_nil))) (pam_cons (pem_callD D_passed hct hr tk rfl (pam_cons (pem_var 0 (pv 0)) (pam_cons (pem_var 4 (pv 4)) (pam_cons (pem_str) (pam_nil)))) rfl) (pam_nil)))))))))))
/-! let_at -/
theorem sc_let_at : FnScope ["row", "at", "after", "parameters", "body", "rest"] ["row", "at"] (defScope s_let_at) := ⟨rfl, rfl, rfl, by decide +kernel, rfl, by decide +kernel, by decide +kernel⟩
def body_let_at (m_passed : List W → FR) (m_parameters_at : List W → FR) (m_enclosed : List W → FR) : Rho → ML.R Fl := mSeq (mSet [] 2 (mCall [] [] m_passed [mVar 0, mCall [] [] m_passed [mVar 0, mVar 1, mC w_NAME], mC (.str "(")])) (mSeq (mAsgT [] (gTup [gSet [] 3, gSet [] 2]) (mCall [] [] m_parameters_at [mVar 0, mVar 2])) (mSeq (mAsgT [] (gTup [gSet [] 4, gSet [] 2]) (mCall [] [] m_enclosed [mVar 0, mCall [] [] m_passed [mVar 0, mVar 2, mC (.str "be")], mC (.str "in")])) (mSeq (mAsgT [] (gTup [gSet [] 5, gSet [] 2]) (mCall [] [] m_enclosed [mVar 0, mVar 2, mC (.str "end")])) (mRet [] (mTup [] [mTup [] [mC (.str "let"), mOp gIx (mOp gIx (mVar 0) (mVar 1)) (mC (.int 1)), mVar 3, mVar 4, mVar 5], mVar 2])))))
def fun_let_at (m_passed : List W → FR) (m_parameters_at : List W → FR) (m_enclosed : List W → FR) : List W → FR := mFun [] 6 (body_let_at m_passed m_parameters_at m_enclosed)
theorem def_let_at (T : Txt w K mg) {m_passed : List W → FR} (D_passed : Def P w K mg base ct k "passed" ["row", "at", "kind"] [] m_passed) {m_parameters_at : List W → FR} (D_parameters_at : Def P w K mg base ct k "parameters_at" ["row", "at"] [] m_parameters_at) {m_enclosed : List W → FR} (D_enclosed : Def P w K mg base ct k "enclosed" ["row", "at", "last"] [] m_enclosed) : Def P w K mg base ct (k + 1) "let_at" ["row", "at"] [] (fun_let_at m_passed m_parameters_at m_enclosed) :=
  def_mk (N := ["row", "at", "after", "parameters", "body", "rest"]) (g := body_let_at m_passed m_parameters_at m_enclosed) T.s_let_at sc_let_at (by decide) (fun _ _ _ _ _ _ us hl => match us, hl with | [_, _], _ => rfl) fun f cdv A outer s H E Y hr hct tk =>
    (psm_cons (psm_set (i := 2) sc_let_at.nd rfl (Or.inl rfl) (pem_callD D_passed hct hr tk rfl (pam_cons (pem_var 0 (pv 0)) (pam_cons (pem_callD D_passed hct hr tk rfl (pam_cons (pem_var 0 (pv 0)) (pam_cons (pem_var 1 (pv 1)) (pam_cons (pg_NAME T) (pam_nil)))) rfl) (pam_cons (pem_str) (pam_nil)))) rfl)) (psm_cons (psm_asgT (ps_asg (pem_callD D_parameters_at hct hr tk rfl (pam_cons (pem_var 0 (pv 0)) (pam_cons (pem_var 2 (pv 2)) (pam_nil))) rfl) (pgm_tup (pg_tup rfl (pgms_cons (pgm_name (pg_name (i := 3) sc_let_at.nd rfl (Or.inl rfl))) (pgms_cons (pgm_name (pg_name (i := 2) sc_let_at.nd rfl (Or.inl rfl))) (pgms_nil)))) rfl))) (psm_cons (psm_asgT (ps_asg (pem_callD D_enclosed hct hr tk rfl (pam_cons (pem_var 0 (pv 0)) (pam_cons (pem_callD D_passed hct hr tk rfl (pam_cons (pem_var 0 (pv 0)) (pam_cons (pem_var 2 (pv 2)) (pam_cons (pem_str) (pam_nil)))) rfl) (pam_cons (pem_str) (pam_nil)))) rfl) (pgm_tup (pg_tup rfl (pgms_cons (pgm_name (pg_name (i := 4) sc_let_at.nd rfl (Or.inl rfl))) (pgms_cons (pgm_name (pg_name (i := 2) sc_let_at.nd rfl (Or.inl rfl))) (pgms_nil)))) rfl))) (psm_cons (psm_asgT (ps_asg (pem_callD D_enclosed hct hr tk rfl (pam_cons (pem_var 0 (pv 0)) (pam_cons (pem_var 2 (pv 2)) (pam_cons (pem_str) (pam_nil)))) rfl) (pgm_tup (pg_tup rfl (pgms_cons (pgm_name (pg_name (i := 5) sc_let_at.nd rfl (Or.inl rfl))) (pgms_cons (pgm_name (pg_name (i := 2) sc_let_at.nd rfl (Or.inl rfl))) (pgms_nil)))) rfl))) (psm_one (psm_ret (pem_tup (pam_cons (pem_tup (pam_cons (pem_str) (pam_cons (pem_ix (pem_ix (pem_var 0 (pv 0)) (pem_var 1 (pv 1))) (pem_int)) (pam_cons (pem_var 3 (pv 3)) (pam_cons (pem_var 4 (pv 4)) (pam_cons (pem_var 5 (pv 5)) (pam_nil))))))) (pam_cons (pem_var 2 (pv 2)) (pam_nil))))))))))
/-! item_at -/
theorem sc_item_at : FnScope ["row", "at", "kind", "form"] ["row", "at"] (defScope s_item_at) := ⟨rfl, rfl, rfl, by decide +kernel, rfl, by decide +kernel, by decide +kernel⟩
def body_item_at (m_after_name : List W → FR) (m_in_parentheses : List W → FR) (m_if_at : List W → FR) (m_while_at : List W → FR) (m_new_at : List W → FR) (m_let_at : List W → FR) : Rho → ML.R Fl := mSeq (mSet [] 2 (mOp gIx (mOp gIx (mVar 0) (mVar 1)) (mC (.int 0)))) (mSeq (mIf (mTest (mInK false k_LEAVES_reading (mVar 2))) (mRet [] (mTup [] [mIxK k_LEAVES_reading w_LEAVES_reading (mVar 2), mOp gAdd (mVar 1) (mC (.int 1))])) (mNext)) (mSeq (mIf (mTest (mOp gEq (mVar 2) (mC w_NUMBER))) (mRet [] (mTup [] [mTup [] [mC (.str "number"), mCB gInt [mOp gIx (mOp gIx (mVar 0) (mVar 1)) (mC (.int 1))]], mOp gAdd (mVar 1) (mC (.int 1))])) (mNext)) (mSeq (mIf (mTest (mOp gEq (mVar 2) (mC w_NAME))) (mRet [] (mCall [] [] m_after_name [mVar 0, mVar 1])) (mNext)) (mSeq (mIf (mTest (mInK true k_FORMS (mVar 2))) (mStk) (mNext)) (mSeq (mSet [] 3 (mIxK k_FORMS w_FORMS (mVar 2))) (mRet [] (mCallL [] 3 [("in_parentheses", m_in_parentheses), ("if_at", m_if_at), ("while_at", m_while_at), ("new_at", m_new_at), ("let_at", m_let_at)] [mVar 0, mOp gAdd (mVar 1) (mC (.int 1))])))))))
def fun_item_at (m_after_name : List W → FR) (m_in_parentheses : List W → FR) (m_if_at : List W → FR) (m_while_at : List W → FR) (m_new_at : List W → FR) (m_let_at : List W → FR) : List W → FR := mFun [] 4 (body_item_at m_after_name m_in_parentheses m_if_at m_while_at m_new_at m_let_at)
theorem def_item_at (T : Txt w K mg) {m_after_name : List W → FR} (D_after_name : Def P w K mg base ct k "after_name" ["row", "at"] [] m_after_name) {m_in_parentheses : List W → FR} (D_in_parentheses : Def P w K mg base ct k "in_parentheses" ["row", "at"] [] m_in_parentheses) {m_if_at : List W → FR} (D_if_at : Def P w K mg base ct k "if_at" ["row", "at"] [] m_if_at) {m_while_at : List W → FR} (D_while_at : Def P w K mg base ct k "while_at" ["row", "at"] [] m_while_at) {m_new_at : List W → FR} (D_new_at : Def P w K mg base ct k "new_at" ["row", "at"] [] m_new_at) {m_let_at : List W → FR} (D_let_at : Def P w K mg base ct k "let_at" ["row", "at"] [] m_let_at) : Def P w K mg base ct (k + 1) "item_at" ["row", "at"] [] (fun_item_at m_after_name m_in_parentheses m_if_at m_while_at m_new_at m_let_at) :=
  def_mk (N := ["row", "at", "kind", "form"]) (g := body_item_at m_after_name m_in_parentheses m_if_at m_while_at m_new_at m_let_at) T.s_item_at sc_item_at (by decide) (fun _ _ _ _ _ _ us hl => match us, hl with | [_, _], _ => rfl) fun f cdv A outer s H E Y hr hct tk =>
    (psm_cons (psm_set (i := 2) sc_item_at.nd rfl (Or.inl rfl) (pem_ix (pem_ix (pem_var 0 (pv 0)) (pem_var 1 (pv 1))) (pem_int))) (psm_cons (psm_if (ptm_inK T.d_LEAVES_reading rfl (pem_var 2 (pv 2))) (psm_one (psm_ret (pem_tup (pam_cons (pem_ixK T.d_LEAVES_reading rfl (pem_var 2 (pv 2))) (pam_cons (pem_op o_add g_add (pem_var 1 (pv 1)) (pem_int)) (pam_nil)))))) (psm_nil)) (psm_cons (psm_if (ptm_cmp (o_eq (hu200 hr)) g_eq (pem_var 2 (pv 2)) (pg_NUMBER T) (nomark _)) (psm_one (psm_ret (pem_tup (pam_cons (pem_tup (pam_cons (pem_str) (pam_cons (pem_callTy c_int rfl T.b_int (by rfl) g_int (pam_cons (pem_ix (pem_ix (pem_var 0 (pv 0)) (pem_var 1 (pv 1))) (pem_int)) (pam_nil))) (pam_nil)))) (pam_cons (pem_op o_add g_add (pem_var 1 (pv 1)) (pem_int)) (pam_nil)))))) (psm_nil)) (psm_cons (psm_if (ptm_cmp (o_eq (hu200 hr)) g_eq (pem_var 2 (pv 2)) (pg_NAME T) (nomark _)) (psm_one (psm_ret (pem_callD D_after_name hct hr tk rfl (pam_cons (pem_var 0 (pv 0)) (pam_cons (pem_var 1 (pv 1)) (pam_nil))) rfl))) (psm_nil)) (psm_cons (psm_if (ptm_notInK T.d_FORMS rfl (pem_var 2 (pv 2))) (psm_one (psm_never)) (psm_nil)) (psm_cons (psm_set (i := 3) sc_item_at.nd rfl (Or.inl rfl) (pem_ixK T.d_FORMS rfl (pem_var 2 (pv 2)))) (psm_one (psm_ret (pem_callL (cands_cons T.s_in_parentheses D_in_parentheses (cands_cons T.s_if_at D_if_at (cands_cons T.s_while_at D_while_at (cands_cons T.s_new_at D_new_at (cands_cons T.s_let_at D_let_at (cands_nil)))))) hct hr tk (pv 3) (pam_cons (pem_var 0 (pv 0)) (pam_cons (pem_op o_add g_add (pem_var 1 (pv 1)) (pem_int)) (pam_nil))) rfl)))))))))
/-! sequence_at -/
theorem sc_sequence_at : FnScope ["row", "at", "items", "block", "after", "item"] ["row", "at"] (defScope s_sequence_at) := ⟨rfl, rfl, rfl, by decide +kernel, rfl, by decide +kernel, by decide +kernel⟩
noncomputable def body_sequence_at (m_item_at : List W → FR) : Rho → ML.R Fl := mSeq (mSet [] 2 (mLst [] [])) (mSeq (mAsgT [] (gTup [gSet [] 3, gSet [] 4]) (mCall [] [] m_item_at [mVar 0, mVar 1])) (mSeq (mWhile (mTest (mOp gEq (mOp gIx (mOp gIx (mVar 0) (mVar 4)) (mC (.int 0))) (mC (.str ";")))) (mSeq (mDrop (mAppend 2 [] (mVar 3))) (mAsgT [] (gTup [gSet [] 3, gSet [] 4]) (mCall [] [] m_item_at [mVar 0, mOp gAdd (mVar 4) (mC (.int 1))])))) (mSeq (mFor (mRev [] (mVar 2)) (gSet [] 5) (mSet [] 3 (mTup [] [mC (.str "then"), mVar 5, mVar 3]))) (mRet [] (mTup [] [mVar 3, mVar 4])))))
noncomputable def fun_sequence_at (m_item_at : List W → FR) : List W → FR := mFun [] 6 (body_sequence_at m_item_at)
theorem def_sequence_at (T : Txt w K mg) {m_item_at : List W → FR} (D_item_at : Def P w K mg base ct k "item_at" ["row", "at"] [] m_item_at) : Def P w K mg base ct (k + 1) "sequence_at" ["row", "at"] [] (fun_sequence_at m_item_at) :=
  def_mk (N := ["row", "at", "items", "block", "after", "item"]) (g := body_sequence_at m_item_at) T.s_sequence_at sc_sequence_at (by decide) (fun _ _ _ _ _ _ us hl => match us, hl with | [_, _], _ => rfl) fun f cdv A outer s H E Y hr hct tk =>
    (psm_cons (psm_set (i := 2) sc_sequence_at.nd rfl (Or.inl rfl) (pem_lst (pam_nil))) (psm_cons (psm_asgT (ps_asg (pem_callD D_item_at hct hr tk rfl (pam_cons (pem_var 0 (pv 0)) (pam_cons (pem_var 1 (pv 1)) (pam_nil))) rfl) (pgm_tup (pg_tup rfl (pgms_cons (pgm_name (pg_name (i := 3) sc_sequence_at.nd rfl (Or.inl rfl))) (pgms_cons (pgm_name (pg_name (i := 4) sc_sequence_at.nd rfl (Or.inl rfl))) (pgms_nil)))) rfl))) (psm_cons (psm_while (passes_of rfl) (ptm_cmp (o_eq (hu200 hr)) g_eq (pem_ix (pem_ix (pem_var 0 (pv 0)) (pem_var 4 (pv 4))) (pem_int)) (pem_str) (nomark _)) (psm_cons (psm_expr (pem_append (pv 2) (pem_var 3 (pv 3)))) (psm_one (psm_asgT (ps_asg (pem_callD D_item_at hct hr tk rfl (pam_cons (pem_var 0 (pv 0)) (pam_cons (pem_op o_add g_add (pem_var 4 (pv 4)) (pem_int)) (pam_nil))) rfl) (pgm_tup (pg_tup rfl (pgms_cons (pgm_name (pg_name (i := 3) sc_sequence_at.nd rfl (Or.inl rfl))) (pgms_cons (pgm_name (pg_name (i := 4) sc_sequence_at.nd rfl (Or.inl rfl))) (pgms_nil)))) rfl)))))) (psm_cons (psm_for (passes_of rfl) rfl (pim_rev rfl T.b_reversed (pem_var 2 (pv 2))) (pgm_name (pg_name (i := 5) sc_sequence_at.nd rfl (Or.inl rfl))) (psm_one (psm_set (i := 3) sc_sequence_at.nd rfl (Or.inl rfl) (pem_tup (pam_cons (pem_str) (pam_cons (pem_var 5 (pv 5)) (pam_cons (pem_var 3 (pv 3)) (pam_nil)))))))) (psm_one (psm_ret (pem_tup (pam_cons (pem_var 3 (pv 3)) (pam_cons (pem_var 4 (pv 4)) (pam_nil))))))))))
/-! read_block -/
theorem sc_read_block : FnScope ["text"] ["text"] (defScope s_read_block) := ⟨rfl, rfl, rfl, by decide +kernel, rfl, by decide +kernel, by decide +kernel⟩
def body_read_block (m_tokens : List W → FR) (m_enclosed : List W → FR) : Rho → ML.R Fl := mRet [] (mOp gIx (mCall [] [] m_enclosed [mCall [] [] m_tokens [mVar 0], mC (.int 0), mC w_END]) (mC (.int 0)))
def fun_read_block (m_tokens : List W → FR) (m_enclosed : List W → FR) : List W → FR := mFun [] 1 (body_read_block m_tokens m_enclosed)
theorem def_read_block (T : Txt w K mg) {m_tokens : List W → FR} (D_tokens : Def P w K mg base ct k "tokens" ["text"] [] m_tokens) {m_enclosed : List W → FR} (D_enclosed : Def P w K mg base ct k "enclosed" ["row", "at", "last"] [] m_enclosed) : Def P w K mg base ct (k + 1) "read_block" ["text"] [] (fun_read_block m_tokens m_enclosed) :=
  def_mk (N := ["text"]) (g := body_read_block m_tokens m_enclosed) T.s_read_block sc_read_block (by decide) (fun _ _ _ _ _ _ us hl => match us, hl with | [_], _ => rfl) fun f cdv A outer s H E Y hr hct tk =>
    (psm_one (psm_ret (pem_ix (pem_callD D_enclosed hct hr tk rfl (pam_cons (pem_callD D_tokens hct hr tk rfl (pam_cons (pem_var 0 (pv 0)) (pam_nil)) rfl) (pam_cons (pem_int) (pam_cons (pg_END T) (pam_nil)))) rfl) (pem_int))))
/-! parts_of -/
theorem sc_parts_of : FnScope ["node", "word"] ["node"] (defScope s_parts_of) := ⟨rfl, rfl, rfl, by decide +kernel, rfl, by decide +kernel, by decide +kernel⟩
def body_parts_of : Rho → ML.R Fl := mSeq (mSet [] 1 (mOp gIx (mVar 0) (mC (.int 0)))) (mSeq (mIf (mTest (mOp (gIn false) (mVar 1) (mC w_LEAVES_blocks))) (mRet [] (mTup [] [])) (mNext)) (mSeq (mIf (mTest (mOp gEq (mVar 1) (mC (.str "call")))) (mRet [] (mOp gIx (mVar 0) (mC (.int 2)))) (mNext)) (mSeq (mIf (mTest (mOp gEq (mVar 1) (mC (.str "set")))) (mRet [] (mSl (mVar 0) (some (mC (.int 2))) none)) (mNext)) (mSeq (mIf (mOr (mTest (mOp gEq (mVar 1) (mC (.str "new")))) (mTest (mOp gEq (mVar 1) (mC (.str "let"))))) (mRet [] (mSl (mVar 0) (some (mC (.int 3))) none)) (mNext)) (mRet [] (mSl (mVar 0) (some (mC (.int 1))) none))))))
def fun_parts_of : List W → FR := mFun [] 2 (body_parts_of)
theorem def_parts_of (T : Txt w K mg) : Def P w K mg base ct (k + 1) "parts_of" ["node"] [] (fun_parts_of) :=
  def_mk (N := ["node", "word"]) (g := body_parts_of) T.s_parts_of sc_parts_of (by decide) (fun _ _ _ _ _ _ us hl => match us, hl with | [_], _ => rfl) fun f cdv A outer s H E Y hr hct tk =>
    (psm_cons (psm_set (i := 1) sc_parts_of.nd rfl (Or.inl rfl) (pem_ix (pem_var 0 (pv 0)) (pem_int))) (psm_cons (psm_if (ptm_cmp o_in g_in (pem_var 1 (pv 1)) (pg_LEAVES_blocks T) rfl) (psm_one (psm_ret (pem_tup (pam_nil)))) (psm_nil)) (psm_cons (psm_if (ptm_cmp (o_eq (hu200 hr)) g_eq (pem_var 1 (pv 1)) (pem_str) (nomark _)) (psm_one (psm_ret (pem_ix (pem_var 0 (pv 0)) (pem_int)))) (psm_nil)) (psm_cons (psm_if (ptm_cmp (o_eq (hu200 hr)) g_eq (pem_var 1 (pv 1)) (pem_str) (nomark _)) (psm_one (psm_ret (pem_slice (pem_var 0 (pv 0)) (pom_some (pem_int)) pom_none))) (psm_nil)) (psm_cons (psm_if (PW.pt (pwm_or (ptm_cmp (o_eq (hu200 hr)) g_eq (pem_var 1 (pv 1)) (pem_str) (nomark _)) (pwm_or1 (ptm_cmp (o_eq (hu200 hr)) g_eq (pem_var 1 (pv 1)) (pem_str) (nomark _))))) (psm_one (psm_ret (pem_slice (pem_var 0 (pv 0)) (pom_some (pem_int)) pom_none))) (psm_nil)) (psm_one (psm_ret (pem_slice (pem_var 0 (pv 0)) (pom_some (pem_int)) pom_none))))))))
/-! grouped -/
theorem sc_grouped : FnScope ["block"] ["block"] (defScope s_grouped) := ⟨rfl, rfl, rfl, by decide +kernel, rfl, by decide +kernel, by decide +kernel⟩
def body_grouped (m_text_of : List W → FR) : Rho → ML.R Fl := mSeq (mIf (mTest (mOp gEq (mOp gIx (mVar 0) (mC (.int 0))) (mC (.str "then")))) (mRet [] (mOp gAdd (mOp gAdd (mC (.str "(")) (mCall [] [] m_text_of [mVar 0])) (mC (.str ")")))) (mNext)) (mRet [] (mCall [] [] m_text_of [mVar 0]))
def fun_grouped (m_text_of : List W → FR) : List W → FR := mFun [] 1 (body_grouped m_text_of)
theorem def_grouped (T : Txt w K mg) {m_text_of : List W → FR} (D_text_of : Def P w K mg base ct k "text_of" ["block"] [] m_text_of) : Def P w K mg base ct (k + 1) "grouped" ["block"] [] (fun_grouped m_text_of) :=
  def_mk (N := ["block"]) (g := body_grouped m_text_of) T.s_grouped sc_grouped (by decide) (fun _ _ _ _ _ _ us hl => match us, hl with | [_], _ => rfl) fun f cdv A outer s H E Y hr hct tk =>
    (psm_cons (psm_if (ptm_cmp (o_eq (hu200 hr)) g_eq (pem_ix (pem_var 0 (pv 0)) (pem_int)) (pem_str) (nomark _)) (psm_one (psm_ret (pem_op o_add g_add (pem_op o_add g_add (pem_str) (pem_callD D_text_of hct hr tk rfl (pam_cons (pem_var 0 (pv 0)) (pam_nil)) rfl)) (pem_str)))) (psm_nil)) (psm_one (psm_ret (pem_callD D_text_of hct hr tk rfl (pam_cons (pem_var 0 (pv 0)) (pam_nil)) rfl))))
/-! text_of_leaf -/
theorem sc_text_of_leaf : FnScope ["block"] ["block"] (defScope s_text_of_leaf) := ⟨rfl, rfl, rfl, by decide +kernel, rfl, by decide +kernel, by decide +kernel⟩
def body_text_of_leaf : Rho → ML.R Fl := mSeq (mIf (mTest (mOp gEq (mOp gIx (mVar 0) (mC (.int 0))) (mC (.str "number")))) (mRet [] (mCB gStr [mOp gIx (mVar 0) (mC (.int 1))])) (mNext)) (mSeq (mIf (mTest (mOp gEq (mOp gIx (mVar 0) (mC (.int 0))) (mC (.str "get")))) (mRet [] (mOp gIx (mVar 0) (mC (.int 1)))) (mNext)) (mSeq (mIf (mTest (mOp gEq (mOp gIx (mVar 0) (mC (.int 0))) (mC (.str "hole")))) (mRet [] (mC (.str "[]"))) (mNext)) (mRet [] (mOp gIx (mVar 0) (mC (.int 0))))))
def fun_text_of_leaf : List W → FR := mFun [] 1 (body_text_of_leaf)
theorem def_text_of_leaf (T : Txt w K mg) : Def P w K mg base ct (k + 1) "text_of_leaf" ["block"] [] (fun_text_of_leaf) :=
  def_mk (N := ["block"]) (g := body_text_of_leaf) T.s_text_of_leaf sc_text_of_leaf (by decide) (fun _ _ _ _ _ _ us hl => match us, hl with | [_], _ => rfl) fun f cdv A outer s H E Y hr hct tk =>
    (psm_cons (psm_if (ptm_cmp (o_eq (hu200 hr)) g_eq (pem_ix (pem_var 0 (pv 0)) (pem_int)) (pem_str) (nomark _)) (psm_one (psm_ret (pem_callTy c_str rfl T.b_str (by rfl) g_str (pam_cons (pem_ix (pem_var 0 (pv 0)) (pem_int)) (pam_nil))))) (psm_nil)) (psm_cons (psm_if (ptm_cmp (o_eq (hu200 hr)) g_eq (pem_ix (pem_var 0 (pv 0)) (pem_int)) (pem_str) (nomark _)) (psm_one (psm_ret (pem_ix (pem_var 0 (pv 0)) (pem_int)))) (psm_nil)) (psm_cons (psm_if (ptm_cmp (o_eq (hu200 hr)) g_eq (pem_ix (pem_var 0 (pv 0)) (pem_int)) (pem_str) (nomark _)) (psm_one (psm_ret (pem_str))) (psm_nil)) (psm_one (psm_ret (pem_ix (pem_var 0 (pv 0)) (pem_int)))))))
/-! text_of_binding -/
theorem sc_text_of_binding : FnScope ["block", "parameters", "head", "name", "kind"] ["block"] (defScope s_text_of_binding) := ⟨rfl, rfl, rfl, by decide +kernel, rfl, by decide +kernel, by decide +kernel⟩
def body_text_of_binding (m_text_of : List W → FR) : Rho → ML.R Fl := mSeq (mIf (mTest (mOp gEq (mOp gIx (mVar 0) (mC (.int 0))) (mC (.str "new")))) (mRet [] (mOp gAdd (mOp gAdd (mOp gAdd (mOp gAdd (mOp gAdd (mOp gAdd (mC (.str "new ")) (mOp gIx (mVar 0) (mC (.int 1)))) (mC (.str " := "))) (mCB gStr [mOp gIx (mVar 0) (mC (.int 2))])) (mC (.str " in "))) (mCall [] [] m_text_of [mOp gIx (mVar 0) (mC (.int 3))])) (mC (.str " end")))) (mNext)) (mSeq (mSet [] 1 (mJoin (mC (.str ", ")) (mLc [] (mItems [] (mOp gIx (mVar 0) (mC (.int 2)))) (.tp [3, 4]) (mYes) (mOp gAdd (mOp gAdd (mVar 3) (mC (.str " "))) (mVar 4))))) (mSeq (mSet [] 2 (mOp gAdd (mOp gAdd (mOp gAdd (mOp gAdd (mC (.str "let ")) (mOp gIx (mVar 0) (mC (.int 1)))) (mC (.str "("))) (mVar 1)) (mC (.str ") be ")))) (mRet [] (mOp gAdd (mOp gAdd (mOp gAdd (mOp gAdd (mVar 2) (mCall [] [] m_text_of [mOp gIx (mVar 0) (mC (.int 3))])) (mC (.str " in "))) (mCall [] [] m_text_of [mOp gIx (mVar 0) (mC (.int 4))])) (mC (.str " end"))))))
def fun_text_of_binding (m_text_of : List W → FR) : List W → FR := mFun [] 5 (body_text_of_binding m_text_of)
theorem def_text_of_binding (T : Txt w K mg) {m_text_of : List W → FR} (D_text_of : Def P w K mg base ct k "text_of" ["block"] [] m_text_of) : Def P w K mg base ct (k + 1) "text_of_binding" ["block"] [] (fun_text_of_binding m_text_of) :=
  def_mk (N := ["block", "parameters", "head", "name", "kind"]) (g := body_text_of_binding m_text_of) T.s_text_of_binding sc_text_of_binding (by decide) (fun _ _ _ _ _ _ us hl => match us, hl with | [_], _ => rfl) fun f cdv A outer s H E Y hr hct tk =>
    (psm_cons (psm_if (ptm_cmp (o_eq (hu200 hr)) g_eq (pem_ix (pem_var 0 (pv 0)) (pem_int)) (pem_str) (nomark _)) (psm_one (psm_ret (pem_op o_add g_add (pem_op o_add g_add (pem_op o_add g_add (pem_op o_add g_add (pem_op o_add g_add (pem_op o_add g_add (pem_str) (pem_ix (pem_var 0 (pv 0)) (pem_int))) (pem_str)) (pem_callTy c_str rfl T.b_str (by rfl) g_str (pam_cons (pem_ix (pem_var 0 (pv 0)) (pem_int)) (pam_nil)))) (pem_str)) (pem_callD D_text_of hct hr tk rfl (pam_cons (pem_ix (pem_var 0 (pv 0)) (pem_int)) (pam_nil)) rfl)) (pem_str)))) (psm_nil)) (psm_cons (psm_set (i := 1) sc_text_of_binding.nd rfl (Or.inl rfl) (pem_join (pem_str) (pem_lc (own := [("name", 3), ("kind", 4)]) (t := .tp [3, 4]) rfl sc_text_of_binding.nd (pim_seq (pem_ix (pem_var 0 (pv 0)) (pem_int))) (blkOk_by (N := ["block", "parameters", "head", "name", "kind"]) (sc := defScope s_text_of_binding) (by decide +kernel)) rfl (fun _ _ _ _ _ => pg_tup rfl (pgs_cons (pg_name (i := 3) sc_text_of_binding.nd rfl (by first | exact Or.inl rfl | exact Or.inr rfl) (by first | exact .inl rfl | exact .inr rfl)) (pgs_cons (pg_name (i := 4) sc_text_of_binding.nd rfl (by first | exact Or.inl rfl | exact Or.inr rfl) (by first | exact .inl rfl | exact .inr rfl)) pgs_nil))) (fun _ _ _ _ _ => pcs_nil) (fun _ _ _ _ _ Y1 hY1 wY1 => (pem_op o_add g_add (pem_op o_add g_add (pem_var 3 (pv 3)) (pem_str)) (pem_var 4 (pv 4))))))) (psm_cons (psm_set (i := 2) sc_text_of_binding.nd rfl (Or.inl rfl) (pem_op o_add g_add (pem_op o_add g_add (pem_op o_add g_add (pem_op o_add g_add (pem_str) (pem_ix (pem_var 0 (pv 0)) (pem_int))) (pem_str)) (pem_var 1 (pv 1))) (pem_str))) (psm_one (psm_ret (pem_op o_add g_add (pem_op o_add g_add (pem_op o_add g_add (pem_op o_add g_add (pem_var 2 (pv 2)) (pem_callD D_text_of hct hr tk rfl (pam_cons (pem_ix (pem_var 0 (pv 0)) (pem_int)) (pam_nil)) rfl)) (pem_str)) (pem_callD D_text_of hct hr tk rfl (pam_cons (pem_ix (pem_var 0 (pv 0)) (pem_int)) (pam_nil)) rfl)) (pem_str)))))))
/-! text_of -/
theorem sc_text_of : FnScope ["block", "word", "texts", "part"] ["block"] (defScope s_text_of) := ⟨rfl, rfl, rfl, by decide +kernel, rfl, by decide +kernel, by decide +kernel⟩
def body_text_of (m_grouped : List W → FR) (m_text_of : List W → FR) (m_text_of_binding : List W → FR) (m_parts_of : List W → FR) (m_text_of_leaf : List W → FR) : Rho → ML.R Fl := mSeq (mSet [] 1 (mOp gIx (mVar 0) (mC (.int 0)))) (mSeq (mIf (mTest (mOp gEq (mVar 1) (mC (.str "set")))) (mRet [] (mOp gAdd (mOp gAdd (mOp gIx (mVar 0) (mC (.int 1))) (mC (.str " := "))) (mCall [] [] m_grouped [mOp gIx (mVar 0) (mC (.int 2))]))) (mNext)) (mSeq (mIf (mTest (mOp gEq (mVar 1) (mC (.str "then")))) (mRet [] (mOp gAdd (mOp gAdd (mCall [] [] m_grouped [mOp gIx (mVar 0) (mC (.int 1))]) (mC (.str "; "))) (mCall [] [] m_text_of [mOp gIx (mVar 0) (mC (.int 2))]))) (mNext)) (mSeq (mIf (mOr (mTest (mOp gEq (mVar 1) (mC (.str "new")))) (mTest (mOp gEq (mVar 1) (mC (.str "let"))))) (mRet [] (mCall [] [] m_text_of_binding [mVar 0])) (mNext)) (mSeq (mSet [] 2 (mLc [] (mItems [] (mCall [] [] m_parts_of [mVar 0])) (.nm 3) (mYes) (mCall [] [] m_text_of [mVar 3]))) (mSeq (mIf (mTest (mInK false k_SIGNS_writing (mVar 1))) (mRet [] (mOp gAdd (mOp gAdd (mOp gAdd (mOp gAdd (mC (.str "(")) (mOp gIx (mVar 2) (mC (.int 0)))) (mIxK k_SIGNS_writing w_SIGNS_writing (mVar 1))) (mOp gIx (mVar 2) (mC (.int 1)))) (mC (.str ")")))) (mNext)) (mSeq (mIf (mTest (mOp gEq (mVar 1) (mC (.str "if")))) (mRet [] (mOp gAdd (mOp gAdd (mOp gAdd (mOp gAdd (mOp gAdd (mOp gAdd (mC (.str "if ")) (mOp gIx (mVar 2) (mC (.int 0)))) (mC (.str " then "))) (mOp gIx (mVar 2) (mC (.int 1)))) (mC (.str " else "))) (mOp gIx (mVar 2) (mC (.int 2)))) (mC (.str " fi")))) (mNext)) (mSeq (mIf (mTest (mOp gEq (mVar 1) (mC (.str "while")))) (mRet [] (mOp gAdd (mOp gAdd (mOp gAdd (mOp gAdd (mC (.str "while ")) (mOp gIx (mVar 2) (mC (.int 0)))) (mC (.str " do "))) (mOp gIx (mVar 2) (mC (.int 1)))) (mC (.str " od")))) (mNext)) (mSeq (mIf (mTest (mOp gEq (mVar 1) (mC (.str "call")))) (mRet [] (mOp gAdd (mOp gAdd (mOp gAdd (mOp gIx (mVar 0) (mC (.int 1))) (mC (.str "("))) (mJoin (mC (.str ", ")) (mVar 2))) (mC (.str ")")))) (mNext)) (mRet [] (mCall [] [] m_text_of_leaf [mVar 0]))))))))))
def fun_text_of (m_grouped : List W → FR) (m_text_of : List W → FR) (m_text_of_binding : List W → FR) (m_parts_of : List W → FR) (m_text_of_leaf : List W → FR) : List W → FR := mFun [] 4 (body_text_of m_grouped m_text_of m_text_of_binding m_parts_of m_text_of_leaf)
theorem def_text_of (T : Txt w K mg) {m_grouped : List W → FR} (D_grouped : Def P w K mg base ct k "grouped" ["block"] [] m_grouped) {m_text_of : List W → FR} (D_text_of : Def P w K mg base ct k "text_of" ["block"] [] m_text_of) {m_text_of_binding : List W → FR} (D_text_of_binding : Def P w K mg base ct k "text_of_binding" ["block"] [] m_text_of_binding) {m_parts_of : List W → FR} (D_parts_of : Def P w K mg base ct k "parts_of" ["node"] [] m_parts_of) {m_text_of_leaf : List W → FR} (D_text_of_leaf : Def P w K mg base ct k "text_of_leaf" ["block"] [] m_text_of_leaf) : Def P w K mg base ct (k + 1) "text_of" ["block"] [] (fun_text_of m_grouped m_text_of m_text_of_binding m_parts_of m_text_of_leaf) :=
  def_mk (N := ["block", "word", "texts", "part"]) (g := body_text_of m_grouped m_text_of m_text_of_binding m_parts_of m_text_of_leaf) T.s_text_of sc_text_of (by decide) (fun _ _ _ _ _ _ us hl => match us, hl with | [_], _ => rfl) fun f cdv A outer s H E Y hr hct tk =>
    (psm_cons (psm_set (i := 1) sc_text_of.nd rfl (Or.inl rfl) (pem_ix (pem_var 0 (pv 0)) (pem_int))) (psm_cons (psm_if (ptm_cmp (o_eq (hu200 hr)) g_eq (pem_var 1 (pv 1)) (pem_str) (nomark _)) (psm_one (psm_ret (pem_op o_add g_add (pem_op o_add g_add (pem_ix (pem_var 0 (pv 0)) (pem_int)) (pem_str)) (pem_callD D_grouped hct hr tk rfl (pam_cons (pem_ix (pem_var 0 (pv 0)) (pem_int)) (pam_nil)) rfl)))) (psm_nil)) (psm_cons (psm_if (ptm_cmp (o_eq (hu200 hr)) g_eq (pem_var 1 (pv 1)) (pem_str) (nomark _)) (psm_one (psm_ret (pem_op o_add g_add (pem_op o_add g_add (pem_callD D_grouped hct hr tk rfl (pam_cons (pem_ix (pem_var 0 (pv 0)) (pem_int)) (pam_nil)) rfl) (pem_str)) (pem_callD D_text_of hct hr tk rfl (pam_cons (pem_ix (pem_var 0 (pv 0)) (pem_int)) (pam_nil)) rfl)))) (psm_nil)) (psm_cons (psm_if (PW.pt (pwm_or (ptm_cmp (o_eq (hu200 hr)) g_eq (pem_var 1 (pv 1)) (pem_str) (nomark _)) (pwm_or1 (ptm_cmp (o_eq (hu200 hr)) g_eq (pem_var 1 (pv 1)) (pem_str) (nomark _))))) (psm_one (psm_ret (pem_callD D_text_of_binding hct hr tk rfl (pam_cons (pem_var 0 (pv 0)) (pam_nil)) rfl))) (psm_nil)) (psm_cons (psm_setLc (i := 2) (own := [("part", 3)]) (t := .nm 3) rfl sc_text_of.nd rfl rfl (sw_true rfl rfl rfl (by decide +kernel)) (pim_seq (pem_callD D_parts_of hct hr tk rfl (pam_cons (pem_var 0 (pv 0)) (pam_nil)) rfl)) (blkOk_by (N := ["block", "word", "texts", "part"]) (sc := defScope s_text_of) (by decide +kernel)) rfl (fun _ _ _ _ _ => pg_name (i := 3) sc_text_of.nd rfl (by first | exact Or.inl rfl | exact Or.inr rfl) (by first | exact .inl rfl | exact .inr rfl)) (fun _ _ _ _ _ => pcs_nil) (fun _ _ _ _ _ Y1 hY1 wY1 => (pem_callD D_text_of (hY1.trans hct) hr (takesF wY1) rfl (pam_cons (pem_var 3 (pv 3)) (pam_nil)) rfl))) (psm_cons (psm_if (ptm_inK T.d_SIGNS_writing rfl (pem_var 1 (pv 1))) (psm_one (psm_ret (pem_op o_add g_add (pem_op o_add g_add (pem_op o_add g_add (pem_op o_add g_add (pem_str) (pem_ix (pem_var 2 (pv 2)) (pem_int))) (pem_ixK T.d_SIGNS_writing rfl (pem_var 1 (pv 1)))) (pem_ix (pem_var 2 (pv 2)) (pem_int))) (pem_str)))) (psm_nil)) (psm_cons (psm_if (ptm_cmp (o_eq (hu200 hr)) g_eq (pem_var 1 (pv 1)) (pem_str) (nomark _)) (psm_one (psm_ret (pem_op o_add g_add (pem_op o_add g_add (pem_op o_add g_add (pem_op o_add g_add (pem_op o_add g_add (pem_op o_add g_add (pem_str) (pem_ix (pem_var 2 (pv 2)) (pem_int))) (pem_str)) (pem_ix (pem_var 2 (pv 2)) (pem_int))) (pem_str)) (pem_ix (pem_var 2 (pv 2)) (pem_int))) (pem_str)))) (psm_nil)) (psm_cons (psm_if (ptm_cmp (o_eq (hu200 hr)) g_eq (pem_var 1 (pv 1)) (pem_str) (nomark _)) (psm_one (psm_ret (pem_op o_add g_add (pem_op o_add g_add (pem_op o_add g_add (pem_op o_add g_add (pem_str) (pem_ix (pem_var 2 (pv 2)) (pem_int))) (pem_str)) (pem_ix (pem_var 2 (pv 2)) (pem_int))) (pem_str)))) (psm_nil)) (psm_cons (psm_if (ptm_cmp (o_eq (hu200 hr)) g_eq (pem_var 1 (pv 1)) (pem_str) (nomark _)) (psm_one (psm_ret (pem_op o_add g_add (pem_op o_add g_add (pem_op o_add g_add (pem_ix (pem_var 0 (pv 0)) (pem_int)) (pem_str)) (pem_join (pem_str) (pem_var 2 (pv 2)))) (pem_str)))) (psm_nil)) (psm_one (psm_ret (pem_callD D_text_of_leaf hct hr tk rfl (pam_cons (pem_var 0 (pv 0)) (pam_nil)) rfl))))))))))))
/-! write_block -/
theorem sc_write_block : FnScope ["block"] ["block"] (defScope s_write_block) := ⟨rfl, rfl, rfl, by decide +kernel, rfl, by decide +kernel, by decide +kernel⟩
def body_write_block (m_frozen : List W → FR) (m_text_of : List W → FR) : Rho → ML.R Fl := mRet [] (mCall [] [] m_text_of [mCall [] [] m_frozen [mVar 0]])
def fun_write_block (m_frozen : List W → FR) (m_text_of : List W → FR) : List W → FR := mFun [] 1 (body_write_block m_frozen m_text_of)
theorem def_write_block (T : Txt w K mg) {m_frozen : List W → FR} (D_frozen : Def P w K mg base ct k "frozen" ["value"] [] m_frozen) {m_text_of : List W → FR} (D_text_of : Def P w K mg base ct k "text_of" ["block"] [] m_text_of) : Def P w K mg base ct (k + 1) "write_block" ["block"] [] (fun_write_block m_frozen m_text_of) :=
  def_mk (N := ["block"]) (g := body_write_block m_frozen m_text_of) T.s_write_block sc_write_block (by decide) (fun _ _ _ _ _ _ us hl => match us, hl with | [_], _ => rfl) fun f cdv A outer s H E Y hr hct tk =>
    (psm_one (psm_ret (pem_callD D_text_of hct hr tk rfl (pam_cons (pem_callD D_frozen hct hr tk rfl (pam_cons (pem_var 0 (pv 0)) (pam_nil)) rfl) (pam_nil)) rfl)))
/-! _law_whole -/
theorem sc__law_whole : FnScope ["_law_value"] ["_law_value"] (defScope s__law_whole) := ⟨rfl, rfl, rfl, by decide +kernel, rfl, by decide +kernel, by decide +kernel⟩
def body__law_whole : Rho → ML.R Fl := mRet [] (mAndV (mCB gIsi [mVar 0, mC (.ty "int")]) (mNotV (mCB gIsi [mVar 0, mC (.ty "bool")])))
def fun__law_whole : List W → FR := mFun [] 1 (body__law_whole)
theorem def__law_whole (T : Txt w K mg) : Def P w K mg base ct (k + 1) "_law_whole" ["_law_value"] [] (fun__law_whole) :=
  def_mk (N := ["_law_value"]) (g := body__law_whole) T.s__law_whole sc__law_whole (by decide) (fun _ _ _ _ _ _ us hl => match us, hl with | [_], _ => rfl) fun f cdv A outer s H E Y hr hct tk =>
    (psm_one (psm_ret (pem_and (pem_callB (c_isi) rfl T.b_isinstance (by rfl) g_isi (pam_cons (pem_var 0 (pv 0)) (pam_cons (pem_ty rfl T.b_int (by rfl)) (pam_nil)))) (pem_one (pem_not (pem_callB (c_isi) rfl T.b_isinstance (by rfl) g_isi (pam_cons (pem_var 0 (pv 0)) (pam_cons (pem_ty rfl T.b_bool (by rfl)) (pam_nil)))))))))
/-! _law_cell -/
theorem sc__law_cell : FnScope ["_law_script", "_law_k", "_law_seed", "_law_cell_here"] ["_law_script", "_law_k"] (defScope s__law_cell) := ⟨rfl, rfl, rfl, by decide +kernel, rfl, by decide +kernel, by decide +kernel⟩
def body__law_cell : Rho → ML.R Fl := mSeq (mIf (mTest (mOp (gCmp (fun i j => decide (i < j))) (mVar 1) (mCB gLen [mVar 0]))) (mRet [] (mOp gIx (mVar 0) (mVar 1))) (mNext)) (mSeq (mSet [] 2 (mC (.int 17))) (mSeq (mFor (mItems [] (mVar 0)) (gSet [] 3) (mSet [] 2 (mOp gMod (mCB gInt [mOp gAdd (mOp gMul (mVar 2) (mC (.int 31))) (mOp gMod (mCB gInt [mVar 3]) (mC (.int 1000003)))]) (mC (.int 1000003))))) (mRet [] (mOp gMod (mCB gInt [mOp gMul (mOp gMul (mOp gAdd (mVar 2) (mC (.int 7))) (mOp gAdd (mVar 1) (mC (.int 3)))) (mC (.int 69621))]) (mC (.int 2147483647))))))
def fun__law_cell : List W → FR := mFun [] 4 (body__law_cell)
theorem def__law_cell (T : Txt w K mg) : Def P w K mg base ct (k + 1) "_law_cell" ["_law_script", "_law_k"] [] (fun__law_cell) :=
  def_mk (N := ["_law_script", "_law_k", "_law_seed", "_law_cell_here"]) (g := body__law_cell) T.s__law_cell sc__law_cell (by decide) (fun _ _ _ _ _ _ us hl => match us, hl with | [_, _], _ => rfl) fun f cdv A outer s H E Y hr hct tk =>
    (psm_cons (psm_if (ptm_cmp op_lt g_cmp (pem_var 1 (pv 1)) (pem_callB (call_len) rfl T.b_len (by rfl) g_len (pam_cons (pem_var 0 (pv 0)) (pam_nil))) (nomark _)) (psm_one (psm_ret (pem_ix (pem_var 0 (pv 0)) (pem_var 1 (pv 1))))) (psm_nil)) (psm_cons (psm_set (i := 2) sc__law_cell.nd rfl (Or.inl rfl) (pem_int)) (psm_cons (psm_for (passes_of rfl) rfl (pim_seq (pem_var 0 (pv 0))) (pgm_name (pg_name (i := 3) sc__law_cell.nd rfl (Or.inl rfl))) (psm_one (psm_set (i := 2) sc__law_cell.nd rfl (Or.inl rfl) (pem_op op_mod g_mod (pem_callTy c_int rfl T.b_int (by rfl) g_int (pam_cons (pem_op o_add g_add (pem_op o_mul g_mul (pem_var 2 (pv 2)) (pem_int)) (pem_op op_mod g_mod (pem_callTy c_int rfl T.b_int (by rfl) g_int (pam_cons (pem_var 3 (pv 3)) (pam_nil))) (pem_int))) (pam_nil))) (pem_int))))) (psm_one (psm_ret (pem_op op_mod g_mod (pem_callTy c_int rfl T.b_int (by rfl) g_int (pam_cons (pem_op o_mul g_mul (pem_op o_mul g_mul (pem_op o_add g_add (pem_var 2 (pv 2)) (pem_int)) (pem_op o_add g_add (pem_var 1 (pv 1)) (pem_int))) (pem_int)) (pam_nil))) (pem_int)))))))
/-! _law_digits -/
theorem sc__law_digits : FnScope ["_law_cell_here", "_law_sizes", "_law_row_here", "_law_rest", "_law_great", "_law_seed", "_law_k", "_law_twice"] ["_law_cell_here", "_law_sizes"] (defScope s__law_digits) := ⟨rfl, rfl, rfl, by decide +kernel, rfl, by decide +kernel, by decide +kernel⟩
def body__law_digits : Rho → ML.R Fl := mSeq (mSet [] 2 (mLst [] [])) (mSeq (mSet [] 3 (mCB gInt [mVar 0])) (mSeq (mSet [] 4 (mOp (gCmp (fun i j => decide (j ≤ i))) (mVar 3) (mOp gPow (mC (.int 10)) (mC (.int 18))))) (mSeq (mSet [] 5 (mOp gMod (mCB gInt [mVar 3]) (mC (.int 2147483629)))) (mSeq (mIf (mTest (mVar 4)) (mSet [] 3 (mOp gSub (mVar 3) (mOp gPow (mC (.int 10)) (mC (.int 18))))) (mNext)) (mSeq (mFor (mRange1 [mCB gLen [mVar 1]]) (gSet [] 6) (mSeq (mSet [] 5 (mOp gMod (mCB gInt [mOp gAdd (mOp gAdd (mOp gMul (mVar 5) (mC (.int 48271))) (mOp gMul (mC (.int 974711)) (mVar 6))) (mC (.int 12345))]) (mC (.int 2147483647)))) (mSeq (mSet [] 7 (mOp gMod (mCB gInt [mOp gMul (mVar 5) (mOp gAdd (mOp gFdiv (mVar 5) (mC (.int 65537))) (mC (.int 3)))]) (mC (.int 2147483629)))) (mIf (mAnd (mTest (mVar 4)) (mTest (mOp (gCmp (fun i j => decide (j < i))) (mVar 3) (mC (.int 0))))) (mSeq (mDrop (mAppend 2 [] (mOp gMod (mCB gInt [mVar 3]) (mOp gIx (mVar 1) (mVar 6))))) (mSet [] 3 (mOp gFdiv (mCB gInt [mVar 3]) (mOp gIx (mVar 1) (mVar 6))))) (mDrop (mAppend 2 [] (mOp gMod (mCB gInt [mOp gFdiv (mVar 7) (mC (.int 19))]) (mOp gIx (mVar 1) (mVar 6))))))))) (mRet [] (mVar 2)))))))
def fun__law_digits : List W → FR := mFun [] 8 (body__law_digits)
theorem def__law_digits (T : Txt w K mg) : Def P w K mg base ct (k + 1) "_law_digits" ["_law_cell_here", "_law_sizes"] [] (fun__law_digits) :=
  def_mk (N := ["_law_cell_here", "_law_sizes", "_law_row_here", "_law_rest", "_law_great", "_law_seed", "_law_k", "_law_twice"]) (g := body__law_digits) T.s__law_digits sc__law_digits (by decide) (fun _ _ _ _ _ _ us hl => match us, hl with | [_, _], _ => rfl) fun f cdv A outer s H E Y hr hct tk =>
    (psm_cons (psm_set (i := 2) sc__law_digits.nd rfl (Or.inl rfl) (pem_lst (pam_nil))) (psm_cons (psm_set (i := 3) sc__law_digits.nd rfl (Or.inl rfl) (pem_callTy c_int rfl T.b_int (by rfl) g_int (pam_cons (pem_var 0 (pv 0)) (pam_nil)))) (psm_cons (psm_set (i := 4) sc__law_digits.nd rfl (Or.inl rfl) (pem_cmp op_ge g_cmp (pem_var 3 (pv 3)) (pem_op op_pow g_pow (pem_int) (pem_int)) (nomark _))) (psm_cons (psm_set (i := 5) sc__law_digits.nd rfl (Or.inl rfl) (pem_op op_mod g_mod (pem_callTy c_int rfl T.b_int (by rfl) g_int (pam_cons (pem_var 3 (pv 3)) (pam_nil))) (pem_int))) (psm_cons (psm_if (ptm_val (pem_var 4 (pv 4))) (psm_one (psm_set (i := 3) sc__law_digits.nd rfl (Or.inl rfl) (pem_op o_sub g_sub (pem_var 3 (pv 3)) (pem_op op_pow g_pow (pem_int) (pem_int))))) (psm_nil)) (psm_cons (psm_for (passes_of rfl) rfl (pim_range1 rfl T.b_range (pam_cons (pem_callB (call_len) rfl T.b_len (by rfl) g_len (pam_cons (pem_var 1 (pv 1)) (pam_nil))) (pam_nil))) (pgm_name (pg_name (i := 6) sc__law_digits.nd rfl (Or.inl rfl))) (psm_cons (psm_set (i := 5) sc__law_digits.nd rfl (Or.inl rfl) (pem_op op_mod g_mod (pem_callTy c_int rfl T.b_int (by rfl) g_int (pam_cons (pem_op o_add g_add (pem_op o_add g_add (pem_op o_mul g_mul (pem_var 5 (pv 5)) (pem_int)) (pem_op o_mul g_mul (pem_int) (pem_var 6 (pv 6)))) (pem_int)) (pam_nil))) (pem_int))) (psm_cons (psm_set (i := 7) sc__law_digits.nd rfl (Or.inl rfl) (pem_op op_mod g_mod (pem_callTy c_int rfl T.b_int (by rfl) g_int (pam_cons (pem_op o_mul g_mul (pem_var 5 (pv 5)) (pem_op o_add g_add (pem_op op_fdiv g_fdiv (pem_var 5 (pv 5)) (pem_int)) (pem_int))) (pam_nil))) (pem_int))) (psm_one (psm_if (PW.pt (pwm_and (ptm_val (pem_var 4 (pv 4))) (pwm_and1 (ptm_cmp op_gt g_cmp (pem_var 3 (pv 3)) (pem_int) (nomark _))))) (psm_cons (psm_expr (pem_append (pv 2) (pem_op op_mod g_mod (pem_callTy c_int rfl T.b_int (by rfl) g_int (pam_cons (pem_var 3 (pv 3)) (pam_nil))) (pem_ix (pem_var 1 (pv 1)) (pem_var 6 (pv 6)))))) (psm_one (psm_set (i := 3) sc__law_digits.nd rfl (Or.inl rfl) (pem_op op_fdiv g_fdiv (pem_callTy c_int rfl T.b_int (by rfl) g_int (pam_cons (pem_var 3 (pv 3)) (pam_nil))) (pem_ix (pem_var 1 (pv 1)) (pem_var 6 (pv 6))))))) (psm_one (psm_expr (pem_append (pv 2) (pem_op op_mod g_mod (pem_callTy c_int rfl T.b_int (by rfl) g_int (pam_cons (pem_op op_fdiv g_fdiv (pem_var 7 (pv 7)) (pem_int)) (pam_nil))) (pem_ix (pem_var 1 (pv 1)) (pem_var 6 (pv 6)))))))))))) (psm_one (psm_ret (pem_var 2 (pv 2))))))))))
/-! _law_reader -/
theorem sc__law_reader : FnScope ["_law_script", "_law_first", "_law_row_here", "_law_k"] ["_law_script", "_law_first"] (defScope s__law_reader) := ⟨rfl, rfl, rfl, by decide +kernel, rfl, by decide +kernel, by decide +kernel⟩
def body__law_reader (m__law_cell : List W → FR) (m__law_digits : List W → FR) : Rho → ML.R Fl := mSeq (mSet [] 2 (mLst [] [])) (mSeq (mFor (mRange1 [mC (.int 3)]) (gSet [] 3) (mSet [] 2 (mOp gAdd (mVar 2) (mCall [] [] m__law_digits [mCall [] [] m__law_cell [mVar 0, mOp gAdd (mVar 1) (mVar 3)], mOp gMul (mLst [] [mC (.int 5040)]) (mC (.int 70))])))) (mRet [] (mLst [] [mVar 2, mC (.int 0)])))
def fun__law_reader (m__law_cell : List W → FR) (m__law_digits : List W → FR) : List W → FR := mFun [] 4 (body__law_reader m__law_cell m__law_digits)
theorem def__law_reader (T : Txt w K mg) {m__law_cell : List W → FR} (D__law_cell : Def P w K mg base ct k "_law_cell" ["_law_script", "_law_k"] [] m__law_cell) {m__law_digits : List W → FR} (D__law_digits : Def P w K mg base ct k "_law_digits" ["_law_cell_here", "_law_sizes"] [] m__law_digits) : Def P w K mg base ct (k + 1) "_law_reader" ["_law_script", "_law_first"] [] (fun__law_reader m__law_cell m__law_digits) :=
  def_mk (N := ["_law_script", "_law_first", "_law_row_here", "_law_k"]) (g := body__law_reader m__law_cell m__law_digits) T.s__law_reader sc__law_reader (by decide) (fun _ _ _ _ _ _ us hl => match us, hl with | [_, _], _ => rfl) fun f cdv A outer s H E Y hr hct tk =>
    (psm_cons (psm_set (i := 2) sc__law_reader.nd rfl (Or.inl rfl) (pem_lst (pam_nil))) (psm_cons (psm_for (passes_of rfl) rfl (pim_range1 rfl T.b_range (pam_cons (pem_int) (pam_nil))) (pgm_name (pg_name (i := 3) sc__law_reader.nd rfl (Or.inl rfl))) (psm_one (psm_set (i := 2) sc__law_reader.nd rfl (Or.inl rfl) (pem_op o_add g_add (pem_var 2 (pv 2)) (pem_callD D__law_digits hct hr tk rfl (pam_cons (pem_callD D__law_cell hct hr tk rfl (pam_cons (pem_var 0 (pv 0)) (pam_cons (pem_op o_add g_add (pem_var 1 (pv 1)) (pem_var 3 (pv 3))) (pam_nil))) rfl) (pam_cons (pem_op o_mul g_mul (pem_lst (pam_cons (pem_int) (pam_nil))) (pem_int)) (pam_nil))) rfl))))) (psm_one (psm_ret (pem_lst (pam_cons (pem_var 2 (pv 2)) (pam_cons (pem_int) (pam_nil))))))))
/-! _law_next -/
theorem sc__law_next : FnScope ["_law_reader_here", "_law_many", "_law_digit"] ["_law_reader_here", "_law_many"] (defScope s__law_next) := ⟨rfl, rfl, rfl, by decide +kernel, rfl, by decide +kernel, by decide +kernel⟩
def body__law_next : Rho → ML.R Fl := mSeq (mSet [0] 2 (mOp gAdd (mOp gIx (mOp gIx (mVar 0) (mC (.int 0))) (mOp gMod (mOp gIx (mVar 0) (mC (.int 1))) (mC (.int 210)))) (mOp gMul (mC (.int 13)) (mOp gFdiv (mOp gIx (mVar 0) (mC (.int 1))) (mC (.int 210)))))) (mSeq (mStoreAt 0 [0] (mC (.int 1)) (mOp gAdd (mOp gIx (mVar 0) (mC (.int 1))) (mC (.int 1)))) (mRet [0] (mOp gMod (mCB gInt [mVar 2]) (mVar 1))))
def fun__law_next : List W → FR := mFun [0] 3 (body__law_next)
theorem def__law_next (T : Txt w K mg) : Def P w K mg base ct (k + 1) "_law_next" ["_law_reader_here", "_law_many"] [0] (fun__law_next) :=
  def_mk (N := ["_law_reader_here", "_law_many", "_law_digit"]) (g := body__law_next) T.s__law_next sc__law_next (by decide) (fun _ _ _ _ _ _ us hl => match us, hl with | [_, _], _ => rfl) fun f cdv A outer s H E Y hr hct tk =>
    (psm_cons (psm_set (i := 2) sc__law_next.nd rfl (Or.inl rfl) (pem_op o_add g_add (pem_ix (pem_ix (pem_var 0 (pv 0)) (pem_int)) (pem_op op_mod g_mod (pem_ix (pem_var 0 (pv 0)) (pem_int)) (pem_int))) (pem_op o_mul g_mul (pem_int) (pem_op op_fdiv g_fdiv (pem_ix (pem_var 0 (pv 0)) (pem_int)) (pem_int))))) (psm_cons (psm_storeAt (ps_asg (pem_op o_add g_add (pem_ix (pem_var 0 (pv 0)) (pem_int)) (pem_int)) (pg_sub (pv 0) (pem_int) set_list))) (psm_one (psm_ret (pem_op op_mod g_mod (pem_callTy c_int rfl T.b_int (by rfl) g_int (pam_cons (pem_var 2 (pv 2)) (pam_nil))) (pem_var 1 (pv 1)))))))
/-! _law_reserved -/
theorem sc__law_reserved : FnScope ["_law_row_here"] [] (defScope s__law_reserved) := ⟨rfl, rfl, rfl, by decide +kernel, rfl, by decide +kernel, by decide +kernel⟩
def body__law_reserved : Rho → ML.R Fl := mSeq (mSet [] 0 (mLst [] [mC (.str "skip"), mC (.str "quit"), mC (.str "if"), mC (.str "then"), mC (.str "else"), mC (.str "fi"), mC (.str "while"), mC (.str "do"), mC (.str "od"), mC (.str "new"), mC (.str "in"), mC (.str "end"), mC (.str "let"), mC (.str "be")])) (mRet [] (mOp gAdd (mVar 0) (mLst [] [mC (.str "command"), mC (.str "number")])))
def fun__law_reserved : List W → FR := mFun [] 1 (body__law_reserved)
theorem def__law_reserved (T : Txt w K mg) : Def P w K mg base ct (k + 1) "_law_reserved" [] [] (fun__law_reserved) :=
  def_mk (N := ["_law_row_here"]) (g := body__law_reserved) T.s__law_reserved sc__law_reserved (by decide) (fun _ _ _ _ _ _ us hl => match us, hl with | [], _ => rfl) fun f cdv A outer s H E Y hr hct tk =>
    (psm_cons (psm_set (i := 0) sc__law_reserved.nd rfl (Or.inl rfl) (pem_lst (pam_cons (pem_str) (pam_cons (pem_str) (pam_cons (pem_str) (pam_cons (pem_str) (pam_cons (pem_str) (pam_cons (pem_str) (pam_cons (pem_str) (pam_cons (pem_str) (pam_cons (pem_str) (pam_cons (pem_str) (pam_cons (pem_str) (pam_cons (pem_str) (pam_cons (pem_str) (pam_cons (pem_str) (pam_nil))))))))))))))))) (psm_one (psm_ret (pem_op o_add g_add (pem_var 0 (pv 0)) (pem_lst (pam_cons (pem_str) (pam_cons (pem_str) (pam_nil))))))))
/-! _law_name -/
theorem sc__law_name : FnScope ["_law_reader_here", "_law_row_here", "_law_pick", "_law_name_here", "_law_k"] ["_law_reader_here"] (defScope s__law_name) := ⟨rfl, rfl, rfl, by decide +kernel, rfl, by decide +kernel, by decide +kernel⟩
def body__law_name (m__law_next : List W → FR) (m__law_reserved : List W → FR) : Rho → ML.R Fl := mSeq (mSet [0] 1 (mLst [0] [mC (.str "n0"), mC (.str "n1"), mC (.str "n2"), mC (.str "n3"), mC (.str "n10"), mC (.str "n01"), mC (.str "n"), mC (.str "x"), mC (.str "iff"), mC (.str "do1"), mC (.str "inner"), mC (.str "new2"), mC (.str "lets"), mC (.str "number1")])) (mSeq (mSet [0] 1 (mOp gAdd (mVar 1) (mLst [0] [mC (.str "commands"), mC (.str "p")]))) (mSeq (mSet [0] 2 (mCall [0] [0] m__law_next [mVar 0, mC (.int 24)])) (mSeq (mIf (mTest (mOp (gCmp (fun i j => decide (i < j))) (mVar 2) (mC (.int 16)))) (mRet [0] (mOp gIx (mVar 1) (mVar 2))) (mNext)) (mSeq (mSet [0] 3 (mC (.str ""))) (mSeq (mFor (mRange1 [mOp gAdd (mC (.int 1)) (mCall [0] [0] m__law_next [mVar 0, mC (.int 8)])]) (gSet [0] 4) (mSet [0] 3 (mOp gAdd (mVar 3) (mOp gIx (mC (.str "abcdefghijklmnopqrstuvwxyz0123456789")) (mCall [0] [0] m__law_next [mVar 0, mOp gAdd (mC (.int 26)) (mOp gMul (mC (.int 10)) (mCB gInt [mOp (gCmp (fun i j => decide (j < i))) (mVar 4) (mC (.int 0))]))]))))) (mSeq (mIf (mTest (mOp (gIn false) (mVar 3) (mCall [0] [] m__law_reserved []))) (mSet [0] 3 (mOp gAdd (mSl (mVar 3) none (some (mC (.int 7)))) (mC (.str "0")))) (mNext)) (mRet [0] (mVar 3))))))))
def fun__law_name (m__law_next : List W → FR) (m__law_reserved : List W → FR) : List W → FR := mFun [0] 5 (body__law_name m__law_next m__law_reserved)
theorem def__law_name (T : Txt w K mg) {m__law_next : List W → FR} (D__law_next : Def P w K mg base ct k "_law_next" ["_law_reader_here", "_law_many"] [0] m__law_next) {m__law_reserved : List W → FR} (D__law_reserved : Def P w K mg base ct k "_law_reserved" [] [] m__law_reserved) (hE__law_reserved : ∀ args, match m__law_reserved args with | .exc _ _ _ _ => False | _ => True) : Def P w K mg base ct (k + 1) "_law_name" ["_law_reader_here"] [0] (fun__law_name m__law_next m__law_reserved) :=
  def_mk (N := ["_law_reader_here", "_law_row_here", "_law_pick", "_law_name_here", "_law_k"]) (g := body__law_name m__law_next m__law_reserved) T.s__law_name sc__law_name (by decide) (fun _ _ _ _ _ _ us hl => match us, hl with | [_], _ => rfl) fun f cdv A outer s H E Y hr hct tk =>
    (psm_cons (psm_set (i := 1) sc__law_name.nd rfl (Or.inl rfl) (pem_lst (pam_cons (pem_str) (pam_cons (pem_str) (pam_cons (pem_str) (pam_cons (pem_str) (pam_cons (pem_str) (pam_cons (pem_str) (pam_cons (pem_str) (pam_cons (pem_str) (pam_cons (pem_str) (pam_cons (pem_str) (pam_cons (pem_str) (pam_cons (pem_str) (pam_cons (pem_str) (pam_cons (pem_str) (pam_nil))))))))))))))))) (psm_cons (psm_set (i := 1) sc__law_name.nd rfl (Or.inl rfl) (pem_op o_add g_add (pem_var 1 (pv 1)) (pem_lst (pam_cons (pem_str) (pam_cons (pem_str) (pam_nil)))))) (psm_cons (psm_set (i := 2) sc__law_name.nd rfl (Or.inl rfl) (pem_callD D__law_next hct hr tk rfl (pam_cons (pem_var 0 (pv 0)) (pam_cons (pem_int) (pam_nil))) rfl)) (psm_cons (psm_if (ptm_cmp op_lt g_cmp (pem_var 2 (pv 2)) (pem_int) (nomark _)) (psm_one (psm_ret (pem_ix (pem_var 1 (pv 1)) (pem_var 2 (pv 2))))) (psm_nil)) (psm_cons (psm_set (i := 3) sc__law_name.nd rfl (Or.inl rfl) (pem_str)) (psm_cons (psm_for (passes_of rfl) rfl (pim_range1 rfl T.b_range (pam_cons (pem_op o_add g_add (pem_int) (pem_callD D__law_next hct hr tk rfl (pam_cons (pem_var 0 (pv 0)) (pam_cons (pem_int) (pam_nil))) rfl)) (pam_nil))) (pgm_name (pg_name (i := 4) sc__law_name.nd rfl (Or.inl rfl))) (psm_one (psm_set (i := 3) sc__law_name.nd rfl (Or.inl rfl) (pem_op o_add g_add (pem_var 3 (pv 3)) (pem_ix (pem_str) (pem_callD D__law_next hct hr tk rfl (pam_cons (pem_var 0 (pv 0)) (pam_cons (pem_op o_add g_add (pem_int) (pem_op o_mul g_mul (pem_int) (pem_callTy c_int rfl T.b_int (by rfl) g_int (pam_cons (pem_cmp op_gt g_cmp (pem_var 4 (pv 4)) (pem_int) (nomark _)) (pam_nil))))) (pam_nil))) rfl)))))) (psm_cons (psm_if (ptm_cmp o_in g_in (pem_var 3 (pv 3)) (pem_callD0 D__law_reserved hE__law_reserved hct hr rfl) rfl) (psm_one (psm_set (i := 3) sc__law_name.nd rfl (Or.inl rfl) (pem_op o_add g_add (pem_slice (pem_var 3 (pv 3)) pom_none (pom_some (pem_int))) (pem_str)))) (psm_nil)) (psm_one (psm_ret (pem_var 3 (pv 3)))))))))))
/-! _law_names -/
theorem sc__law_names : FnScope ["_law_reader_here", "_law_many", "_law_names_here", "_law_k", "_law_name_here"] ["_law_reader_here", "_law_many"] (defScope s__law_names) := ⟨rfl, rfl, rfl, by decide +kernel, rfl, by decide +kernel, by decide +kernel⟩
def body__law_names (m__law_name : List W → FR) : Rho → ML.R Fl := mSeq (mSet [0] 2 (mLst [0] [])) (mSeq (mFor (mRange1 [mVar 1]) (gSet [0] 3) (mSeq (mSet [0] 4 (mCall [0] [0] m__law_name [mVar 0])) (mIf (mTest (mOp (gIn true) (mVar 4) (mVar 2))) (mDrop (mAppend 2 [0] (mVar 4))) (mNext)))) (mRet [0] (mVar 2)))
def fun__law_names (m__law_name : List W → FR) : List W → FR := mFun [0] 5 (body__law_names m__law_name)
theorem def__law_names (T : Txt w K mg) {m__law_name : List W → FR} (D__law_name : Def P w K mg base ct k "_law_name" ["_law_reader_here"] [0] m__law_name) : Def P w K mg base ct (k + 1) "_law_names" ["_law_reader_here", "_law_many"] [0] (fun__law_names m__law_name) :=
  def_mk (N := ["_law_reader_here", "_law_many", "_law_names_here", "_law_k", "_law_name_here"]) (g := body__law_names m__law_name) T.s__law_names sc__law_names (by decide) (fun _ _ _ _ _ _ us hl => match us, hl with | [_, _], _ => rfl) fun f cdv A outer s H E Y hr hct tk =>
    (psm_cons (psm_set (i := 2) sc__law_names.nd rfl (Or.inl rfl) (pem_lst (pam_nil))) (psm_cons (psm_for (passes_of rfl) rfl (pim_range1 rfl T.b_range (pam_cons (pem_var 1 (pv 1)) (pam_nil))) (pgm_name (pg_name (i := 3) sc__law_names.nd rfl (Or.inl rfl))) (psm_cons (psm_set (i := 4) sc__law_names.nd rfl (Or.inl rfl) (pem_callD D__law_name hct hr tk rfl (pam_cons (pem_var 0 (pv 0)) (pam_nil)) rfl)) (psm_one (psm_if (ptm_cmp o_notin g_in (pem_var 4 (pv 4)) (pem_var 2 (pv 2)) rfl) (psm_one (psm_expr (pem_append (pv 2) (pem_var 4 (pv 4))))) (psm_nil))))) (psm_one (psm_ret (pem_var 2 (pv 2))))))
/-! _law_split -/
theorem sc__law_split : FnScope ["_law_reader_here", "_law_rest", "_law_many", "_law_parts", "_law_left", "_law_k", "_law_part"] ["_law_reader_here", "_law_rest", "_law_many"] (defScope s__law_split) := ⟨rfl, rfl, rfl, by decide +kernel, rfl, by decide +kernel, by decide +kernel⟩
def body__law_split (m__law_next : List W → FR) : Rho → ML.R Fl := mSeq (mSet [0] 3 (mLst [0] [])) (mSeq (mSet [0] 4 (mVar 1)) (mSeq (mFor (mRange1 [mOp gSub (mVar 2) (mC (.int 1))]) (gSet [0] 5) (mSeq (mSet [0] 6 (mOp gAdd (mC (.int 1)) (mCall [0] [0] m__law_next [mVar 0, mOp gSub (mVar 4) (mOp gSub (mOp gSub (mVar 2) (mC (.int 1))) (mVar 5))]))) (mSeq (mDrop (mAppend 3 [0] (mVar 6))) (mSet [0] 4 (mOp gSub (mVar 4) (mVar 6)))))) (mSeq (mDrop (mAppend 3 [0] (mVar 4))) (mRet [0] (mVar 3)))))
def fun__law_split (m__law_next : List W → FR) : List W → FR := mFun [0] 7 (body__law_split m__law_next)
theorem def__law_split (T : Txt w K mg) {m__law_next : List W → FR} (D__law_next : Def P w K mg base ct k "_law_next" ["_law_reader_here", "_law_many"] [0] m__law_next) : Def P w K mg base ct (k + 1) "_law_split" ["_law_reader_here", "_law_rest", "_law_many"] [0] (fun__law_split m__law_next) :=
  def_mk (N := ["_law_reader_here", "_law_rest", "_law_many", "_law_parts", "_law_left", "_law_k", "_law_part"]) (g := body__law_split m__law_next) T.s__law_split sc__law_split (by decide) (fun _ _ _ _ _ _ us hl => match us, hl with | [_, _, _], _ => rfl) fun f cdv A outer s H E Y hr hct tk =>
    (psm_cons (psm_set (i := 3) sc__law_split.nd rfl (Or.inl rfl) (pem_lst (pam_nil))) (psm_cons (psm_set (i := 4) sc__law_split.nd rfl (Or.inl rfl) (pem_var 1 (pv 1))) (psm_cons (psm_for (passes_of rfl) rfl (pim_range1 rfl T.b_range (pam_cons (pem_op o_sub g_sub (pem_var 2 (pv 2)) (pem_int)) (pam_nil))) (pgm_name (pg_name (i := 5) sc__law_split.nd rfl (Or.inl rfl))) (psm_cons (psm_set (i := 6) sc__law_split.nd rfl (Or.inl rfl) (pem_op o_add g_add (pem_int) (pem_callD D__law_next hct hr tk rfl (pam_cons (pem_var 0 (pv 0)) (pam_cons (pem_op o_sub g_sub (pem_var 4 (pv 4)) (pem_op o_sub g_sub (pem_op o_sub g_sub (pem_var 2 (pv 2)) (pem_int)) (pem_var 5 (pv 5)))) (pam_nil))) rfl))) (psm_cons (psm_expr (pem_append (pv 3) (pem_var 6 (pv 6)))) (psm_one (psm_set (i := 4) sc__law_split.nd rfl (Or.inl rfl) (pem_op o_sub g_sub (pem_var 4 (pv 4)) (pem_var 6 (pv 6)))))))) (psm_cons (psm_expr (pem_append (pv 3) (pem_var 4 (pv 4)))) (psm_one (psm_ret (pem_var 3 (pv 3))))))))
/-! _law_number -/
theorem sc__law_number : FnScope ["_law_reader_here"] ["_law_reader_here"] (defScope s__law_number) := ⟨rfl, rfl, rfl, by decide +kernel, rfl, by decide +kernel, by decide +kernel⟩
def body__law_number (m__law_next : List W → FR) : Rho → ML.R Fl := mRet [0] (mCall [0] [0] m__law_next [mVar 0, mOp gIx (mLst [0] [mC (.int 3), mC (.int 10), mC (.int 100), mC (.int 1000)]) (mCall [0] [0] m__law_next [mVar 0, mC (.int 4)])])
def fun__law_number (m__law_next : List W → FR) : List W → FR := mFun [0] 1 (body__law_number m__law_next)
theorem def__law_number (T : Txt w K mg) {m__law_next : List W → FR} (D__law_next : Def P w K mg base ct k "_law_next" ["_law_reader_here", "_law_many"] [0] m__law_next) : Def P w K mg base ct (k + 1) "_law_number" ["_law_reader_here"] [0] (fun__law_number m__law_next) :=
  def_mk (N := ["_law_reader_here"]) (g := body__law_number m__law_next) T.s__law_number sc__law_number (by decide) (fun _ _ _ _ _ _ us hl => match us, hl with | [_], _ => rfl) fun f cdv A outer s H E Y hr hct tk =>
    (psm_one (psm_ret (pem_callD D__law_next hct hr tk rfl (pam_cons (pem_var 0 (pv 0)) (pam_cons (pem_ix (pem_lst (pam_cons (pem_int) (pam_cons (pem_int) (pam_cons (pem_int) (pam_cons (pem_int) (pam_nil)))))) (pem_callD D__law_next hct hr tk rfl (pam_cons (pem_var 0 (pv 0)) (pam_cons (pem_int) (pam_nil))) rfl)) (pam_nil))) rfl)))
/-! _law_any_leaf -/
theorem sc__law_any_leaf : FnScope ["_law_reader_here", "_law_names_here", "_law_name_here", "_law_pick"] ["_law_reader_here", "_law_names_here"] (defScope s__law_any_leaf) := ⟨rfl, rfl, rfl, by decide +kernel, rfl, by decide +kernel, by decide +kernel⟩
def body__law_any_leaf (m__law_next : List W → FR) (m__law_number : List W → FR) : Rho → ML.R Fl := mSeq (mSet [0] 2 (mOp gIx (mVar 1) (mCall [0] [0] m__law_next [mVar 0, mCB gLen [mVar 1]]))) (mSeq (mSet [0] 3 (mCall [0] [0] m__law_next [mVar 0, mC (.int 8)])) (mSeq (mIf (mTest (mOp (gCmp (fun i j => decide (i < j))) (mVar 3) (mC (.int 2)))) (mRet [0] (mTup [0] [mC (.str "get"), mVar 2])) (mNext)) (mSeq (mIf (mTest (mOp (gCmp (fun i j => decide (i < j))) (mVar 3) (mC (.int 4)))) (mRet [0] (mTup [0] [mC (.str "number"), mCall [0] [0] m__law_number [mVar 0]])) (mNext)) (mRet [0] (mOp gIx (mLst [0] [mTup [0] [mC (.str "skip")], mTup [0] [mC (.str "quit")], mTup [0] [mC (.str "hole")], mTup [0] [mC (.str "call"), mVar 2, mTup [0] []]]) (mOp gSub (mVar 3) (mC (.int 4))))))))
def fun__law_any_leaf (m__law_next : List W → FR) (m__law_number : List W → FR) : List W → FR := mFun [0] 4 (body__law_any_leaf m__law_next m__law_number)
theorem def__law_any_leaf (T : Txt w K mg) {m__law_next : List W → FR} (D__law_next : Def P w K mg base ct k "_law_next" ["_law_reader_here", "_law_many"] [0] m__law_next) {m__law_number : List W → FR} (D__law_number : Def P w K mg base ct k "_law_number" ["_law_reader_here"] [0] m__law_number) : Def P w K mg base ct (k + 1) "_law_any_leaf" ["_law_reader_here", "_law_names_here"] [0] (fun__law_any_leaf m__law_next m__law_number) :=
  def_mk (N := ["_law_reader_here", "_law_names_here", "_law_name_here", "_law_pick"]) (g := body__law_any_leaf m__law_next m__law_number) T.s__law_any_leaf sc__law_any_leaf (by decide) (fun _ _ _ _ _ _ us hl => match us, hl with | [_, _], _ => rfl) fun f cdv A outer s H E Y hr hct tk =>
    (psm_cons (psm_set (i := 2) sc__law_any_leaf.nd rfl (Or.inl rfl) (pem_ix (pem_var 1 (pv 1)) (pem_callD D__law_next hct hr tk rfl (pam_cons (pem_var 0 (pv 0)) (pam_cons (pem_callB (call_len) rfl T.b_len (by rfl) g_len (pam_cons (pem_var 1 (pv 1)) (pam_nil))) (pam_nil))) rfl))) (psm_cons (psm_set (i := 3) sc__law_any_leaf.nd rfl (Or.inl rfl) (pem_callD D__law_next hct hr tk rfl (pam_cons (pem_var 0 (pv 0)) (pam_cons (pem_int) (pam_nil))) rfl)) (psm_cons (psm_if (ptm_cmp op_lt g_cmp (pem_var 3 (pv 3)) (pem_int) (nomark _)) (psm_one (psm_ret (pem_tup (pam_cons (pem_str) (pam_cons (pem_var 2 (pv 2)) (pam_nil)))))) (psm_nil)) (psm_cons (psm_if (ptm_cmp op_lt g_cmp (pem_var 3 (pv 3)) (pem_int) (nomark _)) (psm_one (psm_ret (pem_tup (pam_cons (pem_str) (pam_cons (pem_callD D__law_number hct hr tk rfl (pam_cons (pem_var 0 (pv 0)) (pam_nil)) rfl) (pam_nil)))))) (psm_nil)) (psm_one (psm_ret (pem_ix (pem_lst (pam_cons (pem_tup (pam_cons (pem_str) (pam_nil))) (pam_cons (pem_tup (pam_cons (pem_str) (pam_nil))) (pam_cons (pem_tup (pam_cons (pem_str) (pam_nil))) (pam_cons (pem_tup (pam_cons (pem_str) (pam_cons (pem_var 2 (pv 2)) (pam_cons (pem_tup (pam_nil)) (pam_nil))))) (pam_nil)))))) (pem_op o_sub g_sub (pem_var 3 (pv 3)) (pem_int)))))))))
/-! _law_parameters -/
theorem sc__law_parameters : FnScope ["_law_reader_here", "_law_names_here", "_law_many", "_law_pairs", "_law_k"] ["_law_reader_here", "_law_names_here", "_law_many"] (defScope s__law_parameters) := ⟨rfl, rfl, rfl, by decide +kernel, rfl, by decide +kernel, by decide +kernel⟩
def body__law_parameters (m__law_next : List W → FR) : Rho → ML.R Fl := mSeq (mSet [0] 3 (mLst [0] [])) (mSeq (mFor (mRange1 [mVar 2]) (gSet [0] 4) (mDrop (mAppend 3 [0] (mTup [0] [mOp gIx (mVar 1) (mCall [0] [0] m__law_next [mVar 0, mCB gLen [mVar 1]]), mOp gIx (mLst [0] [mC (.str "command"), mC (.str "number")]) (mCall [0] [0] m__law_next [mVar 0, mC (.int 2)])])))) (mRet [0] (mCB gTupC [mVar 3])))
def fun__law_parameters (m__law_next : List W → FR) : List W → FR := mFun [0] 5 (body__law_parameters m__law_next)
theorem def__law_parameters (T : Txt w K mg) {m__law_next : List W → FR} (D__law_next : Def P w K mg base ct k "_law_next" ["_law_reader_here", "_law_many"] [0] m__law_next) : Def P w K mg base ct (k + 1) "_law_parameters" ["_law_reader_here", "_law_names_here", "_law_many"] [0] (fun__law_parameters m__law_next) :=
  def_mk (N := ["_law_reader_here", "_law_names_here", "_law_many", "_law_pairs", "_law_k"]) (g := body__law_parameters m__law_next) T.s__law_parameters sc__law_parameters (by decide) (fun _ _ _ _ _ _ us hl => match us, hl with | [_, _, _], _ => rfl) fun f cdv A outer s H E Y hr hct tk =>
    (psm_cons (psm_set (i := 3) sc__law_parameters.nd rfl (Or.inl rfl) (pem_lst (pam_nil))) (psm_cons (psm_for (passes_of rfl) rfl (pim_range1 rfl T.b_range (pam_cons (pem_var 2 (pv 2)) (pam_nil))) (pgm_name (pg_name (i := 4) sc__law_parameters.nd rfl (Or.inl rfl))) (psm_one (psm_expr (pem_append (pv 3) (pem_tup (pam_cons (pem_ix (pem_var 1 (pv 1)) (pem_callD D__law_next hct hr tk rfl (pam_cons (pem_var 0 (pv 0)) (pam_cons (pem_callB (call_len) rfl T.b_len (by rfl) g_len (pam_cons (pem_var 1 (pv 1)) (pam_nil))) (pam_nil))) rfl)) (pam_cons (pem_ix (pem_lst (pam_cons (pem_str) (pam_cons (pem_str) (pam_nil)))) (pem_callD D__law_next hct hr tk rfl (pam_cons (pem_var 0 (pv 0)) (pam_cons (pem_int) (pam_nil))) rfl)) (pam_nil)))))))) (psm_one (psm_ret (pem_callTy call_tuple_of rfl T.b_tuple (by rfl) g_tupC (pam_cons (pem_var 3 (pv 3)) (pam_nil)))))))
/-! _law_any -/
theorem sc__law_any : FnScope ["_law_reader_here", "_law_budget", "_law_depth", "_law_names_here", "_law_name_here", "_law_pick", "_law_part", "_law_unary", "_law_many", "_law_sizes", "_law_parts", "_law_size"] ["_law_reader_here", "_law_budget", "_law_depth", "_law_names_here"] (defScope s__law_any) := ⟨rfl, rfl, rfl, by decide +kernel, rfl, by decide +kernel, by decide +kernel⟩
def body__law_any (m__law_any_leaf : List W → FR) (m__law_next : List W → FR) (m__law_any : List W → FR) (m__law_number : List W → FR) (m__law_split : List W → FR) (m__law_parameters : List W → FR) : Rho → ML.R Fl := mSeq (mIf (mOr (mTest (mOp (gCmp (fun i j => decide (i ≤ j))) (mVar 1) (mC (.int 1)))) (mTest (mOp (gCmp (fun i j => decide (i ≤ j))) (mVar 2) (mC (.int 0))))) (mRet [0] (mCall [0] [0] m__law_any_leaf [mVar 0, mVar 3])) (mNext)) (mSeq (mSet [0] 4 (mOp gIx (mVar 3) (mCall [0] [0] m__law_next [mVar 0, mCB gLen [mVar 3]]))) (mSeq (mSet [0] 5 (mCall [0] [0] m__law_next [mVar 0, mC (.int 20)])) (mSeq (mIf (mOr (mTest (mOp (gCmp (fun i j => decide (i < j))) (mVar 5) (mC (.int 4)))) (mTest (mOp gEq (mVar 1) (mC (.int 2))))) (mSeq (mSet [0] 6 (mCall [0] [0] m__law_any [mVar 0, mOp gSub (mVar 1) (mC (.int 1)), mOp gSub (mVar 2) (mC (.int 1)), mVar 3])) (mSeq (mSet [0] 7 (mLst [0] [mTup [0] [mC (.str "set"), mVar 4, mVar 6], mTup [0] [mC (.str "new"), mVar 4, mCall [0] [0] m__law_number [mVar 0], mVar 6], mTup [0] [mC (.str "call"), mVar 4, mTup [0] [mVar 6]]])) (mRet [0] (mOp gIx (mVar 7) (mOp gIx (mLst [0] [mC (.int 0), mC (.int 0), mC (.int 1), mC (.int 2)]) (mCall [0] [0] m__law_next [mVar 0, mC (.int 4)])))))) (mNext)) (mSeq (mSet [0] 8 (mC (.int 2))) (mSeq (mIf (mAnd (mTest (mOp (gCmp (fun i j => decide (j < i))) (mVar 5) (mC (.int 15)))) (mTest (mOp (gCmp (fun i j => decide (j < i))) (mVar 1) (mC (.int 3))))) (mSet [0] 8 (mC (.int 3))) (mNext)) (mSeq (mIf (mTest (mOp gEq (mVar 5) (mC (.int 19)))) (mSet [0] 8 (mCB gMin [mOp gSub (mVar 1) (mC (.int 1)), mOp gAdd (mC (.int 1)) (mCall [0] [0] m__law_next [mVar 0, mC (.int 5)])])) (mNext)) (mSeq (mSet [0] 9 (mCall [0] [0] m__law_split [mVar 0, mOp gSub (mVar 1) (mC (.int 1)), mVar 8])) (mSeq (mSet [0] 10 (mCB gTupC [mLc [0] (mItems [0] (mVar 9)) (.nm 11) (mYes) (mCall [0] [0] m__law_any [mVar 0, mVar 11, mOp gSub (mVar 2) (mC (.int 1)), mVar 3])])) (mSeq (mIf (mTest (mOp gEq (mVar 5) (mC (.int 19)))) (mRet [0] (mTup [0] [mC (.str "call"), mVar 4, mVar 10])) (mNext)) (mSeq (mIf (mTest (mOp gEq (mVar 8) (mC (.int 3)))) (mRet [0] (mOp gIx (mLst [0] [mOp gAdd (mTup [0] [mC (.str "if")]) (mVar 10), mTup [0] [mC (.str "call"), mVar 4, mVar 10]]) (mCB gInt [mOp gEq (mVar 5) (mC (.int 18))]))) (mNext)) (mSeq (mIf (mOr (mTest (mOp (gCmp (fun i j => decide (i < j))) (mVar 5) (mC (.int 9)))) (mTest (mOp (gCmp (fun i j => decide (j < i))) (mVar 5) (mC (.int 15))))) (mRet [0] (mOp gAdd (mTup [0] [mC (.str "then")]) (mVar 10))) (mNext)) (mSeq (mIf (mTest (mOp (gCmp (fun i j => decide (i < j))) (mVar 5) (mC (.int 11)))) (mRet [0] (mOp gAdd (mTup [0] [mOp gIx (mLst [0] [mC (.str "while"), mC (.str "call")]) (mOp gSub (mVar 5) (mC (.int 9)))]) (mOp gIx (mLst [0] [mVar 10, mTup [0] [mVar 4, mVar 10]]) (mOp gSub (mVar 5) (mC (.int 9)))))) (mNext)) (mSeq (mIf (mTest (mOp (gCmp (fun i j => decide (i < j))) (mVar 5) (mC (.int 14)))) (mRet [0] (mOp gAdd (mTup [0] [mOp gIx (mLst [0] [mC (.str "plus"), mC (.str "equal"), mC (.str "less")]) (mOp gSub (mVar 5) (mC (.int 11)))]) (mVar 10))) (mNext)) (mRet [0] (mOp gAdd (mTup [0] [mC (.str "let"), mVar 4, mCall [0] [0] m__law_parameters [mVar 0, mVar 3, mOp gIx (mLst [0] [mC (.int 0), mC (.int 1), mC (.int 1), mC (.int 2), mC (.int 3), mC (.int 4)]) (mCall [0] [0] m__law_next [mVar 0, mC (.int 6)])]]) (mVar 10))))))))))))))))
def fun__law_any (m__law_any_leaf : List W → FR) (m__law_next : List W → FR) (m__law_any : List W → FR) (m__law_number : List W → FR) (m__law_split : List W → FR) (m__law_parameters : List W → FR) : List W → FR := mFun [0] 12 (body__law_any m__law_any_leaf m__law_next m__law_any m__law_number m__law_split m__law_parameters)
theorem def__law_any (T : Txt w K mg) {m__law_any_leaf : List W → FR} (D__law_any_leaf : Def P w K mg base ct k "_law_any_leaf" ["_law_reader_here", "_law_names_here"] [0] m__law_any_leaf) {m__law_next : List W → FR} (D__law_next : Def P w K mg base ct k "_law_next" ["_law_reader_here", "_law_many"] [0] m__law_next) {m__law_any : List W → FR} (D__law_any : Def P w K mg base ct k "_law_any" ["_law_reader_here", "_law_budget", "_law_depth", "_law_names_here"] [0] m__law_any) {m__law_number : List W → FR} (D__law_number : Def P w K mg base ct k "_law_number" ["_law_reader_here"] [0] m__law_number) {m__law_split : List W → FR} (D__law_split : Def P w K mg base ct k "_law_split" ["_law_reader_here", "_law_rest", "_law_many"] [0] m__law_split) {m__law_parameters : List W → FR} (D__law_parameters : Def P w K mg base ct k "_law_parameters" ["_law_reader_here", "_law_names_here", "_law_many"] [0] m__law_parameters) : Def P w K mg base ct (k + 1) "_law_any" ["_law_reader_here", "_law_budget", "_law_depth", "_law_names_here"] [0] (fun__law_any m__law_any_leaf m__law_next m__law_any m__law_number m__law_split m__law_parameters) :=
  def_mk (N := ["_law_reader_here", "_law_budget", "_law_depth", "_law_names_here", "_law_name_here", "_law_pick", "_law_part", "_law_unary", "_law_many", "_law_sizes", "_law_parts", "_law_size"]) (g := body__law_any m__law_any_leaf m__law_next m__law_any m__law_number m__law_split m__law_parameters) T.s__law_any sc__law_any (by decide) (fun _ _ _ _ _ _ us hl => match us, hl with | [_, _, _, _], _ => rfl) fun f cdv A outer s H E Y hr hct tk =>
    (psm_cons (psm_if (PW.pt (pwm_or (ptm_cmp op_le g_cmp (pem_var 1 (pv 1)) (pem_int) (nomark _)) (pwm_or1 (ptm_cmp op_le g_cmp (pem_var 2 (pv 2)) (pem_int) (nomark _))))) (psm_one (psm_ret (pem_callD D__law_any_leaf hct hr tk rfl (pam_cons (pem_var 0 (pv 0)) (pam_cons (pem_var 3 (pv 3)) (pam_nil))) rfl))) (psm_nil)) (psm_cons (psm_set (i := 4) sc__law_any.nd rfl (Or.inl rfl) (pem_ix (pem_var 3 (pv 3)) (pem_callD D__law_next hct hr tk rfl (pam_cons (pem_var 0 (pv 0)) (pam_cons (pem_callB (call_len) rfl T.b_len (by rfl) g_len (pam_cons (pem_var 3 (pv 3)) (pam_nil))) (pam_nil))) rfl))) (psm_cons (psm_set (i := 5) sc__law_any.nd rfl (Or.inl rfl) (pem_callD D__law_next hct hr tk rfl (pam_cons (pem_var 0 (pv 0)) (pam_cons (pem_int) (pam_nil))) rfl)) (psm_cons (psm_if (PW.pt (pwm_or (ptm_cmp op_lt g_cmp (pem_var 5 (pv 5)) (pem_int) (nomark _)) (pwm_or1 (ptm_cmp (o_eq (hu200 hr)) g_eq (pem_var 1 (pv 1)) (pem_int) (nomark _))))) (psm_cons (psm_set (i := 6) sc__law_any.nd rfl (Or.inl rfl) (pem_callD D__law_any hct hr tk rfl (pam_cons (pem_var 0 (pv 0)) (pam_cons (pem_op o_sub g_sub (pem_var 1 (pv 1)) (pem_int)) (pam_cons (pem_op o_sub g_sub (pem_var 2 (pv 2)) (pem_int)) (pam_cons (pem_var 3 (pv 3)) (pam_nil))))) rfl)) (psm_cons (psm_set (i := 7) sc__law_any.nd rfl (Or.inl rfl) (pem_lst (pam_cons (pem_tup (pam_cons (pem_str) (pam_cons (pem_var 4 (pv 4)) (pam_cons (pem_var 6 (pv 6)) (pam_nil))))) (pam_cons (pem_tup (pam_cons (pem_str) (pam_cons (pem_var 4 (pv 4)) (pam_cons (pem_callD D__law_number hct hr tk rfl (pam_cons (pem_var 0 (pv 0)) (pam_nil)) rfl) (pam_cons (pem_var 6 (pv 6)) (pam_nil)))))) (pam_cons (pem_tup (pam_cons (pem_str) (pam_cons (pem_var 4 (pv 4)) (pam_cons (pem_tup (pam_cons (pem_var 6 (pv 6)) (pam_nil))) (pam_nil))))) (pam_nil)))))) (psm_one (psm_ret (pem_ix (pem_var 7 (pv 7)) (pem_ix (pem_lst (pam_cons (pem_int) (pam_cons (pem_int) (pam_cons (pem_int) (pam_cons (pem_int) (pam_nil)))))) (pem_callD D__law_next hct hr tk rfl (pam_cons (pem_var 0 (pv 0)) (pam_cons (pem_int) (pam_nil))) rfl))))))) (psm_nil)) (psm_cons (psm_set (i := 8) sc__law_any.nd rfl (Or.inl rfl) (pem_int)) (psm_cons (psm_if (PW.pt (pwm_and (ptm_cmp op_gt g_cmp (pem_var 5 (pv 5)) (pem_int) (nomark _)) (pwm_and1 (ptm_cmp op_gt g_cmp (pem_var 1 (pv 1)) (pem_int) (nomark _))))) (psm_one (psm_set (i := 8) sc__law_any.nd rfl (Or.inl rfl) (pem_int))) (psm_nil)) (psm_cons (psm_if (ptm_cmp (o_eq (hu200 hr)) g_eq (pem_var 5 (pv 5)) (pem_int) (nomark _)) (psm_one (psm_set (i := 8) sc__law_any.nd rfl (Or.inl rfl) (pem_callB (call_min2 rfl) rfl T.b_min (by rfl) g_min (pam_cons (pem_op o_sub g_sub (pem_var 1 (pv 1)) (pem_int)) (pam_cons (pem_op o_add g_add (pem_int) (pem_callD D__law_next hct hr tk rfl (pam_cons (pem_var 0 (pv 0)) (pam_cons (pem_int) (pam_nil))) rfl)) (pam_nil)))))) (psm_nil)) (psm_cons (psm_set (i := 9) sc__law_any.nd rfl (Or.inl rfl) (pem_callD D__law_split hct hr tk rfl (pam_cons (pem_var 0 (pv 0)) (pam_cons (pem_op o_sub g_sub (pem_var 1 (pv 1)) (pem_int)) (pam_cons (pem_var 8 (pv 8)) (pam_nil)))) rfl)) (psm_cons (psm_set (i := 10) sc__law_any.nd rfl (Or.inl rfl) (pem_callTy call_tuple_of rfl T.b_tuple (by rfl) g_tupC (pam_cons (pem_lc (own := [("_law_size", 11)]) (t := .nm 11) rfl sc__law_any.nd (pim_seq (pem_var 9 (pv 9))) (blkOk_by (N := ["_law_reader_here", "_law_budget", "_law_depth", "_law_names_here", "_law_name_here", "_law_pick", "_law_part", "_law_unary", "_law_many", "_law_sizes", "_law_parts", "_law_size"]) (sc := defScope s__law_any) (by decide +kernel)) rfl (fun _ _ _ _ _ => pg_name (i := 11) sc__law_any.nd rfl (by first | exact Or.inl rfl | exact Or.inr rfl) (by first | exact .inl rfl | exact .inr rfl)) (fun _ _ _ _ _ => pcs_nil) (fun _ _ _ _ _ Y1 hY1 wY1 => (pem_callD D__law_any (hY1.trans hct) hr (takesF wY1) rfl (pam_cons (pem_var 0 (pv 0)) (pam_cons (pem_var 11 (pv 11)) (pam_cons (pem_op o_sub g_sub (pem_var 2 (pv 2)) (pem_int)) (pam_cons (pem_var 3 (pv 3)) (pam_nil))))) rfl))) (pam_nil)))) (psm_cons (psm_if (ptm_cmp (o_eq (hu200 hr)) g_eq (pem_var 5 (pv 5)) (pem_int) (nomark _)) (psm_one (psm_ret (pem_tup (pam_cons (pem_str) (pam_cons (pem_var 4 (pv 4)) (pam_cons (pem_var 10 (pv 10)) (pam_nil))))))) (psm_nil)) (psm_cons (psm_if (ptm_cmp (o_eq (hu200 hr)) g_eq (pem_var 8 (pv 8)) (pem_int) (nomark _)) (psm_one (psm_ret (pem_ix (pem_lst (pam_cons (pem_op o_add g_add (pem_tup (pam_cons (pem_str) (pam_nil))) (pem_var 10 (pv 10))) (pam_cons (pem_tup (pam_cons (pem_str) (pam_cons (pem_var 4 (pv 4)) (pam_cons (pem_var 10 (pv 10)) (pam_nil))))) (pam_nil)))) (pem_callTy c_int rfl T.b_int (by rfl) g_int (pam_cons (pem_cmp (o_eq (hu200 hr)) g_eq (pem_var 5 (pv 5)) (pem_int) (nomark _)) (pam_nil)))))) (psm_nil)) (psm_cons (psm_if (PW.pt (pwm_or (ptm_cmp op_lt g_cmp (pem_var 5 (pv 5)) (pem_int) (nomark _)) (pwm_or1 (ptm_cmp op_gt g_cmp (pem_var 5 (pv 5)) (pem_int) (nomark _))))) (psm_one (psm_ret (pem_op o_add g_add (pem_tup (pam_cons (pem_str) (pam_nil))) (pem_var 10 (pv 10))))) (psm_nil)) (psm_cons (psm_if (ptm_cmp op_lt g_cmp (pem_var 5 (pv 5)) (pem_int) (nomark _)) (psm_one (psm_ret (pem_op o_add g_add (pem_tup (pam_cons (pem_ix (pem_lst (pam_cons (pem_str) (pam_cons (pem_str) (pam_nil)))) (pem_op o_sub g_sub (pem_var 5 (pv 5)) (pem_int))) (pam_nil))) (pem_ix (pem_lst (pam_cons (pem_var 10 (pv 10)) (pam_cons (pem_tup (pam_cons (pem_var 4 (pv 4)) (pam_cons (pem_var 10 (pv 10)) (pam_nil)))) (pam_nil)))) (pem_op o_sub g_sub (pem_var 5 (pv 5)) (pem_int)))))) (psm_nil)) (psm_cons (psm_if (ptm_cmp op_lt g_cmp (pem_var 5 (pv 5)) (pem_int) (nomark _)) (psm_one (psm_ret (pem_op o_add g_add (pem_tup (pam_cons (pem_ix (pem_lst (pam_cons (pem_str) (pam_cons (pem_str) (pam_cons (pem_str) (pam_nil))))) (pem_op o_sub g_sub (pem_var 5 (pv 5)) (pem_int))) (pam_nil))) (pem_var 10 (pv 10))))) (psm_nil)) (psm_one (psm_ret (pem_op o_add g_add (pem_tup (pam_cons (pem_str) (pam_cons (pem_var 4 (pv 4)) (pam_cons (pem_callD D__law_parameters hct hr tk rfl (pam_cons (pem_var 0 (pv 0)) (pam_cons (pem_var 3 (pv 3)) (pam_cons (pem_ix (pem_lst (pam_cons (pem_int) (pam_cons (pem_int) (pam_cons (pem_int) (pam_cons (pem_int) (pam_cons (pem_int) (pam_cons (pem_int) (pam_nil)))))))) (pem_callD D__law_next hct hr tk rfl (pam_cons (pem_var 0 (pv 0)) (pam_cons (pem_int) (pam_nil))) rfl)) (pam_nil)))) rfl) (pam_nil))))) (pem_var 10 (pv 10)))))))))))))))))))
/-! _law_around -/
theorem sc__law_around : FnScope ["_law_reader_here", "_law_form", "_law_names_here", "_law_block", "_law_name_here", "_law_leaf", "_law_word", "_law_parameters_here", "_law_k"] ["_law_reader_here", "_law_form", "_law_names_here", "_law_block"] (defScope s__law_around) := ⟨rfl, rfl, rfl, by decide +kernel, rfl, by decide +kernel, by decide +kernel⟩
def body__law_around (m__law_next : List W → FR) (m__law_any_leaf : List W → FR) (m__law_number : List W → FR) (m__law_parameters : List W → FR) : Rho → ML.R Fl := mSeq (mSet [0] 4 (mOp gIx (mVar 2) (mCall [0] [0] m__law_next [mVar 0, mCB gLen [mVar 2]]))) (mSeq (mSet [0] 5 (mCall [0] [0] m__law_any_leaf [mVar 0, mVar 2])) (mSeq (mIf (mTest (mOp (gCmp (fun i j => decide (i < j))) (mVar 1) (mC (.int 3)))) (mRet [0] (mOp gAdd (mTup [0] [mC (.str "if")]) (mCB gTupC [mLc [0] (mRange1 [mC (.int 3)]) (.nm 8) (mYes) (mOp gIx (mLst [0] [mVar 5, mVar 3]) (mCB gInt [mOp gEq (mVar 8) (mVar 1)]))]))) (mNext)) (mSeq (mIf (mTest (mOp (gCmp (fun i j => decide (i < j))) (mVar 1) (mC (.int 5)))) (mRet [0] (mOp gIx (mLst [0] [mTup [0] [mC (.str "while"), mVar 3, mVar 5], mTup [0] [mC (.str "while"), mVar 5, mVar 3]]) (mOp gSub (mVar 1) (mC (.int 3))))) (mNext)) (mSeq (mIf (mTest (mOp (gCmp (fun i j => decide (i < j))) (mVar 1) (mC (.int 7)))) (mRet [0] (mOp gIx (mLst [0] [mTup [0] [mC (.str "then"), mVar 3, mVar 5], mTup [0] [mC (.str "then"), mVar 5, mVar 3]]) (mOp gSub (mVar 1) (mC (.int 5))))) (mNext)) (mSeq (mIf (mTest (mOp (gCmp (fun i j => decide (i < j))) (mVar 1) (mC (.int 9)))) (mRet [0] (mOp gIx (mLst [0] [mTup [0] [mC (.str "set"), mVar 4, mVar 3], mTup [0] [mC (.str "new"), mVar 4, mCall [0] [0] m__law_number [mVar 0], mVar 3]]) (mOp gSub (mVar 1) (mC (.int 7))))) (mNext)) (mSeq (mIf (mTest (mOp (gCmp (fun i j => decide (i < j))) (mVar 1) (mC (.int 11)))) (mSeq (mSet [0] 6 (mOp gIx (mLst [0] [mC (.str "plus"), mC (.str "equal"), mC (.str "less")]) (mCall [0] [0] m__law_next [mVar 0, mC (.int 3)]))) (mRet [0] (mOp gIx (mLst [0] [mTup [0] [mVar 6, mVar 3, mVar 5], mTup [0] [mVar 6, mVar 5, mVar 3]]) (mOp gSub (mVar 1) (mC (.int 9)))))) (mNext)) (mSeq (mIf (mTest (mOp gEq (mVar 1) (mC (.int 11)))) (mRet [0] (mTup [0] [mC (.str "call"), mVar 4, mOp gIx (mLst [0] [mTup [0] [mVar 3], mTup [0] [mVar 5, mVar 3], mTup [0] [mVar 3, mVar 5, mVar 5]]) (mCall [0] [0] m__law_next [mVar 0, mC (.int 3)])])) (mNext)) (mSeq (mSet [0] 7 (mCall [0] [0] m__law_parameters [mVar 0, mVar 2, mCall [0] [0] m__law_next [mVar 0, mC (.int 3)]])) (mRet [0] (mOp gAdd (mTup [0] [mC (.str "let"), mVar 4, mVar 7]) (mOp gIx (mLst [0] [mTup [0] [mVar 3, mVar 5], mTup [0] [mVar 5, mVar 3]]) (mCall [0] [0] m__law_next [mVar 0, mC (.int 2)]))))))))))))
def fun__law_around (m__law_next : List W → FR) (m__law_any_leaf : List W → FR) (m__law_number : List W → FR) (m__law_parameters : List W → FR) : List W → FR := mFun [0] 9 (body__law_around m__law_next m__law_any_leaf m__law_number m__law_parameters)
theorem def__law_around (T : Txt w K mg) {m__law_next : List W → FR} (D__law_next : Def P w K mg base ct k "_law_next" ["_law_reader_here", "_law_many"] [0] m__law_next) {m__law_any_leaf : List W → FR} (D__law_any_leaf : Def P w K mg base ct k "_law_any_leaf" ["_law_reader_here", "_law_names_here"] [0] m__law_any_leaf) {m__law_number : List W → FR} (D__law_number : Def P w K mg base ct k "_law_number" ["_law_reader_here"] [0] m__law_number) {m__law_parameters : List W → FR} (D__law_parameters : Def P w K mg base ct k "_law_parameters" ["_law_reader_here", "_law_names_here", "_law_many"] [0] m__law_parameters) : Def P w K mg base ct (k + 1) "_law_around" ["_law_reader_here", "_law_form", "_law_names_here", "_law_block"] [0] (fun__law_around m__law_next m__law_any_leaf m__law_number m__law_parameters) :=
  def_mk (N := ["_law_reader_here", "_law_form", "_law_names_here", "_law_block", "_law_name_here", "_law_leaf", "_law_word", "_law_parameters_here", "_law_k"]) (g := body__law_around m__law_next m__law_any_leaf m__law_number m__law_parameters) T.s__law_around sc__law_around (by decide) (fun _ _ _ _ _ _ us hl => match us, hl with | [_, _, _, _], _ => rfl) fun f cdv A outer s H E Y hr hct tk =>
    (psm_cons (psm_set (i := 4) sc__law_around.nd rfl (Or.inl rfl) (pem_ix (pem_var 2 (pv 2)) (pem_callD D__law_next hct hr tk rfl (pam_cons (pem_var 0 (pv 0)) (pam_cons (pem_callB (call_len) rfl T.b_len (by rfl) g_len (pam_cons (pem_var 2 (pv 2)) (pam_nil))) (pam_nil))) rfl))) (psm_cons (psm_set (i := 5) sc__law_around.nd rfl (Or.inr rfl) (pem_callD D__law_any_leaf hct hr tk rfl (pam_cons (pem_var 0 (pv 0)) (pam_cons (pem_var 2 (pv 2)) (pam_nil))) rfl)) (psm_cons (psm_if (ptm_cmp op_lt g_cmp (pem_var 1 (pv 1)) (pem_int) (nomark _)) (psm_one (psm_ret (pem_op o_add g_add (pem_tup (pam_cons (pem_str) (pam_nil))) (pem_callTy call_tuple_of rfl T.b_tuple (by rfl) g_tupC (pam_cons (pem_lc (own := [("_law_k", 8)]) (t := .nm 8) rfl sc__law_around.nd (pim_range1 rfl T.b_range (pam_cons (pem_int) (pam_nil))) (blkOk_by (N := ["_law_reader_here", "_law_form", "_law_names_here", "_law_block", "_law_name_here", "_law_leaf", "_law_word", "_law_parameters_here", "_law_k"]) (sc := defScope s__law_around) (by decide +kernel)) rfl (fun _ _ _ _ _ => pg_name (i := 8) sc__law_around.nd rfl (by first | exact Or.inl rfl | exact Or.inr rfl) (by first | exact .inl rfl | exact .inr rfl)) (fun _ _ _ _ _ => pcs_nil) (fun _ _ _ _ _ Y1 hY1 wY1 => (pem_ix (pem_lst (pam_cons (pem_var 5 (pv 5)) (pam_cons (pem_var 3 (pv 3)) (pam_nil)))) (pem_callTy c_int rfl T.b_int (by rfl) g_int (pam_cons (pem_cmp (o_eq (hu200 hr)) g_eq (pem_var 8 (pv 8)) (pem_var 1 (pv 1)) (nomark _)) (pam_nil)))))) (pam_nil)))))) (psm_nil)) (psm_cons (psm_if (ptm_cmp op_lt g_cmp (pem_var 1 (pv 1)) (pem_int) (nomark _)) (psm_one (psm_ret (pem_ix (pem_lst (pam_cons (pem_tup (pam_cons (pem_str) (pam_cons (pem_var 3 (pv 3)) (pam_cons (pem_var 5 (pv 5)) (pam_nil))))) (pam_cons (pem_tup (pam_cons (pem_str) (pam_cons (pem_var 5 (pv 5)) (pam_cons (pem_var 3 (pv 3)) (pam_nil))))) (pam_nil)))) (pem_op o_sub g_sub (pem_var 1 (pv 1)) (pem_int))))) (psm_nil)) (psm_cons (psm_if (ptm_cmp op_lt g_cmp (pem_var 1 (pv 1)) (pem_int) (nomark _)) (psm_one (psm_ret (pem_ix (pem_lst (pam_cons (pem_tup (pam_cons (pem_str) (pam_cons (pem_var 3 (pv 3)) (pam_cons (pem_var 5 (pv 5)) (pam_nil))))) (pam_cons (pem_tup (pam_cons (pem_str) (pam_cons (pem_var 5 (pv 5)) (pam_cons (pem_var 3 (pv 3)) (pam_nil))))) (pam_nil)))) (pem_op o_sub g_sub (pem_var 1 (pv 1)) (pem_int))))) (psm_nil)) (psm_cons (psm_if (ptm_cmp op_lt g_cmp (pem_var 1 (pv 1)) (pem_int) (nomark _)) (psm_one (psm_ret (pem_ix (pem_lst (pam_cons (pem_tup (pam_cons (pem_str) (pam_cons (pem_var 4 (pv 4)) (pam_cons (pem_var 3 (pv 3)) (pam_nil))))) (pam_cons (pem_tup (pam_cons (pem_str) (pam_cons (pem_var 4 (pv 4)) (pam_cons (pem_callD D__law_number hct hr tk rfl (pam_cons (pem_var 0 (pv 0)) (pam_nil)) rfl) (pam_cons (pem_var 3 (pv 3)) (pam_nil)))))) (pam_nil)))) (pem_op o_sub g_sub (pem_var 1 (pv 1)) (pem_int))))) (psm_nil)) (psm_cons (psm_if (ptm_cmp op_lt g_cmp (pem_var 1 (pv 1)) (pem_int) (nomark _)) (psm_cons (psm_set (i := 6) sc__law_around.nd rfl (Or.inl rfl) (pem_ix (pem_lst (pam_cons (pem_str) (pam_cons (pem_str) (pam_cons (pem_str) (pam_nil))))) (pem_callD D__law_next hct hr tk rfl (pam_cons (pem_var 0 (pv 0)) (pam_cons (pem_int) (pam_nil))) rfl))) (psm_one (psm_ret (pem_ix (pem_lst (pam_cons (pem_tup (pam_cons (pem_var 6 (pv 6)) (pam_cons (pem_var 3 (pv 3)) (pam_cons (pem_var 5 (pv 5)) (pam_nil))))) (pam_cons (pem_tup (pam_cons (pem_var 6 (pv 6)) (pam_cons (pem_var 5 (pv 5)) (pam_cons (pem_var 3 (pv 3)) (pam_nil))))) (pam_nil)))) (pem_op o_sub g_sub (pem_var 1 (pv 1)) (pem_int)))))) (psm_nil)) (psm_cons (psm_if (ptm_cmp (o_eq (hu200 hr)) g_eq (pem_var 1 (pv 1)) (pem_int) (nomark _)) (psm_one (psm_ret (pem_tup (pam_cons (pem_str) (pam_cons (pem_var 4 (pv 4)) (pam_cons (pem_ix (pem_lst (pam_cons (pem_tup (pam_cons (pem_var 3 (pv 3)) (pam_nil))) (pam_cons (pem_tup (pam_cons (pem_var 5 (pv 5)) (pam_cons (pem_var 3 (pv 3)) (pam_nil)))) (pam_cons (pem_tup (pam_cons (pem_var 3 (pv 3)) (pam_cons (pem_var 5 (pv 5)) (pam_cons (pem_var 5 (pv 5)) (pam_nil))))) (pam_nil))))) (pem_callD D__law_next hct hr tk rfl (pam_cons (pem_var 0 (pv 0)) (pam_cons (pem_int) (pam_nil))) rfl)) (pam_nil))))))) (psm_nil)) (psm_cons (psm_set (i := 7) sc__law_around.nd rfl (Or.inl rfl) (pem_callD D__law_parameters hct hr tk rfl (pam_cons (pem_var 0 (pv 0)) (pam_cons (pem_var 2 (pv 2)) (pam_cons (pem_callD D__law_next hct hr tk rfl (pam_cons (pem_var 0 (pv 0)) (pam_cons (pem_int) (pam_nil))) rfl) (pam_nil)))) rfl)) (psm_one (psm_ret (pem_op o_add g_add (pem_tup (pam_cons (pem_str) (pam_cons (pem_var 4 (pv 4)) (pam_cons (pem_var 7 (pv 7)) (pam_nil))))) (pem_ix (pem_lst (pam_cons (pem_tup (pam_cons (pem_var 3 (pv 3)) (pam_cons (pem_var 5 (pv 5)) (pam_nil)))) (pam_cons (pem_tup (pam_cons (pem_var 5 (pv 5)) (pam_cons (pem_var 3 (pv 3)) (pam_nil)))) (pam_nil)))) (pem_callD D__law_next hct hr tk rfl (pam_cons (pem_var 0 (pv 0)) (pam_cons (pem_int) (pam_nil))) rfl))))))))))))))
/-! _law_layered -/
theorem sc__law_layered : FnScope ["_law_reader_here", "_law_budget", "_law_many", "_law_names_here", "_law_block", "_law_form", "_law_k", "_law_one"] ["_law_reader_here", "_law_budget", "_law_many", "_law_names_here"] (defScope s__law_layered) := ⟨rfl, rfl, rfl, by decide +kernel, rfl, by decide +kernel, by decide +kernel⟩
def body__law_layered (m__law_any : List W → FR) (m__law_next : List W → FR) (m__law_around : List W → FR) : Rho → ML.R Fl := mSeq (mSet [0] 4 (mCall [0] [0] m__law_any [mVar 0, mVar 1, mC (.int 12), mVar 3])) (mSeq (mSet [0] 5 (mCall [0] [0] m__law_next [mVar 0, mC (.int 26)])) (mSeq (mFor (mRange1 [mVar 2]) (gSet [0] 6) (mSeq (mSet [0] 7 (mVar 5)) (mSeq (mIf (mTest (mOp (gCmp (fun i j => decide (j < i))) (mVar 5) (mC (.int 12)))) (mSet [0] 7 (mCall [0] [0] m__law_next [mVar 0, mC (.int 13)])) (mNext)) (mSet [0] 4 (mCall [0] [0] m__law_around [mVar 0, mVar 7, mVar 3, mVar 4]))))) (mRet [0] (mVar 4))))
def fun__law_layered (m__law_any : List W → FR) (m__law_next : List W → FR) (m__law_around : List W → FR) : List W → FR := mFun [0] 8 (body__law_layered m__law_any m__law_next m__law_around)
theorem def__law_layered (T : Txt w K mg) {m__law_any : List W → FR} (D__law_any : Def P w K mg base ct k "_law_any" ["_law_reader_here", "_law_budget", "_law_depth", "_law_names_here"] [0] m__law_any) {m__law_next : List W → FR} (D__law_next : Def P w K mg base ct k "_law_next" ["_law_reader_here", "_law_many"] [0] m__law_next) {m__law_around : List W → FR} (D__law_around : Def P w K mg base ct k "_law_around" ["_law_reader_here", "_law_form", "_law_names_here", "_law_block"] [0] m__law_around) : Def P w K mg base ct (k + 1) "_law_layered" ["_law_reader_here", "_law_budget", "_law_many", "_law_names_here"] [0] (fun__law_layered m__law_any m__law_next m__law_around) :=
  def_mk (N := ["_law_reader_here", "_law_budget", "_law_many", "_law_names_here", "_law_block", "_law_form", "_law_k", "_law_one"]) (g := body__law_layered m__law_any m__law_next m__law_around) T.s__law_layered sc__law_layered (by decide) (fun _ _ _ _ _ _ us hl => match us, hl with | [_, _, _, _], _ => rfl) fun f cdv A outer s H E Y hr hct tk =>
    (psm_cons (psm_set (i := 4) sc__law_layered.nd rfl (Or.inl rfl) (pem_callD D__law_any hct hr tk rfl (pam_cons (pem_var 0 (pv 0)) (pam_cons (pem_var 1 (pv 1)) (pam_cons (pem_int) (pam_cons (pem_var 3 (pv 3)) (pam_nil))))) rfl)) (psm_cons (psm_set (i := 5) sc__law_layered.nd rfl (Or.inl rfl) (pem_callD D__law_next hct hr tk rfl (pam_cons (pem_var 0 (pv 0)) (pam_cons (pem_int) (pam_nil))) rfl)) (psm_cons (psm_for (passes_of rfl) rfl (pim_range1 rfl T.b_range (pam_cons (pem_var 2 (pv 2)) (pam_nil))) (pgm_name (pg_name (i := 6) sc__law_layered.nd rfl (Or.inl rfl))) (psm_cons (psm_set (i := 7) sc__law_layered.nd rfl (Or.inl rfl) (pem_var 5 (pv 5))) (psm_cons (psm_if (ptm_cmp op_gt g_cmp (pem_var 5 (pv 5)) (pem_int) (nomark _)) (psm_one (psm_set (i := 7) sc__law_layered.nd rfl (Or.inl rfl) (pem_callD D__law_next hct hr tk rfl (pam_cons (pem_var 0 (pv 0)) (pam_cons (pem_int) (pam_nil))) rfl))) (psm_nil)) (psm_one (psm_set (i := 4) sc__law_layered.nd rfl (Or.inl rfl) (pem_callD D__law_around hct hr tk rfl (pam_cons (pem_var 0 (pv 0)) (pam_cons (pem_var 7 (pv 7)) (pam_cons (pem_var 3 (pv 3)) (pam_cons (pem_var 4 (pv 4)) (pam_nil))))) rfl)))))) (psm_one (psm_ret (pem_var 4 (pv 4)))))))
/-! _law_grouped -/
theorem sc__law_grouped : FnScope ["_law_node"] ["_law_node"] (defScope s__law_grouped) := ⟨rfl, rfl, rfl, by decide +kernel, rfl, by decide +kernel, by decide +kernel⟩
def body__law_grouped (m__law_text : List W → FR) : Rho → ML.R Fl := mSeq (mIf (mTest (mOp gEq (mOp gIx (mVar 0) (mC (.int 0))) (mC (.str "then")))) (mRet [] (mOp gAdd (mOp gAdd (mC (.str "(")) (mCall [] [] m__law_text [mVar 0])) (mC (.str ")")))) (mNext)) (mRet [] (mCall [] [] m__law_text [mVar 0]))
def fun__law_grouped (m__law_text : List W → FR) : List W → FR := mFun [] 1 (body__law_grouped m__law_text)
theorem def__law_grouped (T : Txt w K mg) {m__law_text : List W → FR} (D__law_text : Def P w K mg base ct k "_law_text" ["_law_node"] [] m__law_text) : Def P w K mg base ct (k + 1) "_law_grouped" ["_law_node"] [] (fun__law_grouped m__law_text) :=
  def_mk (N := ["_law_node"]) (g := body__law_grouped m__law_text) T.s__law_grouped sc__law_grouped (by decide) (fun _ _ _ _ _ _ us hl => match us, hl with | [_], _ => rfl) fun f cdv A outer s H E Y hr hct tk =>
    (psm_cons (psm_if (ptm_cmp (o_eq (hu200 hr)) g_eq (pem_ix (pem_var 0 (pv 0)) (pem_int)) (pem_str) (nomark _)) (psm_one (psm_ret (pem_op o_add g_add (pem_op o_add g_add (pem_str) (pem_callD D__law_text hct hr tk rfl (pam_cons (pem_var 0 (pv 0)) (pam_nil)) rfl)) (pem_str)))) (psm_nil)) (psm_one (psm_ret (pem_callD D__law_text hct hr tk rfl (pam_cons (pem_var 0 (pv 0)) (pam_nil)) rfl))))
/-! _law_head -/
theorem sc__law_head : FnScope ["_law_node", "_law_pairs", "_law_pair"] ["_law_node"] (defScope s__law_head) := ⟨rfl, rfl, rfl, by decide +kernel, rfl, by decide +kernel, by decide +kernel⟩
def body__law_head (m__law_text : List W → FR) : Rho → ML.R Fl := mSeq (mIf (mTest (mOp gEq (mOp gIx (mVar 0) (mC (.int 0))) (mC (.str "new")))) (mRet [] (mOp gAdd (mOp gAdd (mOp gAdd (mC (.str "new ")) (mOp gIx (mVar 0) (mC (.int 1)))) (mC (.str " := "))) (mCB gStr [mOp gIx (mVar 0) (mC (.int 2))]))) (mNext)) (mSeq (mSet [] 1 (mLc [] (mItems [] (mOp gIx (mVar 0) (mC (.int 2)))) (.nm 2) (mYes) (mOp gAdd (mOp gAdd (mOp gIx (mVar 2) (mC (.int 0))) (mC (.str " "))) (mOp gIx (mVar 2) (mC (.int 1)))))) (mRet [] (mOp gAdd (mOp gAdd (mOp gAdd (mOp gAdd (mOp gAdd (mC (.str "let ")) (mOp gIx (mVar 0) (mC (.int 1)))) (mC (.str "("))) (mJoin (mC (.str ", ")) (mVar 1))) (mC (.str ") be "))) (mCall [] [] m__law_text [mOp gIx (mVar 0) (mC (.int 3))]))))
def fun__law_head (m__law_text : List W → FR) : List W → FR := mFun [] 3 (body__law_head m__law_text)
theorem def__law_head (T : Txt w K mg) {m__law_text : List W → FR} (D__law_text : Def P w K mg base ct k "_law_text" ["_law_node"] [] m__law_text) : Def P w K mg base ct (k + 1) "_law_head" ["_law_node"] [] (fun__law_head m__law_text) :=
  def_mk (N := ["_law_node", "_law_pairs", "_law_pair"]) (g := body__law_head m__law_text) T.s__law_head sc__law_head (by decide) (fun _ _ _ _ _ _ us hl => match us, hl with | [_], _ => rfl) fun f cdv A outer s H E Y hr hct tk =>
    (psm_cons (psm_if (ptm_cmp (o_eq (hu200 hr)) g_eq (pem_ix (pem_var 0 (pv 0)) (pem_int)) (pem_str) (nomark _)) (psm_one (psm_ret (pem_op o_add g_add (pem_op o_add g_add (pem_op o_add g_add (pem_str) (pem_ix (pem_var 0 (pv 0)) (pem_int))) (pem_str)) (pem_callTy c_str rfl T.b_str (by rfl) g_str (pam_cons (pem_ix (pem_var 0 (pv 0)) (pem_int)) (pam_nil)))))) (psm_nil)) (psm_cons (psm_setLc (i := 1) (own := [("_law_pair", 2)]) (t := .nm 2) rfl sc__law_head.nd rfl rfl (sw_true rfl rfl rfl (by decide +kernel)) (pim_seq (pem_ix (pem_var 0 (pv 0)) (pem_int))) (blkOk_by (N := ["_law_node", "_law_pairs", "_law_pair"]) (sc := defScope s__law_head) (by decide +kernel)) rfl (fun _ _ _ _ _ => pg_name (i := 2) sc__law_head.nd rfl (by first | exact Or.inl rfl | exact Or.inr rfl) (by first | exact .inl rfl | exact .inr rfl)) (fun _ _ _ _ _ => pcs_nil) (fun _ _ _ _ _ Y1 hY1 wY1 => (pem_op o_add g_add (pem_op o_add g_add (pem_ix (pem_var 2 (pv 2)) (pem_int)) (pem_str)) (pem_ix (pem_var 2 (pv 2)) (pem_int))))) (psm_one (psm_ret (pem_op o_add g_add (pem_op o_add g_add (pem_op o_add g_add (pem_op o_add g_add (pem_op o_add g_add (pem_str) (pem_ix (pem_var 0 (pv 0)) (pem_int))) (pem_str)) (pem_join (pem_str) (pem_var 1 (pv 1)))) (pem_str)) (pem_callD D__law_text hct hr tk rfl (pam_cons (pem_ix (pem_var 0 (pv 0)) (pem_int)) (pam_nil)) rfl))))))
/-! _law_text -/
theorem sc__law_text : FnScope ["_law_node", "_law_word", "_law_texts", "_law_sign", "_law_part"] ["_law_node"] (defScope s__law_text) := ⟨rfl, rfl, rfl, by decide +kernel, rfl, by decide +kernel, by decide +kernel⟩
def body__law_text (m__law_grouped : List W → FR) (m__law_text : List W → FR) (m__law_head : List W → FR) : Rho → ML.R Fl := mSeq (mSet [] 1 (mOp gIx (mVar 0) (mC (.int 0)))) (mSeq (mIf (mTest (mOp (gIn false) (mVar 1) (mTup [] [mC (.str "skip"), mC (.str "quit")]))) (mRet [] (mVar 1)) (mNext)) (mSeq (mIf (mTest (mOp (gIn false) (mVar 1) (mTup [] [mC (.str "number"), mC (.str "get")]))) (mRet [] (mCB gStr [mOp gIx (mVar 0) (mC (.int 1))])) (mNext)) (mSeq (mIf (mTest (mOp gEq (mVar 1) (mC (.str "hole")))) (mRet [] (mC (.str "[]"))) (mNext)) (mSeq (mIf (mTest (mOp gEq (mVar 1) (mC (.str "set")))) (mRet [] (mOp gAdd (mOp gAdd (mOp gIx (mVar 0) (mC (.int 1))) (mC (.str " := "))) (mCall [] [] m__law_grouped [mOp gIx (mVar 0) (mC (.int 2))]))) (mNext)) (mSeq (mIf (mTest (mOp gEq (mVar 1) (mC (.str "then")))) (mRet [] (mOp gAdd (mOp gAdd (mCall [] [] m__law_grouped [mOp gIx (mVar 0) (mC (.int 1))]) (mC (.str "; "))) (mCall [] [] m__law_text [mOp gIx (mVar 0) (mC (.int 2))]))) (mNext)) (mSeq (mIf (mTest (mOp gEq (mVar 1) (mC (.str "call")))) (mRet [] (mOp gAdd (mOp gAdd (mOp gAdd (mOp gIx (mVar 0) (mC (.int 1))) (mC (.str "("))) (mJoin (mC (.str ", ")) (mLc [] (mItems [] (mOp gIx (mVar 0) (mC (.int 2)))) (.nm 4) (mYes) (mCall [] [] m__law_text [mVar 4])))) (mC (.str ")")))) (mNext)) (mSeq (mIf (mTest (mOp (gIn false) (mVar 1) (mTup [] [mC (.str "new"), mC (.str "let")]))) (mRet [] (mOp gAdd (mOp gAdd (mOp gAdd (mCall [] [] m__law_head [mVar 0]) (mC (.str " in "))) (mCall [] [] m__law_text [mOp gIx (mVar 0) (mNeg (mC (.int 1)))])) (mC (.str " end")))) (mNext)) (mSeq (mSet [] 2 (mLc [] (mItems [] (mSl (mVar 0) (some (mC (.int 1))) none)) (.nm 4) (mYes) (mCall [] [] m__law_text [mVar 4]))) (mSeq (mIf (mTest (mOp gEq (mVar 1) (mC (.str "if")))) (mRet [] (mOp gAdd (mOp gAdd (mOp gAdd (mOp gAdd (mOp gAdd (mOp gAdd (mC (.str "if ")) (mOp gIx (mVar 2) (mC (.int 0)))) (mC (.str " then "))) (mOp gIx (mVar 2) (mC (.int 1)))) (mC (.str " else "))) (mOp gIx (mVar 2) (mC (.int 2)))) (mC (.str " fi")))) (mNext)) (mSeq (mIf (mTest (mOp gEq (mVar 1) (mC (.str "while")))) (mRet [] (mOp gAdd (mOp gAdd (mOp gAdd (mOp gAdd (mC (.str "while ")) (mOp gIx (mVar 2) (mC (.int 0)))) (mC (.str " do "))) (mOp gIx (mVar 2) (mC (.int 1)))) (mC (.str " od")))) (mNext)) (mSeq (mSet [] 3 (mC (.str "+"))) (mSeq (mIf (mTest (mOp gEq (mVar 1) (mC (.str "equal")))) (mSet [] 3 (mC (.str "="))) (mNext)) (mSeq (mIf (mTest (mOp gEq (mVar 1) (mC (.str "less")))) (mSet [] 3 (mC (.str "<"))) (mNext)) (mRet [] (mOp gAdd (mOp gAdd (mOp gAdd (mOp gAdd (mOp gAdd (mOp gAdd (mC (.str "(")) (mOp gIx (mVar 2) (mC (.int 0)))) (mC (.str " "))) (mVar 3)) (mC (.str " "))) (mOp gIx (mVar 2) (mC (.int 1)))) (mC (.str ")")))))))))))))))))
def fun__law_text (m__law_grouped : List W → FR) (m__law_text : List W → FR) (m__law_head : List W → FR) : List W → FR := mFun [] 5 (body__law_text m__law_grouped m__law_text m__law_head)
theorem def__law_text (T : Txt w K mg) {m__law_grouped : List W → FR} (D__law_grouped : Def P w K mg base ct k "_law_grouped" ["_law_node"] [] m__law_grouped) {m__law_text : List W → FR} (D__law_text : Def P w K mg base ct k "_law_text" ["_law_node"] [] m__law_text) {m__law_head : List W → FR} (D__law_head : Def P w K mg base ct k "_law_head" ["_law_node"] [] m__law_head) : Def P w K mg base ct (k + 1) "_law_text" ["_law_node"] [] (fun__law_text m__law_grouped m__law_text m__law_head) :=
  def_mk (N := ["_law_node", "_law_word", "_law_texts", "_law_sign", "_law_part"]) (g := body__law_text m__law_grouped m__law_text m__law_head) T.s__law_text sc__law_text (by decide) (fun _ _ _ _ _ _ us hl => match us, hl with | [_], _ => rfl) fun f cdv A outer s H E Y hr hct tk =>
    (psm_cons (psm_set (i := 1) sc__law_text.nd rfl (Or.inl rfl) (pem_ix (pem_var 0 (pv 0)) (pem_int))) (psm_cons (psm_if (ptm_cmp o_in g_in (pem_var 1 (pv 1)) (pem_tup (pam_cons (pem_str) (pam_cons (pem_str) (pam_nil)))) rfl) (psm_one (psm_ret (pem_var 1 (pv 1)))) (psm_nil)) (psm_cons (psm_if (ptm_cmp o_in g_in (pem_var 1 (pv 1)) (pem_tup (pam_cons (pem_str) (pam_cons (pem_str) (pam_nil)))) rfl) (psm_one (psm_ret (pem_callTy c_str rfl T.b_str (by rfl) g_str (pam_cons (pem_ix (pem_var 0 (pv 0)) (pem_int)) (pam_nil))))) (psm_nil)) (psm_cons (psm_if (ptm_cmp (o_eq (hu200 hr)) g_eq (pem_var 1 (pv 1)) (pem_str) (nomark _)) (psm_one (psm_ret (pem_str))) (psm_nil)) (psm_cons (psm_if (ptm_cmp (o_eq (hu200 hr)) g_eq (pem_var 1 (pv 1)) (pem_str) (nomark _)) (psm_one (psm_ret (pem_op o_add g_add (pem_op o_add g_add (pem_ix (pem_var 0 (pv 0)) (pem_int)) (pem_str)) (pem_callD D__law_grouped hct hr tk rfl (pam_cons (pem_ix (pem_var 0 (pv 0)) (pem_int)) (pam_nil)) rfl)))) (psm_nil)) (psm_cons (psm_if (ptm_cmp (o_eq (hu200 hr)) g_eq (pem_var 1 (pv 1)) (pem_str) (nomark _)) (psm_one (psm_ret (pem_op o_add g_add (pem_op o_add g_add (pem_callD D__law_grouped hct hr tk rfl (pam_cons (pem_ix (pem_var 0 (pv 0)) (pem_int)) (pam_nil)) rfl) (pem_str)) (pem_callD D__law_text hct hr tk rfl (pam_cons (pem_ix (pem_var 0 (pv 0)) (pem_int)) (pam_nil)) rfl)))) (psm_nil)) (psm_cons (psm_if (ptm_cmp (o_eq (hu200 hr)) g_eq (pem_var 1 (pv 1)) (pem_str) (nomark _)) (psm_one (psm_ret (pem_op o_add g_add (pem_op o_add g_add (pem_op o_add g_add (pem_ix (pem_var 0 (pv 0)) (pem_int)) (pem_str)) (pem_join (pem_str) (pem_lc (own := [("_law_part", 4)]) (t := .nm 4) rfl sc__law_text.nd (pim_seq (pem_ix (pem_var 0 (pv 0)) (pem_int))) (blkOk_by (N := ["_law_node", "_law_word", "_law_texts", "_law_sign", "_law_part"]) (sc := defScope s__law_text) (by decide +kernel)) rfl (fun _ _ _ _ _ => pg_name (i := 4) sc__law_text.nd rfl (by first | exact Or.inl rfl | exact Or.inr rfl) (by first | exact .inl rfl | exact .inr rfl)) (fun _ _ _ _ _ => pcs_nil) (fun _ _ _ _ _ Y1 hY1 wY1 => (pem_callD D__law_text (hY1.trans hct) hr (takesF wY1) rfl (pam_cons (pem_var 4 (pv 4)) (pam_nil)) rfl))))) (pem_str)))) (psm_nil)) (psm_cons (psm_if (ptm_cmp o_in g_in (pem_var 1 (pv 1)) (pem_tup (pam_cons (pem_str) (pam_cons (pem_str) (pam_nil)))) rfl) (psm_one (psm_ret (pem_op o_add g_add (pem_op o_add g_add (pem_op o_add g_add (pem_callD D__law_head hct hr tk rfl (pam_cons (pem_var 0 (pv 0)) (pam_nil)) rfl) (pem_str)) (pem_callD D__law_text hct hr tk rfl (pam_cons (pem_ix (pem_var 0 (pv 0)) (pem_neg (pem_int))) (pam_nil)) rfl)) (pem_str)))) (psm_nil)) (psm_cons (psm_setLc (i := 2) (own := [("_law_part", 4)]) (t := .nm 4) rfl sc__law_text.nd rfl rfl (sw_true rfl rfl rfl (by decide +kernel)) (pim_seq (pem_slice (pem_var 0 (pv 0)) (pom_some (pem_int)) pom_none)) (blkOk_by (N := ["_law_node", "_law_word", "_law_texts", "_law_sign", "_law_part"]) (sc := defScope s__law_text) (by decide +kernel)) rfl (fun _ _ _ _ _ => pg_name (i := 4) sc__law_text.nd rfl (by first | exact Or.inl rfl | exact Or.inr rfl) (by first | exact .inl rfl | exact .inr rfl)) (fun _ _ _ _ _ => pcs_nil) (fun _ _ _ _ _ Y1 hY1 wY1 => (pem_callD D__law_text (hY1.trans hct) hr (takesF wY1) rfl (pam_cons (pem_var 4 (pv 4)) (pam_nil)) rfl))) (psm_cons (psm_if (ptm_cmp (o_eq (hu200 hr)) g_eq (pem_var 1 (pv 1)) (pem_str) (nomark _)) (psm_one (psm_ret (pem_op o_add g_add (pem_op o_add g_add (pem_op o_add g_add (pem_op o_add g_add (pem_op o_add g_add (pem_op o_add g_add (pem_str) (pem_ix (pem_var 2 (pv 2)) (pem_int))) (pem_str)) (pem_ix (pem_var 2 (pv 2)) (pem_int))) (pem_str)) (pem_ix (pem_var 2 (pv 2)) (pem_int))) (pem_str)))) (psm_nil)) (psm_cons (psm_if (ptm_cmp (o_eq (hu200 hr)) g_eq (pem_var 1 (pv 1)) (pem_str) (nomark _)) (psm_one (psm_ret (pem_op o_add g_add (pem_op o_add g_add (pem_op o_add g_add (pem_op o_add g_add (pem_str) (pem_ix (pem_var 2 (pv 2)) (pem_int))) (pem_str)) (pem_ix (pem_var 2 (pv 2)) (pem_int))) (pem_str)))) (psm_nil)) (psm_cons (psm_set (i := 3) sc__law_text.nd rfl (Or.inl rfl) (pem_str)) (psm_cons (psm_if (ptm_cmp (o_eq (hu200 hr)) g_eq (pem_var 1 (pv 1)) (pem_str) (nomark _)) (psm_one (psm_set (i := 3) sc__law_text.nd rfl (Or.inl rfl) (pem_str))) (psm_nil)) (psm_cons (psm_if (ptm_cmp (o_eq (hu200 hr)) g_eq (pem_var 1 (pv 1)) (pem_str) (nomark _)) (psm_one (psm_set (i := 3) sc__law_text.nd rfl (Or.inl rfl) (pem_str))) (psm_nil)) (psm_one (psm_ret (pem_op o_add g_add (pem_op o_add g_add (pem_op o_add g_add (pem_op o_add g_add (pem_op o_add g_add (pem_op o_add g_add (pem_str) (pem_ix (pem_var 2 (pv 2)) (pem_int))) (pem_str)) (pem_var 3 (pv 3))) (pem_str)) (pem_ix (pem_var 2 (pv 2)) (pem_int))) (pem_str))))))))))))))))))
/-! _law_wrapped -/
theorem sc__law_wrapped : FnScope ["_law_row_here", "_law_reader_here", "_law_extra"] ["_law_row_here", "_law_reader_here", "_law_extra"] (defScope s__law_wrapped) := ⟨rfl, rfl, rfl, by decide +kernel, rfl, by decide +kernel, by decide +kernel⟩
def body__law_wrapped (m__law_next : List W → FR) : Rho → ML.R Fl := mSeq (mIf (mAnd (mTest (mOp (gCmp (fun i j => decide (j < i))) (mOp gIx (mVar 2) (mC (.int 0))) (mC (.int 0)))) (mTest (mOp gEq (mCall [1, 2] [0] m__law_next [mVar 1, mC (.int 6)]) (mC (.int 0))))) (mSeq (mStoreAt 2 [1, 2] (mC (.int 0)) (mOp gSub (mOp gIx (mVar 2) (mC (.int 0))) (mC (.int 1)))) (mRet [1, 2] (mOp gAdd (mOp gAdd (mLst [1, 2] [mC (.str "(")]) (mVar 0)) (mLst [1, 2] [mC (.str ")")])))) (mNext)) (mRet [1, 2] (mVar 0))
def fun__law_wrapped (m__law_next : List W → FR) : List W → FR := mFun [1, 2] 3 (body__law_wrapped m__law_next)
theorem def__law_wrapped (T : Txt w K mg) {m__law_next : List W → FR} (D__law_next : Def P w K mg base ct k "_law_next" ["_law_reader_here", "_law_many"] [0] m__law_next) : Def P w K mg base ct (k + 1) "_law_wrapped" ["_law_row_here", "_law_reader_here", "_law_extra"] [1, 2] (fun__law_wrapped m__law_next) :=
  def_mk (N := ["_law_row_here", "_law_reader_here", "_law_extra"]) (g := body__law_wrapped m__law_next) T.s__law_wrapped sc__law_wrapped (by decide) (fun _ _ _ _ _ _ us hl => match us, hl with | [_, _, _], _ => rfl) fun f cdv A outer s H E Y hr hct tk =>
    (psm_cons (psm_if (PW.pt (pwm_and (ptm_cmp op_gt g_cmp (pem_ix (pem_var 2 (pv 2)) (pem_int)) (pem_int) (nomark _)) (pwm_and1 (ptm_cmp (o_eq (hu200 hr)) g_eq (pem_callD D__law_next hct hr tk rfl (pam_cons (pem_var 1 (pv 1)) (pam_cons (pem_int) (pam_nil))) rfl) (pem_int) (nomark _))))) (psm_cons (psm_storeAt (ps_asg (pem_op o_sub g_sub (pem_ix (pem_var 2 (pv 2)) (pem_int)) (pem_int)) (pg_sub (pv 2) (pem_int) set_list))) (psm_one (psm_ret (pem_op o_add g_add (pem_op o_add g_add (pem_lst (pam_cons (pem_str) (pam_nil))) (pem_var 0 (pv 0))) (pem_lst (pam_cons (pem_str) (pam_nil))))))) (psm_nil)) (psm_one (psm_ret (pem_var 0 (pv 0)))))
/-! _law_item -/
theorem sc__law_item : FnScope ["_law_node", "_law_reader_here", "_law_extra"] ["_law_node", "_law_reader_here", "_law_extra"] (defScope s__law_item) := ⟨rfl, rfl, rfl, by decide +kernel, rfl, by decide +kernel, by decide +kernel⟩
def body__law_item (m__law_sequence : List W → FR) (m__law_row : List W → FR) (m__law_wrapped : List W → FR) : Rho → ML.R Fl := mSeq (mIf (mTest (mOp gEq (mOp gIx (mVar 0) (mC (.int 0))) (mC (.str "then")))) (mRet [1, 2] (mOp gAdd (mOp gAdd (mLst [1, 2] [mC (.str "(")]) (mCall [1, 2] [1, 2] m__law_sequence [mVar 0, mVar 1, mVar 2])) (mLst [1, 2] [mC (.str ")")]))) (mNext)) (mRet [1, 2] (mCall [1, 2] [1, 2] m__law_wrapped [mCall [1, 2] [1, 2] m__law_row [mVar 0, mVar 1, mVar 2], mVar 1, mVar 2]))
def fun__law_item (m__law_sequence : List W → FR) (m__law_row : List W → FR) (m__law_wrapped : List W → FR) : List W → FR := mFun [1, 2] 3 (body__law_item m__law_sequence m__law_row m__law_wrapped)
theorem def__law_item (T : Txt w K mg) {m__law_sequence : List W → FR} (D__law_sequence : Def P w K mg base ct k "_law_sequence" ["_law_node", "_law_reader_here", "_law_extra"] [1, 2] m__law_sequence) {m__law_row : List W → FR} (D__law_row : Def P w K mg base ct k "_law_row" ["_law_node", "_law_reader_here", "_law_extra"] [1, 2] m__law_row) {m__law_wrapped : List W → FR} (D__law_wrapped : Def P w K mg base ct k "_law_wrapped" ["_law_row_here", "_law_reader_here", "_law_extra"] [1, 2] m__law_wrapped) : Def P w K mg base ct (k + 1) "_law_item" ["_law_node", "_law_reader_here", "_law_extra"] [1, 2] (fun__law_item m__law_sequence m__law_row m__law_wrapped) :=
  def_mk (N := ["_law_node", "_law_reader_here", "_law_extra"]) (g := body__law_item m__law_sequence m__law_row m__law_wrapped) T.s__law_item sc__law_item (by decide) (fun _ _ _ _ _ _ us hl => match us, hl with | [_, _, _], _ => rfl) fun f cdv A outer s H E Y hr hct tk =>
    (psm_cons (psm_if (ptm_cmp (o_eq (hu200 hr)) g_eq (pem_ix (pem_var 0 (pv 0)) (pem_int)) (pem_str) (nomark _)) (psm_one (psm_ret (pem_op o_add g_add (pem_op o_add g_add (pem_lst (pam_cons (pem_str) (pam_nil))) (pem_callD D__law_sequence hct hr tk rfl (pam_cons (pem_var 0 (pv 0)) (pam_cons (pem_var 1 (pv 1)) (pam_cons (pem_var 2 (pv 2)) (pam_nil)))) rfl)) (pem_lst (pam_cons (pem_str) (pam_nil)))))) (psm_nil)) (psm_one (psm_ret (pem_callD D__law_wrapped hct hr tk rfl (pam_cons (pem_callD D__law_row hct hr tk rfl (pam_cons (pem_var 0 (pv 0)) (pam_cons (pem_var 1 (pv 1)) (pam_cons (pem_var 2 (pv 2)) (pam_nil)))) rfl) (pam_cons (pem_var 1 (pv 1)) (pam_cons (pem_var 2 (pv 2)) (pam_nil)))) rfl))))
/-! _law_sequence -/
theorem sc__law_sequence : FnScope ["_law_node", "_law_reader_here", "_law_extra", "_law_row_here"] ["_law_node", "_law_reader_here", "_law_extra"] (defScope s__law_sequence) := ⟨rfl, rfl, rfl, by decide +kernel, rfl, by decide +kernel, by decide +kernel⟩
def body__law_sequence (m__law_item : List W → FR) (m__law_sequence : List W → FR) (m__law_wrapped : List W → FR) : Rho → ML.R Fl := mSeq (mIf (mTest (mOp gEq (mOp gIx (mVar 0) (mC (.int 0))) (mC (.str "then")))) (mSeq (mSet [1, 2] 3 (mOp gAdd (mOp gAdd (mCall [1, 2] [1, 2] m__law_item [mOp gIx (mVar 0) (mC (.int 1)), mVar 1, mVar 2]) (mLst [1, 2] [mC (.str ";")])) (mCall [1, 2] [1, 2] m__law_sequence [mOp gIx (mVar 0) (mC (.int 2)), mVar 1, mVar 2]))) (mRet [1, 2] (mCall [1, 2] [1, 2] m__law_wrapped [mVar 3, mVar 1, mVar 2]))) (mNext)) (mRet [1, 2] (mCall [1, 2] [1, 2] m__law_wrapped [mCall [1, 2] [1, 2] m__law_item [mVar 0, mVar 1, mVar 2], mVar 1, mVar 2]))
def fun__law_sequence (m__law_item : List W → FR) (m__law_sequence : List W → FR) (m__law_wrapped : List W → FR) : List W → FR := mFun [1, 2] 4 (body__law_sequence m__law_item m__law_sequence m__law_wrapped)
theorem def__law_sequence (T : Txt w K mg) {m__law_item : List W → FR} (D__law_item : Def P w K mg base ct k "_law_item" ["_law_node", "_law_reader_here", "_law_extra"] [1, 2] m__law_item) {m__law_sequence : List W → FR} (D__law_sequence : Def P w K mg base ct k "_law_sequence" ["_law_node", "_law_reader_here", "_law_extra"] [1, 2] m__law_sequence) {m__law_wrapped : List W → FR} (D__law_wrapped : Def P w K mg base ct k "_law_wrapped" ["_law_row_here", "_law_reader_here", "_law_extra"] [1, 2] m__law_wrapped) : Def P w K mg base ct (k + 1) "_law_sequence" ["_law_node", "_law_reader_here", "_law_extra"] [1, 2] (fun__law_sequence m__law_item m__law_sequence m__law_wrapped) :=
  def_mk (N := ["_law_node", "_law_reader_here", "_law_extra", "_law_row_here"]) (g := body__law_sequence m__law_item m__law_sequence m__law_wrapped) T.s__law_sequence sc__law_sequence (by decide) (fun _ _ _ _ _ _ us hl => match us, hl with | [_, _, _], _ => rfl) fun f cdv A outer s H E Y hr hct tk =>
    (psm_cons (psm_if (ptm_cmp (o_eq (hu200 hr)) g_eq (pem_ix (pem_var 0 (pv 0)) (pem_int)) (pem_str) (nomark _)) (psm_cons (psm_set (i := 3) sc__law_sequence.nd rfl (Or.inl rfl) (pem_op o_add g_add (pem_op o_add g_add (pem_callD D__law_item hct hr tk rfl (pam_cons (pem_ix (pem_var 0 (pv 0)) (pem_int)) (pam_cons (pem_var 1 (pv 1)) (pam_cons (pem_var 2 (pv 2)) (pam_nil)))) rfl) (pem_lst (pam_cons (pem_str) (pam_nil)))) (pem_callD D__law_sequence hct hr tk rfl (pam_cons (pem_ix (pem_var 0 (pv 0)) (pem_int)) (pam_cons (pem_var 1 (pv 1)) (pam_cons (pem_var 2 (pv 2)) (pam_nil)))) rfl))) (psm_one (psm_ret (pem_callD D__law_wrapped hct hr tk rfl (pam_cons (pem_var 3 (pv 3)) (pam_cons (pem_var 1 (pv 1)) (pam_cons (pem_var 2 (pv 2)) (pam_nil)))) rfl)))) (psm_nil)) (psm_one (psm_ret (pem_callD D__law_wrapped hct hr tk rfl (pam_cons (pem_callD D__law_item hct hr tk rfl (pam_cons (pem_var 0 (pv 0)) (pam_cons (pem_var 1 (pv 1)) (pam_cons (pem_var 2 (pv 2)) (pam_nil)))) rfl) (pam_cons (pem_var 1 (pv 1)) (pam_cons (pem_var 2 (pv 2)) (pam_nil)))) rfl))))
/-! _law_listing -/
theorem sc__law_listing : FnScope ["_law_rows", "_law_row_here", "_law_k"] ["_law_rows"] (defScope s__law_listing) := ⟨rfl, rfl, rfl, by decide +kernel, rfl, by decide +kernel, by decide +kernel⟩
def body__law_listing : Rho → ML.R Fl := mSeq (mSet [] 1 (mLst [] [])) (mSeq (mFor (mRange1 [mCB gLen [mVar 0]]) (gSet [] 2) (mSeq (mIf (mTest (mOp (gCmp (fun i j => decide (j < i))) (mVar 2) (mC (.int 0)))) (mDrop (mAppend 1 [] (mC (.str ",")))) (mNext)) (mSet [] 1 (mOp gAdd (mVar 1) (mOp gIx (mVar 0) (mVar 2)))))) (mRet [] (mVar 1)))
def fun__law_listing : List W → FR := mFun [] 3 (body__law_listing)
theorem def__law_listing (T : Txt w K mg) : Def P w K mg base ct (k + 1) "_law_listing" ["_law_rows"] [] (fun__law_listing) :=
  def_mk (N := ["_law_rows", "_law_row_here", "_law_k"]) (g := body__law_listing) T.s__law_listing sc__law_listing (by decide) (fun _ _ _ _ _ _ us hl => match us, hl with | [_], _ => rfl) fun f cdv A outer s H E Y hr hct tk =>
    (psm_cons (psm_set (i := 1) sc__law_listing.nd rfl (Or.inl rfl) (pem_lst (pam_nil))) (psm_cons (psm_for (passes_of rfl) rfl (pim_range1 rfl T.b_range (pam_cons (pem_callB (call_len) rfl T.b_len (by rfl) g_len (pam_cons (pem_var 0 (pv 0)) (pam_nil))) (pam_nil))) (pgm_name (pg_name (i := 2) sc__law_listing.nd rfl (Or.inl rfl))) (psm_cons (psm_if (ptm_cmp op_gt g_cmp (pem_var 2 (pv 2)) (pem_int) (nomark _)) (psm_one (psm_expr (pem_append (pv 1) (pem_str)))) (psm_nil)) (psm_one (psm_set (i := 1) sc__law_listing.nd rfl (Or.inl rfl) (pem_op o_add g_add (pem_var 1 (pv 1)) (pem_ix (pem_var 0 (pv 0)) (pem_var 2 (pv 2)))))))) (psm_one (psm_ret (pem_var 1 (pv 1))))))
/-! _law_row -/
theorem sc__law_row : FnScope ["_law_node", "_law_reader_here", "_law_extra", "_law_word", "_law_head_here", "_law_body", "_law_rows", "_law_sign", "_law_part", "_law_pair"] ["_law_node", "_law_reader_here", "_law_extra"] (defScope s__law_row) := ⟨rfl, rfl, rfl, by decide +kernel, rfl, by decide +kernel, by decide +kernel⟩
def body__law_row (m__law_item : List W → FR) (m__law_sequence : List W → FR) (m__law_listing : List W → FR) : Rho → ML.R Fl := mSeq (mSet [1, 2] 3 (mOp gIx (mVar 0) (mC (.int 0)))) (mSeq (mIf (mTest (mOp gEq (mVar 3) (mC (.str "hole")))) (mRet [1, 2] (mLst [1, 2] [mC (.str "[]")])) (mNext)) (mSeq (mIf (mTest (mOp (gIn false) (mVar 3) (mTup [1, 2] [mC (.str "skip"), mC (.str "quit")]))) (mRet [1, 2] (mLst [1, 2] [mVar 3])) (mNext)) (mSeq (mIf (mTest (mOp (gIn false) (mVar 3) (mTup [1, 2] [mC (.str "number"), mC (.str "get")]))) (mRet [1, 2] (mLst [1, 2] [mCB gStr [mOp gIx (mVar 0) (mC (.int 1))]])) (mNext)) (mSeq (mIf (mTest (mOp gEq (mVar 3) (mC (.str "set")))) (mRet [1, 2] (mOp gAdd (mLst [1, 2] [mOp gIx (mVar 0) (mC (.int 1)), mC (.str ":=")]) (mCall [1, 2] [1, 2] m__law_item [mOp gIx (mVar 0) (mC (.int 2)), mVar 1, mVar 2]))) (mNext)) (mSeq (mIf (mTest (mOp gEq (mVar 3) (mC (.str "call")))) (mRet [1, 2] (mOp gAdd (mOp gAdd (mLst [1, 2] [mOp gIx (mVar 0) (mC (.int 1)), mC (.str "(")]) (mCall [1, 2] [] m__law_listing [mLc [1, 2] (mItems [1, 2] (mOp gIx (mVar 0) (mC (.int 2)))) (.nm 8) (mYes) (mCall [1, 2] [1, 2] m__law_sequence [mVar 8, mVar 1, mVar 2])])) (mLst [1, 2] [mC (.str ")")]))) (mNext)) (mSeq (mIf (mTest (mOp gEq (mVar 3) (mC (.str "new")))) (mRet [1, 2] (mOp gAdd (mOp gAdd (mLst [1, 2] [mC (.str "new"), mOp gIx (mVar 0) (mC (.int 1)), mC (.str ":="), mCB gStr [mOp gIx (mVar 0) (mC (.int 2))], mC (.str "in")]) (mCall [1, 2] [1, 2] m__law_sequence [mOp gIx (mVar 0) (mC (.int 3)), mVar 1, mVar 2])) (mLst [1, 2] [mC (.str "end")]))) (mNext)) (mSeq (mIf (mTest (mOp gEq (mVar 3) (mC (.str "let")))) (mSeq (mSet [1, 2] 4 (mOp gAdd (mOp gAdd (mLst [1, 2] [mC (.str "let"), mOp gIx (mVar 0) (mC (.int 1)), mC (.str "(")]) (mCall [1, 2] [] m__law_listing [mLc [1, 2] (mItems [1, 2] (mOp gIx (mVar 0) (mC (.int 2)))) (.nm 9) (mYes) (mCB gLstC [mVar 9])])) (mLst [1, 2] [mC (.str ")"), mC (.str "be")]))) (mSeq (mSet [1, 2] 5 (mCall [1, 2] [1, 2] m__law_sequence [mOp gIx (mVar 0) (mC (.int 3)), mVar 1, mVar 2])) (mRet [1, 2] (mOp gAdd (mOp gAdd (mOp gAdd (mOp gAdd (mVar 4) (mVar 5)) (mLst [1, 2] [mC (.str "in")])) (mCall [1, 2] [1, 2] m__law_sequence [mOp gIx (mVar 0) (mC (.int 4)), mVar 1, mVar 2])) (mLst [1, 2] [mC (.str "end")]))))) (mNext)) (mSeq (mSet [1, 2] 6 (mLc [1, 2] (mItems [1, 2] (mSl (mVar 0) (some (mC (.int 1))) none)) (.nm 8) (mYes) (mCall [1, 2] [1, 2] m__law_sequence [mVar 8, mVar 1, mVar 2]))) (mSeq (mIf (mTest (mOp gEq (mVar 3) (mC (.str "if")))) (mRet [1, 2] (mOp gAdd (mOp gAdd (mOp gAdd (mOp gAdd (mOp gAdd (mOp gAdd (mLst [1, 2] [mC (.str "if")]) (mOp gIx (mVar 6) (mC (.int 0)))) (mLst [1, 2] [mC (.str "then")])) (mOp gIx (mVar 6) (mC (.int 1)))) (mLst [1, 2] [mC (.str "else")])) (mOp gIx (mVar 6) (mC (.int 2)))) (mLst [1, 2] [mC (.str "fi")]))) (mNext)) (mSeq (mIf (mTest (mOp gEq (mVar 3) (mC (.str "while")))) (mRet [1, 2] (mOp gAdd (mOp gAdd (mOp gAdd (mOp gAdd (mLst [1, 2] [mC (.str "while")]) (mOp gIx (mVar 6) (mC (.int 0)))) (mLst [1, 2] [mC (.str "do")])) (mOp gIx (mVar 6) (mC (.int 1)))) (mLst [1, 2] [mC (.str "od")]))) (mNext)) (mSeq (mSet [1, 2] 7 (mOp gIx (mLst [1, 2] [mC (.str "+"), mC (.str "="), mC (.str "<")]) (mOp gAdd (mCB gInt [mOp gEq (mVar 3) (mC (.str "equal"))]) (mOp gMul (mC (.int 2)) (mCB gInt [mOp gEq (mVar 3) (mC (.str "less"))]))))) (mRet [1, 2] (mOp gAdd (mOp gAdd (mOp gAdd (mOp gAdd (mLst [1, 2] [mC (.str "(")]) (mOp gIx (mVar 6) (mC (.int 0)))) (mLst [1, 2] [mVar 7])) (mOp gIx (mVar 6) (mC (.int 1)))) (mLst [1, 2] [mC (.str ")")]))))))))))))))
def fun__law_row (m__law_item : List W → FR) (m__law_sequence : List W → FR) (m__law_listing : List W → FR) : List W → FR := mFun [1, 2] 10 (body__law_row m__law_item m__law_sequence m__law_listing)
theorem def__law_row (T : Txt w K mg) {m__law_item : List W → FR} (D__law_item : Def P w K mg base ct k "_law_item" ["_law_node", "_law_reader_here", "_law_extra"] [1, 2] m__law_item) {m__law_sequence : List W → FR} (D__law_sequence : Def P w K mg base ct k "_law_sequence" ["_law_node", "_law_reader_here", "_law_extra"] [1, 2] m__law_sequence) {m__law_listing : List W → FR} (D__law_listing : Def P w K mg base ct k "_law_listing" ["_law_rows"] [] m__law_listing) : Def P w K mg base ct (k + 1) "_law_row" ["_law_node", "_law_reader_here", "_law_extra"] [1, 2] (fun__law_row m__law_item m__law_sequence m__law_listing) :=
  def_mk (N := ["_law_node", "_law_reader_here", "_law_extra", "_law_word", "_law_head_here", "_law_body", "_law_rows", "_law_sign", "_law_part", "_law_pair"]) (g := body__law_row m__law_item m__law_sequence m__law_listing) T.s__law_row sc__law_row (by decide) (fun _ _ _ _ _ _ us hl => match us, hl with | [_, _, _], _ => rfl) fun f cdv A outer s H E Y hr hct tk =>
    (psm_cons (psm_set (i := 3) sc__law_row.nd rfl (Or.inl rfl) (pem_ix (pem_var 0 (pv 0)) (pem_int))) (psm_cons (psm_if (ptm_cmp (o_eq (hu200 hr)) g_eq (pem_var 3 (pv 3)) (pem_str) (nomark _)) (psm_one (psm_ret (pem_lst (pam_cons (pem_str) (pam_nil))))) (psm_nil)) (psm_cons (psm_if (ptm_cmp o_in g_in (pem_var 3 (pv 3)) (pem_tup (pam_cons (pem_str) (pam_cons (pem_str) (pam_nil)))) rfl) (psm_one (psm_ret (pem_lst (pam_cons (pem_var 3 (pv 3)) (pam_nil))))) (psm_nil)) (psm_cons (psm_if (ptm_cmp o_in g_in (pem_var 3 (pv 3)) (pem_tup (pam_cons (pem_str) (pam_cons (pem_str) (pam_nil)))) rfl) (psm_one (psm_ret (pem_lst (pam_cons (pem_callTy c_str rfl T.b_str (by rfl) g_str (pam_cons (pem_ix (pem_var 0 (pv 0)) (pem_int)) (pam_nil))) (pam_nil))))) (psm_nil)) (psm_cons (psm_if (ptm_cmp (o_eq (hu200 hr)) g_eq (pem_var 3 (pv 3)) (pem_str) (nomark _)) (psm_one (psm_ret (pem_op o_add g_add (pem_lst (pam_cons (pem_ix (pem_var 0 (pv 0)) (pem_int)) (pam_cons (pem_str) (pam_nil)))) (pem_callD D__law_item hct hr tk rfl (pam_cons (pem_ix (pem_var 0 (pv 0)) (pem_int)) (pam_cons (pem_var 1 (pv 1)) (pam_cons (pem_var 2 (pv 2)) (pam_nil)))) rfl)))) (psm_nil)) (psm_cons (psm_if (ptm_cmp (o_eq (hu200 hr)) g_eq (pem_var 3 (pv 3)) (pem_str) (nomark _)) (psm_one (psm_ret (pem_op o_add g_add (pem_op o_add g_add (pem_lst (pam_cons (pem_ix (pem_var 0 (pv 0)) (pem_int)) (pam_cons (pem_str) (pam_nil)))) (pem_callD D__law_listing hct hr tk rfl (pam_cons (pem_lc (own := [("_law_part", 8)]) (t := .nm 8) rfl sc__law_row.nd (pim_seq (pem_ix (pem_var 0 (pv 0)) (pem_int))) (blkOk_by (N := ["_law_node", "_law_reader_here", "_law_extra", "_law_word", "_law_head_here", "_law_body", "_law_rows", "_law_sign", "_law_part", "_law_pair"]) (sc := defScope s__law_row) (by decide +kernel)) rfl (fun _ _ _ _ _ => pg_name (i := 8) sc__law_row.nd rfl (by first | exact Or.inl rfl | exact Or.inr rfl) (by first | exact .inl rfl | exact .inr rfl)) (fun _ _ _ _ _ => pcs_nil) (fun _ _ _ _ _ Y1 hY1 wY1 => (pem_callD D__law_sequence (hY1.trans hct) hr (takesF wY1) rfl (pam_cons (pem_var 8 (pv 8)) (pam_cons (pem_var 1 (pv 1)) (pam_cons (pem_var 2 (pv 2)) (pam_nil)))) rfl))) (pam_nil)) rfl)) (pem_lst (pam_cons (pem_str) (pam_nil)))))) (psm_nil)) (psm_cons (psm_if (ptm_cmp (o_eq (hu200 hr)) g_eq (pem_var 3 (pv 3)) (pem_str) (nomark _)) (psm_one (psm_ret (pem_op o_add g_add (pem_op o_add g_add (pem_lst (pam_cons (pem_str) (pam_cons (pem_ix (pem_var 0 (pv 0)) (pem_int)) (pam_cons (pem_str) (pam_cons (pem_callTy c_str rfl T.b_str (by rfl) g_str (pam_cons (pem_ix (pem_var 0 (pv 0)) (pem_int)) (pam_nil))) (pam_cons (pem_str) (pam_nil))))))) (pem_callD D__law_sequence hct hr tk rfl (pam_cons (pem_ix (pem_var 0 (pv 0)) (pem_int)) (pam_cons (pem_var 1 (pv 1)) (pam_cons (pem_var 2 (pv 2)) (pam_nil)))) rfl)) (pem_lst (pam_cons (pem_str) (pam_nil)))))) (psm_nil)) (psm_cons (psm_if (ptm_cmp (o_eq (hu200 hr)) g_eq (pem_var 3 (pv 3)) (pem_str) (nomark _)) (psm_cons (psm_set (i := 4) sc__law_row.nd rfl (Or.inl rfl) (pem_op o_add g_add (pem_op o_add g_add (pem_lst (pam_cons (pem_str) (pam_cons (pem_ix (pem_var 0 (pv 0)) (pem_int)) (pam_cons (pem_str) (pam_nil))))) (pem_callD D__law_listing hct hr tk rfl (pam_cons (pem_lc (own := [("_law_pair", 9)]) (t := .nm 9) rfl sc__law_row.nd (pim_seq (pem_ix (pem_var 0 (pv 0)) (pem_int))) (blkOk_by (N := ["_law_node", "_law_reader_here", "_law_extra", "_law_word", "_law_head_here", "_law_body", "_law_rows", "_law_sign", "_law_part", "_law_pair"]) (sc := defScope s__law_row) (by decide +kernel)) rfl (fun _ _ _ _ _ => pg_name (i := 9) sc__law_row.nd rfl (by first | exact Or.inl rfl | exact Or.inr rfl) (by first | exact .inl rfl | exact .inr rfl)) (fun _ _ _ _ _ => pcs_nil) (fun _ _ _ _ _ Y1 hY1 wY1 => (pem_callTy call_list_of rfl T.b_list (by rfl) g_lstC (pam_cons (pem_var 9 (pv 9)) (pam_nil))))) (pam_nil)) rfl)) (pem_lst (pam_cons (pem_str) (pam_cons (pem_str) (pam_nil)))))) (psm_cons (psm_set (i := 5) sc__law_row.nd rfl (Or.inl rfl) (pem_callD D__law_sequence hct hr tk rfl (pam_cons (pem_ix (pem_var 0 (pv 0)) (pem_int)) (pam_cons (pem_var 1 (pv 1)) (pam_cons (pem_var 2 (pv 2)) (pam_nil)))) rfl)) (psm_one (psm_ret (pem_op o_add g_add (pem_op o_add g_add (pem_op o_add g_add (pem_op o_add g_add (pem_var 4 (pv 4)) (pem_var 5 (pv 5))) (pem_lst (pam_cons (pem_str) (pam_nil)))) (pem_callD D__law_sequence hct hr tk rfl (pam_cons (pem_ix (pem_var 0 (pv 0)) (pem_int)) (pam_cons (pem_var 1 (pv 1)) (pam_cons (pem_var 2 (pv 2)) (pam_nil)))) rfl)) (pem_lst (pam_cons (pem_str) (pam_nil)))))))) (psm_nil)) (psm_cons (psm_setLc (i := 6) (own := [("_law_part", 8)]) (t := .nm 8) rfl sc__law_row.nd rfl rfl (sw_true rfl rfl rfl (by decide +kernel)) (pim_seq (pem_slice (pem_var 0 (pv 0)) (pom_some (pem_int)) pom_none)) (blkOk_by (N := ["_law_node", "_law_reader_here", "_law_extra", "_law_word", "_law_head_here", "_law_body", "_law_rows", "_law_sign", "_law_part", "_law_pair"]) (sc := defScope s__law_row) (by decide +kernel)) rfl (fun _ _ _ _ _ => pg_name (i := 8) sc__law_row.nd rfl (by first | exact Or.inl rfl | exact Or.inr rfl) (by first | exact .inl rfl | exact .inr rfl)) (fun _ _ _ _ _ => pcs_nil) (fun _ _ _ _ _ Y1 hY1 wY1 => (pem_callD D__law_sequence (hY1.trans hct) hr (takesF wY1) rfl (pam_cons (pem_var 8 (pv 8)) (pam_cons (pem_var 1 (pv 1)) (pam_cons (pem_var 2 (pv 2)) (pam_nil)))) rfl))) (psm_cons (psm_if (ptm_cmp (o_eq (hu200 hr)) g_eq (pem_var 3 (pv 3)) (pem_str) (nomark _)) (psm_one (psm_ret (pem_op o_add g_add (pem_op o_add g_add (pem_op o_add g_add (pem_op o_add g_add (pem_op o_add g_add (pem_op o_add g_add (pem_lst (pam_cons (pem_str) (pam_nil))) (pem_ix (pem_var 6 (pv 6)) (pem_int))) (pem_lst (pam_cons (pem_str) (pam_nil)))) (pem_ix (pem_var 6 (pv 6)) (pem_int))) (pem_lst (pam_cons (pem_str) (pam_nil)))) (pem_ix (pem_var 6 (pv 6)) (pem_int))) (pem_lst (pam_cons (pem_str) (pam_nil)))))) (psm_nil)) (psm_cons (psm_if (ptm_cmp (o_eq (hu200 hr)) g_eq (pem_var 3 (pv 3)) (pem_str) (nomark _)) (psm_one (psm_ret (pem_op o_add g_add (pem_op o_add g_add (pem_op o_add g_add (pem_op o_add g_add (pem_lst (pam_cons (pem_str) (pam_nil))) (pem_ix (pem_var 6 (pv 6)) (pem_int))) (pem_lst (pam_cons (pem_str) (pam_nil)))) (pem_ix (pem_var 6 (pv 6)) (pem_int))) (pem_lst (pam_cons (pem_str) (pam_nil)))))) (psm_nil)) (psm_cons (psm_set (i := 7) sc__law_row.nd rfl (Or.inl rfl) (pem_ix (pem_lst (pam_cons (pem_str) (pam_cons (pem_str) (pam_cons (pem_str) (pam_nil))))) (pem_op o_add g_add (pem_callTy c_int rfl T.b_int (by rfl) g_int (pam_cons (pem_cmp (o_eq (hu200 hr)) g_eq (pem_var 3 (pv 3)) (pem_str) (nomark _)) (pam_nil))) (pem_op o_mul g_mul (pem_int) (pem_callTy c_int rfl T.b_int (by rfl) g_int (pam_cons (pem_cmp (o_eq (hu200 hr)) g_eq (pem_var 3 (pv 3)) (pem_str) (nomark _)) (pam_nil))))))) (psm_one (psm_ret (pem_op o_add g_add (pem_op o_add g_add (pem_op o_add g_add (pem_op o_add g_add (pem_lst (pam_cons (pem_str) (pam_nil))) (pem_ix (pem_var 6 (pv 6)) (pem_int))) (pem_lst (pam_cons (pem_var 7 (pv 7)) (pam_nil)))) (pem_ix (pem_var 6 (pv 6)) (pem_int))) (pem_lst (pam_cons (pem_str) (pam_nil))))))))))))))))))
/-! _law_merging -/
theorem sc__law_merging : FnScope ["_law_before", "_law_first", "_law_chars"] ["_law_before", "_law_first"] (defScope s__law_merging) := ⟨rfl, rfl, rfl, by decide +kernel, rfl, by decide +kernel, by decide +kernel⟩
def body__law_merging : Rho → ML.R Fl := mSeq (mSet [] 2 (mC (.str "abcdefghijklmnopqrstuvwxyz0123456789"))) (mRet [] (mOrV (mAndV (mOp (gIn false) (mVar 0) (mVar 2)) (mOp (gIn false) (mVar 1) (mVar 2))) (mOp (gIn false) (mOp gAdd (mVar 0) (mVar 1)) (mTup [] [mC (.str ":="), mC (.str "[]")]))))
def fun__law_merging : List W → FR := mFun [] 3 (body__law_merging)
theorem def__law_merging (T : Txt w K mg) : Def P w K mg base ct (k + 1) "_law_merging" ["_law_before", "_law_first"] [] (fun__law_merging) :=
  def_mk (N := ["_law_before", "_law_first", "_law_chars"]) (g := body__law_merging) T.s__law_merging sc__law_merging (by decide) (fun _ _ _ _ _ _ us hl => match us, hl with | [_, _], _ => rfl) fun f cdv A outer s H E Y hr hct tk =>
    (psm_cons (psm_set (i := 2) sc__law_merging.nd rfl (Or.inl rfl) (pem_str)) (psm_one (psm_ret (pem_or (pem_and (pem_cmp o_in g_in (pem_var 0 (pv 0)) (pem_var 2 (pv 2)) rfl) (pem_one (pem_cmp o_in g_in (pem_var 1 (pv 1)) (pem_var 2 (pv 2)) rfl))) (pem_one (pem_cmp o_in g_in (pem_op o_add g_add (pem_var 0 (pv 0)) (pem_var 1 (pv 1))) (pem_tup (pam_cons (pem_str) (pam_cons (pem_str) (pam_nil)))) rfl))))))
/-! _law_joined -/
theorem sc__law_joined : FnScope ["_law_row_here", "_law_reader_here", "_law_style", "_law_wide", "_law_text_here", "_law_indexes", "_law_before", "_law_k", "_law_gap"] ["_law_row_here", "_law_reader_here"] (defScope s__law_joined) := ⟨rfl, rfl, rfl, by decide +kernel, rfl, by decide +kernel, by decide +kernel⟩
def body__law_joined (m__law_next : List W → FR) (m__law_merging : List W → FR) : Rho → ML.R Fl := mSeq (mSet [1] 2 (mCall [1] [0] m__law_next [mVar 1, mC (.int 4)])) (mSeq (mSet [1] 3 (mCall [1] [0] m__law_next [mVar 1, mC (.int 300)])) (mSeq (mSet [1] 4 (mC (.str ""))) (mSeq (mSet [1] 5 (mLst [1] [])) (mSeq (mSet [1] 6 (mC (.str " "))) (mSeq (mFor (mRange1 [mOp gAdd (mCB gLen [mVar 0]) (mC (.int 1))]) (gSet [1] 7) (mSeq (mSet [1] 8 (mC (.str ""))) (mSeq (mIf (mTest (mOp (gCmp (fun i j => decide (j < i))) (mVar 2) (mC (.int 0)))) (mSet [1] 8 (mOp gIx (mLst [1] [mC (.str ""), mC (.str " "), mC (.str "\n"), mC (.str "  "), mC (.str "\n "), mC (.str ""), mC (.str " "), mC (.str "")]) (mCall [1] [0] m__law_next [mVar 1, mC (.int 8)]))) (mNext)) (mSeq (mIf (mTest (mOp gEq (mVar 7) (mVar 3))) (mSet [1] 8 (mOp gAdd (mVar 8) (mOp gMulS (mOp gIx (mLst [1] [mC (.str " "), mC (.str "\n")]) (mCall [1] [0] m__law_next [mVar 1, mC (.int 2)])) (mOp gAdd (mC (.int 1)) (mCall [1] [0] m__law_next [mVar 1, mC (.int 200)]))))) (mNext)) (mIf (mTest (mOp (gCmp (fun i j => decide (i < j))) (mVar 7) (mCB gLen [mVar 0]))) (mSeq (mIf (mAnd (mTest (mOp gEq (mVar 8) (mC (.str "")))) (mTest (mCall [1] [] m__law_merging [mVar 6, mOp gIx (mOp gIx (mVar 0) (mVar 7)) (mC (.int 0))]))) (mSet [1] 8 (mOp gIx (mLst [1] [mC (.str " "), mC (.str "\n")]) (mCall [1] [0] m__law_next [mVar 1, mC (.int 2)]))) (mNext)) (mSeq (mDrop (mAppend 5 [1] (mCB gLen [mOp gAdd (mVar 4) (mVar 8)]))) (mSeq (mSet [1] 4 (mOp gAdd (mOp gAdd (mVar 4) (mVar 8)) (mOp gIx (mVar 0) (mVar 7)))) (mSet [1] 6 (mOp gIx (mOp gIx (mVar 0) (mVar 7)) (mNeg (mC (.int 1)))))))) (mSet [1] 4 (mOp gAdd (mVar 4) (mVar 8)))))))) (mSeq (mDrop (mAppend 5 [1] (mCB gLen [mVar 4]))) (mRet [1] (mLst [1] [mVar 4, mVar 5]))))))))
def fun__law_joined (m__law_next : List W → FR) (m__law_merging : List W → FR) : List W → FR := mFun [1] 9 (body__law_joined m__law_next m__law_merging)
theorem def__law_joined (T : Txt w K mg) {m__law_next : List W → FR} (D__law_next : Def P w K mg base ct k "_law_next" ["_law_reader_here", "_law_many"] [0] m__law_next) {m__law_merging : List W → FR} (D__law_merging : Def P w K mg base ct k "_law_merging" ["_law_before", "_law_first"] [] m__law_merging) : Def P w K mg base ct (k + 1) "_law_joined" ["_law_row_here", "_law_reader_here"] [1] (fun__law_joined m__law_next m__law_merging) :=
  def_mk (N := ["_law_row_here", "_law_reader_here", "_law_style", "_law_wide", "_law_text_here", "_law_indexes", "_law_before", "_law_k", "_law_gap"]) (g := body__law_joined m__law_next m__law_merging) T.s__law_joined sc__law_joined (by decide) (fun _ _ _ _ _ _ us hl => match us, hl with | [_, _], _ => rfl) fun f cdv A outer s H E Y hr hct tk =>
    (psm_cons (psm_set (i := 2) sc__law_joined.nd rfl (Or.inl rfl) (pem_callD D__law_next hct hr tk rfl (pam_cons (pem_var 1 (pv 1)) (pam_cons (pem_int) (pam_nil))) rfl)) (psm_cons (psm_set (i := 3) sc__law_joined.nd rfl (Or.inl rfl) (pem_callD D__law_next hct hr tk rfl (pam_cons (pem_var 1 (pv 1)) (pam_cons (pem_int) (pam_nil))) rfl)) (psm_cons (psm_set (i := 4) sc__law_joined.nd rfl (Or.inl rfl) (pem_str)) (psm_cons (psm_set (i := 5) sc__law_joined.nd rfl (Or.inl rfl) (pem_lst (pam_nil))) (psm_cons (psm_set (i := 6) sc__law_joined.nd rfl (Or.inl rfl) (pem_str)) (psm_cons (psm_for (passes_of rfl) rfl (pim_range1 rfl T.b_range (pam_cons (pem_op o_add g_add (pem_callB (call_len) rfl T.b_len (by rfl) g_len (pam_cons (pem_var 0 (pv 0)) (pam_nil))) (pem_int)) (pam_nil))) (pgm_name (pg_name (i := 7) sc__law_joined.nd rfl (Or.inl rfl))) (psm_cons (psm_set (i := 8) sc__law_joined.nd rfl (Or.inl rfl) (pem_str)) (psm_cons (psm_if (ptm_cmp op_gt g_cmp (pem_var 2 (pv 2)) (pem_int) (nomark _)) (psm_one (psm_set (i := 8) sc__law_joined.nd rfl (Or.inl rfl) (pem_ix (pem_lst (pam_cons (pem_str) (pam_cons (pem_str) (pam_cons (pem_str) (pam_cons (pem_str) (pam_cons (pem_str) (pam_cons (pem_str) (pam_cons (pem_str) (pam_cons (pem_str) (pam_nil)))))))))) (pem_callD D__law_next hct hr tk rfl (pam_cons (pem_var 1 (pv 1)) (pam_cons (pem_int) (pam_nil))) rfl)))) (psm_nil)) (psm_cons (psm_if (ptm_cmp (o_eq (hu200 hr)) g_eq (pem_var 7 (pv 7)) (pem_var 3 (pv 3)) (nomark _)) (psm_one (psm_set (i := 8) sc__law_joined.nd rfl (Or.inl rfl) (pem_op o_add g_add (pem_var 8 (pv 8)) (pem_op o_mulS g_mulS (pem_ix (pem_lst (pam_cons (pem_str) (pam_cons (pem_str) (pam_nil)))) (pem_callD D__law_next hct hr tk rfl (pam_cons (pem_var 1 (pv 1)) (pam_cons (pem_int) (pam_nil))) rfl)) (pem_op o_add g_add (pem_int) (pem_callD D__law_next hct hr tk rfl (pam_cons (pem_var 1 (pv 1)) (pam_cons (pem_int) (pam_nil))) rfl)))))) (psm_nil)) (psm_one (psm_if (ptm_cmp op_lt g_cmp (pem_var 7 (pv 7)) (pem_callB (call_len) rfl T.b_len (by rfl) g_len (pam_cons (pem_var 0 (pv 0)) (pam_nil))) (nomark _)) (psm_cons (psm_if (PW.pt (pwm_and (ptm_cmp (o_eq (hu200 hr)) g_eq (pem_var 8 (pv 8)) (pem_str) (nomark _)) (pwm_and1 (ptm_val (pem_callD D__law_merging hct hr tk rfl (pam_cons (pem_var 6 (pv 6)) (pam_cons (pem_ix (pem_ix (pem_var 0 (pv 0)) (pem_var 7 (pv 7))) (pem_int)) (pam_nil))) rfl))))) (psm_one (psm_set (i := 8) sc__law_joined.nd rfl (Or.inl rfl) (pem_ix (pem_lst (pam_cons (pem_str) (pam_cons (pem_str) (pam_nil)))) (pem_callD D__law_next hct hr tk rfl (pam_cons (pem_var 1 (pv 1)) (pam_cons (pem_int) (pam_nil))) rfl)))) (psm_nil)) (psm_cons (psm_expr (pem_append (pv 5) (pem_callB (call_len) rfl T.b_len (by rfl) g_len (pam_cons (pem_op o_add g_add (pem_var 4 (pv 4)) (pem_var 8 (pv 8))) (pam_nil))))) (psm_cons (psm_set (i := 4) sc__law_joined.nd rfl (Or.inl rfl) (pem_op o_add g_add (pem_op o_add g_add (pem_var 4 (pv 4)) (pem_var 8 (pv 8))) (pem_ix (pem_var 0 (pv 0)) (pem_var 7 (pv 7))))) (psm_one (psm_set (i := 6) sc__law_joined.nd rfl (Or.inl rfl) (pem_ix (pem_ix (pem_var 0 (pv 0)) (pem_var 7 (pv 7))) (pem_neg (pem_int)))))))) (psm_one (psm_set (i := 4) sc__law_joined.nd rfl (Or.inl rfl) (pem_op o_add g_add (pem_var 4 (pv 4)) (pem_var 8 (pv 8))))))))))) (psm_cons (psm_expr (pem_append (pv 5) (pem_callB (call_len) rfl T.b_len (by rfl) g_len (pam_cons (pem_var 4 (pv 4)) (pam_nil))))) (psm_one (psm_ret (pem_lst (pam_cons (pem_var 4 (pv 4)) (pam_cons (pem_var 5 (pv 5)) (pam_nil)))))))))))))
/-! _law_same -/
theorem sc__law_same : FnScope ["_law_actual", "_law_due", "_law_k"] ["_law_actual", "_law_due"] (defScope s__law_same) := ⟨rfl, rfl, rfl, by decide +kernel, rfl, by decide +kernel, by decide +kernel⟩
def body__law_same (m__law_same : List W → FR) (m__law_whole : List W → FR) : Rho → ML.R Fl := mSeq (mIf (mTest (mCB gIsi [mVar 1, mC (.ty "tuple")])) (mSeq (mIf (mOr (mNot (mTest (mCB gIsi [mVar 0, mC (.ty "tuple")]))) (mTest (mOp gNe (mCB gLen [mVar 0]) (mCB gLen [mVar 1])))) (mRet [] (mC (.bl false))) (mNext)) (mSeq (mFor (mRange1 [mCB gLen [mVar 1]]) (gSet [] 2) (mIf (mNot (mTest (mCall [] [] m__law_same [mOp gIx (mVar 0) (mVar 2), mOp gIx (mVar 1) (mVar 2)]))) (mRet [] (mC (.bl false))) (mNext))) (mRet [] (mC (.bl true))))) (mNext)) (mSeq (mIf (mTest (mCB gIsi [mVar 1, mC (.ty "str")])) (mRet [] (mAndV (mCB gIsi [mVar 0, mC (.ty "str")]) (mOp gEq (mVar 0) (mVar 1)))) (mNext)) (mRet [] (mAndV (mCall [] [] m__law_whole [mVar 0]) (mOp gEq (mVar 0) (mVar 1)))))
def fun__law_same (m__law_same : List W → FR) (m__law_whole : List W → FR) : List W → FR := mFun [] 3 (body__law_same m__law_same m__law_whole)
theorem def__law_same (T : Txt w K mg) {m__law_same : List W → FR} (D__law_same : Def P w K mg base ct k "_law_same" ["_law_actual", "_law_due"] [] m__law_same) {m__law_whole : List W → FR} (D__law_whole : Def P w K mg base ct k "_law_whole" ["_law_value"] [] m__law_whole) : Def P w K mg base ct (k + 1) "_law_same" ["_law_actual", "_law_due"] [] (fun__law_same m__law_same m__law_whole) :=
  def_mk (N := ["_law_actual", "_law_due", "_law_k"]) (g := body__law_same m__law_same m__law_whole) T.s__law_same sc__law_same (by decide) (fun _ _ _ _ _ _ us hl => match us, hl with | [_, _], _ => rfl) fun f cdv A outer s H E Y hr hct tk =>
    (psm_cons (psm_if (ptm_val (pem_callB (c_isi) rfl T.b_isinstance (by rfl) g_isi (pam_cons (pem_var 1 (pv 1)) (pam_cons (pem_ty rfl T.b_tuple (by rfl)) (pam_nil))))) (psm_cons (psm_if (PW.pt (pwm_or (ptm_not (ptm_val (pem_callB (c_isi) rfl T.b_isinstance (by rfl) g_isi (pam_cons (pem_var 0 (pv 0)) (pam_cons (pem_ty rfl T.b_tuple (by rfl)) (pam_nil)))))) (pwm_or1 (ptm_cmp (o_ne (hu200 hr)) g_ne (pem_callB (call_len) rfl T.b_len (by rfl) g_len (pam_cons (pem_var 0 (pv 0)) (pam_nil))) (pem_callB (call_len) rfl T.b_len (by rfl) g_len (pam_cons (pem_var 1 (pv 1)) (pam_nil))) (nomark _))))) (psm_one (psm_ret (pem_bl))) (psm_nil)) (psm_cons (psm_for (passes_of rfl) rfl (pim_range1 rfl T.b_range (pam_cons (pem_callB (call_len) rfl T.b_len (by rfl) g_len (pam_cons (pem_var 1 (pv 1)) (pam_nil))) (pam_nil))) (pgm_name (pg_name (i := 2) sc__law_same.nd rfl (Or.inl rfl))) (psm_one (psm_if (ptm_not (ptm_val (pem_callD D__law_same hct hr tk rfl (pam_cons (pem_ix (pem_var 0 (pv 0)) (pem_var 2 (pv 2))) (pam_cons (pem_ix (pem_var 1 (pv 1)) (pem_var 2 (pv 2))) (pam_nil))) rfl))) (psm_one (psm_ret (pem_bl))) (psm_nil)))) (psm_one (psm_ret (pem_bl))))) (psm_nil)) (psm_cons (psm_if (ptm_val (pem_callB (c_isi) rfl T.b_isinstance (by rfl) g_isi (pam_cons (pem_var 1 (pv 1)) (pam_cons (pem_ty rfl T.b_str (by rfl)) (pam_nil))))) (psm_one (psm_ret (pem_and (pem_callB (c_isi) rfl T.b_isinstance (by rfl) g_isi (pam_cons (pem_var 0 (pv 0)) (pam_cons (pem_ty rfl T.b_str (by rfl)) (pam_nil)))) (pem_one (pem_cmp (o_eq (hu200 hr)) g_eq (pem_var 0 (pv 0)) (pem_var 1 (pv 1)) (nomark _)))))) (psm_nil)) (psm_one (psm_ret (pem_and (pem_callD D__law_whole hct hr tk rfl (pam_cons (pem_var 0 (pv 0)) (pam_nil)) rfl) (pem_one (pem_cmp (o_eq (hu200 hr)) g_eq (pem_var 0 (pv 0)) (pem_var 1 (pv 1)) (nomark _))))))))
/-! _law_built -/
theorem sc__law_built : FnScope ["_law_script", "_law_reader_here", "_law_names_here", "_law_many"] ["_law_script"] (defScope s__law_built) := ⟨rfl, rfl, rfl, by decide +kernel, rfl, by decide +kernel, by decide +kernel⟩
def body__law_built (m__law_reader : List W → FR) (m__law_next : List W → FR) (m__law_names : List W → FR) (m__law_any : List W → FR) (m__law_layered : List W → FR) : Rho → ML.R Fl := mSeq (mSet [] 1 (mCall [] [] m__law_reader [mVar 0, mC (.int 0)])) (mSeq (mSet [] 2 (mCall [] [0] m__law_names [mVar 1, mOp gAdd (mC (.int 1)) (mCall [] [0] m__law_next [mVar 1, mC (.int 7)])])) (mSeq (mIf (mTest (mOp gEq (mCall [] [0] m__law_next [mVar 1, mC (.int 6)]) (mC (.int 0)))) (mRet [] (mLst [] [mCall [] [0] m__law_any [mVar 1, mOp gAdd (mC (.int 1)) (mCall [] [0] m__law_next [mVar 1, mC (.int 4)]), mC (.int 3), mVar 2], mC (.int 3), mCall [] [0] m__law_next [mVar 1, mC (.int 31)]])) (mNext)) (mSeq (mSet [] 3 (mOp gIx (mLst [] [mC (.int 0), mC (.int 0), mC (.int 0), mC (.int 1), mC (.int 2), mOp gAdd (mC (.int 1)) (mCall [] [0] m__law_next [mVar 1, mC (.int 12)])]) (mCall [] [0] m__law_next [mVar 1, mC (.int 6)]))) (mRet [] (mLst [] [mCall [] [0] m__law_layered [mVar 1, mOp gAdd (mC (.int 1)) (mCall [] [0] m__law_next [mVar 1, mC (.int 24)]), mVar 3, mVar 2], mCall [] [0] m__law_next [mVar 1, mC (.int 9)], mCall [] [0] m__law_next [mVar 1, mC (.int 3)]])))))
def fun__law_built (m__law_reader : List W → FR) (m__law_next : List W → FR) (m__law_names : List W → FR) (m__law_any : List W → FR) (m__law_layered : List W → FR) : List W → FR := mFun [] 4 (body__law_built m__law_reader m__law_next m__law_names m__law_any m__law_layered)
theorem def__law_built (T : Txt w K mg) {m__law_reader : List W → FR} (D__law_reader : Def P w K mg base ct k "_law_reader" ["_law_script", "_law_first"] [] m__law_reader) {m__law_next : List W → FR} (D__law_next : Def P w K mg base ct k "_law_next" ["_law_reader_here", "_law_many"] [0] m__law_next) {m__law_names : List W → FR} (D__law_names : Def P w K mg base ct k "_law_names" ["_law_reader_here", "_law_many"] [0] m__law_names) {m__law_any : List W → FR} (D__law_any : Def P w K mg base ct k "_law_any" ["_law_reader_here", "_law_budget", "_law_depth", "_law_names_here"] [0] m__law_any) {m__law_layered : List W → FR} (D__law_layered : Def P w K mg base ct k "_law_layered" ["_law_reader_here", "_law_budget", "_law_many", "_law_names_here"] [0] m__law_layered) : Def P w K mg base ct (k + 1) "_law_built" ["_law_script"] [] (fun__law_built m__law_reader m__law_next m__law_names m__law_any m__law_layered) :=
  def_mk (N := ["_law_script", "_law_reader_here", "_law_names_here", "_law_many"]) (g := body__law_built m__law_reader m__law_next m__law_names m__law_any m__law_layered) T.s__law_built sc__law_built (by decide) (fun _ _ _ _ _ _ us hl => match us, hl with | [_], _ => rfl) fun f cdv A outer s H E Y hr hct tk =>
    (psm_cons (psm_set (i := 1) sc__law_built.nd rfl (Or.inl rfl) (pem_callD D__law_reader hct hr tk rfl (pam_cons (pem_var 0 (pv 0)) (pam_cons (pem_int) (pam_nil))) rfl)) (psm_cons (psm_set (i := 2) sc__law_built.nd rfl (Or.inl rfl) (pem_callD D__law_names hct hr tk rfl (pam_cons (pem_var 1 (pv 1)) (pam_cons (pem_op o_add g_add (pem_int) (pem_callD D__law_next hct hr tk rfl (pam_cons (pem_var 1 (pv 1)) (pam_cons (pem_int) (pam_nil))) rfl)) (pam_nil))) rfl)) (psm_cons (psm_if (ptm_cmp (o_eq (hu200 hr)) g_eq (pem_callD D__law_next hct hr tk rfl (pam_cons (pem_var 1 (pv 1)) (pam_cons (pem_int) (pam_nil))) rfl) (pem_int) (nomark _)) (psm_one (psm_ret (pem_lst (pam_cons (pem_callD D__law_any hct hr tk rfl (pam_cons (pem_var 1 (pv 1)) (pam_cons (pem_op o_add g_add (pem_int) (pem_callD D__law_next hct hr tk rfl (pam_cons (pem_var 1 (pv 1)) (pam_cons (pem_int) (pam_nil))) rfl)) (pam_cons (pem_int) (pam_cons (pem_var 2 (pv 2)) (pam_nil))))) rfl) (pam_cons (pem_int) (pam_cons (pem_callD D__law_next hct hr tk rfl (pam_cons (pem_var 1 (pv 1)) (pam_cons (pem_int) (pam_nil))) rfl) (pam_nil))))))) (psm_nil)) (psm_cons (psm_set (i := 3) sc__law_built.nd rfl (Or.inl rfl) (pem_ix (pem_lst (pam_cons (pem_int) (pam_cons (pem_int) (pam_cons (pem_int) (pam_cons (pem_int) (pam_cons (pem_int) (pam_cons (pem_op o_add g_add (pem_int) (pem_callD D__law_next hct hr tk rfl (pam_cons (pem_var 1 (pv 1)) (pam_cons (pem_int) (pam_nil))) rfl)) (pam_nil)))))))) (pem_callD D__law_next hct hr tk rfl (pam_cons (pem_var 1 (pv 1)) (pam_cons (pem_int) (pam_nil))) rfl))) (psm_one (psm_ret (pem_lst (pam_cons (pem_callD D__law_layered hct hr tk rfl (pam_cons (pem_var 1 (pv 1)) (pam_cons (pem_op o_add g_add (pem_int) (pem_callD D__law_next hct hr tk rfl (pam_cons (pem_var 1 (pv 1)) (pam_cons (pem_int) (pam_nil))) rfl)) (pam_cons (pem_var 3 (pv 3)) (pam_cons (pem_var 2 (pv 2)) (pam_nil))))) rfl) (pam_cons (pem_callD D__law_next hct hr tk rfl (pam_cons (pem_var 1 (pv 1)) (pam_cons (pem_int) (pam_nil))) rfl) (pam_cons (pem_callD D__law_next hct hr tk rfl (pam_cons (pem_var 1 (pv 1)) (pam_cons (pem_int) (pam_nil))) rfl) (pam_nil)))))))))))
/-! _law_free_text -/
theorem sc__law_free_text : FnScope ["_law_script", "_law_first", "_law_built_here", "_law_reader_here", "_law_row_here"] ["_law_script", "_law_first", "_law_built_here"] (defScope s__law_free_text) := ⟨rfl, rfl, rfl, by decide +kernel, rfl, by decide +kernel, by decide +kernel⟩
def body__law_free_text (m__law_reader : List W → FR) (m__law_sequence : List W → FR) (m__law_joined : List W → FR) : Rho → ML.R Fl := mSeq (mSet [] 3 (mCall [] [] m__law_reader [mVar 0, mVar 1])) (mSeq (mSet [] 4 (mCallF [] [1, 2] m__law_sequence [mOp gIx (mVar 2) (mC (.int 0)), mVar 3] (mLst [] [mOp gIx (mVar 2) (mC (.int 1))]))) (mSeq (mSet [] 4 (mOp gAdd (mOp gAdd (mOp gMul (mLst [] [mC (.str "(")]) (mOp gIx (mVar 2) (mC (.int 2)))) (mVar 4)) (mOp gMul (mLst [] [mC (.str ")")]) (mOp gIx (mVar 2) (mC (.int 2)))))) (mRet [] (mCall [] [1] m__law_joined [mVar 4, mVar 3]))))
def fun__law_free_text (m__law_reader : List W → FR) (m__law_sequence : List W → FR) (m__law_joined : List W → FR) : List W → FR := mFun [] 5 (body__law_free_text m__law_reader m__law_sequence m__law_joined)
theorem def__law_free_text (T : Txt w K mg) {m__law_reader : List W → FR} (D__law_reader : Def P w K mg base ct k "_law_reader" ["_law_script", "_law_first"] [] m__law_reader) {m__law_sequence : List W → FR} (D__law_sequence : Def P w K mg base ct k "_law_sequence" ["_law_node", "_law_reader_here", "_law_extra"] [1, 2] m__law_sequence) {m__law_joined : List W → FR} (D__law_joined : Def P w K mg base ct k "_law_joined" ["_law_row_here", "_law_reader_here"] [1] m__law_joined) : Def P w K mg base ct (k + 1) "_law_free_text" ["_law_script", "_law_first", "_law_built_here"] [] (fun__law_free_text m__law_reader m__law_sequence m__law_joined) :=
  def_mk (N := ["_law_script", "_law_first", "_law_built_here", "_law_reader_here", "_law_row_here"]) (g := body__law_free_text m__law_reader m__law_sequence m__law_joined) T.s__law_free_text sc__law_free_text (by decide) (fun _ _ _ _ _ _ us hl => match us, hl with | [_, _, _], _ => rfl) fun f cdv A outer s H E Y hr hct tk =>
    (psm_cons (psm_set (i := 3) sc__law_free_text.nd rfl (Or.inl rfl) (pem_callD D__law_reader hct hr tk rfl (pam_cons (pem_var 0 (pv 0)) (pam_cons (pem_var 1 (pv 1)) (pam_nil))) rfl)) (psm_cons (psm_set (i := 4) sc__law_free_text.nd rfl (Or.inl rfl) (pem_callFD D__law_sequence hct hr tk rfl (pamf_cons (pem_ix (pem_var 2 (pv 2)) (pem_int)) (pamf_cons (pem_var 3 (pv 3)) (pamf_one (pem_lst (pam_cons (pem_ix (pem_var 2 (pv 2)) (pem_int)) (pam_nil)))))) rfl)) (psm_cons (psm_set (i := 4) sc__law_free_text.nd rfl (Or.inl rfl) (pem_op o_add g_add (pem_op o_add g_add (pem_op o_mul g_mul (pem_lst (pam_cons (pem_str) (pam_nil))) (pem_ix (pem_var 2 (pv 2)) (pem_int))) (pem_var 4 (pv 4))) (pem_op o_mul g_mul (pem_lst (pam_cons (pem_str) (pam_nil))) (pem_ix (pem_var 2 (pv 2)) (pem_int))))) (psm_one (psm_ret (pem_callD D__law_joined hct hr tk rfl (pam_cons (pem_var 4 (pv 4)) (pam_cons (pem_var 3 (pv 3)) (pam_nil))) rfl))))))
/-! _law_read -/
theorem sc__law_read : FnScope ["_law_text_here"] ["_law_text_here"] (defScope s__law_read) := ⟨rfl, rfl, rfl, by decide +kernel, rfl, by decide +kernel, by decide +kernel⟩
def body__law_read (m_read_block : List W → FR) : Rho → ML.R Fl := mThru (mRet [] (mCall [] [] m_read_block [mVar 0]))
def fun__law_read (m_read_block : List W → FR) : List W → FR := mFun [] 1 (body__law_read m_read_block)
theorem def__law_read (T : Txt w K mg) {m_read_block : List W → FR} (D_read_block : Def P w K mg base ct k "read_block" ["text"] [] m_read_block) : Def P w K mg base ct (k + 1) "_law_read" ["_law_text_here"] [] (fun__law_read m_read_block) :=
  def_mk (N := ["_law_text_here"]) (g := body__law_read m_read_block) T.s__law_read sc__law_read (by decide) (fun _ _ _ _ _ _ us hl => match us, hl with | [_], _ => rfl) fun f cdv A outer s H E Y hr hct tk =>
    (psm_one (psm_thru fun Yt hYt wYt => (psm_one (psm_ret (pem_callD D_read_block (hYt.trans hct) hr (takesF wYt) rfl (pam_cons (pem_var 0 (pv 0)) (pam_nil)) rfl)))))
/-! law -/
theorem sc_law : FnScope ["_law_script", "_law_built_here", "_law_block", "_law_one", "_law_two", "_law_first", "_law_written"] ["_law_script"] (defScope s_law) := ⟨rfl, rfl, rfl, by decide +kernel, rfl, by decide +kernel, by decide +kernel⟩
def body_law (m__law_built : List W → FR) (m__law_free_text : List W → FR) (m__law_read : List W → FR) (m__law_same : List W → FR) (m_write_block : List W → FR) (m__law_text : List W → FR) : Rho → ML.R Fl := mSeq (mSet [] 1 (mCall [] [] m__law_built [mVar 0])) (mSeq (mSet [] 2 (mOp gIx (mVar 1) (mC (.int 0)))) (mSeq (mSet [] 3 (mOp gIx (mCall [] [] m__law_free_text [mVar 0, mC (.int 3), mVar 1]) (mC (.int 0)))) (mSeq (mSet [] 4 (mOp gIx (mCall [] [] m__law_free_text [mVar 0, mC (.int 6), mLst [] [mVar 2, mC (.int 2), mC (.int 0)]]) (mC (.int 0)))) (mSeq (mSet [] 5 (mCall [] [] m__law_read [mVar 3])) (mSeq (mIf (mOr (mNot (mTest (mCall [] [] m__law_same [mVar 5, mVar 2]))) (mNot (mTest (mCall [] [] m__law_same [mCall [] [] m__law_read [mVar 4], mVar 2])))) (mRet [] (mC (.bl false))) (mNext)) (mSeq (mSet [] 6 (mCall [] [] m_write_block [mVar 5])) (mSeq (mIf (mOr (mNot (mTest (mCB gIsi [mVar 6, mC (.ty "str")]))) (mTest (mOp gNe (mVar 6) (mCall [] [] m__law_text [mVar 2])))) (mRet [] (mC (.bl false))) (mNext)) (mRet [] (mAndV (mCall [] [] m__law_same [mCall [] [] m__law_read [mVar 6], mVar 2]) (mCall [] [] m__law_same [mCall [] [] m__law_read [mVar 3], mVar 2]))))))))))
def fun_law (m__law_built : List W → FR) (m__law_free_text : List W → FR) (m__law_read : List W → FR) (m__law_same : List W → FR) (m_write_block : List W → FR) (m__law_text : List W → FR) : List W → FR := mFun [] 7 (body_law m__law_built m__law_free_text m__law_read m__law_same m_write_block m__law_text)
theorem def_law (T : Txt w K mg) {m__law_built : List W → FR} (D__law_built : Def P w K mg base ct k "_law_built" ["_law_script"] [] m__law_built) {m__law_free_text : List W → FR} (D__law_free_text : Def P w K mg base ct k "_law_free_text" ["_law_script", "_law_first", "_law_built_here"] [] m__law_free_text) {m__law_read : List W → FR} (D__law_read : Def P w K mg base ct k "_law_read" ["_law_text_here"] [] m__law_read) {m__law_same : List W → FR} (D__law_same : Def P w K mg base ct k "_law_same" ["_law_actual", "_law_due"] [] m__law_same) {m_write_block : List W → FR} (D_write_block : Def P w K mg base ct k "write_block" ["block"] [] m_write_block) {m__law_text : List W → FR} (D__law_text : Def P w K mg base ct k "_law_text" ["_law_node"] [] m__law_text) : Def P w K mg base ct (k + 1) "law" ["_law_script"] [] (fun_law m__law_built m__law_free_text m__law_read m__law_same m_write_block m__law_text) :=
  def_mk (N := ["_law_script", "_law_built_here", "_law_block", "_law_one", "_law_two", "_law_first", "_law_written"]) (g := body_law m__law_built m__law_free_text m__law_read m__law_same m_write_block m__law_text) T.s_law sc_law (by decide) (fun _ _ _ _ _ _ us hl => match us, hl with | [_], _ => rfl) fun f cdv A outer s H E Y hr hct tk =>
    (psm_cons (psm_set (i := 1) sc_law.nd rfl (Or.inl rfl) (pem_callD D__law_built hct hr tk rfl (pam_cons (pem_var 0 (pv 0)) (pam_nil)) rfl)) (psm_cons (psm_set (i := 2) sc_law.nd rfl (Or.inl rfl) (pem_ix (pem_var 1 (pv 1)) (pem_int))) (psm_cons (psm_set (i := 3) sc_law.nd rfl (Or.inl rfl) (pem_ix (pem_callD D__law_free_text hct hr tk rfl (pam_cons (pem_var 0 (pv 0)) (pam_cons (pem_int) (pam_cons (pem_var 1 (pv 1)) (pam_nil)))) rfl) (pem_int))) (psm_cons (psm_set (i := 4) sc_law.nd rfl (Or.inl rfl) (pem_ix (pem_callD D__law_free_text hct hr tk rfl (pam_cons (pem_var 0 (pv 0)) (pam_cons (pem_int) (pam_cons (pem_lst (pam_cons (pem_var 2 (pv 2)) (pam_cons (pem_int) (pam_cons (pem_int) (pam_nil))))) (pam_nil)))) rfl) (pem_int))) (psm_cons (psm_set (i := 5) sc_law.nd rfl (Or.inl rfl) (pem_callD D__law_read hct hr tk rfl (pam_cons (pem_var 3 (pv 3)) (pam_nil)) rfl)) (psm_cons (psm_if (PW.pt (pwm_or (ptm_not (ptm_val (pem_callD D__law_same hct hr tk rfl (pam_cons (pem_var 5 (pv 5)) (pam_cons (pem_var 2 (pv 2)) (pam_nil))) rfl))) (pwm_or1 (ptm_not (ptm_val (pem_callD D__law_same hct hr tk rfl (pam_cons (pem_callD D__law_read hct hr tk rfl (pam_cons (pem_var 4 (pv 4)) (pam_nil)) rfl) (pam_cons (pem_var 2 (pv 2)) (pam_nil))) rfl)))))) (psm_one (psm_ret (pem_bl))) (psm_nil)) (psm_cons (psm_set (i := 6) sc_law.nd rfl (Or.inl rfl) (pem_callD D_write_block hct hr tk rfl (pam_cons (pem_var 5 (pv 5)) (pam_nil)) rfl)) (psm_cons (psm_if (PW.pt (pwm_or (ptm_not (ptm_val (pem_callB (c_isi) rfl T.b_isinstance (by rfl) g_isi (pam_cons (pem_var 6 (pv 6)) (pam_cons (pem_ty rfl T.b_str (by rfl)) (pam_nil)))))) (pwm_or1 (ptm_cmp (o_ne (hu200 hr)) g_ne (pem_var 6 (pv 6)) (pem_callD D__law_text hct hr tk rfl (pam_cons (pem_var 2 (pv 2)) (pam_nil)) rfl) (nomark _))))) (psm_one (psm_ret (pem_bl))) (psm_nil)) (psm_one (psm_ret (pem_and (pem_callD D__law_same hct hr tk rfl (pam_cons (pem_callD D__law_read hct hr tk rfl (pam_cons (pem_var 6 (pv 6)) (pam_nil)) rfl) (pam_cons (pem_var 2 (pv 2)) (pam_nil))) rfl) (pem_one (pem_callD D__law_same hct hr tk rfl (pam_cons (pem_callD D__law_read hct hr tk rfl (pam_cons (pem_var 3 (pv 3)) (pam_nil)) rfl) (pam_cons (pem_var 2 (pv 2)) (pam_nil))) rfl)))))))))))))
end
end K06

namespace K06
open PySem PySem.Spec PyProof.Rows L2 ML
@[simp] theorem lit0 : Str.ofString "heardsaid.errors" = S [104, 101, 97, 114, 100, 115, 97, 105, 100, 46, 101, 114, 114, 111, 114, 115] := by decide +kernel
@[simp] theorem lit1 : Str.ofString "heardsaid.freezing" = S [104, 101, 97, 114, 100, 115, 97, 105, 100, 46, 102, 114, 101, 101, 122, 105, 110, 103] := by decide +kernel
@[simp] theorem lit2 : Str.ofString "heardsaid.signatures" = S [104, 101, 97, 114, 100, 115, 97, 105, 100, 46, 115, 105, 103, 110, 97, 116, 117, 114, 101, 115] := by decide +kernel
@[simp] theorem lit3 : Str.ofString "abcdefghijklmnopqrstuvwxyz" = S [97, 98, 99, 100, 101, 102, 103, 104, 105, 106, 107, 108, 109, 110, 111, 112, 113, 114, 115, 116, 117, 118, 119, 120, 121, 122] := by decide +kernel
@[simp] theorem lit4 : Str.ofString "0123456789" = S [48, 49, 50, 51, 52, 53, 54, 55, 56, 57] := by decide +kernel
@[simp] theorem lit5 : Str.ofString "heardsaid.tokens" = S [104, 101, 97, 114, 100, 115, 97, 105, 100, 46, 116, 111, 107, 101, 110, 115] := by decide +kernel
@[simp] theorem lit6 : Str.ofString "NAME" = S [78, 65, 77, 69] := by decide +kernel
@[simp] theorem lit7 : Str.ofString "NUMBER" = S [78, 85, 77, 66, 69, 82] := by decide +kernel
@[simp] theorem lit8 : Str.ofString "BAD" = S [66, 65, 68] := by decide +kernel
@[simp] theorem lit9 : Str.ofString "END" = S [69, 78, 68] := by decide +kernel
@[simp] theorem lit10 : Str.ofString "heardsaid.reading" = S [104, 101, 97, 114, 100, 115, 97, 105, 100, 46, 114, 101, 97, 100, 105, 110, 103] := by decide +kernel
@[simp] theorem lit11 : Str.ofString "heardsaid.blocks" = S [104, 101, 97, 114, 100, 115, 97, 105, 100, 46, 98, 108, 111, 99, 107, 115] := by decide +kernel
@[simp] theorem lit12 : Str.ofString "heardsaid.writing" = S [104, 101, 97, 114, 100, 115, 97, 105, 100, 46, 119, 114, 105, 116, 105, 110, 103] := by decide +kernel
@[simp] theorem lit13 : Str.ofString "law_heardsaid_k06_read_freely" = S [108, 97, 119, 95, 104, 101, 97, 114, 100, 115, 97, 105, 100, 95, 107, 48, 54, 95, 114, 101, 97, 100, 95, 102, 114, 101, 101, 108, 121] := by decide +kernel
@[simp] theorem lit14 : Str.ofString "skip" = S [115, 107, 105, 112] := by decide +kernel
@[simp] theorem lit15 : Str.ofString "quit" = S [113, 117, 105, 116] := by decide +kernel
@[simp] theorem lit16 : Str.ofString "if" = S [105, 102] := by decide +kernel
@[simp] theorem lit17 : Str.ofString "then" = S [116, 104, 101, 110] := by decide +kernel
@[simp] theorem lit18 : Str.ofString "else" = S [101, 108, 115, 101] := by decide +kernel
@[simp] theorem lit19 : Str.ofString "fi" = S [102, 105] := by decide +kernel
@[simp] theorem lit20 : Str.ofString "while" = S [119, 104, 105, 108, 101] := by decide +kernel
@[simp] theorem lit21 : Str.ofString "do" = S [100, 111] := by decide +kernel
@[simp] theorem lit22 : Str.ofString "od" = S [111, 100] := by decide +kernel
@[simp] theorem lit23 : Str.ofString "new" = S [110, 101, 119] := by decide +kernel
@[simp] theorem lit24 : Str.ofString "in" = S [105, 110] := by decide +kernel
@[simp] theorem lit25 : Str.ofString "end" = S [101, 110, 100] := by decide +kernel
@[simp] theorem lit26 : Str.ofString "let" = S [108, 101, 116] := by decide +kernel
@[simp] theorem lit27 : Str.ofString "be" = S [98, 101] := by decide +kernel
@[simp] theorem lit28 : Str.ofString "command" = S [99, 111, 109, 109, 97, 110, 100] := by decide +kernel
@[simp] theorem lit29 : Str.ofString "number" = S [110, 117, 109, 98, 101, 114] := by decide +kernel
@[simp] theorem lit30 : Str.ofString ":=" = S [58, 61] := by decide +kernel
@[simp] theorem lit31 : Str.ofString ";" = S [59] := by decide +kernel
@[simp] theorem lit32 : Str.ofString "," = S [44] := by decide +kernel
@[simp] theorem lit33 : Str.ofString "(" = S [40] := by decide +kernel
@[simp] theorem lit34 : Str.ofString ")" = S [41] := by decide +kernel
@[simp] theorem lit35 : Str.ofString "+" = S [43] := by decide +kernel
@[simp] theorem lit36 : Str.ofString "=" = S [61] := by decide +kernel
@[simp] theorem lit37 : Str.ofString "<" = S [60] := by decide +kernel
@[simp] theorem lit38 : Str.ofString "[]" = S [91, 93] := by decide +kernel
@[simp] theorem lit39 : Str.ofString " " = S [32] := by decide +kernel
@[simp] theorem lit40 : Str.ofString "\n" = S [10] := by decide +kernel
@[simp] theorem lit41 : Str.ofString "plus" = S [112, 108, 117, 115] := by decide +kernel
@[simp] theorem lit42 : Str.ofString "equal" = S [101, 113, 117, 97, 108] := by decide +kernel
@[simp] theorem lit43 : Str.ofString "less" = S [108, 101, 115, 115] := by decide +kernel
@[simp] theorem lit44 : Str.ofString "get" = S [103, 101, 116] := by decide +kernel
@[simp] theorem lit45 : Str.ofString "hole" = S [104, 111, 108, 101] := by decide +kernel
@[simp] theorem lit46 : Str.ofString " + " = S [32, 43, 32] := by decide +kernel
@[simp] theorem lit47 : Str.ofString " = " = S [32, 61, 32] := by decide +kernel
@[simp] theorem lit48 : Str.ofString " < " = S [32, 60, 32] := by decide +kernel
@[simp] theorem lit49 : Str.ofString "" = S [] := by decide +kernel
@[simp] theorem lit50 : Str.ofString "abcdefghijklmnopqrstuvwxyz0123456789" = S [97, 98, 99, 100, 101, 102, 103, 104, 105, 106, 107, 108, 109, 110, 111, 112, 113, 114, 115, 116, 117, 118, 119, 120, 121, 122, 48, 49, 50, 51, 52, 53, 54, 55, 56, 57] := by decide +kernel
@[simp] theorem lit51 : Str.ofString "call" = S [99, 97, 108, 108] := by decide +kernel
@[simp] theorem lit52 : Str.ofString "set" = S [115, 101, 116] := by decide +kernel
@[simp] theorem lit53 : Str.ofString ") be " = S [41, 32, 98, 101, 32] := by decide +kernel
@[simp] theorem lit54 : Str.ofString " end" = S [32, 101, 110, 100] := by decide +kernel
@[simp] theorem lit55 : Str.ofString "n0" = S [110, 48] := by decide +kernel
@[simp] theorem lit56 : Str.ofString "n1" = S [110, 49] := by decide +kernel
@[simp] theorem lit57 : Str.ofString "n2" = S [110, 50] := by decide +kernel
@[simp] theorem lit58 : Str.ofString "n3" = S [110, 51] := by decide +kernel
@[simp] theorem lit59 : Str.ofString "n10" = S [110, 49, 48] := by decide +kernel
@[simp] theorem lit60 : Str.ofString "n01" = S [110, 48, 49] := by decide +kernel
@[simp] theorem lit61 : Str.ofString "n" = S [110] := by decide +kernel
@[simp] theorem lit62 : Str.ofString "x" = S [120] := by decide +kernel
@[simp] theorem lit63 : Str.ofString "iff" = S [105, 102, 102] := by decide +kernel
@[simp] theorem lit64 : Str.ofString "do1" = S [100, 111, 49] := by decide +kernel
@[simp] theorem lit65 : Str.ofString "inner" = S [105, 110, 110, 101, 114] := by decide +kernel
@[simp] theorem lit66 : Str.ofString "new2" = S [110, 101, 119, 50] := by decide +kernel
@[simp] theorem lit67 : Str.ofString "lets" = S [108, 101, 116, 115] := by decide +kernel
@[simp] theorem lit68 : Str.ofString "number1" = S [110, 117, 109, 98, 101, 114, 49] := by decide +kernel
@[simp] theorem lit69 : Str.ofString "0" = S [48] := by decide +kernel
@[simp] theorem lit70 : Str.ofString ", " = S [44, 32] := by decide +kernel
@[simp] theorem lit71 : Str.ofString " fi" = S [32, 102, 105] := by decide +kernel
@[simp] theorem lit72 : Str.ofString " od" = S [32, 111, 100] := by decide +kernel
@[simp] theorem lit73 : Str.ofString "commands" = S [99, 111, 109, 109, 97, 110, 100, 115] := by decide +kernel
@[simp] theorem lit74 : Str.ofString "p" = S [112] := by decide +kernel
@[simp] theorem lit75 : Str.ofString " in " = S [32, 105, 110, 32] := by decide +kernel
@[simp] theorem lit76 : Str.ofString " := " = S [32, 58, 61, 32] := by decide +kernel
@[simp] theorem lit77 : Str.ofString "; " = S [59, 32] := by decide +kernel
@[simp] theorem lit78 : Str.ofString "let " = S [108, 101, 116, 32] := by decide +kernel
@[simp] theorem lit79 : Str.ofString " else " = S [32, 101, 108, 115, 101, 32] := by decide +kernel
@[simp] theorem lit80 : Str.ofString " do " = S [32, 100, 111, 32] := by decide +kernel
@[simp] theorem lit81 : Str.ofString "new " = S [110, 101, 119, 32] := by decide +kernel
@[simp] theorem lit82 : Str.ofString "  " = S [32, 32] := by decide +kernel
@[simp] theorem lit83 : Str.ofString "\n " = S [10, 32] := by decide +kernel
@[simp] theorem lit84 : Str.ofString "while " = S [119, 104, 105, 108, 101, 32] := by decide +kernel
@[simp] theorem lit85 : Str.ofString " then " = S [32, 116, 104, 101, 110, 32] := by decide +kernel
@[simp] theorem lit86 : Str.ofString "if " = S [105, 102, 32] := by decide +kernel
@[simp] theorem in_w_RESERVED (neg : Bool) (x : List Nat) : gIn neg (.str (S x)) w_RESERVED = some (.val, .bl (if neg then !decide (x ∈ ([[115, 107, 105, 112], [113, 117, 105, 116], [105, 102], [116, 104, 101, 110], [101, 108, 115, 101], [102, 105], [119, 104, 105, 108, 101], [100, 111], [111, 100], [110, 101, 119], [105, 110], [101, 110, 100], [108, 101, 116], [98, 101], [99, 111, 109, 109, 97, 110, 100], [110, 117, 109, 98, 101, 114]] : List (List Nat))) else decide (x ∈ ([[115, 107, 105, 112], [113, 117, 105, 116], [105, 102], [116, 104, 101, 110], [101, 108, 115, 101], [102, 105], [119, 104, 105, 108, 101], [100, 111], [111, 100], [110, 101, 119], [105, 110], [101, 110, 100], [108, 101, 116], [98, 101], [99, 111, 109, 109, 97, 110, 100], [110, 117, 109, 98, 101, 114]] : List (List Nat))))) := in_ST neg x _ _ (by simp) (by simp)
@[simp] theorem in_w_SYMBOLS (neg : Bool) (x : List Nat) : gIn neg (.str (S x)) w_SYMBOLS = some (.val, .bl (if neg then !decide (x ∈ ([[58, 61], [59], [44], [40], [41], [43], [61], [60], [91, 93]] : List (List Nat))) else decide (x ∈ ([[58, 61], [59], [44], [40], [41], [43], [61], [60], [91, 93]] : List (List Nat))))) := in_ST neg x _ _ (by simp) (by simp)
@[simp] theorem in_w_SPACES (neg : Bool) (x : List Nat) : gIn neg (.str (S x)) w_SPACES = some (.val, .bl (if neg then !decide (x ∈ ([[32], [10]] : List (List Nat))) else decide (x ∈ ([[32], [10]] : List (List Nat))))) := in_ST neg x _ _ (by simp) (by simp)
@[simp] theorem in_w_KINDS (neg : Bool) (x : List Nat) : gIn neg (.str (S x)) w_KINDS = some (.val, .bl (if neg then !decide (x ∈ ([[99, 111, 109, 109, 97, 110, 100], [110, 117, 109, 98, 101, 114]] : List (List Nat))) else decide (x ∈ ([[99, 111, 109, 109, 97, 110, 100], [110, 117, 109, 98, 101, 114]] : List (List Nat))))) := in_ST neg x _ _ (by simp) (by simp)
@[simp] theorem in_w_LEAVES_blocks (neg : Bool) (x : List Nat) : gIn neg (.str (S x)) w_LEAVES_blocks = some (.val, .bl (if neg then !decide (x ∈ ([[115, 107, 105, 112], [113, 117, 105, 116], [110, 117, 109, 98, 101, 114], [103, 101, 116], [104, 111, 108, 101]] : List (List Nat))) else decide (x ∈ ([[115, 107, 105, 112], [113, 117, 105, 116], [110, 117, 109, 98, 101, 114], [103, 101, 116], [104, 111, 108, 101]] : List (List Nat))))) := in_ST neg x _ _ (by simp) (by simp)
@[simp] theorem in_t1 (neg : Bool) (x a0 : List Nat) : gIn neg (.str (S x)) (.tup [.str (S a0)]) = some (.val, .bl (if neg then !decide (x ∈ [a0]) else decide (x ∈ [a0]))) := in_ST neg x [a0] _ rfl (by simp)
@[simp] theorem in_t2 (neg : Bool) (x a0 a1 : List Nat) : gIn neg (.str (S x)) (.tup [.str (S a0), .str (S a1)]) = some (.val, .bl (if neg then !decide (x ∈ [a0, a1]) else decide (x ∈ [a0, a1]))) := in_ST neg x [a0, a1] _ rfl (by simp)
@[simp] theorem in_t3 (neg : Bool) (x a0 a1 a2 : List Nat) : gIn neg (.str (S x)) (.tup [.str (S a0), .str (S a1), .str (S a2)]) = some (.val, .bl (if neg then !decide (x ∈ [a0, a1, a2]) else decide (x ∈ [a0, a1, a2]))) := in_ST neg x [a0, a1, a2] _ rfl (by simp)
@[simp] theorem in_t4 (neg : Bool) (x a0 a1 a2 a3 : List Nat) : gIn neg (.str (S x)) (.tup [.str (S a0), .str (S a1), .str (S a2), .str (S a3)]) = some (.val, .bl (if neg then !decide (x ∈ [a0, a1, a2, a3]) else decide (x ∈ [a0, a1, a2, a3]))) := in_ST neg x [a0, a1, a2, a3] _ rfl (by simp)
@[simp] theorem in_t5 (neg : Bool) (x a0 a1 a2 a3 a4 : List Nat) : gIn neg (.str (S x)) (.tup [.str (S a0), .str (S a1), .str (S a2), .str (S a3), .str (S a4)]) = some (.val, .bl (if neg then !decide (x ∈ [a0, a1, a2, a3, a4]) else decide (x ∈ [a0, a1, a2, a3, a4]))) := in_ST neg x [a0, a1, a2, a3, a4] _ rfl (by simp)
@[simp] theorem in_t6 (neg : Bool) (x a0 a1 a2 a3 a4 a5 : List Nat) : gIn neg (.str (S x)) (.tup [.str (S a0), .str (S a1), .str (S a2), .str (S a3), .str (S a4), .str (S a5)]) = some (.val, .bl (if neg then !decide (x ∈ [a0, a1, a2, a3, a4, a5]) else decide (x ∈ [a0, a1, a2, a3, a4, a5]))) := in_ST neg x [a0, a1, a2, a3, a4, a5] _ rfl (by simp)
@[simp] theorem in_t7 (neg : Bool) (x a0 a1 a2 a3 a4 a5 a6 : List Nat) : gIn neg (.str (S x)) (.tup [.str (S a0), .str (S a1), .str (S a2), .str (S a3), .str (S a4), .str (S a5), .str (S a6)]) = some (.val, .bl (if neg then !decide (x ∈ [a0, a1, a2, a3, a4, a5, a6]) else decide (x ∈ [a0, a1, a2, a3, a4, a5, a6]))) := in_ST neg x [a0, a1, a2, a3, a4, a5, a6] _ rfl (by simp)
@[simp] theorem in_t8 (neg : Bool) (x a0 a1 a2 a3 a4 a5 a6 a7 : List Nat) : gIn neg (.str (S x)) (.tup [.str (S a0), .str (S a1), .str (S a2), .str (S a3), .str (S a4), .str (S a5), .str (S a6), .str (S a7)]) = some (.val, .bl (if neg then !decide (x ∈ [a0, a1, a2, a3, a4, a5, a6, a7]) else decide (x ∈ [a0, a1, a2, a3, a4, a5, a6, a7]))) := in_ST neg x [a0, a1, a2, a3, a4, a5, a6, a7] _ rfl (by simp)
end K06

namespace K06
open PySem PySem.Spec PyProof.Rows L2 ML
/-! ### blocks and their texts: a text is a list of pieces -/
abbrev A : Type := List Nat
def hd : W → A
  | .tup (.str s :: _) => s.cps.toList
  | _ => []
def grp (b : W) (p : List A) : List A := if hd b = [116, 104, 101, 110] then [[40]] ++ p ++ [[41]] else p
def commas : List (List A) → List A
  | [] => []
  | [p] => p
  | p :: q :: r => p ++ ([[44], [32]] ++ commas (q :: r))
def kd (b : Bool) : A := if b then [110, 117, 109, 98, 101, 114] else [99, 111, 109, 109, 97, 110, 100]
def prmW (x : A × Bool) : W := .tup [.str (S x.1), .str (S (kd x.2))]
def prmP (x : A × Bool) : List A := [x.1, [32], kd x.2]
def sgn : Nat → A
  | 0 => [43]
  | 1 => [61]
  | _ => [60]
def sgw : Nat → A
  | 0 => [112, 108, 117, 115]
  | 1 => [101, 113, 117, 97, 108]
  | _ => [108, 101, 115, 115]
def lowC (c : Nat) : Bool := decide (97 ≤ c) && decide (c ≤ 122)
def digC (c : Nat) : Bool := decide (48 ≤ c) && decide (c ≤ 57)
def resv : List A := [[115, 107, 105, 112], [113, 117, 105, 116], [105, 102], [116, 104, 101, 110], [101, 108, 115, 101], [102, 105], [119, 104, 105, 108, 101], [100, 111], [111, 100], [110, 101, 119], [105, 110], [101, 110, 100], [108, 101, 116], [98, 101], [99, 111, 109, 109, 97, 110, 100], [110, 117, 109, 98, 101, 114]]
structure IsName (x : A) : Prop where
  pos : 1 ≤ x.length
  len : x.length ≤ 8
  nres : x ∉ resv
  hd : ∃ c r, x = c :: r ∧ lowC c = true
  all : ∀ c ∈ x, lowC c = true ∨ digC c = true
inductive WrS (R : W → List A → Prop) : W → List A → Prop
  | skip : WrS R (.tup [.str (S [115, 107, 105, 112])]) [[115, 107, 105, 112]]
  | quit : WrS R (.tup [.str (S [113, 117, 105, 116])]) [[113, 117, 105, 116]]
  | hole : WrS R (.tup [.str (S [104, 111, 108, 101])]) [[91, 93]]
  | num (n : Nat) : n < 1000 → WrS R (.tup [.str (S [110, 117, 109, 98, 101, 114]), .int n]) [TL.numL n]
  | get (x : A) : IsName x → WrS R (.tup [.str (S [103, 101, 116]), .str (S x)]) [x]
  | call (x : A) (bs : List W) (ps : List (List A)) : IsName x → bs.length ≤ 100 → All2 R bs ps → WrS R (.tup [.str (S [99, 97, 108, 108]), .str (S x), .tup bs]) ([x, [40]] ++ commas ps ++ [[41]])
  | set (x : A) (b : W) (p : List A) : IsName x → R b p → WrS R (.tup [.str (S [115, 101, 116]), .str (S x), b]) ([x, [32], [58, 61], [32]] ++ grp b p)
  | seq (b c : W) (p q : List A) : R b p → R c q → WrS R (.tup [.str (S [116, 104, 101, 110]), b, c]) (grp b p ++ [[59], [32]] ++ q)
  | new (x : A) (n : Nat) (b : W) (p : List A) : IsName x → n < 1000 → R b p → WrS R (.tup [.str (S [110, 101, 119]), .str (S x), .int n, b]) ([[110, 101, 119], [32], x, [32], [58, 61], [32], TL.numL n, [32], [105, 110], [32]] ++ p ++ [[32], [101, 110, 100]])
  | lett (x : A) (ms : List (A × Bool)) (b c : W) (p q : List A) : IsName x → ms.length ≤ 100 → (∀ m ∈ ms, IsName m.1) → R b p → R c q → WrS R (.tup [.str (S [108, 101, 116]), .str (S x), .tup (ms.map prmW), b, c]) ([[108, 101, 116], [32], x, [40]] ++ commas (ms.map prmP) ++ [[41], [32], [98, 101], [32]] ++ p ++ [[32], [105, 110], [32]] ++ q ++ [[32], [101, 110, 100]])
  | iff (a b c : W) (p q r : List A) : R a p → R b q → R c r → WrS R (.tup [.str (S [105, 102]), a, b, c]) ([[105, 102], [32]] ++ p ++ [[32], [116, 104, 101, 110], [32]] ++ q ++ [[32], [101, 108, 115, 101], [32]] ++ r ++ [[32], [102, 105]])
  | loop (a b : W) (p q : List A) : R a p → R b q → WrS R (.tup [.str (S [119, 104, 105, 108, 101]), a, b]) ([[119, 104, 105, 108, 101], [32]] ++ p ++ [[32], [100, 111], [32]] ++ q ++ [[32], [111, 100]])
  | op (k : Nat) (a b : W) (p q : List A) : k < 3 → R a p → R b q → WrS R (.tup [.str (S (sgw k)), a, b]) ([[40]] ++ p ++ [[32], sgn k, [32]] ++ q ++ [[41]])
def Wr : Nat → W → List A → Prop
  | 0 => fun _ _ => False
  | d + 1 => WrS (Wr d)
theorem WrS.shape {R : W → List A → Prop} {b : W} {p : List A} (h : WrS R b p) : ∃ t l, b = .tup (.str (S t) :: l) ∧ hd b = t := by
  cases h <;> exact ⟨_, _, rfl, rfl⟩
theorem Wr.shape : ∀ {d : Nat} {b : W} {p : List A}, Wr d b p → ∃ t l, b = .tup (.str (S t) :: l) ∧ hd b = t
  | 0, _, _, h => h.elim
  | d + 1, _, _, h => WrS.shape h
theorem joinL_commas : ∀ ps : List (List A), TL.joinL [44, 32] (ps.map List.flatten) = (commas ps).flatten
  | [] => rfl
  | [p] => rfl
  | p :: q :: r => by
    have ih := joinL_commas (q :: r)
    show p.flatten ++ ([44, 32] ++ TL.joinL [44, 32] ((q :: r).map List.flatten)) = (p ++ ([[44], [32]] ++ commas (q :: r))).flatten
    rw [ih]
    simp
def tl (p : List A) : Nat := (p.map List.length).sum
@[simp] theorem tl_app (p q : List A) : tl (p ++ q) = tl p + tl q := by simp [tl]
@[simp] theorem tl_cons (x : A) (q : List A) : tl (x :: q) = x.length + tl q := by simp [tl]
@[simp] theorem tl_nil : tl [] = 0 := rfl
@[simp] theorem fl_len (p : List A) : p.flatten.length = tl p := by simp [tl]
@[simp] theorem tl_is (p : List A) : (p.map List.length).sum = tl p := rfl
def txR (m : List W → FR) (b : W) (p : List A) : Prop := tl p ≤ 16777216 → m [b] = .ok false (.str (S p.flatten)) []
theorem e_grouped {m : List W → FR} {b : W} {p : List A} {t : A} {l : List W} (hb : b = .tup (.str (S t) :: l)) (h : txR m b p) (hl : tl (grp b p) ≤ 16777216) : fun_grouped m [b] = .ok false (.str (S (grp b p).flatten)) [] := by
  subst hb
  unfold fun_grouped body_grouped
  unfold grp hd at hl ⊢
  unfold txR at h
  by_cases ht : t = [116, 104, 101, 110]
  · subst ht
    simp at hl
    simp -implicitDefEqProofs (disch := first | omega | (simp; done) | (simp <;> omega) | fail) [ev_var, ev_addSS, h (by omega)]
  · simp [ht] at hl
    simp -implicitDefEqProofs [ev_var, ht, h hl]
end K06

namespace K06
open PySem PySem.Spec PyProof.Rows L2 ML
@[simp] theorem tl_grp (b : W) (p : List A) : tl (grp b p) ≤ tl p + 2 := by
  unfold grp
  split <;> simp <;> omega
theorem tl_commas : ∀ ps : List (List A), tl (commas ps) = (ps.map tl).sum + 2 * (ps.length - 1)
  | [] => rfl
  | [p] => by simp [commas]
  | p :: q :: r => by
    have := tl_commas (q :: r)
    show tl (p ++ ([[44], [32]] ++ commas (q :: r))) = _
    rw [tl_app, tl_app, this]
    simp
    omega
theorem le_commas {ps : List (List A)} {p : List A} (h : p ∈ ps) : tl p ≤ tl (commas ps) := by
  have : tl p ≤ (ps.map tl).sum := by
    induction ps with
    | nil => cases h
    | cons q r ih =>
      rw [List.map_cons, List.sum_cons]
      cases h with
      | head => omega
      | tail _ h => have := ih h; omega
  rw [tl_commas]
  omega
theorem e_leaf_num {n : Nat} (h : n < 1000) : fun_text_of_leaf [.tup [.str (S [110, 117, 109, 98, 101, 114]), .int n]] = .ok false (.str (S (TL.numL n))) [] := by
  unfold fun_text_of_leaf body_text_of_leaf
  simp -implicitDefEqProofs [ev_var, ev_strI h]
theorem e_leaf_get (x : A) : fun_text_of_leaf [.tup [.str (S [103, 101, 116]), .str (S x)]] = .ok false (.str (S x)) [] := by
  unfold fun_text_of_leaf body_text_of_leaf
  simp -implicitDefEqProofs [ev_var]
theorem e_leaf_hole : fun_text_of_leaf [.tup [.str (S [104, 111, 108, 101])]] = .ok false (.str (S [91, 93])) [] := by
  unfold fun_text_of_leaf body_text_of_leaf
  simp -implicitDefEqProofs [ev_var]
theorem e_leaf_skip : fun_text_of_leaf [.tup [.str (S [115, 107, 105, 112])]] = .ok false (.str (S [115, 107, 105, 112])) [] := by
  unfold fun_text_of_leaf body_text_of_leaf
  simp -implicitDefEqProofs [ev_var]
theorem e_leaf_quit : fun_text_of_leaf [.tup [.str (S [113, 117, 105, 116])]] = .ok false (.str (S [113, 117, 105, 116])) [] := by
  unfold fun_text_of_leaf body_text_of_leaf
  simp -implicitDefEqProofs [ev_var]
section
variable {g m n : List W → FR} {R : W → List A → Prop}
theorem e_text_set {x : A} {b : W} {p : List A} (hg : g [b] = .ok false (.str (S p.flatten)) []) (hl : x.length + 4 + tl p ≤ 16777216) : fun_text_of g m n fun_parts_of fun_text_of_leaf [.tup [.str (S [115, 101, 116]), .str (S x), b]] = .ok false (.str (S ([x, [32], [58, 61], [32]] ++ p).flatten)) [] := by
  unfold fun_text_of body_text_of
  simp -implicitDefEqProofs (disch := first | omega | (simp; done) | (simp <;> omega) | fail) [ev_var, ev_addSS, hg]
theorem e_text_seq {b c : W} {p q : List A} (hg : g [b] = .ok false (.str (S p.flatten)) []) (hm : m [c] = .ok false (.str (S q.flatten)) []) (hl : tl p + 2 + tl q ≤ 16777216) : fun_text_of g m n fun_parts_of fun_text_of_leaf [.tup [.str (S [116, 104, 101, 110]), b, c]] = .ok false (.str (S (p ++ [[59], [32]] ++ q).flatten)) [] := by
  unfold fun_text_of body_text_of
  simp -implicitDefEqProofs (disch := first | omega | (simp; done) | (simp <;> omega) | fail) [ev_var, ev_addSS, hg, hm]
theorem e_text_new {x : A} {b : W} {k : Int} {r : W} (hn : n [.tup [.str (S [110, 101, 119]), .str (S x), .int k, b]] = .ok false r []) : fun_text_of g m n fun_parts_of fun_text_of_leaf [.tup [.str (S [110, 101, 119]), .str (S x), .int k, b]] = .ok false r [] := by
  unfold fun_text_of body_text_of
  simp -implicitDefEqProofs [ev_var, hn]
theorem e_text_let {x : A} {b c : W} {k : W} {r : W} (hn : n [.tup [.str (S [108, 101, 116]), .str (S x), k, b, c]] = .ok false r []) : fun_text_of g m n fun_parts_of fun_text_of_leaf [.tup [.str (S [108, 101, 116]), .str (S x), k, b, c]] = .ok false r [] := by
  unfold fun_text_of body_text_of
  simp -implicitDefEqProofs [ev_var, hn]
theorem e_text_leaf {t : A} {l : List W} {r : W} (ht : t ∈ [[115, 107, 105, 112], [113, 117, 105, 116], [110, 117, 109, 98, 101, 114], [103, 101, 116], [104, 111, 108, 101]]) (h : fun_text_of_leaf [.tup (.str (S t) :: l)] = .ok false r []) : fun_text_of g m n fun_parts_of fun_text_of_leaf [.tup (.str (S t) :: l)] = .ok false r [] := by
  have hp : fun_parts_of [.tup (.str (S t) :: l)] = .ok false (.tup []) [] := by
    unfold fun_parts_of body_parts_of
    simp at ht
    simp -implicitDefEqProofs [ev_var, ht]
  have e : ∀ ρ : Rho, ρ = [Sl.val (W.tup (W.str (S t) :: l)), Sl.val (W.str (S t)), Sl.no, Sl.no] → mLc [] (mItems [] (mCall [] [] fun_parts_of [mVar 0])) (.nm 3) mYes (mCall [] [] m [mVar 3]) ρ = .ok (.fre, .lst []) ρ := fun ρ hρ => by
    rw [e_lc1 (bs := []) (zs := ([] : List W)) (g := id) .nil] <;> subst hρ <;> simp -implicitDefEqProofs [ev_var, hp]
  unfold fun_text_of body_text_of
  simp at ht
  rcases ht with rfl | rfl | rfl | rfl | rfl <;> simp -implicitDefEqProofs [ev_var, e, h]
end
end K06

namespace K06
open PySem PySem.Spec PyProof.Rows L2 ML
section
variable {g m n : List W → FR} {R : W → List A → Prop}
def rT (p : List A) : W := .str (S p.flatten)
theorem e_parts_call (x : A) (bs : List W) : fun_parts_of [.tup [.str (S [99, 97, 108, 108]), .str (S x), .tup bs]] = .ok false (.tup bs) [] := by
  unfold fun_parts_of body_parts_of
  simp -implicitDefEqProofs [ev_var]
theorem e_parts_if (a b c : W) : fun_parts_of [.tup [.str (S [105, 102]), a, b, c]] = .ok false (.tup [a, b, c]) [] := by
  unfold fun_parts_of body_parts_of
  simp -implicitDefEqProofs [ev_var]
theorem e_parts_while (a b : W) : fun_parts_of [.tup [.str (S [119, 104, 105, 108, 101]), a, b]] = .ok false (.tup [a, b]) [] := by
  unfold fun_parts_of body_parts_of
  simp -implicitDefEqProofs [ev_var]
theorem sgw_ne {k : Nat} (h : k < 3) : k = 0 ∨ k = 1 ∨ k = 2 := by omega
theorem e_parts_op {k : Nat} (h : k < 3) (a b : W) : fun_parts_of [.tup [.str (S (sgw k)), a, b]] = .ok false (.tup [a, b]) [] := by
  unfold fun_parts_of body_parts_of
  rcases sgw_ne h with rfl | rfl | rfl <;> simp -implicitDefEqProofs [ev_var, sgw]
theorem e_texts {w : W} {t : A} {bs : List W} {ps : List (List A)} (hp : fun_parts_of [w] = .ok false (.tup bs) []) (h : All2 (fun b p => m [b] = .ok false (rT p) []) bs ps) (hl : bs.length ≤ 100) :
    mLc [] (mItems [] (mCall [] [] fun_parts_of [mVar 0])) (.nm 3) mYes (mCall [] [] m [mVar 3]) [Sl.val w, Sl.val (W.str (S t)), Sl.no, Sl.no] = .ok (.fre, .lst (ps.map rT)) [Sl.val w, Sl.val (W.str (S t)), Sl.no, Sl.no] := by
  rw [e_lc1 (bs := bs) (zs := ps) (g := rT) h]
  · simp -implicitDefEqProofs [ev_var, hp]
  · simp
  · rfl
  · rw [line_is]; omega
theorem e_text_call {x : A} {bs : List W} {ps : List (List A)} (h : All2 (fun b p => m [b] = .ok false (rT p) []) bs ps) (hb : bs.length ≤ 100) (hl : x.length + 2 + tl (commas ps) ≤ 16777216) : fun_text_of g m n fun_parts_of fun_text_of_leaf [.tup [.str (S [99, 97, 108, 108]), .str (S x), .tup bs]] = .ok false (.str (S ([x, [40]] ++ commas ps ++ [[41]]).flatten)) [] := by
  have e := e_texts (m := m) (t := [99, 97, 108, 108]) (e_parts_call x bs) h hb
  have hj : gJoin (.str (S [44, 32])) (.lst (ps.map rT)) = some (.val, .str (S (commas ps).flatten)) := by
    rw [ev_joinS (l := ps.map List.flatten)]
    · rw [joinL_commas]
    · rw [ev_itl, List.map_map]; rfl
    · have hh := h.len
      have h2 := tl_commas ps
      have e3 : (ps.map List.flatten).map List.length = ps.map tl := by rw [List.map_map]; exact List.map_congr_left fun p _ => fl_len p
      rw [e3, List.length_map]
      simp
      omega
  unfold fun_text_of body_text_of
  simp -implicitDefEqProofs (disch := first | omega | (simp; done) | (simp <;> omega) | fail) [ev_var, ev_addSS, e, hj]
theorem e_text_if {a b c : W} {p q r : List A} (ha : m [a] = .ok false (rT p) []) (hb : m [b] = .ok false (rT q) []) (hc : m [c] = .ok false (rT r) []) (hl : tl p + tl q + tl r + 20 ≤ 16777216) : fun_text_of g m n fun_parts_of fun_text_of_leaf [.tup [.str (S [105, 102]), a, b, c]] = .ok false (.str (S ([[105, 102], [32]] ++ p ++ [[32], [116, 104, 101, 110], [32]] ++ q ++ [[32], [101, 108, 115, 101], [32]] ++ r ++ [[32], [102, 105]]).flatten)) [] := by
  have e := e_texts (m := m) (t := [105, 102]) (e_parts_if a b c) (.cons ha (.cons hb (.cons hc .nil))) (by simp)
  unfold fun_text_of body_text_of
  simp -implicitDefEqProofs (disch := first | omega | (simp; done) | (simp <;> omega) | fail) [ev_var, ev_addSS, e, rT]
theorem e_text_while {a b : W} {p q : List A} (ha : m [a] = .ok false (rT p) []) (hb : m [b] = .ok false (rT q) []) (hl : tl p + tl q + 20 ≤ 16777216) : fun_text_of g m n fun_parts_of fun_text_of_leaf [.tup [.str (S [119, 104, 105, 108, 101]), a, b]] = .ok false (.str (S ([[119, 104, 105, 108, 101], [32]] ++ p ++ [[32], [100, 111], [32]] ++ q ++ [[32], [111, 100]]).flatten)) [] := by
  have e := e_texts (m := m) (t := [119, 104, 105, 108, 101]) (e_parts_while a b) (.cons ha (.cons hb .nil)) (by simp)
  unfold fun_text_of body_text_of
  simp -implicitDefEqProofs (disch := first | omega | (simp; done) | (simp <;> omega) | fail) [ev_var, ev_addSS, e, rT]
theorem e_text_op {k : Nat} (hk : k < 3) {a b : W} {p q : List A} (ha : m [a] = .ok false (rT p) []) (hb : m [b] = .ok false (rT q) []) (hl : tl p + tl q + 20 ≤ 16777216) : fun_text_of g m n fun_parts_of fun_text_of_leaf [.tup [.str (S (sgw k)), a, b]] = .ok false (.str (S ([[40]] ++ p ++ [[32], sgn k, [32]] ++ q ++ [[41]]).flatten)) [] := by
  have e := fun t => e_texts (m := m) (t := t) (e_parts_op hk a b) (.cons ha (.cons hb .nil)) (by simp)
  unfold fun_text_of body_text_of
  rcases sgw_ne hk with rfl | rfl | rfl <;> simp [sgw] at e <;> simp -implicitDefEqProofs (disch := first | omega | (simp; done) | (simp <;> omega) | fail) [ev_var, ev_addSS, e, rT, sgw, sgn, lookW]
/-! let's parameters -/
theorem prm_texts (t : Sl) (w : W) : ∀ (ms : List (A × Bool)) (acc : List W) (r3 r4 : Sl), (∀ x ∈ ms, x.1.length ≤ 8) → acc.length + ms.length ≤ 1000 →
    compL [3, 4] (CT.put (.tp [3, 4])) mYes (mEl [] (mOp gAdd (mOp gAdd (mVar 3) (mC (.str " "))) (mVar 4))) acc (ms.map prmW) [Sl.val w, t, Sl.no, r3, r4] = .ok (.fre, .lst (acc ++ ms.map fun x => rT (prmP x))) [Sl.val w, t, Sl.no, Sl.no, Sl.no]
  | [], acc, r3, r4, _, hl => by
    have h : acc.length ≤ sizeLine := by rw [line_is]; simp at hl; omega
    unfold compL
    simp [h, wipeR]
  | x :: ms, acc, r3, r4, hx, hl => by
    have h1 : acc.length < sizeLine := by rw [line_is]; simp at hl; omega
    have h2 : x.1.length ≤ 8 := hx x (List.mem_cons_self ..)
    have h3 : (kd x.2).length ≤ 7 := by unfold kd; split <;> simp
    have ih := prm_texts t w ms (acc ++ [rT (prmP x)]) (Sl.val (.str (S x.1))) (Sl.val (.str (S (kd x.2)))) (fun y hy => hx y (List.mem_cons_of_mem _ hy)) (by simp at hl ⊢; omega)
    simp only [rT, prmP] at ih
    unfold compL
    simp -implicitDefEqProofs (disch := first | omega | (simp; done) | (simp <;> omega) | fail) [ev_var, ev_addSS, wipeR, CT.put, prmW, setsR, h1]
    simp at ih
    rw [ih]
    simp [rT, prmP]
end
end K06

namespace K06
open PySem PySem.Spec PyProof.Rows L2 ML
section
variable {g m n : List W → FR} {R : W → List A → Prop}
theorem prm_len {ms : List (A × Bool)} (hx : ∀ x ∈ ms, x.1.length ≤ 8) : tl (commas (ms.map prmP)) ≤ 18 * ms.length := by
  rw [tl_commas, List.length_map, List.map_map]
  induction ms with
  | nil => simp
  | cons x ms ih =>
    have h2 : x.1.length ≤ 8 := hx x (List.mem_cons_self ..)
    have h3 : (kd x.2).length ≤ 7 := by unfold kd; split <;> simp
    have h4 := ih fun y hy => hx y (List.mem_cons_of_mem _ hy)
    simp [prmP] at h4 ⊢
    omega
theorem prm_join {ms : List (A × Bool)} (hx : ∀ x ∈ ms, x.1.length ≤ 8) (hl : ms.length ≤ 100) : gJoin (.str (S [44, 32])) (.lst (ms.map fun x => rT (prmP x))) = some (.val, .str (S (commas (ms.map prmP)).flatten)) := by
  rw [ev_joinS (l := (ms.map prmP).map List.flatten)]
  · rw [joinL_commas]
  · rw [ev_itl, List.map_map, List.map_map]; rfl
  · have h2 := tl_commas (ms.map prmP)
    have h3 := prm_len hx
    have e3 : ((ms.map prmP).map List.flatten).map List.length = (ms.map prmP).map tl := by rw [List.map_map]; exact List.map_congr_left fun p _ => fl_len p
    rw [e3, List.length_map]
    simp at h2 ⊢
    omega
theorem e_bind_new {x : A} {k : Nat} {b : W} {p : List A} (hk : k < 1000) (hm : m [b] = .ok false (.str (S p.flatten)) []) (hl : x.length + tl p + 30 ≤ 16777216) (hn : (TL.numL k).length ≤ 3) : fun_text_of_binding m [.tup [.str (S [110, 101, 119]), .str (S x), .int k, b]] = .ok false (.str (S ([[110, 101, 119], [32], x, [32], [58, 61], [32], TL.numL k, [32], [105, 110], [32]] ++ p ++ [[32], [101, 110, 100]]).flatten)) [] := by
  unfold fun_text_of_binding body_text_of_binding
  simp -implicitDefEqProofs (disch := first | omega | (simp; done) | (simp <;> omega) | fail) [ev_var, ev_addSS, hm, ev_strI hk]
theorem e_bind_let {x : A} {ms : List (A × Bool)} {b c : W} {p q : List A} (hx : ∀ y ∈ ms, y.1.length ≤ 8) (hms : ms.length ≤ 100) (hb : m [b] = .ok false (.str (S p.flatten)) []) (hc : m [c] = .ok false (.str (S q.flatten)) []) (hl : x.length + tl p + tl q + 4000 ≤ 16777216) :
    fun_text_of_binding m [.tup [.str (S [108, 101, 116]), .str (S x), .tup (ms.map prmW), b, c]] = .ok false (.str (S ([[108, 101, 116], [32], x, [40]] ++ commas (ms.map prmP) ++ [[41], [32], [98, 101], [32]] ++ p ++ [[32], [105, 110], [32]] ++ q ++ [[32], [101, 110, 100]]).flatten)) [] := by
  have h1 := prm_len hx
  have e := fun w => prm_texts (Sl.no) w ms [] Sl.no Sl.no hx (by simp; omega)
  have e2 : ∀ w : W, w = .tup [.str (S [108, 101, 116]), .str (S x), .tup (ms.map prmW), b, c] → mLc [] (mItems [] (mOp gIx (mVar 0) (mC (.int 2)))) (.tp [3, 4]) mYes (mOp gAdd (mOp gAdd (mVar 3) (mC (.str " "))) (mVar 4)) [Sl.val w, Sl.no, Sl.no, Sl.no, Sl.no] = .ok (.fre, .lst (ms.map fun x => rT (prmP x))) [Sl.val w, Sl.no, Sl.no, Sl.no, Sl.no] := fun w hw => by
    have e' := e w
    subst hw
    rw [ev_lc, ev_items, ev_op]
    simp only [CT.ix]
    simp -implicitDefEqProofs [ev_var] at e' ⊢
    rw [e']
    simp
  have ej := prm_join hx hms
  unfold fun_text_of_binding body_text_of_binding
  simp at e2
  simp -implicitDefEqProofs (disch := first | omega | (simp; done) | (simp <;> omega) | fail) [ev_var, ev_addSS, e2, ej, hb, hc]
end
noncomputable def txF : Nat → List W → FR
  | 0 => fun _ => .stk
  | d + 1 => fun_text_of (fun_grouped (txF d)) (txF d) (fun_text_of_binding (txF d)) fun_parts_of fun_text_of_leaf
theorem num_le : ∀ n, n < 1000 → (TL.numL n).length ≤ 3 := by decide +kernel
theorem tx_ok : ∀ (d : Nat) {b : W} {p : List A}, Wr d b p → tl p ≤ 16000000 → txF d [b] = .ok false (.str (S p.flatten)) []
  | 0, _, _, h, _ => h.elim
  | d + 1, b, p, h, hl => by
    have ih : ∀ {b : W} {p : List A}, Wr d b p → tl p ≤ 16000000 → txF d [b] = .ok false (.str (S p.flatten)) [] := fun h => tx_ok d h
    have ig : ∀ {b : W} {p : List A}, Wr d b p → tl (grp b p) ≤ 16000000 → fun_grouped (txF d) [b] = .ok false (.str (S (grp b p).flatten)) [] := fun {b p} h hl => by
      obtain ⟨t, l, e, _⟩ := h.shape
      refine e_grouped e (fun _ => ih h ?_) (by omega)
      unfold grp at hl
      split at hl
      · simp at hl; omega
      · exact hl
    show fun_text_of (fun_grouped (txF d)) (txF d) (fun_text_of_binding (txF d)) fun_parts_of fun_text_of_leaf [b] = _
    cases h with
    | skip => exact e_text_leaf (by simp) e_leaf_skip
    | quit => exact e_text_leaf (by simp) e_leaf_quit
    | hole => exact e_text_leaf (by simp) e_leaf_hole
    | num n hn => rw [e_text_leaf (by simp) (e_leaf_num hn)]; simp
    | get x hx => rw [e_text_leaf (by simp) (e_leaf_get x)]; simp
    | call x bs ps hx hb h =>
      simp at hl
      refine e_text_call ?_ hb (by omega)
      have hle : ∀ p ∈ ps, tl p ≤ 16000000 := fun p hp => by have := le_commas hp; omega
      clear hl
      induction h with
      | nil => exact .nil
      | cons h _ ihl => exact .cons (ih h (hle _ (List.mem_cons_self ..))) (ihl (by simp at hb; omega) fun p hp => hle p (List.mem_cons_of_mem _ hp))
    | set x b p hx h =>
      simp at hl
      exact e_text_set (ig h (by omega)) (by omega)
    | seq b c p q h1 h2 =>
      simp at hl
      exact e_text_seq (ig h1 (by omega)) (ih h2 (by omega)) (by omega)
    | new x n b p hx hn h =>
      simp at hl
      have := num_le n hn
      have := hx.len
      exact e_text_new (e_bind_new hn (ih h (by omega)) (by omega) (num_le n hn))
    | lett x ms b c p q hx hms hm h1 h2 =>
      simp at hl
      have := hx.len
      exact e_text_let (e_bind_let (fun y hy => (hm y hy).len) hms (ih h1 (by omega)) (ih h2 (by omega)) (by omega))
    | iff a b c p q r h1 h2 h3 =>
      simp at hl
      exact e_text_if (ih h1 (by omega)) (ih h2 (by omega)) (ih h3 (by omega)) (by omega)
    | loop a b p q h1 h2 =>
      simp at hl
      exact e_text_while (ih h1 (by omega)) (ih h2 (by omega)) (by omega)
    | op k a b p q hk h1 h2 =>
      simp at hl
      exact e_text_op hk (ih h1 (by omega)) (ih h2 (by omega)) (by omega)
end K06

namespace K06
open PySem PySem.Spec PyProof.Rows L2 ML
@[simp] theorem ev_neg (f : Rho → R (Md × W)) (ρ : Rho) : mNeg f ρ = (f ρ).bind fun x ρ1 => (match x.1, x.2 with
  | .val, .int i => .ok (.val, .int (-i)) ρ1
  | _, _ => .stk) := rfl
@[simp] theorem line0 : (0 ≤ sizeLine) = True := by simp
@[simp] theorem line1 : (1 ≤ sizeLine) = True := by simp [line_is]
@[simp] theorem line2 : (2 ≤ sizeLine) = True := by simp [line_is]
@[simp] theorem line3 : (3 ≤ sizeLine) = True := by simp [line_is]
@[simp] theorem line4 : (4 ≤ sizeLine) = True := by simp [line_is]
section
variable {g m n : List W → FR} {R : W → List A → Prop}
theorem l_grouped {m : List W → FR} {b : W} {p : List A} {t : A} {l : List W} (hb : b = .tup (.str (S t) :: l)) (h : txR m b p) (hl : tl (grp b p) ≤ 16777216) : fun__law_grouped m [b] = .ok false (.str (S (grp b p).flatten)) [] := by
  subst hb
  unfold fun__law_grouped body__law_grouped
  unfold grp hd at hl ⊢
  unfold txR at h
  by_cases ht : t = [116, 104, 101, 110]
  · subst ht
    simp at hl
    simp -implicitDefEqProofs (disch := first | omega | (simp; done) | (simp <;> omega) | fail) [ev_var, ev_addSS, h (by omega)]
  · simp [ht] at hl
    simp -implicitDefEqProofs [ev_var, ht, h hl]
theorem l_text_leaf {t : A} (ht : t ∈ [[115, 107, 105, 112], [113, 117, 105, 116]]) : fun__law_text g m n [.tup [.str (S t)]] = .ok false (.str (S t)) [] := by
  unfold fun__law_text body__law_text
  simp at ht
  simp -implicitDefEqProofs [ev_var, ht]
theorem l_text_hole : fun__law_text g m n [.tup [.str (S [104, 111, 108, 101])]] = .ok false (.str (S [91, 93])) [] := by
  unfold fun__law_text body__law_text
  simp -implicitDefEqProofs [ev_var]
theorem l_text_num {k : Nat} (h : k < 1000) : fun__law_text g m n [.tup [.str (S [110, 117, 109, 98, 101, 114]), .int k]] = .ok false (.str (S (TL.numL k))) [] := by
  unfold fun__law_text body__law_text
  simp -implicitDefEqProofs [ev_var, ev_strI h]
theorem l_text_get (x : A) : fun__law_text g m n [.tup [.str (S [103, 101, 116]), .str (S x)]] = .ok false (.str (S x)) [] := by
  unfold fun__law_text body__law_text
  simp -implicitDefEqProofs [ev_var]
theorem l_text_set {x : A} {b : W} {p : List A} (hg : g [b] = .ok false (.str (S p.flatten)) []) (hl : x.length + 4 + tl p ≤ 16777216) : fun__law_text g m n [.tup [.str (S [115, 101, 116]), .str (S x), b]] = .ok false (.str (S ([x, [32], [58, 61], [32]] ++ p).flatten)) [] := by
  unfold fun__law_text body__law_text
  simp -implicitDefEqProofs (disch := first | omega | (simp; done) | (simp <;> omega) | fail) [ev_var, ev_addSS, hg]
theorem l_text_seq {b c : W} {p q : List A} (hg : g [b] = .ok false (.str (S p.flatten)) []) (hm : m [c] = .ok false (.str (S q.flatten)) []) (hl : tl p + 2 + tl q ≤ 16777216) : fun__law_text g m n [.tup [.str (S [116, 104, 101, 110]), b, c]] = .ok false (.str (S (p ++ [[59], [32]] ++ q).flatten)) [] := by
  unfold fun__law_text body__law_text
  simp -implicitDefEqProofs (disch := first | omega | (simp; done) | (simp <;> omega) | fail) [ev_var, ev_addSS, hg, hm]
theorem l_text_new {x : A} {k : Int} {b : W} {h : A} {q : List A} (hn : n [.tup [.str (S [110, 101, 119]), .str (S x), .int k, b]] = .ok false (.str (S h)) []) (hm : m [b] = .ok false (.str (S q.flatten)) []) (hl : h.length + tl q + 8 ≤ 16777216) :
    fun__law_text g m n [.tup [.str (S [110, 101, 119]), .str (S x), .int k, b]] = .ok false (.str (S ([h, [32], [105, 110], [32]] ++ q ++ [[32], [101, 110, 100]]).flatten)) [] := by
  unfold fun__law_text body__law_text
  simp -implicitDefEqProofs (disch := first | omega | (simp; done) | (simp <;> omega) | fail) [ev_var, ev_addSS, hn, hm, atI, ixN]
theorem l_text_let {x : A} {k b c : W} {h : A} {q : List A} (hn : n [.tup [.str (S [108, 101, 116]), .str (S x), k, b, c]] = .ok false (.str (S h)) []) (hm : m [c] = .ok false (.str (S q.flatten)) []) (hl : h.length + tl q + 8 ≤ 16777216) :
    fun__law_text g m n [.tup [.str (S [108, 101, 116]), .str (S x), k, b, c]] = .ok false (.str (S ([h, [32], [105, 110], [32]] ++ q ++ [[32], [101, 110, 100]]).flatten)) [] := by
  unfold fun__law_text body__law_text
  simp -implicitDefEqProofs (disch := first | omega | (simp; done) | (simp <;> omega) | fail) [ev_var, ev_addSS, hn, hm, atI, ixN]
theorem l_texts {w : W} {t : A} {f : Rho → ML.R (Md × W)} {bs : List W} {ps : List (List A)} (hf : f [Sl.val w, Sl.val (W.str (S t)), Sl.no, Sl.no, Sl.no] = .ok (.val, .tup bs) [Sl.val w, Sl.val (W.str (S t)), Sl.no, Sl.no, Sl.no]) (h : All2 (fun b p => m [b] = .ok false (rT p) []) bs ps) (hl : bs.length ≤ 100) :
    mLc [] (mItems [] f) (.nm 4) mYes (mCall [] [] m [mVar 4]) [Sl.val w, Sl.val (W.str (S t)), Sl.no, Sl.no, Sl.no] = .ok (.fre, .lst (ps.map rT)) [Sl.val w, Sl.val (W.str (S t)), Sl.no, Sl.no, Sl.no] := by
  rw [e_lc1 (bs := bs) (zs := ps) (g := rT) h hf (by simp) rfl (by rw [line_is]; omega)]
theorem l_text_call {x : A} {bs : List W} {ps : List (List A)} (h : All2 (fun b p => m [b] = .ok false (rT p) []) bs ps) (hb : bs.length ≤ 100) (hl : x.length + 2 + tl (commas ps) ≤ 16777216) : fun__law_text g m n [.tup [.str (S [99, 97, 108, 108]), .str (S x), .tup bs]] = .ok false (.str (S ([x, [40]] ++ commas ps ++ [[41]]).flatten)) [] := by
  have e := l_texts (m := m) (t := [99, 97, 108, 108]) (w := .tup [.str (S [99, 97, 108, 108]), .str (S x), .tup bs]) (f := mOp gIx (mVar 0) (mC (.int 2))) (bs := bs) (by simp -implicitDefEqProofs [ev_var]) h hb
  have hj : gJoin (.str (S [44, 32])) (.lst (ps.map rT)) = some (.val, .str (S (commas ps).flatten)) := by
    rw [ev_joinS (l := ps.map List.flatten)]
    · rw [joinL_commas]
    · rw [ev_itl, List.map_map]; rfl
    · have hh := h.len
      have h2 := tl_commas ps
      have e3 : (ps.map List.flatten).map List.length = ps.map tl := by rw [List.map_map]; exact List.map_congr_left fun p _ => fl_len p
      rw [e3, List.length_map]
      simp
      omega
  unfold fun__law_text body__law_text
  simp -implicitDefEqProofs (disch := first | omega | (simp; done) | (simp <;> omega) | fail) [ev_var, ev_addSS, e, hj]
theorem l_sl {t : A} (l : List W) (s2 s3 s4 : Sl) : mSl (mVar 0) (some (mC (.int 1))) none [Sl.val (W.tup (W.str (S t) :: l)), Sl.val (W.str (S t)), s2, s3, s4] = .ok (.val, .tup l) [Sl.val (W.tup (W.str (S t) :: l)), Sl.val (W.str (S t)), s2, s3, s4] := by
  simp -implicitDefEqProofs [ev_var]
theorem l_text_if {a b c : W} {p q r : List A} (ha : m [a] = .ok false (rT p) []) (hb : m [b] = .ok false (rT q) []) (hc : m [c] = .ok false (rT r) []) (hl : tl p + tl q + tl r + 20 ≤ 16777216) : fun__law_text g m n [.tup [.str (S [105, 102]), a, b, c]] = .ok false (.str (S ([[105, 102], [32]] ++ p ++ [[32], [116, 104, 101, 110], [32]] ++ q ++ [[32], [101, 108, 115, 101], [32]] ++ r ++ [[32], [102, 105]]).flatten)) [] := by
  have e := l_texts (m := m) (l_sl (t := [105, 102]) [a, b, c] Sl.no Sl.no Sl.no) (.cons ha (.cons hb (.cons hc .nil))) (by simp)
  unfold fun__law_text body__law_text
  simp -implicitDefEqProofs (disch := first | omega | (simp; done) | (simp <;> omega) | fail) [ev_var, ev_addSS, e, rT]
theorem l_text_while {a b : W} {p q : List A} (ha : m [a] = .ok false (rT p) []) (hb : m [b] = .ok false (rT q) []) (hl : tl p + tl q + 20 ≤ 16777216) : fun__law_text g m n [.tup [.str (S [119, 104, 105, 108, 101]), a, b]] = .ok false (.str (S ([[119, 104, 105, 108, 101], [32]] ++ p ++ [[32], [100, 111], [32]] ++ q ++ [[32], [111, 100]]).flatten)) [] := by
  have e := l_texts (m := m) (l_sl (t := [119, 104, 105, 108, 101]) [a, b] Sl.no Sl.no Sl.no) (.cons ha (.cons hb .nil)) (by simp)
  unfold fun__law_text body__law_text
  simp -implicitDefEqProofs (disch := first | omega | (simp; done) | (simp <;> omega) | fail) [ev_var, ev_addSS, e, rT]
theorem l_text_op {k : Nat} (hk : k < 3) {a b : W} {p q : List A} (ha : m [a] = .ok false (rT p) []) (hb : m [b] = .ok false (rT q) []) (hl : tl p + tl q + 20 ≤ 16777216) : fun__law_text g m n [.tup [.str (S (sgw k)), a, b]] = .ok false (.str (S ([[40]] ++ p ++ [[32], sgn k, [32]] ++ q ++ [[41]]).flatten)) [] := by
  have e := fun t => l_texts (m := m) (l_sl (t := t) [a, b] Sl.no Sl.no Sl.no) (.cons ha (.cons hb .nil)) (by simp)
  unfold fun__law_text body__law_text
  rcases sgw_ne hk with rfl | rfl | rfl <;> simp -implicitDefEqProofs (disch := first | omega | (simp; done) | (simp <;> omega) | fail) [ev_var, ev_addSS, e, rT, sgw, sgn]
theorem l_prm_texts (t : Sl) (w : W) : ∀ (ms : List (A × Bool)) (acc : List W) (r3 : Sl), (∀ x ∈ ms, x.1.length ≤ 8) → acc.length + ms.length ≤ 1000 →
    compL [2] (CT.put (.nm 2)) mYes (mEl [] (mOp gAdd (mOp gAdd (mOp gIx (mVar 2) (mC (.int 0))) (mC (.str " "))) (mOp gIx (mVar 2) (mC (.int 1))))) acc (ms.map prmW) [Sl.val w, t, r3] = .ok (.fre, .lst (acc ++ ms.map fun x => rT (prmP x))) [Sl.val w, t, Sl.no]
  | [], acc, r3, _, hl => by
    have h : acc.length ≤ sizeLine := by rw [line_is]; simp at hl; omega
    unfold compL
    simp [h, wipeR]
  | x :: ms, acc, r3, hx, hl => by
    have h1 : acc.length < sizeLine := by rw [line_is]; simp at hl; omega
    have h2 : x.1.length ≤ 8 := hx x (List.mem_cons_self ..)
    have h3 : (kd x.2).length ≤ 7 := by unfold kd; split <;> simp
    have ih := l_prm_texts t w ms (acc ++ [rT (prmP x)]) (Sl.val (prmW x)) (fun y hy => hx y (List.mem_cons_of_mem _ hy)) (by simp at hl ⊢; omega)
    simp only [rT, prmP] at ih
    unfold compL
    simp -implicitDefEqProofs (disch := first | omega | (simp; done) | (simp <;> omega) | fail) [ev_var, ev_addSS, wipeR, CT.put, prmW, h1]
    simp [prmW] at ih
    rw [ih]
    simp [rT, prmP]
theorem l_head_new {x : A} {k : Nat} {b : W} (hk : k < 1000) (hl : x.length ≤ 8) (hn : (TL.numL k).length ≤ 3) : fun__law_head m [.tup [.str (S [110, 101, 119]), .str (S x), .int k, b]] = .ok false (.str (S ([[110, 101, 119], [32], x, [32], [58, 61], [32], TL.numL k] : List A).flatten)) [] := by
  unfold fun__law_head body__law_head
  simp -implicitDefEqProofs (disch := first | omega | (simp; done) | (simp <;> omega) | fail) [ev_var, ev_addSS, ev_strI hk]
theorem l_head_let {x : A} {ms : List (A × Bool)} {b c : W} {p : List A} (hx : ∀ y ∈ ms, y.1.length ≤ 8) (hms : ms.length ≤ 100) (hb : m [b] = .ok false (.str (S p.flatten)) []) (hl : x.length + tl p + 4000 ≤ 16777216) :
    fun__law_head m [.tup [.str (S [108, 101, 116]), .str (S x), .tup (ms.map prmW), b, c]] = .ok false (.str (S ([[108, 101, 116], [32], x, [40]] ++ commas (ms.map prmP) ++ [[41], [32], [98, 101], [32]] ++ p).flatten)) [] := by
  have h1 := prm_len hx
  have e := fun w => l_prm_texts (Sl.no) w ms [] Sl.no hx (by simp; omega)
  have e2 : ∀ w : W, w = .tup [.str (S [108, 101, 116]), .str (S x), .tup (ms.map prmW), b, c] → mLc [] (mItems [] (mOp gIx (mVar 0) (mC (.int 2)))) (.nm 2) mYes (mOp gAdd (mOp gAdd (mOp gIx (mVar 2) (mC (.int 0))) (mC (.str " "))) (mOp gIx (mVar 2) (mC (.int 1)))) [Sl.val w, Sl.no, Sl.no] = .ok (.fre, .lst (ms.map fun x => rT (prmP x))) [Sl.val w, Sl.no, Sl.no] := fun w hw => by
    have e' := e w
    subst hw
    rw [ev_lc, ev_items, ev_op]
    simp only [CT.ix]
    simp -implicitDefEqProofs [ev_var] at e' ⊢
    rw [e']
    simp
  have ej := prm_join hx hms
  unfold fun__law_head body__law_head
  simp at e2
  simp -implicitDefEqProofs (disch := first | omega | (simp; done) | (simp <;> omega) | fail) [ev_var, ev_addSS, e2, ej, hb]
end
noncomputable def ltF : Nat → List W → FR
  | 0 => fun _ => .stk
  | d + 1 => fun__law_text (fun__law_grouped (ltF d)) (ltF d) (fun__law_head (ltF d))
theorem lt_ok : ∀ (d : Nat) {b : W} {p : List A}, Wr d b p → tl p ≤ 16000000 → ltF d [b] = .ok false (.str (S p.flatten)) []
  | 0, _, _, h, _ => h.elim
  | d + 1, b, p, h, hl => by
    have ih : ∀ {b : W} {p : List A}, Wr d b p → tl p ≤ 16000000 → ltF d [b] = .ok false (.str (S p.flatten)) [] := fun h => lt_ok d h
    have ig : ∀ {b : W} {p : List A}, Wr d b p → tl (grp b p) ≤ 16000000 → fun__law_grouped (ltF d) [b] = .ok false (.str (S (grp b p).flatten)) [] := fun {b p} h hl => by
      obtain ⟨t, l, e, _⟩ := h.shape
      refine l_grouped e (fun _ => ih h ?_) (by omega)
      unfold grp at hl
      split at hl
      · simp at hl; omega
      · exact hl
    show fun__law_text (fun__law_grouped (ltF d)) (ltF d) (fun__law_head (ltF d)) [b] = _
    cases h with
    | skip => exact l_text_leaf (by simp)
    | quit => exact l_text_leaf (by simp)
    | hole => exact l_text_hole
    | num n hn => rw [l_text_num hn]; simp
    | get x hx => rw [l_text_get x]; simp
    | call x bs ps hx hb h =>
      simp at hl
      refine l_text_call ?_ hb (by omega)
      have hle : ∀ p ∈ ps, tl p ≤ 16000000 := fun p hp => by have := le_commas hp; omega
      clear hl
      induction h with
      | nil => exact .nil
      | cons h _ ihl => exact .cons (ih h (hle _ (List.mem_cons_self ..))) (ihl (by simp at hb; omega) fun p hp => hle p (List.mem_cons_of_mem _ hp))
    | set x b p hx h =>
      simp at hl
      exact l_text_set (ig h (by omega)) (by omega)
    | seq b c p q h1 h2 =>
      simp at hl
      exact l_text_seq (ig h1 (by omega)) (ih h2 (by omega)) (by omega)
    | new x n b p hx hn h =>
      simp at hl
      have := num_le n hn
      have := hx.len
      rw [l_text_new (l_head_new hn hx.len (num_le n hn)) (ih h (by omega)) (by simp; omega)]
      simp
    | lett x ms b c p q hx hms hm h1 h2 =>
      simp at hl
      have := hx.len
      have := prm_len (fun y hy => (hm y hy).len)
      rw [l_text_let (l_head_let (fun y hy => (hm y hy).len) hms (ih h1 (by omega)) (by omega)) (ih h2 (by omega)) (by simp; omega)]
      simp
    | iff a b c p q r h1 h2 h3 =>
      simp at hl
      exact l_text_if (ih h1 (by omega)) (ih h2 (by omega)) (ih h3 (by omega)) (by omega)
    | loop a b p q h1 h2 =>
      simp at hl
      exact l_text_while (ih h1 (by omega)) (ih h2 (by omega)) (by omega)
    | op k a b p q hk h1 h2 =>
      simp at hl
      exact l_text_op hk (ih h1 (by omega)) (ih h2 (by omega)) (by omega)
end K06

namespace K06
open PySem PySem.Spec PyProof.Rows L2 ML
/-! ### nested values: v is w, some tuples made lists -/
def Lsd : Nat → W → W → Prop
  | 0, _, _ => False
  | d + 1, v, w => (∃ i, v = .int i ∧ w = .int i) ∨ (∃ s, v = .str s ∧ w = .str s ∧ PyData.strOk s = true) ∨ ∃ vs ws, (v = .tup vs ∨ v = .lst vs) ∧ w = .tup ws ∧ vs.length ≤ 1000 ∧ All2 (Lsd d) vs ws
theorem Lsd.mono : ∀ {d : Nat} {v w : W}, Lsd d v w → Lsd (d + 1) v w
  | 0, _, _, h => h.elim
  | d + 1, v, w, h => by
    rcases h with h | h | ⟨vs, ws, h1, h2, h3, h4⟩
    · exact .inl h
    · exact .inr (.inl h)
    · exact .inr (.inr ⟨vs, ws, h1, h2, h3, h4.imp fun a b h => Lsd.mono h⟩)
theorem Lsd.up {d e : Nat} {v w : W} (h : Lsd d v w) (l : d ≤ e) : Lsd e v w := by
  induction l with
  | refl => exact h
  | step _ ih => exact ih.mono
theorem toD_ok : ∀ {d : Nat} {v w : W}, Lsd d v w → ∃ x, toD v = some x ∧ x.canLay0 = true ∧ x.depth ≤ d
  | 0, _, _, h => h.elim
  | d + 1, v, w, h => by
    rcases h with ⟨i, rfl, rfl⟩ | ⟨s, rfl, rfl, hs⟩ | ⟨vs, ws, h1, rfl, h3, h4⟩
    · exact ⟨.int i, rfl, by simp [PyData.canLay0], by simp [PyData.depth]⟩
    · exact ⟨.str s, rfl, by simp [PyData.canLay0, hs], by simp [PyData.depth]⟩
    · have q : ∃ xs, toDL vs = some xs ∧ PyData.canLayAll0 xs = true ∧ PyData.depthAll xs ≤ d := by
        clear h1 h3
        induction h4 with
        | nil => exact ⟨[], rfl, by simp [PyData.canLayAll0], by simp [PyData.depthAll]⟩
        | cons h _ ih =>
          obtain ⟨x, e1, e2, e3⟩ := toD_ok h
          obtain ⟨xs, f1, f2, f3⟩ := ih
          exact ⟨x :: xs, by simp [toDL, e1, f1], by simp [PyData.canLayAll0, e2, f2], by simp [PyData.depthAll]; omega⟩
      obtain ⟨xs, f1, f2, f3⟩ := q
      rcases h1 with rfl | rfl
      · exact ⟨.tuple xs, by simp [toD, f1], by simp [PyData.canLay0, f2], by simp [PyData.depth]; omega⟩
      · exact ⟨.list xs, by simp [toD, f1], by simp [PyData.canLay0, f2], by simp [PyData.depth]; omega⟩
theorem ne_self {d : Nat} {v w : W} (h : Lsd d v w) (hd : d ≤ 150) : gNe v v = some (.val, .bl false) := by
  obtain ⟨x, e1, e2, e3⟩ := toD_ok h
  have e : eqW v v = some true := by
    unfold eqW
    split
    · simp
    · rw [e1]
      have := SeqAt.eqv_refl x e2
      have h5 : x.depth ≤ 150 := by omega
      simp [e2, this, h5]
  unfold gNe
  rw [e]
  rfl
theorem frozen_step {m : List W → FR} {d : Nat} {v w : W} (ih : ∀ {v w : W}, Lsd d v w → m [v] = .ok false w []) (h : Lsd (d + 1) v w) : fun_frozen m [v] = .ok false w [] := by
  unfold fun_frozen body_frozen
  rcases h with ⟨i, rfl, rfl⟩ | ⟨s, rfl, rfl, hs⟩ | ⟨vs, ws, h1, rfl, h3, h4⟩
  · simp -implicitDefEqProofs [ev_var, gIsi, tyN, isAny, isB]
  · simp -implicitDefEqProofs [ev_var, gIsi, tyN, isAny, isB]
  · obtain ⟨ρ1, e1, acc, s, rfl, ea, _⟩ := for_inv (i := 2) (g := mDrop (mAppend 1 [] (mCall [] [] m [mVar 2]))) (ρ := [Sl.val v, Sl.own (.lst []), Sl.no])
      (P := fun zs ρ => ∃ acc s, ρ = [Sl.val v, Sl.own (.lst acc), s] ∧ acc ++ zs = ws ∧ acc.length + zs.length ≤ 1000) (.inr trivial) h4 (fun a z zs' ρ q ⟨acc, s, er, ea, el⟩ => by
        subst er
        have h6 : acc.length < sizeLine := by rw [line_is]; simp at el; omega
        refine ⟨_, by simp -implicitDefEqProofs [ev_var, ev_own, ih q, h6], acc ++ [z], Sl.val a, rfl, by simp [← ea], by simp at el ⊢; omega⟩) ⟨[], Sl.no, rfl, rfl, by have := h4.len; simp; omega⟩
    simp at ea
    subst ea
    have e0 : gSet [] 2 = fun w ρ => some (ρ.set 2 (.val w)) := gset_is (by simp)
    rcases h1 with rfl | rfl
    · simp -implicitDefEqProofs [ev_var, gIsi, tyN, isAny, isB, e0, e1]
    · simp -implicitDefEqProofs [ev_var, gIsi, tyN, isAny, isB, e0, e1]
noncomputable def frF : Nat → List W → FR
  | 0 => fun _ => .stk
  | d + 1 => fun_frozen (frF d)
theorem frozen_ok : ∀ (d : Nat) {v w : W}, Lsd d v w → frF d [v] = .ok false w []
  | 0, _, _, h => h.elim
  | d + 1, _, _, h => frozen_step (fun h => frozen_ok d h) h
theorem e_whole (i : Int) : fun__law_whole [.int i] = .ok false (.bl true) [] := by
  unfold fun__law_whole body__law_whole
  simp -implicitDefEqProofs [ev_var, gIsi, tyN, isB]
theorem same_step {m : List W → FR} {d : Nat} {w : W} (ih : ∀ {w : W}, Lsd d w w → m [w, w] = .ok false (.bl true) []) (h : Lsd (d + 1) w w) : fun__law_same m fun__law_whole [w, w] = .ok false (.bl true) [] := by
  unfold fun__law_same body__law_same
  rcases h with ⟨j, rfl, _⟩ | ⟨s, rfl, _, hs⟩ | ⟨vs, ws, h1, rfl, h3, h4⟩
  · simp -implicitDefEqProofs [ev_var, gIsi, tyN, isB, e_whole]
  · simp -implicitDefEqProofs [ev_var, gIsi, tyN, isB]
  · have h1' : vs = ws := by
      rcases h1 with h1 | h1
      · cases h1; rfl
      · cases h1
    subst h1'
    have hx : ∀ (l : List W), All2 (Lsd d) l l → ∀ x ∈ l, Lsd d x x := by
      intro l
      induction l with
      | nil => exact fun _ x hx => nomatch hx
      | cons y l ihl =>
        intro h x hx
        cases h with
        | cons h1 h2 => cases hx with
          | head => exact h1
          | tail _ hx => exact ihl h2 x hx
    have hq : All2 (fun (w : W) (z : Nat) => w = .int z ∧ z < vs.length) (intsW 0 vs.length) (List.range vs.length) := by
      have : ∀ l : List Nat, (∀ x ∈ l, x < vs.length) → All2 (fun (w : W) (z : Nat) => w = .int z ∧ z < vs.length) (l.map fun i => W.int (0 + (i : Nat))) l := by
        intro l
        induction l with
        | nil => exact fun _ => .nil
        | cons x l ihl => exact fun h => .cons ⟨by simp, h x (List.mem_cons_self ..)⟩ (ihl fun y hy => h y (List.mem_cons_of_mem _ hy))
      exact this _ fun x hx => List.mem_range.mp hx
    obtain ⟨ρ1, e1, s, rfl⟩ := for_inv (i := 2) (g := mIf (mNot (mTest (mCall [] [] m [mOp gIx (mVar 0) (mVar 2), mOp gIx (mVar 1) (mVar 2)]))) (mRet [] (mC (.bl false))) mNext) (ρ := [Sl.val (.tup vs), Sl.val (.tup vs), Sl.no])
      (P := fun zs ρ => ∃ s, ρ = [Sl.val (.tup vs), Sl.val (.tup vs), s]) (.inr trivial) hq (fun a z zs' ρ q ⟨s, er⟩ => by
        subst er
        obtain ⟨rfl, hz⟩ := q
        have e5 : vs[z]? = some vs[z] := List.getElem?_eq_getElem hz
        have e6 := ih (hx vs h4 vs[z] (List.getElem_mem hz))
        exact ⟨_, by simp -implicitDefEqProofs [ev_var, ML.atI_nat, e5, e6]; rfl, _, rfl⟩) ⟨Sl.no, rfl⟩
    have e0 : gSet [] 2 = fun w ρ => some (ρ.set 2 (.val w)) := gset_is (by simp)
    have e7 : okR (vs.length : Int) = true := by
      unfold okR
      simp
      omega
    simp -implicitDefEqProofs [ev_var, gIsi, tyN, isB, e0, e1, e7]
noncomputable def saF : Nat → List W → FR
  | 0 => fun _ => .stk
  | d + 1 => fun__law_same (saF d) fun__law_whole
theorem same_ok : ∀ (d : Nat) {w : W}, Lsd d w w → saF d [w, w] = .ok false (.bl true) []
  | 0, _, h => h.elim
  | d + 1, _, h => same_step (fun h => same_ok d h) h
end K06

namespace K06
open PySem PySem.Spec PyProof.Rows L2 ML
/-! ### pieces of a text -/
def alnum (c : Nat) : Bool := lowC c || digC c
def isW : A → Bool
  | c :: _ => alnum c
  | [] => false
def sepF : Bool → List A → Bool
  | _, [] => true
  | b, x :: l => !(b && isW x) && sepF (isW x) l
theorem sep_weak {p : List A} (h : sepF true p = true) : sepF false p = true := by
  cases p with
  | nil => rfl
  | cons x l =>
    simp [sepF] at h ⊢
    exact h.2
theorem sep_mid {c : A} (hc : isW c = false) (q : List A) : ∀ (p : List A) (b : Bool), sepF b (p ++ c :: q) = (sepF b p && sepF false q)
  | [], b => by simp [sepF, hc]
  | x :: p, b => by
    rw [List.cons_append, sepF, sepF, sep_mid hc q p, Bool.and_assoc]
def syms : List A := [[58, 61], [59], [44], [40], [41], [43], [61], [60], [91, 93]]
def kindA (x : A) : A := if x ∈ syms then x else if x ∈ resv then x else if isW x && lowC (x.headD 0) then [78, 65, 77, 69] else [78, 85, 77, 66, 69, 82]
/-- a piece that is no space -/
inductive Gd : A → Prop
  | sym {x : A} : x ∈ syms → Gd x
  | res {x : A} : x ∈ resv → Gd x
  | name {x : A} : IsName x → Gd x
  | num {n : Nat} : n < 1000 → Gd (TL.numL n)
theorem num_facts : ∀ n, n < 1000 → (TL.numL n).all digC = true ∧ TL.numL n ≠ [] ∧ TL.numL n ∉ syms ∧ TL.numL n ∉ resv ∧ (TL.numL n = [48] ∨ (TL.numL n).headD 0 ≠ 48) ∧ lowC ((TL.numL n).headD 0) = false ∧ kindA (TL.numL n) = [78, 85, 77, 66, 69, 82] ∧ (TL.numL n).length ≤ 3 := by decide +kernel
theorem in_low (c : Nat) : decide (c ∈ [97, 98, 99, 100, 101, 102, 103, 104, 105, 106, 107, 108, 109, 110, 111, 112, 113, 114, 115, 116, 117, 118, 119, 120, 121, 122]) = lowC c := by
  rw [Bool.eq_iff_iff]
  simp [lowC]
  omega
theorem in_dig (c : Nat) : decide (c ∈ [48, 49, 50, 51, 52, 53, 54, 55, 56, 57]) = digC c := by
  rw [Bool.eq_iff_iff]
  simp [digC]
  omega
theorem lets_is : w_LETTERS = .str (S [97, 98, 99, 100, 101, 102, 103, 104, 105, 106, 107, 108, 109, 110, 111, 112, 113, 114, 115, 116, 117, 118, 119, 120, 121, 122]) := by unfold w_LETTERS; simp
theorem digs_is : w_DIGITS = .str (S [48, 49, 50, 51, 52, 53, 54, 55, 56, 57]) := by unfold w_DIGITS; simp
@[simp] theorem ev_letters (neg : Bool) (c : Nat) : gIn neg (.str (S [c])) w_LETTERS = some (.val, .bl (if neg then !lowC c else lowC c)) := by
  rw [lets_is, in_SS, in_low]
@[simp] theorem ev_digits (neg : Bool) (c : Nat) : gIn neg (.str (S [c])) w_DIGITS = some (.val, .bl (if neg then !digC c else digC c)) := by
  rw [digs_is, in_SS, in_dig]
theorem bools_map {α : Type} (f : α → Bool) : ∀ l : List α, boolsW (l.map fun c => W.bl (f c)) = some (l.map f)
  | [] => rfl
  | c :: l => by
    rw [List.map_cons, List.map_cons]
    show (boolsW _).map _ = _
    rw [bools_map f l]
    rfl
theorem gall_map {α : Type} (f : α → Bool) (l : List α) : gAll [.lst (l.map fun c => W.bl (f c))] = some (.val, .bl (l.all f)) := by
  show (boolsW _).map _ = _
  rw [bools_map]
  simp [List.all_map]
theorem all2_chars (l : List Nat) : All2 (fun (w : W) (c : Nat) => w = .str (S [c])) (l.map fun c => W.str (S [c])) l := by
  induction l with
  | nil => exact .nil
  | cons c l ih => exact .cons rfl ih
theorem lc_chars {x : A} {f : Nat → Bool} {fe : Rho → ML.R (Md × W)} (hl : x.length ≤ 1000) (h : ∀ c, fe [Sl.val (.str (S x)), Sl.val (.str (S [c]))] = .ok (.val, .bl (f c)) [Sl.val (.str (S x)), Sl.val (.str (S [c]))]) :
    mLc [] (mItems [] (mVar 0)) (.nm 1) mYes fe [Sl.val (.str (S x)), Sl.no] = .ok (.fre, .lst (x.map fun c => .bl (f c))) [Sl.val (.str (S x)), Sl.no] := by
  rw [ev_lc]
  simp -implicitDefEqProofs [ev_var, CT.ix]
  rw [comp2 (g := fun c => W.bl (f c)) (zs := x) (ρ := [Sl.val (.str (S x)), Sl.no]) (fun w z q => by
    subst q
    simp [h]) (all2_chars x) (by rw [line_is]; simp; omega) rfl]
  simp
theorem e_is_name {x : A} (h : IsName x) : fun_is_name [.str (S x)] = .ok false (.bl true) [] := by
  unfold fun_is_name body_is_name
  have h1 := h.pos
  have h2 := h.len
  have h3 := h.nres
  obtain ⟨c, r, hx, hc⟩ := h.hd
  have h4 : x[0]? = some c := by rw [hx]; rfl
  have e := lc_chars (x := x) (f := fun c => lowC c || digC c) (fe := mOrV (mOp (gIn false) (mVar 1) (mC w_LETTERS)) (mOp (gIn false) (mVar 1) (mC w_DIGITS))) (by omega) (fun c => by
    cases hc : lowC c <;> simp -implicitDefEqProofs [ev_var, hc])
  have h5 : x.all (fun c => lowC c || digC c) = true := List.all_eq_true.mpr fun c hc => by
    rcases h.all c hc with h | h <;> simp [h]
  have e1 : gIn false (.str (S x)) w_RESERVED = some (.val, .bl false) := by
    unfold resv at h3
    rw [in_w_RESERVED]; simp only [h3]; rfl
  subst hx
  simp only [List.length_cons] at h2
  have h6 : ¬ ((r.length : Int) + 1) < 1 := by omega
  have h7 : ¬ (8 : Int) < (r.length : Int) + 1 := by omega
  have h8 := gall_map (fun c => lowC c || digC c) (c :: r)
  rw [h5] at h8
  simp [hc] at h8
  simp -implicitDefEqProofs (disch := first | omega | (simp; done) | (simp <;> omega) | fail) [-in_w_RESERVED, ev_var, ev_lenSS, ev_ixSS, e1, h6, h7, hc, e, h8]
theorem e_is_name_num {n : Nat} (h : n < 1000) : fun_is_name [.str (S (TL.numL n))] = .ok false (.bl false) [] := by
  obtain ⟨f1, f2, f3, f4, f5, f6, f7, f8⟩ := num_facts n h
  generalize TL.numL n = x at *
  have e1 : gIn false (.str (S x)) w_RESERVED = some (.val, .bl false) := by
    unfold resv at f4
    rw [in_w_RESERVED]; simp only [f4]; rfl
  unfold fun_is_name body_is_name
  cases x with
  | nil => exact absurd rfl f2
  | cons c r =>
    simp only [List.length_cons] at f8
    simp only [List.headD_cons] at f6
    have h6 : ¬ ((r.length : Int) + 1) < 1 := by omega
    have h7 : ¬ (8 : Int) < (r.length : Int) + 1 := by omega
    simp -implicitDefEqProofs (disch := first | omega | (simp; done) | (simp <;> omega) | fail) [-in_w_RESERVED, ev_var, ev_lenSS, ev_ixSS, e1, h6, h7, f6]
theorem e_is_number {n : Nat} (h : n < 1000) : fun_is_number [.str (S (TL.numL n))] = .ok false (.bl true) [] := by
  obtain ⟨f1, f2, f3, f4, f5, f6, f7, f8⟩ := num_facts n h
  generalize TL.numL n = x at *
  have e := lc_chars (x := x) (f := digC) (fe := mOp (gIn false) (mVar 1) (mC w_DIGITS)) (by omega) (fun c => by simp -implicitDefEqProofs [ev_var])
  have f1' : (x.all fun c => digC c) = true := f1
  have e5 : gAll [.lst (x.map fun c => W.bl (digC c))] = some (.val, .bl true) := by rw [gall_map, f1']
  unfold fun_is_number body_is_number
  cases x with
  | nil => exact absurd rfl f2
  | cons c r =>
    simp only [List.length_cons] at f8
    have h7 : ¬ (3 : Int) < (r.length : Int) + 1 := by omega
    rcases f5 with f5 | f5
    · have f9 : c = 48 ∧ r = [] := by simpa using f5
      obtain ⟨rfl, rfl⟩ := f9
      have hd : digC 48 = true := rfl
      simp -implicitDefEqProofs [ev_var, ev_lenSS, e, gAll, boolsW, hd]
    · simp only [List.headD_cons, ne_eq] at f5
      have f10 : digC c = true := by simp at f1; exact f1.1
      rw [List.map_cons, f10] at e5
      simp -implicitDefEqProofs (disch := first | omega | (simp; done) | (simp <;> omega) | fail) [ev_var, ev_lenSS, ev_ixSS, h7, e, f10, e5, f5]
theorem e_kind {x : A} (h : Gd x) : fun_kind_of_piece fun_is_name fun_is_number [.str (S x)] = .ok false (.str (S (kindA x))) [] := by
  unfold fun_kind_of_piece body_kind_of_piece
  cases h with
  | sym h =>
    have e : kindA x = x := if_pos h
    unfold syms at h
    have e1 : gIn false (.str (S x)) w_SYMBOLS = some (.val, .bl true) := by rw [in_w_SYMBOLS]; simp only [h]; rfl
    simp -implicitDefEqProofs [ev_var, e1, e]
  | res h =>
    have e : kindA x = x := by
      unfold kindA
      rw [if_pos h]
      split <;> rfl
    unfold resv at h
    have e1 : gIn false (.str (S x)) w_RESERVED = some (.val, .bl true) := by rw [in_w_RESERVED]; simp only [h]; rfl
    by_cases hs : x ∈ syms
    · unfold syms at hs
      have e2 : gIn false (.str (S x)) w_SYMBOLS = some (.val, .bl true) := by rw [in_w_SYMBOLS]; simp only [hs]; rfl
      simp -implicitDefEqProofs [ev_var, e2, e]
    · unfold syms at hs
      have e2 : gIn false (.str (S x)) w_SYMBOLS = some (.val, .bl false) := by rw [in_w_SYMBOLS]; simp only [hs]; rfl
      simp -implicitDefEqProofs [ev_var, e1, e2, e]
  | name h =>
    obtain ⟨c, r, hx, hc⟩ := h.hd
    have hs : x ∉ syms := by
      subst hx
      intro hs
      unfold syms at hs
      simp at hs
      unfold lowC at hc
      simp at hc
      omega
    have hr := h.nres
    have e : kindA x = [78, 65, 77, 69] := by
      unfold kindA
      rw [if_neg hs, if_neg hr]
      subst hx
      simp [isW, alnum, hc]
    have e0 := e_is_name h
    unfold syms at hs
    unfold resv at hr
    have e1 : gIn false (.str (S x)) w_RESERVED = some (.val, .bl false) := by rw [in_w_RESERVED]; simp only [hr]; rfl
    have e2 : gIn false (.str (S x)) w_SYMBOLS = some (.val, .bl false) := by rw [in_w_SYMBOLS]; simp only [hs]; rfl
    simp -implicitDefEqProofs [ev_var, e0, e1, e2, e]
  | num h =>
    rename_i n
    obtain ⟨f1, f2, f3, f4, f5, f6, f7, f8⟩ := num_facts n h
    have e0 := e_is_name_num h
    have e00 := e_is_number h
    unfold syms at f3
    unfold resv at f4
    have e1 : gIn false (.str (S (TL.numL n))) w_RESERVED = some (.val, .bl false) := by rw [in_w_RESERVED]; simp only [f4]; rfl
    have e2 : gIn false (.str (S (TL.numL n))) w_SYMBOLS = some (.val, .bl false) := by rw [in_w_SYMBOLS]; simp only [f3]; rfl
    simp -implicitDefEqProofs [ev_var, e0, e00, e1, e2, f7]
end K06

namespace K06
open PySem PySem.Spec PyProof.Rows L2 ML
theorem while_done {c : Rho → ML.R Bool} {g : Rho → ML.R Fl} {ρ ρ1 : Rho} (h : c ρ = .ok false ρ1) : mWhile c g ρ = .ok .nx ρ1 := mWhile_step (fun z => nomatch z) (by rw [h]; rfl)
theorem while_go {c : Rho → ML.R Bool} {g : Rho → ML.R Fl} {ρ ρ1 ρ2 ρ3 : Rho} (h : c ρ = .ok true ρ1) (h2 : g ρ1 = .ok .nx ρ2) (h3 : mWhile c g ρ2 = .ok .nx ρ3) : mWhile c g ρ = .ok .nx ρ3 := mWhile_step (fun z => nomatch z) (by rw [h, ev_bo, if_pos rfl, h2]; exact h3)
@[simp] theorem ev_aug (f : Int → Int → Int) (i : Nat) (I : List Nat) (fe : Rho → ML.R (Md × W)) (ρ : Rho) : mAugI f i I fe ρ = (match ρ[i]? with
  | some (.val (.int x)) => (fe ρ).bind fun b ρ1 => (match b.1, b.2 with
    | .val, .int y => if i ∈ I then .stk else .ok .nx (ρ1.set i (.val (.int (f x y))))
    | _, _ => .stk)
  | _ => .stk) := rfl
theorem ev_slS {l : List Nat} {a b : Nat} (ha : a ≤ l.length) (hl : l.length ≤ 16777216) : gSl (.str (S l)) (some (a : Int)) (some (b : Int)) = some (.val, .str (S ((l.drop a).take (b - a)))) := by
  have e : gSl (.str (S l)) (some (a : Int)) (some (b : Int)) = if (S l).length ≤ sizeLine then some (.val, .str (cutS (S l) (some (a : Int)) (some (b : Int)))) else none := rfl
  rw [e, S_len, line_is, if_pos hl]
  unfold cutS
  rw [HT.sIx_nat, HT.sIx_nat, S_len, S_cps, Nat.min_eq_left ha]
  have e2 : (l.drop a).take (min b l.length - a) = (l.drop a).take (b - a) := by
    by_cases h : b ≤ l.length
    · rw [Nat.min_eq_left h]
    · rw [Nat.min_eq_right (by omega), List.take_of_length_le (by rw [List.length_drop]; omega), List.take_of_length_le (by rw [List.length_drop]; omega)]
  rw [e2]
  rfl
def frP (l : List Nat) (a e : Nat) : Rho := [Sl.val (.str (S l)), Sl.val (.int a), Sl.val (.int e)]
def cP : Rho → ML.R Bool := mAnd (mTest (mOp (gCmp (fun i j => decide (i < j))) (mVar 2) (mCB gLen [mVar 0]))) (mOr (mTest (mOp (gIn false) (mOp gIx (mVar 0) (mVar 2)) (mC w_LETTERS))) (mTest (mOp (gIn false) (mOp gIx (mVar 0) (mVar 2)) (mC w_DIGITS))))
def gP : Rho → ML.R Fl := mAugI (fun i j => i + j) 2 [] (mC (.int 1))
theorem cP_end {l : List Nat} {a e : Nat} (hl : l.length ≤ 16777216) (h : l.length ≤ e) : cP (frP l a e) = .ok false (frP l a e) := by
  have h1 : ¬ (e < l.length) := by omega
  unfold cP frP
  simp -implicitDefEqProofs (disch := first | omega | (simp; done) | (simp <;> omega) | fail) [ev_var, ev_lenSS, h1]
theorem cP_at {l : List Nat} {a e c : Nat} (hl : l.length ≤ 16777216) (h : l[e]? = some c) : cP (frP l a e) = .ok (alnum c) (frP l a e) := by
  have h1 : e < l.length := (List.getElem?_eq_some_iff.mp h).1
  have h2 : atI l (e : Int) = some c := by rw [ML.atI_nat, h]
  unfold cP frP alnum
  cases hc : lowC c <;> simp -implicitDefEqProofs (disch := first | omega | (simp; done) | (simp <;> omega) | fail) [ev_var, ev_lenSS, ev_ixSS, h1, h2, hc]
theorem gP_at {l : List Nat} {a e : Nat} : gP (frP l a e) = .ok .nx (frP l a (e + 1)) := by
  unfold gP frP
  simp -implicitDefEqProofs [ev_var]
theorem run_word {l : List Nat} {a : Nat} (hl : l.length ≤ 16777216) : ∀ (w : A) (e : Nat) (post : List Nat), l.drop e = w ++ post → (∀ c ∈ w, alnum c = true) → isW post = false → mWhile cP gP (frP l a e) = .ok .nx (frP l a (e + w.length))
  | [], e, post, hd, _, hp => by
    cases post with
    | nil => exact while_done (cP_end hl (by simpa using hd))
    | cons c r =>
      have h := (drop_get (show l.drop e = c :: r from hd)).1
      have e1 := cP_at (a := a) hl h
      rw [show alnum c = false from hp] at e1
      exact while_done e1
  | c :: w, e, post, hd, hw, hp => by
    obtain ⟨h1, h2⟩ := drop_get (show l.drop e = c :: (w ++ post) from hd)
    have e1 := cP_at (a := a) hl h1
    rw [hw c (List.mem_cons_self ..)] at e1
    have ih := run_word (a := a) hl w (e + 1) post h2 (fun x hx => hw x (List.mem_cons_of_mem _ hx)) hp
    rw [List.length_cons, show e + (w.length + 1) = e + 1 + w.length by omega]
    exact while_go e1 gP_at ih
theorem piece_word {l : List Nat} {a : Nat} {w : A} {post : List Nat} (hl : l.length ≤ 16777216) (hd : l.drop a = w ++ post) (hw : w ≠ []) (ha : ∀ c ∈ w, alnum c = true) (hp : isW post = false) : fun_piece_at [.str (S l), .int a] = .ok false (.str (S w)) [] := by
  have e := run_word (a := a) hl w a post hd ha hp
  have hpos : 0 < w.length := List.length_pos_iff.mpr hw
  have hal : a ≤ l.length := by
    have := congrArg List.length hd
    simp at this
    omega
  have e2 : gSl (.str (S l)) (some (a : Int)) (some ((a + w.length : Nat) : Int)) = some (.val, .str (S w)) := by
    rw [ev_slS hal hl, hd, Nat.add_sub_cancel_left, List.take_left]
  unfold fun_piece_at body_piece_at
  unfold cP gP frP at e
  simp at e2
  have hlt : (a : Int) < a + w.length := by omega
  simp -implicitDefEqProofs [ev_var, e, e2, hlt]
/-- the signs between tokens -/
@[reducible] def Sp (x : A) : Prop := x = [32] ∨ x = [10]
theorem piece_sym {l : List Nat} {a : Nat} {x : A} {post : List Nat} (hl : l.length ≤ 16777216) (hd : l.drop a = x ++ post) (hx : Sp x ∨ x ∈ syms) : fun_piece_at [.str (S l), .int a] = .ok false (.str (S x)) [] := by
  have hs : isW (x ++ post) = false := by
    rcases hx with (rfl | rfl) | hx
    · rfl
    · rfl
    · unfold syms at hx
      simp at hx
      rcases hx with rfl | rfl | rfl | rfl | rfl | rfl | rfl | rfl | rfl <;> rfl
  have e := run_word (a := a) hl [] a (x ++ post) hd (fun c h => nomatch h) hs
  rw [List.length_nil, Nat.add_zero] at e
  have hal : a ≤ l.length := by
    rcases Nat.le_total a l.length with h | h
    · exact h
    · rw [List.drop_eq_nil_of_le h] at hd
      rcases hx with (rfl | rfl) | hx
      · cases hd
      · cases hd
      · unfold syms at hx
        simp at hx
        rcases hx with rfl | rfl | rfl | rfl | rfl | rfl | rfl | rfl | rfl <;> cases hd
  have e2 : gSl (.str (S l)) (some (a : Int)) (some ((a : Int) + 2)) = some (.val, .str (S ((x ++ post).take 2))) := by
    have := ev_slS (b := a + 2) hal hl
    rw [Nat.add_sub_cancel_left, hd] at this
    exact this
  have e3 : ∀ c r, x ++ post = c :: r → atI l (a : Int) = some c := fun c r hc => by
    rw [hc] at hd
    rw [ML.atI_nat, (drop_get hd).1]
  unfold fun_piece_at body_piece_at
  unfold cP gP frP at e
  rcases hx with (rfl | rfl) | hx
  · have e4 := e3 32 post rfl
    cases post with
    | nil => simp -implicitDefEqProofs (disch := first | omega | (simp; done) | (simp <;> omega) | fail) [ev_var, ev_ixSS, e, e2, e4]
    | cons d r => simp -implicitDefEqProofs (disch := first | omega | (simp; done) | (simp <;> omega) | fail) [ev_var, ev_ixSS, e, e2, e4]
  · have e4 := e3 10 post rfl
    cases post with
    | nil => simp -implicitDefEqProofs (disch := first | omega | (simp; done) | (simp <;> omega) | fail) [ev_var, ev_ixSS, e, e2, e4]
    | cons d r => simp -implicitDefEqProofs (disch := first | omega | (simp; done) | (simp <;> omega) | fail) [ev_var, ev_ixSS, e, e2, e4]
  · unfold syms at hx
    simp at hx
    rcases hx with rfl | rfl | rfl | rfl | rfl | rfl | rfl | rfl | rfl <;> have e4 := e3 _ _ rfl <;> cases post <;> simp -implicitDefEqProofs (disch := first | omega | (simp; done) | (simp <;> omega) | fail) [ev_var, ev_ixSS, e, e2, e4]
theorem Gd.split {x : A} (h : Gd x) : x ∈ syms ∨ (x ≠ [] ∧ (∀ c ∈ x, alnum c = true)) := by
  cases h with
  | sym h => exact .inl h
  | res h =>
    refine .inr ?_
    unfold resv at h
    simp at h
    rcases h with rfl | rfl | rfl | rfl | rfl | rfl | rfl | rfl | rfl | rfl | rfl | rfl | rfl | rfl | rfl | rfl <;> exact ⟨by simp, by decide⟩
  | name h =>
    refine .inr ⟨?_, fun c hc => ?_⟩
    · obtain ⟨c, r, e, _⟩ := h.hd
      rw [e]; simp
    · unfold alnum
      rcases h.all c hc with h | h <;> simp [h]
  | num h =>
    obtain ⟨f1, f2, _⟩ := num_facts _ h
    refine .inr ⟨f2, fun c hc => ?_⟩
    unfold alnum
    simp [List.all_eq_true.mp f1 c hc]
theorem isW_app {x : A} (h : x ≠ []) (r : List Nat) : isW (x ++ r) = isW x := by
  cases x with
  | nil => exact absurd rfl h
  | cons c x => rfl
theorem sym_ne {x : A} (h : Sp x ∨ x ∈ syms) : x ≠ [] := by
  rcases h with (rfl | rfl) | h
  · simp
  · simp
  · unfold syms at h
    simp at h
    rcases h with rfl | rfl | rfl | rfl | rfl | rfl | rfl | rfl | rfl <;> simp
theorem isW_post {p : List A} {b : Bool} (hg : ∀ x ∈ p, Sp x ∨ Gd x) (h : sepF true p = true) : isW p.flatten = false := by
  cases p with
  | nil => rfl
  | cons x p =>
    have hne : x ≠ [] := by
      rcases hg x (List.mem_cons_self ..) with (rfl | rfl) | h
      · simp
      · simp
      · rcases h.split with h | h
        · exact sym_ne (.inr h)
        · exact h.1
    rw [List.flatten_cons, isW_app hne]
    simp [sepF] at h
    exact h.1
theorem piece_at_ok {l : List Nat} {a : Nat} {x : A} {p : List A} {b : Bool} (hl : l.length ≤ 16777216) (hd : l.drop a = x ++ p.flatten) (hg : ∀ y ∈ x :: p, Sp y ∨ Gd y) (h : sepF b (x :: p) = true) : fun_piece_at [.str (S l), .int a] = .ok false (.str (S x)) [] ∧ x ≠ [] := by
  have hx : (Sp x ∨ x ∈ syms) ∨ (x ≠ [] ∧ (∀ c ∈ x, alnum c = true)) := by
    rcases hg x (List.mem_cons_self ..) with h | h
    · exact .inl (.inl h)
    · rcases h.split with h | h
      · exact .inl (.inr h)
      · exact .inr h
  rcases hx with hx | ⟨hx, ha⟩
  · exact ⟨piece_sym hl hd hx, sym_ne hx⟩
  · refine ⟨piece_word hl hd hx ha ?_, hx⟩
    have hw : isW x = true := by
      cases x with
      | nil => exact absurd rfl hx
      | cons c x => exact ha c (List.mem_cons_self ..)
    simp [sepF, hw] at h
    exact isW_post (b := b) (fun y hy => hg y (List.mem_cons_of_mem _ hy)) h.2
/-! the row of pieces -/
def tkW (x : A) (n : Nat) : W := .tup [.str (S (kindA x)), .str (S x), .int n]
def rowsOf : List A → Nat → List W
  | [], _ => []
  | x :: p, n => if Sp x then rowsOf p (n + x.length) else tkW x n :: rowsOf p (n + x.length)
def cT : Rho → ML.R Bool := mTest (mOp (gCmp (fun i j => decide (i < j))) (mVar 2) (mCB gLen [mVar 0]))
noncomputable def gT : Rho → ML.R Fl := mSeq (mSet [] 3 (mCall [] [] fun_piece_at [mVar 0, mVar 2])) (mSeq (mIf (mTest (mOp (gIn true) (mVar 3) (mC w_SPACES))) (mDrop (mAppend 1 [] (mTup [] [mCall [] [] (fun_kind_of_piece fun_is_name fun_is_number) [mVar 3], mVar 3, mVar 2]))) (mNext)) (mAugI (fun i j => i + j) 2 [] (mCB gLen [mVar 3])))
def frT (l : List Nat) (rows : List W) (a : Nat) (s : Sl) : Rho := [Sl.val (.str (S l)), Sl.own (.lst rows), Sl.val (.int a), s]
theorem run_toks {l : List Nat} (hl : l.length ≤ 16000000) : ∀ (p : List A) (b : Bool) (a : Nat) (rows : List W) (s : Sl), l.drop a = p.flatten → a ≤ l.length → (∀ x ∈ p, Sp x ∨ Gd x) → sepF b p = true → rows.length ≤ a → ∃ s', mWhile cT gT (frT l rows a s) = .ok .nx (frT l (rows ++ rowsOf p a) l.length s')
  | [], b, a, rows, s, hd, ha, _, _, _ => by
    have h0 : l.length = a := by
      have := congrArg List.length hd
      simp at this
      omega
    subst h0
    refine ⟨s, ?_⟩
    rw [rowsOf, List.append_nil]
    refine while_done ?_
    unfold cT frT
    simp -implicitDefEqProofs (disch := first | omega | (simp; done) | (simp <;> omega) | fail) [ev_var, ev_lenSS]
  | x :: p, b, a, rows, s, hd, ha, hg, hs, hr => by
    obtain ⟨e1, hne⟩ := piece_at_ok (l := l) (a := a) (by omega) (by simpa using hd) hg hs
    have hpos : 0 < x.length := List.length_pos_iff.mpr hne
    have hlen : a + x.length ≤ l.length := by
      have := congrArg List.length hd
      simp at this
      omega
    have hd2 : l.drop (a + x.length) = p.flatten := by
      rw [← List.drop_drop, hd, List.flatten_cons, List.drop_left]
    have hs2 : sepF (isW x) p = true := by
      simp [sepF] at hs
      exact hs.2
    have hc : cT (frT l rows a s) = .ok true (frT l rows a s) := by
      have h1 : a < l.length := by omega
      unfold cT frT
      simp -implicitDefEqProofs (disch := first | omega | (simp; done) | (simp <;> omega) | fail) [ev_var, ev_lenSS, h1]
    have hxl : x.length ≤ 16777216 := by omega
    by_cases hx : Sp x
    · obtain ⟨s', ih⟩ := run_toks hl p (isW x) (a + x.length) rows (Sl.val (.str (S x))) hd2 hlen (fun y hy => hg y (List.mem_cons_of_mem _ hy)) hs2 (by omega)
      refine ⟨s', while_go (ρ2 := frT l rows (a + x.length) (Sl.val (.str (S x)))) hc ?_ ?_⟩
      · unfold gT frT
        rcases hx with rfl | rfl
        · simp -implicitDefEqProofs (disch := first | omega | (simp; done) | (simp <;> omega) | fail) [ev_var, ev_lenSS, e1]
        · simp -implicitDefEqProofs (disch := first | omega | (simp; done) | (simp <;> omega) | fail) [ev_var, ev_lenSS, e1]
      · rw [rowsOf, if_pos hx]
        exact ih
    · have hk := e_kind ((hg x (List.mem_cons_self ..)).resolve_left hx)
      obtain ⟨s', ih⟩ := run_toks hl p (isW x) (a + x.length) (rows ++ [tkW x a]) (Sl.val (.str (S x))) hd2 hlen (fun y hy => hg y (List.mem_cons_of_mem _ hy)) hs2 (by simp; omega)
      refine ⟨s', while_go (ρ2 := frT l (rows ++ [tkW x a]) (a + x.length) (Sl.val (.str (S x)))) hc ?_ ?_⟩
      · have hx1 : x ≠ [32] := fun z => hx (.inl z)
        have hx2 : x ≠ [10] := fun z => hx (.inr z)
        have hsz : rows.length < sizeLine := by rw [line_is]; omega
        have l3 : (3 ≤ sizeLine) = True := by simp [line_is]
        unfold gT frT tkW
        simp -implicitDefEqProofs (disch := first | omega | (simp; done) | (simp <;> omega) | fail) [ev_var, ev_own, ev_lenSS, e1, hk, hx1, hx2, hsz, l3]
      · rw [rowsOf, if_neg hx]
        simpa using ih
theorem tokens_ok {p : List A} (hl : tl p ≤ 16000000) (hg : ∀ x ∈ p, Sp x ∨ Gd x) (hs : sepF false p = true) : fun_tokens fun_piece_at (fun_kind_of_piece fun_is_name fun_is_number) [.str (S p.flatten)] = .ok false (.tup (rowsOf p 0 ++ [.tup [.str (S [69, 78, 68]), .str (S []), .int p.flatten.length]])) [] := by
  obtain ⟨s', e⟩ := run_toks (l := p.flatten) (by rw [fl_len]; exact hl) p false 0 [] Sl.no (by simp) (by omega) hg hs (by simp)
  have hr : ∀ (p : List A) n, (rowsOf p n).length ≤ p.length := by
    intro p
    induction p with
    | nil => intro n; simp [rowsOf]
    | cons x p ih =>
      intro n
      rw [rowsOf]
      split
      · have := ih (n + x.length); simp; omega
      · have := ih (n + x.length); simp; omega
  have hpl : ∀ (p : List A), (∀ x ∈ p, Sp x ∨ Gd x) → p.length ≤ tl p := by
    intro p
    induction p with
    | nil => intro _; simp
    | cons x p ih =>
      intro hg
      have := ih fun y hy => hg y (List.mem_cons_of_mem _ hy)
      have hne : x ≠ [] := by
        rcases hg x (List.mem_cons_self ..) with (rfl | rfl) | h
        · simp
        · simp
        · rcases h.split with h | h
          · exact sym_ne (.inr h)
          · exact h.1
      have := List.length_pos_iff.mpr hne
      simp
      omega
  have h1 := hr p 0
  have h2 := hpl p hg
  have hsz : (rowsOf p 0).length < sizeLine := by rw [line_is]; omega
  have hsz2 : tl p ≤ 16777216 := by omega
  have hend : w_END = .str (S [69, 78, 68]) := by unfold w_END; simp
  have l3 : (3 ≤ sizeLine) = True := by simp [line_is]
  unfold fun_tokens body_tokens
  unfold cT gT frT at e
  simp at e
  simp -implicitDefEqProofs (disch := first | omega | (simp; done) | (simp <;> omega) | fail) [ev_var, ev_own, ev_lenSS, e, hsz, hend, l3]
end K06

namespace K06
open PySem PySem.Spec PyProof.Rows L2 ML
/-! ### reading, step by step: positions are whole numbers -/
theorem litF0 : Str.ofString "in_parentheses" = S [105, 110, 95, 112, 97, 114, 101, 110, 116, 104, 101, 115, 101, 115] := by decide +kernel
theorem litF1 : Str.ofString "if_at" = S [105, 102, 95, 97, 116] := by decide +kernel
theorem litF2 : Str.ofString "while_at" = S [119, 104, 105, 108, 101, 95, 97, 116] := by decide +kernel
theorem litF3 : Str.ofString "new_at" = S [110, 101, 119, 95, 97, 116] := by decide +kernel
theorem litF4 : Str.ofString "let_at" = S [108, 101, 116, 95, 97, 116] := by decide +kernel
@[simp] theorem ev_callL (I : List Nat) (i : Nat) (cs : List (Str × (List W → FR))) (fs : List (Rho → ML.R (Md × W))) (ρ : Rho) : mCallL I i cs fs ρ = (match ρ[i]? with
  | some (.val (.fn x)) => (match cs.lookup x with
    | some fm => mCall I [] fm fs ρ
    | none => .stk)
  | _ => .stk) := rfl
theorem l1 : (1 ≤ sizeLine) = True := by simp [line_is]
theorem l2 : (2 ≤ sizeLine) = True := by simp [line_is]
theorem l3 : (3 ≤ sizeLine) = True := by simp [line_is]
theorem l4 : (4 ≤ sizeLine) = True := by simp [line_is]
theorem l5 : (5 ≤ sizeLine) = True := by simp [line_is]
def tok (k x : A) (n : Int) : W := .tup [.str (S k), .str (S x), .int n]
section
variable {row : List W} {i j a1 a2 a3 a4 n n1 n2 n3 n4 : Int} {k x x1 x2 x3 x4 : A} {a b c : W} {sq it ar enc pas prs : List W → FR}
theorem e_passed (h : atI row i = some (tok k x n)) : fun_passed [.tup row, .int i, .str (S k)] = .ok false (.int (i + 1)) [] := by
  unfold tok at h
  unfold fun_passed body_passed
  simp -implicitDefEqProofs [ev_var, h]
theorem e_enclosed (h : sq [.tup row, .int i] = .ok false (.tup [b, .int j]) []) (h2 : atI row j = some (tok k x n)) : fun_enclosed sq fun_passed [.tup row, .int i, .str (S k)] = .ok false (.tup [b, .int (j + 1)]) [] := by
  have e := e_passed h2
  unfold fun_enclosed body_enclosed
  simp -implicitDefEqProofs [ev_var, h, e, l2]
theorem e_an_set (h : atI row i = some (tok k x n)) (h1 : atI row (i + 1) = some (tok [58, 61] x1 n1)) (h2 : it [.tup row, .int (i + 2)] = .ok false (.tup [b, .int j]) []) : fun_after_name it ar [.tup row, .int i] = .ok false (.tup [.tup [.str (S [115, 101, 116]), .str (S x), b], .int j]) [] := by
  unfold tok at h h1
  unfold fun_after_name body_after_name
  simp -implicitDefEqProofs [ev_var, h, h1, h2, l2, l3]
theorem e_an_call (h : atI row i = some (tok k x n)) (h1 : atI row (i + 1) = some (tok [40] x1 n1)) (h2 : ar [.tup row, .int (i + 2)] = .ok false (.tup [b, .int j]) []) : fun_after_name it ar [.tup row, .int i] = .ok false (.tup [.tup [.str (S [99, 97, 108, 108]), .str (S x), b], .int j]) [] := by
  unfold tok at h h1
  unfold fun_after_name body_after_name
  simp -implicitDefEqProofs [ev_var, h, h1, h2, l2, l3]
theorem e_an_get {k1 : A} (h : atI row i = some (tok k x n)) (h1 : atI row (i + 1) = some (tok k1 x1 n1)) (h2 : k1 ≠ [58, 61]) (h3 : k1 ≠ [40]) : fun_after_name it ar [.tup row, .int i] = .ok false (.tup [.tup [.str (S [103, 101, 116]), .str (S x)], .int (i + 1)]) [] := by
  unfold tok at h h1
  unfold fun_after_name body_after_name
  simp -implicitDefEqProofs [ev_var, h, h1, h2, h3, l2]
theorem e_par_group (h : sq [.tup row, .int i] = .ok false (.tup [b, .int j]) []) (h2 : atI row j = some (tok [41] x n)) : fun_in_parentheses sq fun_passed enc [.tup row, .int i] = .ok false (.tup [b, .int (j + 1)]) [] := by
  have e := e_passed h2
  unfold tok at h2
  unfold fun_in_parentheses body_in_parentheses
  simp -implicitDefEqProofs [ev_var, h, h2, e, l2, k_SIGNS_reading]
theorem e_par_op {q : Nat} (hq : q < 3) (h : sq [.tup row, .int i] = .ok false (.tup [a, .int j]) []) (h2 : atI row j = some (tok (sgn q) x n)) (h3 : enc [.tup row, .int (j + 1), .str (S [41])] = .ok false (.tup [b, .int a1]) []) : fun_in_parentheses sq pas enc [.tup row, .int i] = .ok false (.tup [.tup [.str (S (sgw q)), a, b], .int a1]) [] := by
  unfold tok at h2
  unfold fun_in_parentheses body_in_parentheses
  rcases sgw_ne hq with rfl | rfl | rfl <;> simp only [sgn] at h2 <;> simp -implicitDefEqProofs [ev_var, h, h2, h3, l2, l3, k_SIGNS_reading, w_SIGNS_reading, lookW, sgw]
theorem e_if (h1 : enc [.tup row, .int i, .str (S [116, 104, 101, 110])] = .ok false (.tup [a, .int a1]) []) (h2 : enc [.tup row, .int a1, .str (S [101, 108, 115, 101])] = .ok false (.tup [b, .int a2]) []) (h3 : enc [.tup row, .int a2, .str (S [102, 105])] = .ok false (.tup [c, .int a3]) []) : fun_if_at enc [.tup row, .int i] = .ok false (.tup [.tup [.str (S [105, 102]), a, b, c], .int a3]) [] := by
  unfold fun_if_at body_if_at
  simp -implicitDefEqProofs [ev_var, h1, h2, h3, l2, l4]
theorem e_while (h1 : enc [.tup row, .int i, .str (S [100, 111])] = .ok false (.tup [a, .int a1]) []) (h2 : enc [.tup row, .int a1, .str (S [111, 100])] = .ok false (.tup [b, .int a2]) []) : fun_while_at enc [.tup row, .int i] = .ok false (.tup [.tup [.str (S [119, 104, 105, 108, 101]), a, b], .int a2]) [] := by
  unfold fun_while_at body_while_at
  simp -implicitDefEqProofs [ev_var, h1, h2, l2, l3]
theorem w_NAME_is : w_NAME = .str (S [78, 65, 77, 69]) := by unfold w_NAME; simp
theorem w_NUMBER_is : w_NUMBER = .str (S [78, 85, 77, 66, 69, 82]) := by unfold w_NUMBER; simp
theorem e_new {m : Nat} (h1 : atI row i = some (tok [78, 65, 77, 69] x n)) (h2 : atI row (i + 1) = some (tok [58, 61] x1 n1)) (h3 : atI row (i + 1 + 1) = some (tok [78, 85, 77, 66, 69, 82] x2 n2)) (h4 : atI row (i + 1 + 1 + 1) = some (tok [105, 110] x3 n3)) (hx : gInt [.str (S x2)] = some (.val, .int m)) (h5 : enc [.tup row, .int (i + 1 + 1 + 1 + 1), .str (S [101, 110, 100])] = .ok false (.tup [b, .int j]) []) : fun_new_at fun_passed enc [.tup row, .int i] = .ok false (.tup [.tup [.str (S [110, 101, 119]), .str (S x), .int m, b], .int j]) [] := by
  have e1 := e_passed h1
  have e2 := e_passed h2
  have e3 := e_passed h3
  have e4 := e_passed h4
  unfold tok at h1 h3
  unfold fun_new_at body_new_at
  simp only [w_NAME_is, w_NUMBER_is]
  simp -implicitDefEqProofs [ev_var, h1, h3, e1, e2, e3, e4, hx, h5, l2, l4]
theorem e_param {q : Bool} (h1 : atI row i = some (tok [78, 65, 77, 69] x n)) (h2 : atI row (i + 1) = some (tok (kd q) (kd q) n1)) : fun_parameter_at fun_passed [.tup row, .int i] = .ok false (.tup [prmW (x, q), .int (i + 1 + 1)]) [] := by
  have e1 := e_passed h1
  unfold tok at h1 h2
  unfold fun_parameter_at body_parameter_at
  simp only [w_NAME_is]
  cases q <;> simp only [kd, if_true, if_false, Bool.false_eq_true] at h2 <;> simp -implicitDefEqProofs [ev_var, h1, h2, e1, l2, prmW, kd]
theorem e_let (h1 : atI row i = some (tok [78, 65, 77, 69] x n)) (h2 : atI row (i + 1) = some (tok [40] x1 n1)) (h3 : prs [.tup row, .int (i + 1 + 1)] = .ok false (.tup [a, .int a1]) []) (h4 : atI row a1 = some (tok [98, 101] x2 n2)) (h5 : enc [.tup row, .int (a1 + 1), .str (S [105, 110])] = .ok false (.tup [b, .int a2]) []) (h6 : enc [.tup row, .int a2, .str (S [101, 110, 100])] = .ok false (.tup [c, .int a3]) []) :
    fun_let_at fun_passed prs enc [.tup row, .int i] = .ok false (.tup [.tup [.str (S [108, 101, 116]), .str (S x), a, b, c], .int a3]) [] := by
  have e1 := e_passed h1
  have e2 := e_passed h2
  have e4 := e_passed h4
  unfold tok at h1
  unfold fun_let_at body_let_at
  simp only [w_NAME_is]
  simp -implicitDefEqProofs [ev_var, h1, h3, h5, h6, e1, e2, e4, l2, l5]
variable {an ip ia wa na la : List W → FR}
theorem e_item_skip (h : atI row i = some (tok [115, 107, 105, 112] x n)) : fun_item_at an ip ia wa na la [.tup row, .int i] = .ok false (.tup [.tup [.str (S [115, 107, 105, 112])], .int (i + 1)]) [] := by
  unfold tok at h
  unfold fun_item_at body_item_at
  simp -implicitDefEqProofs [ev_var, h, l2, k_LEAVES_reading, w_LEAVES_reading, lookW]
theorem e_item_quit (h : atI row i = some (tok [113, 117, 105, 116] x n)) : fun_item_at an ip ia wa na la [.tup row, .int i] = .ok false (.tup [.tup [.str (S [113, 117, 105, 116])], .int (i + 1)]) [] := by
  unfold tok at h
  unfold fun_item_at body_item_at
  simp -implicitDefEqProofs [ev_var, h, l2, k_LEAVES_reading, w_LEAVES_reading, lookW]
theorem e_item_hole (h : atI row i = some (tok [91, 93] x n)) : fun_item_at an ip ia wa na la [.tup row, .int i] = .ok false (.tup [.tup [.str (S [104, 111, 108, 101])], .int (i + 1)]) [] := by
  unfold tok at h
  unfold fun_item_at body_item_at
  simp -implicitDefEqProofs [ev_var, h, l2, k_LEAVES_reading, w_LEAVES_reading, lookW]
theorem e_item_num {m : Nat} (h : atI row i = some (tok [78, 85, 77, 66, 69, 82] x n)) (hx : gInt [.str (S x)] = some (.val, .int m)) : fun_item_at an ip ia wa na la [.tup row, .int i] = .ok false (.tup [.tup [.str (S [110, 117, 109, 98, 101, 114]), .int m], .int (i + 1)]) [] := by
  unfold tok at h
  unfold fun_item_at body_item_at
  simp only [w_NAME_is, w_NUMBER_is]
  simp -implicitDefEqProofs [ev_var, h, l2, k_LEAVES_reading, hx]
theorem e_item_name {r : W} (h : atI row i = some (tok [78, 65, 77, 69] x n)) (h2 : an [.tup row, .int i] = .ok false r []) : fun_item_at an ip ia wa na la [.tup row, .int i] = .ok false r [] := by
  unfold tok at h
  unfold fun_item_at body_item_at
  simp only [w_NAME_is, w_NUMBER_is]
  simp -implicitDefEqProofs [ev_var, h, k_LEAVES_reading, h2]
theorem e_item_par {r : W} (h : atI row i = some (tok [40] x n)) (h2 : ip [.tup row, .int (i + 1)] = .ok false r []) : fun_item_at an ip ia wa na la [.tup row, .int i] = .ok false r [] := by
  unfold tok at h
  unfold fun_item_at body_item_at
  simp only [w_NAME_is, w_NUMBER_is]
  simp -implicitDefEqProofs [ev_var, h, k_LEAVES_reading, k_FORMS, w_FORMS, lookW, litF0, litF1, litF2, litF3, litF4, h2, List.lookup_cons]
theorem e_item_if {r : W} (h : atI row i = some (tok [105, 102] x n)) (h2 : ia [.tup row, .int (i + 1)] = .ok false r []) : fun_item_at an ip ia wa na la [.tup row, .int i] = .ok false r [] := by
  unfold tok at h
  unfold fun_item_at body_item_at
  simp only [w_NAME_is, w_NUMBER_is]
  simp -implicitDefEqProofs [ev_var, h, k_LEAVES_reading, k_FORMS, w_FORMS, lookW, litF0, litF1, litF2, litF3, litF4, h2, List.lookup_cons]
theorem e_item_while {r : W} (h : atI row i = some (tok [119, 104, 105, 108, 101] x n)) (h2 : wa [.tup row, .int (i + 1)] = .ok false r []) : fun_item_at an ip ia wa na la [.tup row, .int i] = .ok false r [] := by
  unfold tok at h
  unfold fun_item_at body_item_at
  simp only [w_NAME_is, w_NUMBER_is]
  simp -implicitDefEqProofs [ev_var, h, k_LEAVES_reading, k_FORMS, w_FORMS, lookW, litF0, litF1, litF2, litF3, litF4, h2, List.lookup_cons]
theorem e_item_new {r : W} (h : atI row i = some (tok [110, 101, 119] x n)) (h2 : na [.tup row, .int (i + 1)] = .ok false r []) : fun_item_at an ip ia wa na la [.tup row, .int i] = .ok false r [] := by
  unfold tok at h
  unfold fun_item_at body_item_at
  simp only [w_NAME_is, w_NUMBER_is]
  simp -implicitDefEqProofs [ev_var, h, k_LEAVES_reading, k_FORMS, w_FORMS, lookW, litF0, litF1, litF2, litF3, litF4, h2, List.lookup_cons]
theorem e_item_let {r : W} (h : atI row i = some (tok [108, 101, 116] x n)) (h2 : la [.tup row, .int (i + 1)] = .ok false r []) : fun_item_at an ip ia wa na la [.tup row, .int i] = .ok false r [] := by
  unfold tok at h
  unfold fun_item_at body_item_at
  simp only [w_NAME_is, w_NUMBER_is]
  simp -implicitDefEqProofs [ev_var, h, k_LEAVES_reading, k_FORMS, w_FORMS, lookW, litF0, litF1, litF2, litF3, litF4, h2, List.lookup_cons]
end
end K06

namespace K06
open PySem PySem.Spec PyProof.Rows L2 ML
/-! ### reading, the loops -/
def Ch (s : List W → FR) (sep : A) (row : List W) : Int → List W → Int → Prop
  | j, [], e => j = e
  | j, b :: bs, e => (∃ x n, atI row j = some (tok sep x n)) ∧ ∃ j', s [.tup row, .int (j + 1)] = .ok false (.tup [b, .int j']) [] ∧ Ch s sep row j' bs e
def cA : Rho → ML.R Bool := mTest (mOp gEq (mOp gIx (mOp gIx (mVar 0) (mVar 4)) (mC (.int 0))) (mC (.str ",")))
def gA (s : List W → FR) : Rho → ML.R Fl := mSeq (mAsgT [] (gTup [gSet [] 3, gSet [] 4]) (mCall [] [] s [mVar 0, mOp gAdd (mVar 4) (mC (.int 1))])) (mDrop (mAppend 2 [] (mVar 3)))
def frA (row : List W) (i : Int) (acc : List W) (b : W) (j : Int) : Rho := [Sl.val (.tup row), Sl.val (.int i), Sl.own (.lst acc), Sl.val b, Sl.val (.int j)]
theorem cA_at {row acc : List W} {i j n : Int} {b : W} {k x : A} (h : atI row j = some (tok k x n)) : cA (frA row i acc b j) = .ok (decide (k = [44])) (frA row i acc b j) := by
  unfold tok at h
  unfold cA frA
  simp -implicitDefEqProofs [ev_var, h]
theorem run_args {s : List W → FR} {row : List W} {i e n : Int} {k x : A} (hk : k ≠ [44]) (he : atI row e = some (tok k x n)) : ∀ (bs acc : List W) (b : W) (j : Int), Ch s [44] row j bs e → acc.length + bs.length ≤ 1000 → ∃ b', mWhile cA (gA s) (frA row i acc b j) = .ok .nx (frA row i (acc ++ bs) b' e)
  | [], acc, b, j, h, _ => by
    cases h
    have e1 := cA_at (i := i) (acc := acc) (b := b) he
    rw [decide_eq_false hk] at e1
    exact ⟨b, by rw [List.append_nil]; exact while_done e1⟩
  | c :: bs, acc, b, j, h, hl => by
    obtain ⟨⟨x1, n1, h1⟩, j', h2, h3⟩ := h
    have e1 := cA_at (i := i) (acc := acc) (b := b) h1
    rw [decide_eq_true rfl] at e1
    have hsz : acc.length < sizeLine := by rw [line_is]; simp at hl; omega
    obtain ⟨b', ih⟩ := run_args hk he bs (acc ++ [c]) c j' h3 (by simp at hl ⊢; omega)
    have e2 : gA s (frA row i acc b j) = .ok .nx (frA row i (acc ++ [c]) c j') := by
      unfold gA frA
      simp -implicitDefEqProofs [ev_var, ev_own, h2, hsz]
    refine ⟨b', ?_⟩
    have := while_go e1 e2 ih
    simpa using this
theorem e_args {s : List W → FR} {row bs : List W} {i j e n n2 : Int} {k x x2 : A} {b : W} (h0 : atI row i = some (tok k x n)) (hk : k ≠ [41]) (h1 : s [.tup row, .int i] = .ok false (.tup [b, .int j]) []) (hc : Ch s [44] row j bs e) (he : atI row e = some (tok [41] x2 n2)) (hl : bs.length ≤ 900) :
    fun_arguments_at s fun_passed [.tup row, .int i] = .ok false (.tup [.tup (b :: bs), .int (e + 1)]) [] := by
  obtain ⟨b', r⟩ := run_args (i := i) (by simp) he bs [b] b j hc (by simp; omega)
  have e3 := e_passed he
  unfold tok at h0
  unfold cA gA frA at r
  simp at r
  unfold fun_arguments_at body_arguments_at
  simp -implicitDefEqProofs [ev_var, ev_own, h0, hk, h1, l2, line_is, r, e3]
theorem e_args_nil {s : List W → FR} {row : List W} {i n : Int} {x : A} (h0 : atI row i = some (tok [41] x n)) : fun_arguments_at s fun_passed [.tup row, .int i] = .ok false (.tup [.tup [], .int (i + 1)]) [] := by
  unfold tok at h0
  unfold fun_arguments_at body_arguments_at
  simp -implicitDefEqProofs [ev_var, h0, l2]
theorem e_params {s : List W → FR} {row bs : List W} {i j e n n2 : Int} {k x x2 : A} {b : W} (h0 : atI row i = some (tok k x n)) (hk : k ≠ [41]) (h1 : s [.tup row, .int i] = .ok false (.tup [b, .int j]) []) (hc : Ch s [44] row j bs e) (he : atI row e = some (tok [41] x2 n2)) (hl : bs.length ≤ 900) :
    fun_parameters_at s fun_passed [.tup row, .int i] = .ok false (.tup [.tup (b :: bs), .int (e + 1)]) [] := by
  obtain ⟨b', r⟩ := run_args (i := i) (by simp) he bs [b] b j hc (by simp; omega)
  have e3 := e_passed he
  unfold tok at h0
  unfold cA gA frA at r
  simp at r
  unfold fun_parameters_at body_parameters_at
  simp -implicitDefEqProofs [ev_var, ev_own, h0, hk, h1, l2, line_is, r, e3]
theorem e_params_nil {s : List W → FR} {row : List W} {i n : Int} {x : A} (h0 : atI row i = some (tok [41] x n)) : fun_parameters_at s fun_passed [.tup row, .int i] = .ok false (.tup [.tup [], .int (i + 1)]) [] := by
  unfold tok at h0
  unfold fun_parameters_at body_parameters_at
  simp -implicitDefEqProofs [ev_var, h0, l2]
/-! a row of items -/
def thenW (a b : W) : W := .tup [.str (S [116, 104, 101, 110]), a, b]
def chain : W → List W → W
  | b, [] => b
  | b, c :: bs => thenW b (chain c bs)
def ini : W → List W → List W
  | _, [] => []
  | b, c :: bs => b :: ini c bs
def fin : W → List W → W
  | b, [] => b
  | _, c :: bs => fin c bs
theorem chain_is : ∀ (bs : List W) (b : W), (ini b bs).foldr thenW (fin b bs) = chain b bs
  | [], _ => rfl
  | c :: bs, b => congrArg (thenW b) (chain_is bs c)
theorem ini_len : ∀ (bs : List W) (b : W), (ini b bs).length = bs.length
  | [], _ => rfl
  | c :: bs, b => congrArg (· + 1) (ini_len bs c)
def cQ : Rho → ML.R Bool := mTest (mOp gEq (mOp gIx (mOp gIx (mVar 0) (mVar 4)) (mC (.int 0))) (mC (.str ";")))
def gQ (it : List W → FR) : Rho → ML.R Fl := mSeq (mDrop (mAppend 2 [] (mVar 3))) (mAsgT [] (gTup [gSet [] 3, gSet [] 4]) (mCall [] [] it [mVar 0, mOp gAdd (mVar 4) (mC (.int 1))]))
def frQ (row : List W) (i : Int) (acc : List W) (b : W) (j : Int) : Rho := [Sl.val (.tup row), Sl.val (.int i), Sl.own (.lst acc), Sl.val b, Sl.val (.int j), Sl.no]
theorem cQ_at {row acc : List W} {i j n : Int} {b : W} {k x : A} (h : atI row j = some (tok k x n)) : cQ (frQ row i acc b j) = .ok (decide (k = [59])) (frQ row i acc b j) := by
  unfold tok at h
  unfold cQ frQ
  simp -implicitDefEqProofs [ev_var, h]
theorem run_seq {it : List W → FR} {row : List W} {i e n : Int} {k x : A} (hk : k ≠ [59]) (he : atI row e = some (tok k x n)) : ∀ (bs acc : List W) (b : W) (j : Int), Ch it [59] row j bs e → acc.length + bs.length ≤ 1000 → mWhile cQ (gQ it) (frQ row i acc b j) = .ok .nx (frQ row i (acc ++ ini b bs) (fin b bs) e)
  | [], acc, b, j, h, _ => by
    cases h
    have e1 := cQ_at (i := i) (acc := acc) (b := b) he
    rw [decide_eq_false hk] at e1
    rw [ini, fin, List.append_nil]
    exact while_done e1
  | c :: bs, acc, b, j, h, hl => by
    obtain ⟨⟨x1, n1, h1⟩, j', h2, h3⟩ := h
    have e1 := cQ_at (i := i) (acc := acc) (b := b) h1
    rw [decide_eq_true rfl] at e1
    have hsz : acc.length < sizeLine := by rw [line_is]; simp at hl; omega
    have ih := run_seq (i := i) hk he bs (acc ++ [b]) c j' h3 (by simp at hl ⊢; omega)
    have e2 : gQ it (frQ row i acc b j) = .ok .nx (frQ row i (acc ++ [b]) c j') := by
      unfold gQ frQ
      simp -implicitDefEqProofs [ev_var, ev_own, h2, hsz]
    have := while_go e1 e2 ih
    rw [ini, fin]
    simpa using this
theorem run_then {s0 s1 s2 s4 : Sl} : ∀ (zs : List W) (b : W) (s : Sl), ∃ s', forL (fun w ρ => some (ρ.set 5 (.val w))) (mSet [] 3 (mTup [] [mC (.str "then"), mVar 5, mVar 3])) zs [s0, s1, s2, Sl.val b, s4, s] = .ok .nx [s0, s1, s2, Sl.val (zs.foldl (fun b i => thenW i b) b), s4, s']
  | [], b, s => ⟨s, rfl⟩
  | z :: zs, b, s => by
    obtain ⟨s', ih⟩ := run_then (s0 := s0) (s1 := s1) (s2 := s2) (s4 := s4) zs (thenW z b) (Sl.val z)
    refine ⟨s', ?_⟩
    rw [ev_forc]
    simp -implicitDefEqProofs [ev_var, l3]
    exact ih
theorem e_seq {it : List W → FR} {row bs : List W} {i j e n : Int} {k x : A} {b : W} (h : it [.tup row, .int i] = .ok false (.tup [b, .int j]) []) (hc : Ch it [59] row j bs e) (hk : k ≠ [59]) (he : atI row e = some (tok k x n)) (hl : bs.length ≤ 900) : fun_sequence_at it [.tup row, .int i] = .ok false (.tup [chain b bs, .int e]) [] := by
  have r := run_seq (i := i) hk he bs [] b j hc (by simp; omega)
  obtain ⟨s', r2⟩ := run_then (s0 := Sl.val (.tup row)) (s1 := Sl.val (.int i)) (s2 := Sl.val (.lst (ini b bs))) (s4 := Sl.val (.int e)) (ini b bs).reverse (fin b bs) Sl.no
  rw [List.foldl_reverse, chain_is] at r2
  have e0 : gSet [] 5 = fun w ρ => some (ρ.set 5 (.val w)) := gset_is (by simp)
  unfold cQ gQ frQ at r
  simp at r
  simp at r2
  unfold fun_sequence_at body_sequence_at
  simp -implicitDefEqProofs [ev_var, ev_own, h, l2, line_is, r, e0, r2]
end K06

namespace K06
open PySem PySem.Spec PyProof.Rows L2 ML
/-! ### what is written is read -/
def tkn (p : List A) : List A := p.filter (fun x => decide (x ≠ [32]))
theorem tkn_app (p q : List A) : tkn (p ++ q) = tkn p ++ tkn q := List.filter_append ..
theorem tkn_sp (p : List A) : tkn ([32] :: p) = tkn p := by simp [tkn]
theorem tkn_c {x : A} (h : x ≠ [32]) (p : List A) : tkn (x :: p) = x :: tkn p := by
  unfold tkn
  rw [List.filter_cons_of_pos (by simpa using h)]
theorem tkn_n : tkn [] = [] := rfl
def Rw (row : List W) : Int → List A → Prop
  | _, [] => True
  | i, x :: q => (∃ n, atI row i = some (tok (kindA x) x n)) ∧ Rw row (i + 1) q
theorem Rw.app {row : List W} : ∀ {p q : List A} {i : Int}, Rw row i (p ++ q) → Rw row i p ∧ Rw row (i + p.length) q
  | [], q, i, h => ⟨trivial, by simpa using h⟩
  | x :: p, q, i, h => by
    obtain ⟨h1, h2⟩ := h
    obtain ⟨h3, h4⟩ := Rw.app (p := p) h2
    refine ⟨⟨h1, h3⟩, ?_⟩
    rw [List.length_cons, show i + ((p.length + 1 : Nat) : Int) = i + 1 + p.length by omega]
    exact h4
theorem kind_name {x : A} (h : IsName x) : kindA x = [78, 65, 77, 69] := by
  obtain ⟨c, r, hx, hc⟩ := h.hd
  have hs : x ∉ syms := by
    subst hx
    intro hs
    unfold syms at hs
    simp at hs
    unfold lowC at hc
    simp at hc
    omega
  unfold kindA
  rw [if_neg hs, if_neg h.nres]
  subst hx
  simp [isW, alnum, hc]
theorem name_ne {x : A} (h : IsName x) : x ≠ [32] := by
  rintro rfl
  obtain ⟨c, r, hx, hc⟩ := h.hd
  cases hx
  cases hc
theorem num_ne {n : Nat} (h : n < 1000) : TL.numL n ≠ [32] := by
  intro e
  have := (num_facts n h).1
  rw [e] at this
  cases this
theorem num_val : ∀ n, n < 1000 → NumText.digitsVal (TL.numL n) = n := by decide +kernel
theorem num_int {n : Nat} (h : n < 1000) : gInt [.str (S (TL.numL n))] = some (.val, .int n) := by
  obtain ⟨f1, f2, f3, f4, f5, f6, f7, f8⟩ := num_facts n h
  have e : gInt [.str (S (TL.numL n))] = if (S (TL.numL n)).length ≤ 640 then (PySem.intText? (S (TL.numL n))).map fun n => (.val, .int n) else none := rfl
  have e2 := SX.int_S (a := TL.numL n) f1 f2 (by omega)
  rw [e, S_len, if_pos (by omega), S_is, e2, num_val n h]
  rfl
def Nx (row : List W) (i : Int) (bad : List A) : Prop := ∃ k x n, atI row i = some (tok k x n) ∧ k ∉ bad
theorem nx_of {row : List W} {i n : Int} {x : A} {bad : List A} (h : atI row i = some (tok (kindA x) x n)) (hb : kindA x ∉ bad) : Nx row i bad := ⟨_, _, _, h, hb⟩
theorem WrS.imp {R Q : W → List A → Prop} (f : ∀ b p, R b p → Q b p) {b : W} {p : List A} (h : WrS R b p) : WrS Q b p := by
  cases h with
  | skip => exact .skip
  | quit => exact .quit
  | hole => exact .hole
  | num n h => exact .num n h
  | get x h => exact .get x h
  | call x bs ps h1 h2 h3 => exact .call x bs ps h1 h2 (h3.imp f)
  | set x b p h1 h2 => exact .set x b p h1 (f _ _ h2)
  | seq b c p q h1 h2 => exact .seq b c p q (f _ _ h1) (f _ _ h2)
  | new x n b p h1 h2 h3 => exact .new x n b p h1 h2 (f _ _ h3)
  | lett x ms b c p q h1 h2 h3 h4 h5 => exact .lett x ms b c p q h1 h2 h3 (f _ _ h4) (f _ _ h5)
  | iff a b c p q r h1 h2 h3 => exact .iff a b c p q r (f _ _ h1) (f _ _ h2) (f _ _ h3)
  | loop a b p q h1 h2 => exact .loop a b p q (f _ _ h1) (f _ _ h2)
  | op k a b p q h1 h2 h3 => exact .op k a b p q h1 (f _ _ h2) (f _ _ h3)
theorem Wr.succ : ∀ {d : Nat} {b : W} {p : List A}, Wr d b p → Wr (d + 1) b p
  | 0, _, _, h => h.elim
  | d + 1, _, _, h => WrS.imp (fun _ _ h => Wr.succ h) h
theorem Wr.mono {d e : Nat} (l : d ≤ e) {b : W} {p : List A} (h : Wr d b p) : Wr e b p := by
  induction l with
  | refl => exact h
  | step _ ih => exact ih.succ
noncomputable def itF' (it sq : List W → FR) : List W → FR :=
  fun_item_at (fun_after_name it (fun_arguments_at sq fun_passed)) (fun_in_parentheses sq fun_passed (fun_enclosed sq fun_passed)) (fun_if_at (fun_enclosed sq fun_passed)) (fun_while_at (fun_enclosed sq fun_passed)) (fun_new_at fun_passed (fun_enclosed sq fun_passed)) (fun_let_at fun_passed (fun_parameters_at (fun_parameter_at fun_passed) fun_passed) (fun_enclosed sq fun_passed))
noncomputable def itF : Nat → List W → FR
  | 0 => fun _ => .stk
  | n + 1 => itF' (itF n) (fun_sequence_at (itF n))
noncomputable def sqF (n : Nat) : List W → FR := fun_sequence_at (itF n)
def Rd (s : List W → FR) (row : List W) (b : W) (q : List A) (bad : List A) : Prop := ∀ i : Int, Rw row i q → Nx row (i + q.length) bad → s [.tup row, .int i] = .ok false (.tup [b, .int (i + q.length)]) []
theorem Nx.weak {row : List W} {i : Int} {bad bad' : List A} (h : Nx row i bad) (l : ∀ x ∈ bad', x ∈ bad) : Nx row i bad' := by
  obtain ⟨k, x, n, h1, h2⟩ := h
  exact ⟨k, x, n, h1, fun hb => h2 (l _ hb)⟩
/-! ### free rows -/
def tlc : List (List A) → List A
  | [] => []
  | p :: ps => [44] :: (p ++ tlc ps)
def comm : List (List A) → List A
  | [] => []
  | p :: ps => p ++ tlc ps
def prmR (m : A × Bool) : List A := [m.1, kd m.2]
/-- a sequence of items -/
inductive FqT (R : W → List A → Prop) : Nat → W → List A → Prop
  | one {k : Nat} {b : W} {p : List A} : R b p → FqT R (k + 1) b p
  | seq {k : Nat} {b c : W} {p q : List A} : R b p → FqT R k c q → FqT R (k + 1) (.tup [.str (S [116, 104, 101, 110]), b, c]) (p ++ [59] :: q)
/-- an item of parts: R of an item, Q of a sequence -/
inductive FrS (R Q : W → List A → Prop) : W → List A → Prop
  | skip : FrS R Q (.tup [.str (S [115, 107, 105, 112])]) [[115, 107, 105, 112]]
  | quit : FrS R Q (.tup [.str (S [113, 117, 105, 116])]) [[113, 117, 105, 116]]
  | hole : FrS R Q (.tup [.str (S [104, 111, 108, 101])]) [[91, 93]]
  | num (n : Nat) : n < 1000 → FrS R Q (.tup [.str (S [110, 117, 109, 98, 101, 114]), .int n]) [TL.numL n]
  | get (x : A) : IsName x → FrS R Q (.tup [.str (S [103, 101, 116]), .str (S x)]) [x]
  | call (x : A) (bs : List W) (ps : List (List A)) : IsName x → bs.length ≤ 100 → All2 Q bs ps → FrS R Q (.tup [.str (S [99, 97, 108, 108]), .str (S x), .tup bs]) (x :: [40] :: (comm ps ++ [[41]]))
  | set (x : A) (b : W) (p : List A) : IsName x → R b p → FrS R Q (.tup [.str (S [115, 101, 116]), .str (S x), b]) (x :: [58, 61] :: p)
  | new (x : A) (n : Nat) (b : W) (p : List A) : IsName x → n < 1000 → Q b p → FrS R Q (.tup [.str (S [110, 101, 119]), .str (S x), .int n, b]) ([110, 101, 119] :: x :: [58, 61] :: TL.numL n :: [105, 110] :: (p ++ [[101, 110, 100]]))
  | lett (x : A) (ms : List (A × Bool)) (b c : W) (p q : List A) : IsName x → ms.length ≤ 100 → (∀ m ∈ ms, IsName m.1) → Q b p → Q c q → FrS R Q (.tup [.str (S [108, 101, 116]), .str (S x), .tup (ms.map prmW), b, c]) ([108, 101, 116] :: x :: [40] :: (comm (ms.map prmR) ++ [41] :: [98, 101] :: (p ++ [105, 110] :: (q ++ [[101, 110, 100]]))))
  | iff (a b c : W) (p q r : List A) : Q a p → Q b q → Q c r → FrS R Q (.tup [.str (S [105, 102]), a, b, c]) ([105, 102] :: (p ++ [116, 104, 101, 110] :: (q ++ [101, 108, 115, 101] :: (r ++ [[102, 105]]))))
  | loop (a b : W) (p q : List A) : Q a p → Q b q → FrS R Q (.tup [.str (S [119, 104, 105, 108, 101]), a, b]) ([119, 104, 105, 108, 101] :: (p ++ [100, 111] :: (q ++ [[111, 100]])))
  | op (k : Nat) (a b : W) (p q : List A) : k < 3 → Q a p → Q b q → FrS R Q (.tup [.str (S (sgw k)), a, b]) ([40] :: (p ++ sgn k :: (q ++ [[41]])))
  | par (b : W) (p : List A) : Q b p → FrS R Q b ([40] :: (p ++ [[41]]))
def Fi : Nat → W → List A → Prop
  | 0 => fun _ _ => False
  | n + 1 => FrS (Fi n) (FqT (Fi n) 100)
def Fq (n : Nat) : W → List A → Prop := FqT (Fi n) 100
theorem FqT.imp {R R' : W → List A → Prop} (f : ∀ b p, R b p → R' b p) : ∀ {k : Nat} {b : W} {p : List A}, FqT R k b p → FqT R' k b p
  | _, _, _, .one h => .one (f _ _ h)
  | _, _, _, .seq h t => .seq (f _ _ h) (t.imp f)
theorem FqT.up {R : W → List A → Prop} : ∀ {k e : Nat} {b : W} {p : List A}, k ≤ e → FqT R k b p → FqT R e b p
  | k + 1, 0, _, _, l, _ => by omega
  | _ + 1, _ + 1, _, _, _, .one h => .one h
  | k + 1, e + 1, _, _, l, .seq h t => .seq h (t.up (Nat.le_of_succ_le_succ l))
theorem FrS.imp {R Q R' Q' : W → List A → Prop} (f : ∀ b p, R b p → R' b p) (g : ∀ b p, Q b p → Q' b p) {b : W} {p : List A} (h : FrS R Q b p) : FrS R' Q' b p := by
  cases h with
  | skip => exact .skip
  | quit => exact .quit
  | hole => exact .hole
  | num n h => exact .num n h
  | get x h => exact .get x h
  | call x bs ps h1 h2 h3 => exact .call x bs ps h1 h2 (h3.imp g)
  | set x b p h1 h2 => exact .set x b p h1 (f _ _ h2)
  | new x n b p h1 h2 h3 => exact .new x n b p h1 h2 (g _ _ h3)
  | lett x ms b c p q h1 h2 h3 h4 h5 => exact .lett x ms b c p q h1 h2 h3 (g _ _ h4) (g _ _ h5)
  | iff a b c p q r h1 h2 h3 => exact .iff a b c p q r (g _ _ h1) (g _ _ h2) (g _ _ h3)
  | loop a b p q h1 h2 => exact .loop a b p q (g _ _ h1) (g _ _ h2)
  | op k a b p q h1 h2 h3 => exact .op k a b p q h1 (g _ _ h2) (g _ _ h3)
  | par b p h => exact .par b p (g _ _ h)
theorem Fi.succ : ∀ {d : Nat} {b : W} {p : List A}, Fi d b p → Fi (d + 1) b p
  | 0, _, _, h => h.elim
  | d + 1, _, _, h => FrS.imp (fun _ _ h => Fi.succ h) (fun _ _ h => h.imp fun _ _ h => Fi.succ h) h
theorem Fi.mono {d e : Nat} (l : d ≤ e) {b : W} {p : List A} (h : Fi d b p) : Fi e b p := by
  induction l with
  | refl => exact h
  | step _ ih => exact ih.succ
theorem Fq.mono {d e : Nat} (l : d ≤ e) {b : W} {p : List A} (h : Fq d b p) : Fq e b p := FqT.imp (fun _ _ h => h.mono l) h
def G (n m : Nat) : Prop := ∀ (row : List W) (b : W) (p : List A), Fi n b p → Rd (itF m) row b p [[58, 61], [40]]
def T (n m : Nat) : Prop := ∀ (row : List W) (b : W) (p : List A), Fq n b p → Rd (sqF m) row b p [[58, 61], [40], [59]]
/-- a row of blocks b1; b2; .. -/
theorem seq_chain {n m : Nat} {row : List W} (hG : G n m) : ∀ (k : Nat) (b : W) (p : List A) (j : Int), FqT (Fi n) k b p → Rw row j p → Nx row (j + p.length) [[58, 61], [40], [59]] →
    ∃ c bs j', chain c bs = b ∧ bs.length ≤ k ∧ itF m [.tup row, .int j] = .ok false (.tup [c, .int j']) [] ∧ Ch (itF m) [59] row j' bs (j + p.length)
  | _, _, _, j, .one (b := b) (p := p) h, hr, hn => ⟨b, [], _, rfl, by simp, hG row b p h j hr (hn.weak (by simp)), rfl⟩
  | _, _, _, j, .seq (k := k) (b := b1) (c := c) (p := p1) (q := q) h1 h2, hr, hn => by
    obtain ⟨r1, r2⟩ := hr.app
    obtain ⟨⟨n1, r3⟩, r4⟩ := r2
    have e1 := hG row b1 p1 h1 j r1 (nx_of r3 (by decide))
    have e5 : j + ((p1 ++ [59] :: q).length : Int) = j + p1.length + 1 + q.length := by
      simp
      omega
    rw [e5] at hn ⊢
    obtain ⟨c1, bs, j', f1, f2, f3, f4⟩ := seq_chain hG k c q (j + p1.length + 1) h2 r4 hn
    exact ⟨b1, c1 :: bs, _, by rw [chain, f1]; rfl, by simp; omega, e1, ⟨_, n1, r3⟩, j', f3, f4⟩
theorem T_of {n m : Nat} (h : G n m) : T n m := by
  intro row b p hb i hr hx
  obtain ⟨c, bs, j', f1, f2, f3, f4⟩ := seq_chain h 100 b p i hb hr hx
  obtain ⟨k, x, nn, g1, g2⟩ := hx
  have := e_seq f3 f4 (k := k) (fun z => g2 (by rw [z]; simp)) g1 (by omega)
  rw [f1] at this
  exact this
theorem nx_tlc {row : List W} {i n : Int} {ps : List (List A)} (hr : Rw row i (tlc ps)) (he : atI row (i + (tlc ps).length) = some (tok [41] [41] n)) : Nx row i [[58, 61], [40], [59]] := by
  cases ps with
  | nil => exact ⟨_, _, _, by simpa [tlc] using he, by simp⟩
  | cons p ps =>
    obtain ⟨⟨n1, h1⟩, _⟩ := hr
    exact nx_of h1 (by decide)
theorem ch_tlc {s : List W → FR} {row : List W} {α : Type} {f : α → W} {g : α → List A} {n : Int} : ∀ (ms : List α) (j : Int), (∀ m ∈ ms, Rd s row (f m) (g m) [[58, 61], [40], [59]]) → Rw row j (tlc (ms.map g)) → atI row (j + (tlc (ms.map g)).length) = some (tok [41] [41] n) → Ch s [44] row j (ms.map f) (j + (tlc (ms.map g)).length)
  | [], j, _, _, _ => by simp [tlc, Ch]
  | m :: ms, j, h, hr, he => by
    obtain ⟨⟨n1, h1⟩, h2⟩ := hr
    have h2' : Rw row (j + 1) (g m ++ tlc (ms.map g)) := h2
    obtain ⟨r1, r2⟩ := h2'.app
    have e5 : j + ((tlc ((m :: ms).map g)).length : Int) = j + 1 + (g m).length + (tlc (ms.map g)).length := by
      simp [tlc]
      omega
    rw [e5] at he ⊢
    have e1 := h m (List.mem_cons_self ..) (j + 1) r1 (nx_tlc r2 he)
    exact ⟨⟨_, n1, h1⟩, _, e1, ch_tlc ms _ (fun x hx => h x (List.mem_cons_of_mem _ hx)) r2 he⟩
end K06

namespace K06
open PySem PySem.Spec PyProof.Rows L2 ML
theorem okI {w : W} {a b : Int} (h : a = b) : FR.ok false (.tup [w, .int a]) [] = .ok false (.tup [w, .int b]) [] := by rw [h]
theorem two_lists {R : W → List A → Prop} : ∀ {bs : List W} {ps : List (List A)}, All2 R bs ps → ∃ ms : List (W × List A), ms.map (·.1) = bs ∧ ms.map (·.2) = ps ∧ ∀ m ∈ ms, R m.1 m.2
  | _, _, .nil => ⟨[], rfl, rfl, fun _ h => nomatch h⟩
  | b :: bs, p :: ps, .cons h t => by
    obtain ⟨ms, e1, e2, e3⟩ := two_lists t
    refine ⟨(b, p) :: ms, by simp [e1], by simp [e2], fun m hm => ?_⟩
    cases hm with
    | head => exact h
    | tail _ hm => exact e3 m hm
theorem name_rp {x : A} (h : IsName x) : kindA x ≠ [41] := by rw [kind_name h]; decide
/-- a block's first token is no ")" -/
theorem first_it : ∀ (d : Nat) (b : W) (p : List A), Fi d b p → ∃ x q, p = x :: q ∧ kindA x ≠ [41]
  | 0, _, _, h => h.elim
  | d + 1, b, p, h => by
    have h0 : FrS (Fi d) (FqT (Fi d) 100) b p := h
    cases h0 with
    | skip => exact ⟨_, _, rfl, by decide⟩
    | quit => exact ⟨_, _, rfl, by decide⟩
    | hole => exact ⟨_, _, rfl, by decide⟩
    | num n hn => exact ⟨_, _, rfl, by rw [(num_facts n hn).2.2.2.2.2.2.1]; decide⟩
    | get x hx => exact ⟨_, _, rfl, name_rp hx⟩
    | call x bs ps hx hb h => exact ⟨_, _, rfl, name_rp hx⟩
    | set x b p hx h => exact ⟨_, _, rfl, name_rp hx⟩
    | _ => exact ⟨_, _, rfl, by decide⟩
theorem first_sq {d k : Nat} {b : W} {p : List A} (h : FqT (Fi d) k b p) : ∃ x q, p = x :: q ∧ kindA x ≠ [41] := by
  cases h with
  | one h => exact first_it d _ _ h
  | seq h t =>
    obtain ⟨x, q, rfl, hx⟩ := first_it d _ _ h
    exact ⟨x, _, rfl, hx⟩
theorem first_rp {d : Nat} {b : W} {p : List A} {row : List W} {i : Int} (h : Fq d b p) (hr : Rw row i p) : ∃ k x n, atI row i = some (tok k x n) ∧ k ≠ [41] := by
  obtain ⟨x, q, e, hx⟩ := first_sq h
  rw [e] at hr
  obtain ⟨⟨n, h1⟩, _⟩ := hr
  exact ⟨_, _, _, h1, hx⟩
theorem rd_prm {row : List W} (m : A × Bool) (h : IsName m.1) : Rd (fun_parameter_at fun_passed) row (prmW m) (prmR m) [[58, 61], [40], [59]] := by
  intro i hr hx
  unfold prmR at hr ⊢
  obtain ⟨⟨n1, h1⟩, ⟨n2, h2⟩, _⟩ := hr
  have e : kindA (kd m.2) = kd m.2 := by cases m.2 <;> decide
  rw [kind_name h] at h1
  rw [e] at h2
  exact (e_param h1 h2).trans (okI (by simp; omega))
theorem G_succ {n m : Nat} (hG : G n m) (hT : T n m) : G (n + 1) (m + 1) := by
  intro row b p h00 i hr hx
  have h0 : FrS (Fi n) (FqT (Fi n) 100) b p := h00
  cases h0 with
  | par b p h =>
    obtain ⟨⟨n1, h1⟩, h2⟩ := hr
    obtain ⟨r1, ⟨n2, h3⟩, _⟩ := Rw.app h2
    have e1 := hT row b p h _ r1 (nx_of h3 (by decide))
    exact (e_item_par h1 (e_par_group e1 h3)).trans (okI (by simp; omega))
  | skip =>
    obtain ⟨⟨n1, h1⟩, _⟩ := hr
    exact (e_item_skip h1).trans (okI (by simp))
  | quit =>
    obtain ⟨⟨n1, h1⟩, _⟩ := hr
    exact (e_item_quit h1).trans (okI (by simp))
  | hole =>
    obtain ⟨⟨n1, h1⟩, _⟩ := hr
    exact (e_item_hole h1).trans (okI (by simp))
  | num k hk =>
    obtain ⟨⟨n1, h1⟩, _⟩ := hr
    rw [(num_facts k hk).2.2.2.2.2.2.1] at h1
    exact (e_item_num h1 (num_int hk)).trans (okI (by simp))
  | get x hn =>
    obtain ⟨⟨n1, h1⟩, _⟩ := hr
    rw [kind_name hn] at h1
    obtain ⟨k, x2, n2, h3, h4⟩ := hx
    simp at h4
    exact (e_item_name h1 (e_an_get h1 (by simpa using h3) h4.1 h4.2)).trans (okI (by simp))
  | call x bs ps hn hb h =>
    obtain ⟨ms, f1, f2, f3⟩ := two_lists h
    subst f1 f2
    cases ms with
    | nil =>
      obtain ⟨⟨n1, h1⟩, ⟨n2, h2⟩, ⟨n3, h3⟩, _⟩ := hr
      rw [kind_name hn] at h1
      rw [show i + 1 + 1 = i + 2 by omega] at h3
      exact (e_item_name h1 (e_an_call h1 h2 (e_args_nil h3))).trans (okI (by simp [comm]; omega))
    | cons w ms =>
      have eq : x :: [40] :: (comm (List.map (·.2) (w :: ms)) ++ [[41]]) = x :: [40] :: (w.2 ++ (tlc (ms.map (·.2)) ++ [[41]])) := by
        simp [comm]
      rw [eq] at hr ⊢
      obtain ⟨⟨n1, h1⟩, ⟨n2, h2⟩, h3⟩ := hr
      obtain ⟨r1, h4⟩ := Rw.app h3
      obtain ⟨r2, ⟨n3, h5⟩, _⟩ := Rw.app h4
      rw [kind_name hn] at h1
      rw [show i + 1 + 1 = i + 2 by omega] at r1 r2 h5
      have e1 := hT row w.1 w.2 (f3 w (List.mem_cons_self ..)) _ r1 (nx_tlc r2 h5)
      have e2 := ch_tlc (f := fun m : W × List A => m.1) (g := fun m => m.2) ms _ (fun x hx => hT row x.1 x.2 (f3 x (List.mem_cons_of_mem _ hx))) r2 h5
      obtain ⟨k, x2, n4, g1, g2⟩ := first_rp (f3 w (List.mem_cons_self ..)) r1
      have hl : (ms.map (·.1)).length ≤ 900 := by simp at hb ⊢; omega
      exact (e_item_name h1 (e_an_call h1 h2 (e_args g1 g2 e1 e2 h5 hl))).trans (okI (by simp; omega))
  | set x b p hn h =>
    obtain ⟨⟨n1, h1⟩, ⟨n2, h2⟩, r1⟩ := hr
    rw [kind_name hn] at h1
    rw [show i + 1 + 1 = i + 2 by omega] at r1
    have e1 := hG row b p h (i + 2) r1 (by
      have e5 : i + ((x :: [58, 61] :: p).length : Int) = i + 2 + p.length := by simp; omega
      rw [e5] at hx
      exact hx)
    exact (e_item_name h1 (e_an_set h1 h2 e1)).trans (okI (by simp; omega))
  | new x k b p hn hk h =>
    obtain ⟨⟨n1, h1⟩, ⟨n2, h2⟩, ⟨n3, h3⟩, ⟨n4, h4⟩, ⟨n5, h5⟩, h6⟩ := hr
    obtain ⟨r1, ⟨n6, h7⟩, _⟩ := Rw.app h6
    rw [kind_name hn] at h2
    rw [(num_facts k hk).2.2.2.2.2.2.1] at h4
    have e1 := hT row b p h _ r1 (nx_of h7 (by decide))
    exact (e_item_new h1 (e_new h2 h3 h4 h5 (num_int hk) (e_enclosed e1 h7))).trans (okI (by simp; omega))
  | lett x ms b c p q hn hms hm h1 h2 =>
    cases ms with
    | nil =>
      obtain ⟨⟨n1, g1⟩, ⟨n2, g2⟩, ⟨n3, g3⟩, ⟨n4, g4⟩, ⟨n5, g5⟩, g6⟩ := hr
      obtain ⟨r1, ⟨n6, g7⟩, g8⟩ := Rw.app g6
      obtain ⟨r2, ⟨n7, g9⟩, _⟩ := Rw.app g8
      rw [kind_name hn] at g2
      have e1 := hT row b p h1 _ r1 (nx_of g7 (by decide))
      have e2 := hT row c q h2 _ r2 (nx_of g9 (by decide))
      exact (e_item_let g1 (e_let g2 g3 (e_params_nil g4) g5 (e_enclosed e1 g7) (e_enclosed e2 g9))).trans (okI (by simp [comm]; omega))
    | cons w ms =>
      have eq : [108, 101, 116] :: x :: [40] :: (comm (List.map prmR (w :: ms)) ++ [41] :: [98, 101] :: (p ++ [105, 110] :: (q ++ [[101, 110, 100]]))) = [108, 101, 116] :: x :: [40] :: (prmR w ++ (tlc (ms.map prmR) ++ [41] :: [98, 101] :: (p ++ [105, 110] :: (q ++ [[101, 110, 100]])))) := by
        simp [comm]
      rw [eq] at hr ⊢
      obtain ⟨⟨n1, g1⟩, ⟨n2, g2⟩, ⟨n3, g3⟩, g4⟩ := hr
      obtain ⟨q1, g4⟩ := Rw.app g4
      obtain ⟨q2, ⟨n4, g4⟩, ⟨n5, g5⟩, g6⟩ := Rw.app g4
      obtain ⟨r1, ⟨n6, g7⟩, g8⟩ := Rw.app g6
      obtain ⟨r2, ⟨n7, g9⟩, _⟩ := Rw.app g8
      rw [kind_name hn] at g2
      have hw := hm w (List.mem_cons_self ..)
      have e1 := hT row b p h1 _ r1 (nx_of g7 (by decide))
      have e2 := hT row c q h2 _ r2 (nx_of g9 (by decide))
      have e3 := rd_prm (row := row) w hw _ q1 (nx_tlc q2 g4)
      have e4 := ch_tlc (s := fun_parameter_at fun_passed) (f := prmW) (g := prmR) ms _ (fun x hx => rd_prm x (hm x (List.mem_cons_of_mem _ hx))) q2 g4
      have hl : (ms.map prmW).length ≤ 900 := by simp at hms ⊢; omega
      have g10 : ∃ n, atI row (i + 1 + 1 + 1) = some (tok [78, 65, 77, 69] w.1 n) := by
        unfold prmR at q1
        obtain ⟨⟨n, q1⟩, _⟩ := q1
        rw [kind_name hw] at q1
        exact ⟨n, q1⟩
      obtain ⟨n8, g10⟩ := g10
      exact (e_item_let g1 (e_let g2 g3 (e_params g10 (by simp) e3 e4 g4 hl) g5 (e_enclosed e1 g7) (e_enclosed e2 g9))).trans (okI (by simp; omega))
  | iff a b c p q r h1 h2 h3 =>
    obtain ⟨⟨n1, g1⟩, g2⟩ := hr
    obtain ⟨r1, ⟨n2, g3⟩, g4⟩ := Rw.app g2
    obtain ⟨r2, ⟨n3, g5⟩, g6⟩ := Rw.app g4
    obtain ⟨r3, ⟨n4, g7⟩, _⟩ := Rw.app g6
    have e1 := hT row a p h1 _ r1 (nx_of g3 (by decide))
    have e2 := hT row b q h2 _ r2 (nx_of g5 (by decide))
    have e3 := hT row c r h3 _ r3 (nx_of g7 (by decide))
    exact (e_item_if g1 (e_if (e_enclosed e1 g3) (e_enclosed e2 g5) (e_enclosed e3 g7))).trans (okI (by simp; omega))
  | loop a b p q h1 h2 =>
    obtain ⟨⟨n1, g1⟩, g2⟩ := hr
    obtain ⟨r1, ⟨n2, g3⟩, g4⟩ := Rw.app g2
    obtain ⟨r2, ⟨n3, g5⟩, _⟩ := Rw.app g4
    have e1 := hT row a p h1 _ r1 (nx_of g3 (by decide))
    have e2 := hT row b q h2 _ r2 (nx_of g5 (by decide))
    exact (e_item_while g1 (e_while (e_enclosed e1 g3) (e_enclosed e2 g5))).trans (okI (by simp; omega))
  | op k a b p q hk h1 h2 =>
    have hs : kindA (sgn k) = sgn k ∧ kindA (sgn k) ∉ ([[58, 61], [40], [59]] : List A) := by
      rcases sgw_ne hk with rfl | rfl | rfl <;> exact ⟨by decide, by decide⟩
    obtain ⟨⟨n1, g1⟩, g2⟩ := hr
    obtain ⟨r1, ⟨n2, g3⟩, g4⟩ := Rw.app g2
    obtain ⟨r2, ⟨n3, g5⟩, _⟩ := Rw.app g4
    have e1 := hT row a p h1 _ r1 (nx_of g3 hs.2)
    have e2 := hT row b q h2 _ r2 (nx_of g5 (by decide))
    rw [hs.1] at g3
    exact (e_item_par g1 (e_par_op hk e1 g3 (e_enclosed e2 g5))).trans (okI (by simp; omega))
theorem G_all : ∀ (n m : Nat), n ≤ m → G n m
  | 0, m, _ => fun row b p h => h.elim
  | n + 1, 0, hm => by omega
  | n + 1, m + 1, hm => G_succ (G_all n m (by omega)) (T_of (G_all n m (by omega)))
end K06

namespace K06
open PySem PySem.Spec PyProof.Rows L2 ML
/-! ### the pieces of a block's text are good, words apart -/
def Gs (p : List A) : Prop := ∀ x ∈ p, x = [32] ∨ Gd x
theorem Gs.nil : Gs [] := fun _ h => nomatch h
theorem Gs.cons {x : A} {p : List A} (h : x = [32] ∨ Gd x) (t : Gs p) : Gs (x :: p) := fun y hy => by
  cases hy with
  | head => exact h
  | tail _ hy => exact t y hy
theorem Gs.app {p q : List A} (h : Gs p) (t : Gs q) : Gs (p ++ q) := fun y hy => (List.mem_append.mp hy).elim (h y) (t y)
def gdB (x : A) : Bool := decide (x = [32]) || decide (x ∈ syms) || decide (x ∈ resv)
theorem gd_lit {x : A} (h : gdB x = true) : x = [32] ∨ Gd x := by
  unfold gdB at h
  simp at h
  rcases h with (h | h) | h
  · exact .inl h
  · exact .inr (.sym h)
  · exact .inr (.res h)
theorem Gs.lits {p : List A} (h : p.all gdB = true) : Gs p := fun x hx => gd_lit (List.all_eq_true.mp h x hx)
def Ok (p : List A) : Prop := Gs p ∧ sepF false p = true
theorem name_W {x : A} (h : IsName x) : isW x = true := by
  obtain ⟨c, r, hx, hc⟩ := h.hd
  subst hx
  simp [isW, alnum, hc]
theorem sep_w {x c : A} (hc : isW c = false) (q : List A) : sepF false (x :: c :: q) = sepF false q := by simp [sepF, hc]
theorem ok_mid {p q : List A} {c : A} (hp : Ok p) (hc : isW c = false) (hg : gdB c = true) (hq : Ok q) : Ok (p ++ c :: q) := ⟨hp.1.app (.cons (gd_lit hg) hq.1), by rw [sep_mid hc, hp.2, hq.2]; rfl⟩
theorem ok_w {x c : A} {q : List A} (hx : x = [32] ∨ Gd x) (hc : isW c = false) (hg : gdB c = true) (hq : Ok q) : Ok (x :: c :: q) := ⟨.cons hx (.cons (gd_lit hg) hq.1), by rw [sep_w hc, hq.2]⟩
theorem ok_c {c : A} {q : List A} (hc : isW c = false) (hg : gdB c = true) (hq : Ok q) : Ok (c :: q) := ⟨.cons (gd_lit hg) hq.1, by simp [sepF, hc, hq.2]⟩
theorem ok_1 {x : A} (hx : x = [32] ∨ Gd x) : Ok [x] := ⟨.cons hx .nil, rfl⟩
theorem ok_0 : Ok [] := ⟨.nil, rfl⟩
theorem ok_grp {b : W} {p : List A} (h : Ok p) : Ok (grp b p) := by
  unfold grp
  split
  · exact ok_c (c := [40]) rfl (by decide) (ok_mid h rfl (by decide) ok_0)
  · exact h
theorem ok_commas : ∀ {ps : List (List A)}, (∀ p ∈ ps, Ok p) → Ok (commas ps)
  | [], _ => ok_0
  | [p], h => h p (List.mem_cons_self ..)
  | p :: q :: r, h => by
    show Ok (p ++ ([[44], [32]] ++ commas (q :: r)))
    exact ok_mid (h p (List.mem_cons_self ..)) rfl (by decide) (ok_c (c := [32]) rfl (by decide) (ok_commas fun x hx => h x (List.mem_cons_of_mem _ hx)))
theorem ok_prm {m : A × Bool} (h : IsName m.1) : Ok (prmP m) := by
  unfold prmP
  refine ok_w (.inr (.name h)) rfl (by decide) (ok_1 ?_)
  cases m.2 <;> exact gd_lit (by decide)
theorem ok_block : ∀ (d : Nat) {b : W} {p : List A}, Wr d b p → Ok p
  | 0, _, _, h => h.elim
  | d + 1, b, p, h => by
    have ih : ∀ {b : W} {p : List A}, Wr d b p → Ok p := fun h => ok_block d h
    have h0 : WrS (Wr d) b p := h
    have lit : ∀ {x : A}, gdB x = true → (x = [32] ∨ Gd x) := fun h => gd_lit h
    cases h0 with
    | skip => exact ok_1 (lit (by decide))
    | quit => exact ok_1 (lit (by decide))
    | hole => exact ok_1 (lit (by decide))
    | num n hn => exact ok_1 (.inr (.num hn))
    | get x hx => exact ok_1 (.inr (.name hx))
    | call x bs ps hx hb h1 =>
      have : ∀ p ∈ ps, Ok p := by
        clear h hb
        induction h1 with
        | nil => exact fun _ h => nomatch h
        | cons h _ ihl =>
          intro p hp
          cases hp with
          | head => exact ih h
          | tail _ hp => exact ihl p hp
      rw [List.append_assoc]
      exact ok_w (.inr (.name hx)) rfl (by decide) (ok_mid (ok_commas this) rfl (by decide) ok_0)
    | set x b p hx h1 => exact ok_w (.inr (.name hx)) (c := [32]) rfl (by decide) (ok_c (c := [58, 61]) rfl (by decide) (ok_c (c := [32]) rfl (by decide) (ok_grp (ih h1))))
    | seq b c p q h1 h2 =>
      rw [List.append_assoc]
      exact ok_mid (ok_grp (ih h1)) (c := [59]) rfl (by decide) (ok_c (c := [32]) rfl (by decide) (ih h2))
    | new x n b p hx hn h1 =>
      rw [List.append_assoc]
      exact ok_w (lit (by decide)) (c := [32]) rfl (by decide) (ok_w (.inr (.name hx)) (c := [32]) rfl (by decide) (ok_c (c := [58, 61]) rfl (by decide) (ok_c (c := [32]) rfl (by decide) (ok_w (.inr (.num hn)) (c := [32]) rfl (by decide) (ok_w (lit (by decide)) (c := [32]) rfl (by decide) (ok_mid (ih h1) (c := [32]) rfl (by decide) (ok_1 (lit (by decide)))))))))
    | lett x ms b c p q hx hms hm h1 h2 =>
      have e : [[108, 101, 116], [32], x, [40]] ++ commas (ms.map prmP) ++ [[41], [32], [98, 101], [32]] ++ p ++ [[32], [105, 110], [32]] ++ q ++ [[32], [101, 110, 100]] = [108, 101, 116] :: [32] :: x :: [40] :: (commas (ms.map prmP) ++ [41] :: [32] :: [98, 101] :: [32] :: (p ++ [32] :: [105, 110] :: [32] :: (q ++ [32] :: [[101, 110, 100]]))) := by simp
      rw [e]
      refine ok_w (lit (by decide)) (c := [32]) rfl (by decide) (ok_w (.inr (.name hx)) (c := [40]) rfl (by decide) (ok_mid (ok_commas fun p hp => ?_) (c := [41]) rfl (by decide) (ok_c (c := [32]) rfl (by decide) (ok_w (lit (by decide)) (c := [32]) rfl (by decide) (ok_mid (ih h1) (c := [32]) rfl (by decide) (ok_w (lit (by decide)) (c := [32]) rfl (by decide) (ok_mid (ih h2) (c := [32]) rfl (by decide) (ok_1 (lit (by decide))))))))))
      obtain ⟨m, hm1, rfl⟩ := List.mem_map.mp hp
      exact ok_prm (hm m hm1)
    | iff a b c p q r h1 h2 h3 =>
      have e : [[105, 102], [32]] ++ p ++ [[32], [116, 104, 101, 110], [32]] ++ q ++ [[32], [101, 108, 115, 101], [32]] ++ r ++ [[32], [102, 105]] = [105, 102] :: [32] :: (p ++ [32] :: [116, 104, 101, 110] :: [32] :: (q ++ [32] :: [101, 108, 115, 101] :: [32] :: (r ++ [32] :: [[102, 105]]))) := by simp
      rw [e]
      exact ok_w (lit (by decide)) (c := [32]) rfl (by decide) (ok_mid (ih h1) (c := [32]) rfl (by decide) (ok_w (lit (by decide)) (c := [32]) rfl (by decide) (ok_mid (ih h2) (c := [32]) rfl (by decide) (ok_w (lit (by decide)) (c := [32]) rfl (by decide) (ok_mid (ih h3) (c := [32]) rfl (by decide) (ok_1 (lit (by decide))))))))
    | loop a b p q h1 h2 =>
      have e : [[119, 104, 105, 108, 101], [32]] ++ p ++ [[32], [100, 111], [32]] ++ q ++ [[32], [111, 100]] = [119, 104, 105, 108, 101] :: [32] :: (p ++ [32] :: [100, 111] :: [32] :: (q ++ [32] :: [[111, 100]])) := by simp
      rw [e]
      exact ok_w (lit (by decide)) (c := [32]) rfl (by decide) (ok_mid (ih h1) (c := [32]) rfl (by decide) (ok_w (lit (by decide)) (c := [32]) rfl (by decide) (ok_mid (ih h2) (c := [32]) rfl (by decide) (ok_1 (lit (by decide))))))
    | op k a b p q hk h1 h2 =>
      have e : [[40]] ++ p ++ [[32], sgn k, [32]] ++ q ++ [[41]] = [40] :: (p ++ [32] :: sgn k :: [32] :: (q ++ [41] :: [])) := by simp
      have hs : isW (sgn k) = false ∧ gdB (sgn k) = true := by rcases sgw_ne hk with rfl | rfl | rfl <;> exact ⟨rfl, by decide⟩
      rw [e]
      exact ok_c (c := [40]) rfl (by decide) (ok_mid (ih h1) (c := [32]) rfl (by decide) (ok_c hs.1 hs.2 (ok_c (c := [32]) rfl (by decide) (ok_mid (ih h2) (c := [41]) rfl (by decide) ok_0))))
/-! ### written rows are free rows -/
theorem tlc_map {α : Type} {f : α → List A} {g : α → List A} : ∀ {ms : List α}, (∀ m ∈ ms, f m = g m) → tlc (ms.map f) = tlc (ms.map g)
  | [], _ => rfl
  | m :: ms, h => by
    show [44] :: (f m ++ tlc (ms.map f)) = [44] :: (g m ++ tlc (ms.map g))
    rw [h m (List.mem_cons_self ..), tlc_map fun x hx => h x (List.mem_cons_of_mem _ hx)]
theorem tkn_commas : ∀ ps : List (List A), tkn (commas ps) = comm (ps.map tkn)
  | [] => rfl
  | [p] => by simp [commas, comm, tlc]
  | p :: q :: ps => by
    show tkn (p ++ ([[44], [32]] ++ commas (q :: ps))) = _
    rw [tkn_app, tkn_app, tkn_c (by simp), tkn_sp, tkn_n, tkn_commas (q :: ps)]
    simp [comm, tlc]
theorem tkn_prm {m : A × Bool} (h : IsName m.1) : tkn (prmP m) = prmR m := by
  have hk : kd m.2 ≠ [32] := by unfold kd; split <;> simp
  unfold prmP prmR
  rw [tkn_c (name_ne h), tkn_sp, tkn_c hk, tkn_n]
theorem All2.mapR {α β γ : Type} {R : α → β → Prop} {Q : α → γ → Prop} {f : β → γ} (h : ∀ a b, R a b → Q a (f b)) : ∀ {l : List α} {k : List β}, All2 R l k → All2 Q l (k.map f)
  | _, _, .nil => .nil
  | _, _, .cons q t => .cons (h _ _ q) (All2.mapR h t)
def FrC (d : Nat) : Prop := ∀ (b : W) (p : List A), Wr d b p → Fi d b (tkn (grp b p))
theorem frd {d : Nat} (hC : FrC d) : ∀ (k : Nat), k ≤ d → ∀ (b : W) (p : List A), Wr k b p → FqT (Fi d) k b (tkn p)
  | 0, _, _, _, h => h.elim
  | k + 1, hk, b, p, h => by
    have h9 := hC b p (h.mono hk)
    by_cases ht : hd b = [116, 104, 101, 110]
    · have h0 : WrS (Wr k) b p := h
      cases h0 with
      | seq b1 c p1 q h1 h2 =>
        have e : tkn (grp b1 p1 ++ [[59], [32]] ++ q) = tkn (grp b1 p1) ++ [59] :: tkn q := by
          rw [tkn_app, tkn_app, tkn_c (by simp), tkn_sp, tkn_n]
          simp
        rw [e]
        exact .seq (hC b1 p1 (h1.mono (by omega))) (frd hC k (by omega) c q h2)
      | op q a b p r hq => rcases sgw_ne hq with rfl | rfl | rfl <;> cases ht
      | _ => cases ht
    · rw [show grp b p = p from if_neg ht] at h9
      exact .one h9
theorem frc_succ {d : Nat} (hd0 : d ≤ 98) (hC : FrC d) : FrC (d + 1) := by
  intro b p h00
  have h0 : WrS (Wr d) b p := h00
  have hQ : ∀ {b : W} {p : List A}, Wr d b p → FqT (Fi d) 100 b (tkn p) := fun h => (frd hC d (Nat.le_refl d) _ _ h).up (by omega)
  by_cases ht : hd b = [116, 104, 101, 110]
  · have eq : tkn (grp b p) = [40] :: (tkn p ++ [[41]]) := by
      unfold grp
      rw [if_pos ht, tkn_app, tkn_app, tkn_c (by simp), tkn_c (by simp), tkn_n]
      rfl
    rw [eq]
    refine FrS.par b (tkn p) ?_
    cases h0 with
    | seq b1 c p1 q h1 h2 =>
      have e : tkn (grp b1 p1 ++ [[59], [32]] ++ q) = tkn (grp b1 p1) ++ [59] :: tkn q := by
        rw [tkn_app, tkn_app, tkn_c (by simp), tkn_sp, tkn_n]
        simp
      rw [e]
      exact FqT.seq (hC b1 p1 h1) ((frd hC d (Nat.le_refl d) c q h2).up (by omega))
    | op q a b p r hq => rcases sgw_ne hq with rfl | rfl | rfl <;> cases ht
    | _ => cases ht
  · have eg : grp b p = p := if_neg ht
    rw [eg]
    cases h0 with
    | skip => exact FrS.skip
    | quit => exact FrS.quit
    | hole => exact FrS.hole
    | num k hk => rw [tkn_c (num_ne hk), tkn_n]; exact FrS.num k hk
    | get x hn => rw [tkn_c (name_ne hn), tkn_n]; exact FrS.get x hn
    | call x bs ps hn hb h =>
      have eq : tkn ([x, [40]] ++ commas ps ++ [[41]]) = x :: [40] :: (comm (ps.map tkn) ++ [[41]]) := by
        rw [tkn_app, tkn_app, tkn_commas, tkn_c (name_ne hn), tkn_c (by simp), tkn_c (by simp), tkn_n]
        rfl
      rw [eq]
      exact FrS.call x bs _ hn hb (All2.mapR (fun _ _ h => hQ h) h)
    | set x b p hn h =>
      have eq : tkn ([x, [32], [58, 61], [32]] ++ grp b p) = x :: [58, 61] :: tkn (grp b p) := by
        rw [tkn_app, tkn_c (name_ne hn), tkn_sp, tkn_c (by simp), tkn_sp, tkn_n]
        rfl
      rw [eq]
      exact FrS.set x b _ hn (hC b p h)
    | seq b c p q h1 h2 => exact absurd rfl ht
    | new x k b p hn hk h =>
      have eq : tkn ([[110, 101, 119], [32], x, [32], [58, 61], [32], TL.numL k, [32], [105, 110], [32]] ++ p ++ [[32], [101, 110, 100]]) = [110, 101, 119] :: x :: [58, 61] :: TL.numL k :: [105, 110] :: (tkn p ++ [[101, 110, 100]]) := by
        simp [tkn_app, tkn_c (name_ne hn), tkn_sp, tkn_c (num_ne hk), tkn_c, tkn_n]
      rw [eq]
      exact FrS.new x k b _ hn hk (hQ h)
    | lett x ms b c p q hn hms hm h1 h2 =>
      have em : (ms.map prmP).map tkn = ms.map prmR := by
        rw [List.map_map]
        exact List.map_congr_left fun m hm1 => tkn_prm (hm m hm1)
      have eq : tkn ([[108, 101, 116], [32], x, [40]] ++ commas (List.map prmP ms) ++ [[41], [32], [98, 101], [32]] ++ p ++ [[32], [105, 110], [32]] ++ q ++ [[32], [101, 110, 100]]) = [108, 101, 116] :: x :: [40] :: (comm (ms.map prmR) ++ [41] :: [98, 101] :: (tkn p ++ [105, 110] :: (tkn q ++ [[101, 110, 100]]))) := by
        simp [tkn_commas, em, tkn_app, tkn_c (name_ne hn), tkn_sp, tkn_c, tkn_n]
      rw [eq]
      exact FrS.lett x ms b c _ _ hn hms hm (hQ h1) (hQ h2)
    | iff a b c p q r h1 h2 h3 =>
      have eq : tkn ([[105, 102], [32]] ++ p ++ [[32], [116, 104, 101, 110], [32]] ++ q ++ [[32], [101, 108, 115, 101], [32]] ++ r ++ [[32], [102, 105]]) = [105, 102] :: (tkn p ++ [116, 104, 101, 110] :: (tkn q ++ [101, 108, 115, 101] :: (tkn r ++ [[102, 105]]))) := by
        simp [tkn_app, tkn_sp, tkn_c, tkn_n]
      rw [eq]
      exact FrS.iff a b c _ _ _ (hQ h1) (hQ h2) (hQ h3)
    | loop a b p q h1 h2 =>
      have eq : tkn ([[119, 104, 105, 108, 101], [32]] ++ p ++ [[32], [100, 111], [32]] ++ q ++ [[32], [111, 100]]) = [119, 104, 105, 108, 101] :: (tkn p ++ [100, 111] :: (tkn q ++ [[111, 100]])) := by
        simp [tkn_app, tkn_sp, tkn_c, tkn_n]
      rw [eq]
      exact FrS.loop a b _ _ (hQ h1) (hQ h2)
    | op k a b p q hk h1 h2 =>
      have hs : sgn k ≠ [32] := by rcases sgw_ne hk with rfl | rfl | rfl <;> simp [sgn]
      have eq : tkn ([[40]] ++ p ++ [[32], sgn k, [32]] ++ q ++ [[41]]) = [40] :: (tkn p ++ sgn k :: (tkn q ++ [[41]])) := by
        simp [tkn_app, tkn_sp, tkn_c hs, tkn_c, tkn_n]
      rw [eq]
      exact FrS.op k a b _ _ hk (hQ h1) (hQ h2)
theorem frc_all : ∀ d, d ≤ 99 → FrC d
  | 0, _ => fun _ _ h => h.elim
  | d + 1, h => frc_succ (by omega) (frc_all d (by omega))
theorem wr_fq {d : Nat} (hd : d ≤ 99) {b : W} {p : List A} (h : Wr d b p) : Fq d b (tkn p) := (frd (frc_all d hd) d (Nat.le_refl d) b p h).up (by omega)
/-! the whole text -/
def fl (p : List A) : List A := p.filter (fun x => decide (¬ Sp x))
theorem fl_sp {x : A} (h : Sp x) (p : List A) : fl (x :: p) = fl p := by
  have e : decide (¬ Sp x) = false := decide_eq_false fun z => z h
  show (match decide (¬ Sp x) with | true => x :: fl p | false => fl p) = fl p
  rw [e]
theorem fl_c {x : A} (h : ¬ Sp x) (p : List A) : fl (x :: p) = x :: fl p := by
  have e : decide (¬ Sp x) = true := decide_eq_true h
  show (match decide (¬ Sp x) with | true => x :: fl p | false => fl p) = _
  rw [e]
theorem fl_app (p q : List A) : fl (p ++ q) = fl p ++ fl q := List.filter_append ..
theorem Gd.nosp {x : A} (h : Gd x) : ¬ Sp x := by
  rintro (rfl | rfl)
  · rcases h.split with h | h
    · unfold syms at h
      simp at h
    · exact absurd (h.2 32 (List.mem_cons_self ..)) (by decide)
  · rcases h.split with h | h
    · unfold syms at h
      simp at h
    · exact absurd (h.2 10 (List.mem_cons_self ..)) (by decide)
theorem fl_tkn : ∀ {p : List A}, Gs p → fl p = tkn p
  | [], _ => rfl
  | x :: p, h => by
    have ih := fl_tkn (p := p) fun y hy => h y (List.mem_cons_of_mem _ hy)
    rcases h x (List.mem_cons_self ..) with rfl | h
    · rw [fl_sp (.inl rfl), tkn_sp, ih]
    · rw [fl_c h.nosp, tkn_c (fun z => h.nosp (.inl z)), ih]
theorem rows_rw : ∀ (p : List A) (a : Nat) (pre post : List W), Rw (pre ++ (rowsOf p a ++ post)) pre.length (fl p) ∧ (rowsOf p a).length = (fl p).length
  | [], a, pre, post => ⟨trivial, rfl⟩
  | x :: p, a, pre, post => by
    rw [rowsOf]
    by_cases hx : Sp x
    · rw [if_pos hx, fl_sp hx]
      exact rows_rw p _ pre post
    · rw [if_neg hx, fl_c hx]
      obtain ⟨h1, h2⟩ := rows_rw p (a + x.length) (pre ++ [tkW x a]) post
      refine ⟨⟨⟨a, ?_⟩, ?_⟩, by simp [h2]⟩
      · rw [ML.atI_nat]
        simp
        rfl
      · simp at h1 ⊢
        exact h1
theorem read_free {n m : Nat} (hm : n ≤ m) {b : W} {p : List A} (h : Fq n b (fl p)) (h1 : ∀ x ∈ p, Sp x ∨ Gd x) (h2 : sepF false p = true) (hl : tl p ≤ 16000000) : fun_read_block (fun_tokens fun_piece_at (fun_kind_of_piece fun_is_name fun_is_number)) (fun_enclosed (sqF m) fun_passed) [.str (S p.flatten)] = .ok false b [] := by
  have e1 := tokens_ok hl h1 h2
  obtain ⟨h3, h4⟩ := rows_rw p 0 [] [.tup [.str (S [69, 78, 68]), .str (S []), .int p.flatten.length]]
  rw [List.nil_append] at h3
  have hx : atI (rowsOf p 0 ++ [.tup [.str (S [69, 78, 68]), .str (S []), .int p.flatten.length]]) (0 + ((fl p).length : Int)) = some (tok [69, 78, 68] [] p.flatten.length) := by
    rw [Int.zero_add, ML.atI_nat, ← h4, List.getElem?_append_right (Nat.le_refl _), Nat.sub_self]
    rfl
  have e2 := T_of (G_all n m hm) (rowsOf p 0 ++ [.tup [.str (S [69, 78, 68]), .str (S []), .int p.flatten.length]]) b (fl p) h 0 h3 ⟨_, _, _, hx, by simp⟩
  have e3 := e_enclosed e2 hx
  have hend : w_END = .str (S [69, 78, 68]) := by unfold w_END; simp
  unfold fun_read_block body_read_block
  simp only [fl_len] at e1 e3
  simp -implicitDefEqProofs [ev_var, e1, hend, e3]
theorem read_ok {d m : Nat} (hd : d ≤ 99) (hm : d ≤ m) {b : W} {p : List A} (h : Wr d b p) (hl : tl p ≤ 16000000) : fun_read_block (fun_tokens fun_piece_at (fun_kind_of_piece fun_is_name fun_is_number)) (fun_enclosed (sqF m) fun_passed) [.str (S p.flatten)] = .ok false b [] := by
  obtain ⟨h1, h2⟩ := ok_block d h
  refine read_free hm (n := d) ?_ (fun x hx => (h1 x hx).imp .inl id) h2 hl
  rw [fl_tkn h1]
  exact wr_fq hd h
end K06

namespace K06
open PySem PySem.Spec PyProof.Rows L2 ML
/-! ### drawing -/
def IsR (w : W) : Prop := ∃ row p, w = .lst [.lst row, .int p] ∧ row.length = 210 ∧ ∀ x ∈ row, ∃ i, x = .int i
theorem e_next (row : List W) (p m d : Int) (hm : 0 < m) (hd : atI row (p % 210) = some (.int d)) :
    fun__law_next [.lst [.lst row, .int p], .int m] = .ok false (.int ((d + 13 * (p / 210)) % m)) [.lst [.lst row, .int (p+1)]] := by
  unfold fun__law_next body__law_next
  simp -implicitDefEqProofs [ev_var, ev_own, ev_mod, ev_div, hm, hd, okMul, ixN]
theorem next_ok {r : W} (h : IsR r) {m : Int} (hm : 0 < m) : ∃ v r', fun__law_next [r, .int m] = .ok false (.int v) [r'] ∧ 0 ≤ v ∧ v < m ∧ IsR r' := by
  obtain ⟨row, p, rfl, hl, hx⟩ := h
  have h0 : 0 ≤ p % 210 := Int.emod_nonneg _ (by omega)
  have h1 : p % 210 < 210 := Int.emod_lt_of_pos _ (by omega)
  obtain ⟨n, hn⟩ := Int.eq_ofNat_of_zero_le h0
  have hn2 : n < row.length := by omega
  obtain ⟨d, hd⟩ := hx row[n] (List.getElem_mem hn2)
  have e := e_next row p m d hm (by rw [hn, ML.atI_nat, List.getElem?_eq_getElem hn2, hd])
  exact ⟨_, _, e, Int.emod_nonneg _ (by omega), Int.emod_lt_of_pos _ hm, _, _, rfl, hl, hx⟩
theorem number_ok {r : W} (h : IsR r) : ∃ (n : Nat) (r' : W), fun__law_number fun__law_next [r] = .ok false (.int n) [r'] ∧ n < 1000 ∧ IsR r' := by
  obtain ⟨v, r1, e1, v0, v1, h1⟩ := next_ok h (m := 4) (by omega)
  have key : ∀ m : Int, 0 < m → m ≤ 1000 → atI [W.int 3, W.int 10, W.int 100, W.int 1000] v = some (.int m) → ∃ (n : Nat) (r' : W), fun__law_number fun__law_next [r] = .ok false (.int n) [r'] ∧ n < 1000 ∧ IsR r' := by
    intro m h2 h3 h4
    obtain ⟨u, r2, e2, u0, u1, h5⟩ := next_ok h1 h2
    obtain ⟨n, rfl⟩ := Int.eq_ofNat_of_zero_le u0
    refine ⟨n, r2, ?_, by omega, h5⟩
    unfold fun__law_number body__law_number
    simp -implicitDefEqProofs [ev_var, ev_own, l4, e1, h4, e2]
  have hv : v = 0 ∨ v = 1 ∨ v = 2 ∨ v = 3 := by omega
  rcases hv with rfl | rfl | rfl | rfl
  · exact key 3 (by omega) (by omega) (by simp)
  · exact key 10 (by omega) (by omega) (by simp)
  · exact key 100 (by omega) (by omega) (by simp)
  · exact key 1000 (by omega) (by omega) (by simp)
/-- the drawn names -/
def NmL (w : W) : Prop := ∃ l : List A, w = .lst (l.map fun x => .str (S x)) ∧ l ≠ [] ∧ ∀ x ∈ l, IsName x
theorem nm_get {l : List A} {v : Int} (h0 : 0 ≤ v) (h1 : v < (l.length : Int)) : ∃ x ∈ l, atI (l.map fun x => W.str (S x)) v = some (.str (S x)) := by
  obtain ⟨n, rfl⟩ := Int.eq_ofNat_of_zero_le h0
  have hn : n < l.length := by omega
  exact ⟨l[n], List.getElem_mem hn, by rw [ML.atI_nat, List.getElem?_map, List.getElem?_eq_getElem hn]; rfl⟩
theorem leaf_ok {r ns : W} (h : IsR r) (hn : NmL ns) : ∃ b r' p, fun__law_any_leaf fun__law_next (fun__law_number fun__law_next) [r, ns] = .ok false b [r'] ∧ Wr 1 b p ∧ tl p ≤ 20 ∧ IsR r' := by
  obtain ⟨l, rfl, hl, hx⟩ := hn
  have hpos : 0 < l.length := List.length_pos_iff.mpr hl
  obtain ⟨v, r1, e1, v0, v1, h1⟩ := next_ok h (m := (l.length : Int)) (by omega)
  obtain ⟨x, hxl, ex⟩ := nm_get v0 v1
  have hxn := hx x hxl
  obtain ⟨u, r2, e2, u0, u1, h2⟩ := next_ok h1 (m := 8) (by omega)
  by_cases c1 : u < 2
  · refine ⟨.tup [.str (S [103, 101, 116]), .str (S x)], r2, [x], ?_, .get x hxn, by have := hxn.len; simp; omega, h2⟩
    unfold fun__law_any_leaf body__law_any_leaf
    simp -implicitDefEqProofs [ev_var, ev_own, l2, e1, ex, e2, c1]
  by_cases c2 : u < 4
  · obtain ⟨n, r3, e3, n1, h3⟩ := number_ok h2
    refine ⟨.tup [.str (S [110, 117, 109, 98, 101, 114]), .int n], r3, [TL.numL n], ?_, .num n n1, by have := num_le n n1; simp; omega, h3⟩
    unfold fun__law_any_leaf body__law_any_leaf
    simp -implicitDefEqProofs [ev_var, ev_own, l2, e1, ex, e2, c1, c2, e3]
  have l0 : (0 ≤ sizeLine) = True := by simp
  have hu : u = 4 ∨ u = 5 ∨ u = 6 ∨ u = 7 := by omega
  rcases hu with rfl | rfl | rfl | rfl
  · refine ⟨.tup [.str (S [115, 107, 105, 112])], r2, [[115, 107, 105, 112]], ?_, .skip, by simp, h2⟩
    unfold fun__law_any_leaf body__law_any_leaf
    simp -implicitDefEqProofs [ev_var, ev_own, l1, l2, l3, l4, e1, ex, e2]
  · refine ⟨.tup [.str (S [113, 117, 105, 116])], r2, [[113, 117, 105, 116]], ?_, .quit, by simp, h2⟩
    unfold fun__law_any_leaf body__law_any_leaf
    simp -implicitDefEqProofs [ev_var, ev_own, l1, l2, l3, l4, e1, ex, e2]
  · refine ⟨.tup [.str (S [104, 111, 108, 101])], r2, [[91, 93]], ?_, .hole, by simp, h2⟩
    unfold fun__law_any_leaf body__law_any_leaf
    simp -implicitDefEqProofs [ev_var, ev_own, l1, l2, l3, l4, e1, ex, e2]
  · refine ⟨.tup [.str (S [99, 97, 108, 108]), .str (S x), .tup []], r2, _, ?_, .call x [] [] hxn (by simp) .nil, by have := hxn.len; simp [commas]; omega, h2⟩
    unfold fun__law_any_leaf body__law_any_leaf
    simp -implicitDefEqProofs [ev_var, ev_own, l1, l2, l3, l4, e1, ex, e2]
theorem two_get {v : Int} (h0 : 0 ≤ v) (h1 : v < 2) : ∃ b, atI [W.str (S [99, 111, 109, 109, 97, 110, 100]), W.str (S [110, 117, 109, 98, 101, 114])] v = some (.str (S (kd b))) := by
  have hv : v = 0 ∨ v = 1 := by omega
  rcases hv with rfl | rfl
  · exact ⟨false, by simp [kd]⟩
  · exact ⟨true, by simp [kd]⟩
theorem all2_ints (n : Nat) : All2 (fun (w : W) (z : Nat) => w = .int z ∧ z < n) (intsW 0 n) (List.range n) := by
  have : ∀ l : List Nat, (∀ x ∈ l, x < n) → All2 (fun (w : W) (z : Nat) => w = .int z ∧ z < n) (l.map fun i => W.int (0 + (i : Nat))) l := by
    intro l
    induction l with
    | nil => exact fun _ => .nil
    | cons x l ihl => exact fun h => .cons ⟨by simp, h x (List.mem_cons_self ..)⟩ (ihl fun y hy => h y (List.mem_cons_of_mem _ hy))
  exact this _ fun x hx => List.mem_range.mp hx
theorem params_ok {r ns : W} (h : IsR r) (hn : NmL ns) (k : Nat) (hk : k ≤ 50) : ∃ (ms : List (A × Bool)) (r' : W), fun__law_parameters fun__law_next [r, ns, .int k] = .ok false (.tup (ms.map prmW)) [r'] ∧ ms.length = k ∧ (∀ m ∈ ms, IsName m.1) ∧ IsR r' := by
  obtain ⟨l, rfl, hl, hx⟩ := hn
  have hpos : 0 < l.length := List.length_pos_iff.mpr hl
  have e0 : gSet [0] 4 = fun w ρ => some (ρ.set 4 (.val w)) := gset_is (by simp)
  have hok : okR (k : Int) = true := by
    unfold okR
    simp
    omega
  obtain ⟨ρ1, e1, r1, ms, s, rfl, hr1, hms, hm2⟩ := for_inv (i := 4) (g := mDrop (mAppend 3 [0] (mTup [0] [mOp gIx (mVar 1) (mCall [0] [0] fun__law_next [mVar 0, mCB gLen [mVar 1]]), mOp gIx (mLst [0] [mC (.str "command"), mC (.str "number")]) (mCall [0] [0] fun__law_next [mVar 0, mC (.int 2)])])))
    (ρ := [Sl.own r, Sl.val (.lst (l.map fun x => .str (S x))), Sl.val (.int k), Sl.own (.lst []), Sl.no])
    (P := fun zs ρ => ∃ r1 ms s, ρ = [Sl.own r1, Sl.val (.lst (l.map fun x => .str (S x))), Sl.val (.int k), Sl.own (.lst (ms.map prmW)), s] ∧ IsR r1 ∧ ms.length + zs.length = k ∧ ∀ m ∈ ms, IsName m.1) (.inr trivial) (all2_ints k) (fun a z zs' ρ q ⟨r1, ms, s, er, hr1, hms, hm2⟩ => by
      subst er
      obtain ⟨v, r2, f1, v0, v1, g1⟩ := next_ok hr1 (m := (l.length : Int)) (by omega)
      obtain ⟨x, hxl, ex⟩ := nm_get v0 v1
      obtain ⟨u, r3, f2, u0, u1, g2⟩ := next_ok g1 (m := 2) (by omega)
      obtain ⟨b, eb⟩ := two_get u0 u1
      have hsz : ms.length < sizeLine := by rw [line_is]; simp at hms; omega
      refine ⟨[Sl.own r3, Sl.val (.lst (l.map fun x => .str (S x))), Sl.val (.int k), Sl.own (.lst ((ms ++ [(x, b)]).map prmW)), Sl.val a], ?_, r3, ms ++ [(x, b)], Sl.val a, rfl, g2, by simp at hms ⊢; omega, fun m hm => ?_⟩
      · simp -implicitDefEqProofs [ev_var, ev_own, l2, f1, ex, f2, eb, hsz, prmW]
      · rcases List.mem_append.mp hm with hm | hm
        · exact hm2 m hm
        · simp at hm
          rw [hm]
          exact hx x hxl) ⟨r, [], Sl.no, rfl, h, by simp, fun _ h => nomatch h⟩
  simp at hms
  refine ⟨ms, r1, ?_, hms, hm2, hr1⟩
  unfold fun__law_parameters body__law_parameters
  simp at e1
  simp -implicitDefEqProofs [ev_var, ev_own, e0, hok, e1]
/-! a name -/
def nmB (x : A) : Bool := decide (1 ≤ x.length) && decide (x.length ≤ 8) && !decide (x ∈ resv) && lowC (x.headD 0) && x.all (fun c => lowC c || digC c)
theorem nm_of {x : A} (h : nmB x = true) : IsName x := by
  unfold nmB at h
  simp at h
  obtain ⟨⟨⟨⟨h1, h2⟩, h3⟩, h4⟩, h5⟩ := h
  cases x with
  | nil => simp at h1
  | cons c r => exact ⟨by simp, h2, h3, ⟨c, r, rfl, by simpa using h4⟩, fun c hc => h5 c hc⟩
theorem e_reserved : fun__law_reserved [] = .ok true (.lst (resv.map fun z => .str (S z))) [] := by
  have l14 : (14 ≤ sizeLine) = True := by simp [line_is]
  have l16 : (16 ≤ sizeLine) = True := by simp [line_is]
  unfold fun__law_reserved body__law_reserved resv
  simp -implicitDefEqProofs [ev_var, l2, l14, l16]
def tbl : List A := [[110, 48], [110, 49], [110, 50], [110, 51], [110, 49, 48], [110, 48, 49], [110], [120], [105, 102, 102], [100, 111, 49], [105, 110, 110, 101, 114], [110, 101, 119, 50], [108, 101, 116, 115], [110, 117, 109, 98, 101, 114, 49], [99, 111, 109, 109, 97, 110, 100, 115], [112]]
theorem tbl_names : ∀ x ∈ tbl, IsName x := fun x hx => nm_of (List.all_eq_true.mp (show tbl.all nmB = true by decide) x hx)
def alph : A := [97, 98, 99, 100, 101, 102, 103, 104, 105, 106, 107, 108, 109, 110, 111, 112, 113, 114, 115, 116, 117, 118, 119, 120, 121, 122, 48, 49, 50, 51, 52, 53, 54, 55, 56, 57]
theorem alph_get : ∀ n, n < 36 → ∃ c, alph[n]? = some c ∧ (lowC c = true ∨ digC c = true) ∧ (n < 26 → lowC c = true) := by
  have : (List.range 36).all (fun n => match alph[n]? with
    | some c => (lowC c || digC c) && (decide (26 ≤ n) || lowC c)
    | none => false) = true := by decide
  intro n hn
  have h := List.all_eq_true.mp this n (List.mem_range.mpr hn)
  split at h
  · rename_i c ec
    simp at h
    exact ⟨c, ec, h.1, fun h2 => h.2.resolve_left (by omega)⟩
  · cases h
theorem res_short : ∀ x ∈ resv, x.length ≤ 7 ∧ x ≠ [] ∧ lowC (x.headD 0) = true ∧ x.all (fun c => lowC c || digC c) = true ∧ x ++ [48] ∉ resv := by decide
end K06

namespace K06
open PySem PySem.Spec PyProof.Rows L2 ML
theorem ev_slS0 {l : List Nat} {b : Nat} (hl : l.length ≤ 16777216) : gSl (.str (S l)) none (some (b : Int)) = some (.val, .str (S (l.take b))) := by
  have e : gSl (.str (S l)) none (some (b : Int)) = if (S l).length ≤ sizeLine then some (.val, .str (cutS (S l) none (some (b : Int)))) else none := rfl
  rw [e, S_len, line_is, if_pos hl]
  unfold cutS
  rw [HT.sIx_none, HT.sIx_nat, S_len, S_cps, Nat.sub_zero, List.drop_zero]
  have e2 : l.take (min b l.length) = l.take b := by
    by_cases h : b ≤ l.length
    · rw [Nat.min_eq_left h]
    · rw [Nat.min_eq_right (by omega), List.take_of_length_le (Nat.le_refl _), List.take_of_length_le (by omega)]
  rw [e2]
  rfl
theorem all2_rng (n : Nat) : All2 (fun (w : W) (z : Nat) => w = .int z ∧ z < n) (intsW 0 n) (List.range' 0 n) := by
  have := all2_ints n
  rwa [List.range_eq_range'] at this
theorem tbl_get {v : Int} (h0 : 0 ≤ v) (h1 : v < 16) : ∃ x ∈ tbl, atI (tbl.map fun x => W.str (S x)) v = some (.str (S x)) := nm_get (l := tbl) h0 (by simpa [tbl] using h1)
theorem in_resv (x : A) : gIn false (.str (S x)) (.lst (resv.map fun z => .str (S z))) = some (.val, .bl (decide (x ∈ resv))) := in_ST false x resv _ rfl (by simp)
theorem name_ok {r : W} (h : IsR r) : ∃ x r', fun__law_name fun__law_next fun__law_reserved [r] = .ok false (.str (S x)) [r'] ∧ IsName x ∧ IsR r' := by
  have l14 : (14 ≤ sizeLine) = True := by simp [line_is]
  have l16 : (16 ≤ sizeLine) = True := by simp [line_is]
  obtain ⟨v, r1, e1, v0, v1, h1⟩ := next_ok h (m := 24) (by omega)
  by_cases c : v < 16
  · obtain ⟨x, hx, ex⟩ := tbl_get v0 c
    refine ⟨x, r1, ?_, tbl_names x hx, h1⟩
    simp [tbl] at ex
    unfold fun__law_name body__law_name
    simp -implicitDefEqProofs [ev_var, ev_own, l2, l14, l16, e1, c, ex]
  · obtain ⟨u, r2, e2, u0, u1, h2⟩ := next_ok h1 (m := 8) (by omega)
    obtain ⟨k, rfl⟩ := Int.eq_ofNat_of_zero_le u0
    have e0 : gSet [0] 4 = fun w ρ => some (ρ.set 4 (.val w)) := gset_is (by simp)
    have hok : okR (1 + (k : Int)) = true := by
      unfold okR
      simp
      omega
    have htn : (1 + (k : Int)).toNat = k + 1 := by omega
    have hab : Str.ofString "abcdefghijklmnopqrstuvwxyz0123456789" = S alph := by unfold alph; simp
    obtain ⟨ρ1, f1, r3, nm, s, rfl, hr3, hz, hle, hal, hlo⟩ := for_inv (i := 4) (g := mSet [0] 3 (mOp gAdd (mVar 3) (mOp gIx (mC (.str "abcdefghijklmnopqrstuvwxyz0123456789")) (mCall [0] [0] fun__law_next [mVar 0, mOp gAdd (mC (.int 26)) (mOp gMul (mC (.int 10)) (mCB gInt [mOp (gCmp (fun i j => decide (j < i))) (mVar 4) (mC (.int 0))]))]))))
      (ρ := [Sl.own r2, Sl.own (.lst (tbl.map fun x => .str (S x))), Sl.val (.int v), Sl.val (.str (S [])), Sl.no])
      (P := fun zs ρ => ∃ r1 nm s, ρ = [Sl.own r1, Sl.own (.lst (tbl.map fun x => .str (S x))), Sl.val (.int v), Sl.val (.str (S nm)), s] ∧ IsR r1 ∧ zs = List.range' nm.length (k + 1 - nm.length) ∧ nm.length ≤ k + 1 ∧ (∀ c ∈ nm, lowC c = true ∨ digC c = true) ∧ (nm = [] ∨ lowC (nm.headD 0) = true)) (.inr trivial) (all2_rng (k + 1)) (fun a z zs' ρ q ⟨r1, nm, s, er, hr1, hz, hle, hal, hlo⟩ => by
        subst er
        obtain ⟨rfl, hzk⟩ := q
        have hlt : nm.length < k + 1 := by
          rcases Nat.lt_or_ge nm.length (k + 1) with h | h
          · exact h
          · rw [Nat.sub_eq_zero_of_le h] at hz; cases hz
        rw [show k + 1 - nm.length = (k + 1 - (nm.length + 1)) + 1 by omega, List.range'_succ] at hz
        obtain ⟨hz1, hz2⟩ := List.cons.inj hz
        subst hz1
        have key : ∀ m : Int, 0 < m → m ≤ 36 → (nm = [] → m ≤ 26) → (26 + 10 * (if decide ((0 : Int) < (nm.length : Int)) then (1 : Int) else 0) = m) → ∃ ρ1, mSet [0] 3 (mOp gAdd (mVar 3) (mOp gIx (mC (.str "abcdefghijklmnopqrstuvwxyz0123456789")) (mCall [0] [0] fun__law_next [mVar 0, mOp gAdd (mC (.int 26)) (mOp gMul (mC (.int 10)) (mCB gInt [mOp (gCmp (fun i j => decide (j < i))) (mVar 4) (mC (.int 0))]))]))) [Sl.own r1, Sl.own (.lst (tbl.map fun x => .str (S x))), Sl.val (.int v), Sl.val (.str (S nm)), Sl.val (.int nm.length)] = .ok .nx ρ1 ∧ (∃ r1 nm' s, ρ1 = [Sl.own r1, Sl.own (.lst (tbl.map fun x => .str (S x))), Sl.val (.int v), Sl.val (.str (S nm')), s] ∧ IsR r1 ∧ zs' = List.range' nm'.length (k + 1 - nm'.length) ∧ nm'.length ≤ k + 1 ∧ (∀ c ∈ nm', lowC c = true ∨ digC c = true) ∧ (nm' = [] ∨ lowC (nm'.headD 0) = true)) := by
          intro m hm hm2 hm3 hm4
          obtain ⟨u, r2, g1, g2, g3, g4⟩ := next_ok hr1 hm
          obtain ⟨n, rfl⟩ := Int.eq_ofNat_of_zero_le g2
          obtain ⟨c, g5, g6, g7⟩ := alph_get n (by omega)
          have g8 : atI alph (n : Int) = some c := by rw [ML.atI_nat, g5]
          have hal2 : alph.length ≤ 16777216 := by decide
          refine ⟨_, ?_, r2, nm ++ [c], Sl.val (.int nm.length), rfl, g4, by rw [List.length_append, List.length_singleton]; exact hz2, by rw [List.length_append, List.length_singleton]; omega, fun y hy => ?_, .inr ?_⟩
          · have okm : okMul 10 (if decide ((0 : Int) < (nm.length : Int)) then (1 : Int) else 0) = true := by simp [okMul]
            have g9 := ev_ixSS (i := (n : Int)) hal2
            rw [g8] at g9
            rw [hab]
            simp only [ev_set, ev_op, ev_var, ev_c, ev_bo, ev_call, ev_hc, ev_hn, ev_cb, List.getElem?_cons_succ, List.getElem?_cons_zero, ev_pv, ev_cmp, ev_ls, ev_pc, ev_pn, ev_intB, ev_mulI, okm, if_true, ev_addI, hm4]
            simp -implicitDefEqProofs (disch := first | omega | (simp; done) | (simp <;> omega) | fail) [ev_var, ev_own, g1, g9, ev_addSS]
          · rcases List.mem_append.mp hy with hy | hy
            · exact hal y hy
            · simp at hy
              rw [hy]
              exact g6
          · cases nm with
            | nil => simpa using g7 (by have := hm3 rfl; omega)
            | cons y nm => simpa using hlo
        by_cases hn : nm = []
        · exact key 26 (by omega) (by omega) (fun _ => by omega) (by rw [hn]; rfl)
        · have hp : 0 < nm.length := List.length_pos_iff.mpr hn
          exact key 36 (by omega) (by omega) (fun z => absurd z hn) (by
            have : decide ((0 : Int) < (nm.length : Int)) = true := decide_eq_true (by omega)
            rw [this]; rfl)) ⟨r2, [], Sl.no, rfl, h2, by simp, by simp, (fun _ h => nomatch h), .inl rfl⟩
    have hlen : nm.length = k + 1 := by
      have := congrArg List.length hz
      simp at this
      omega
    have hlo2 : lowC (nm.headD 0) = true := by
      rcases hlo with h | h
      · rw [h] at hlen; simp at hlen
      · exact h
    simp [tbl] at f1
    have hlen8 : nm.length ≤ 8 := by omega
    have hdr : ∃ c r, nm = c :: r ∧ lowC c = true := by
      cases nm with
      | nil => simp at hlen
      | cons c r => exact ⟨c, r, rfl, by simpa using hlo2⟩
    have hin := in_resv nm
    by_cases hres : nm ∈ resv
    · obtain ⟨q1, q2, q3, q4, q5⟩ := res_short nm hres
      refine ⟨nm ++ [48], r3, ?_, ⟨by simp, by simp; omega, q5, ?_, fun c hc => ?_⟩, hr3⟩
      · have hs := ev_slS0 (l := nm) (b := 7) (by omega)
        rw [List.take_of_length_le q1] at hs
        replace hs : gSl (.str (S nm)) none (some (7 : Int)) = some (.val, .str (S nm)) := hs
        rw [decide_eq_true hres] at hin
        unfold fun__law_name body__law_name
        simp -implicitDefEqProofs (disch := first | omega | (simp; done) | (simp <;> omega) | fail) [ev_var, ev_own, ev_addSS, l2, l14, l16, e1, c, e2, e0, hok, htn, f1, e_reserved, hin, hs]
      · obtain ⟨c, r, hc, hc2⟩ := hdr
        exact ⟨c, r ++ [48], by rw [hc]; rfl, hc2⟩
      · rcases List.mem_append.mp hc with hc | hc
        · exact hal c hc
        · simp at hc
          rw [hc]
          exact .inr rfl
    · refine ⟨nm, r3, ?_, ⟨by omega, hlen8, hres, hdr, hal⟩, hr3⟩
      rw [decide_eq_false hres] at hin
      unfold fun__law_name body__law_name
      simp -implicitDefEqProofs (disch := first | omega | (simp; done) | (simp <;> omega) | fail) [ev_var, ev_own, l2, l14, l16, e1, c, e2, e0, hok, htn, f1, e_reserved, hin]
end K06

namespace K06
open PySem PySem.Spec PyProof.Rows L2 ML
theorem names_ok {r : W} (h : IsR r) (k : Nat) (hk : 1 ≤ k) (hk2 : k ≤ 100) : ∃ ns r', fun__law_names (fun__law_name fun__law_next fun__law_reserved) [r, .int k] = .ok true ns [r'] ∧ NmL ns ∧ IsR r' := by
  have e0 : gSet [0] 3 = fun w ρ => some (ρ.set 3 (.val w)) := gset_is (by simp)
  have hok : okR (k : Int) = true := by
    unfold okR
    simp
    omega
  obtain ⟨ρ1, e1, r1, l, s3, s4, rfl, hr1, hl, hx, hne⟩ := for_inv (i := 3) (g := mSeq (mSet [0] 4 (mCall [0] [0] (fun__law_name fun__law_next fun__law_reserved) [mVar 0])) (mIf (mTest (mOp (gIn true) (mVar 4) (mVar 2))) (mDrop (mAppend 2 [0] (mVar 4))) (mNext)))
    (ρ := [Sl.own r, Sl.val (.int k), Sl.own (.lst []), Sl.no, Sl.no])
    (P := fun zs ρ => ∃ r1 l s3 s4, ρ = [Sl.own r1, Sl.val (.int k), Sl.own (.lst (List.map (fun x : A => W.str (S x)) l)), s3, s4] ∧ IsR r1 ∧ l.length + zs.length ≤ k ∧ (∀ x ∈ l, IsName x) ∧ (zs.length < k → l ≠ [])) (.inr trivial) (all2_ints k) (fun a z zs' ρ q ⟨r1, l, s3, s4, er, hr1, hl, hx, hne⟩ => by
      subst er
      obtain ⟨x, r2, f1, f2, f3⟩ := name_ok hr1
      have hin : gIn true (.str (S x)) (.lst (List.map (fun x : A => W.str (S x)) l)) = some (.val, .bl (!decide (x ∈ l))) := in_ST true x l _ rfl (by simp)
      have hsz : l.length < sizeLine := by rw [line_is]; simp at hl; omega
      by_cases hm : x ∈ l
      · rw [decide_eq_true hm] at hin
        refine ⟨[Sl.own r2, Sl.val (.int k), Sl.own (.lst (List.map (fun x : A => W.str (S x)) l)), Sl.val a, Sl.val (.str (S x))], ?_, r2, l, _, _, rfl, f3, by simp at hl; omega, hx, fun _ => List.ne_nil_of_mem hm⟩
        simp -implicitDefEqProofs [ev_var, ev_own, f1, hin]
      · rw [decide_eq_false hm] at hin
        refine ⟨[Sl.own r2, Sl.val (.int k), Sl.own (.lst (List.map (fun x : A => W.str (S x)) (l ++ [x]))), Sl.val a, Sl.val (.str (S x))], ?_, r2, l ++ [x], _, _, rfl, f3, by simp at hl ⊢; omega, fun y hy => ?_, fun _ => by simp⟩
        · simp -implicitDefEqProofs [ev_var, ev_own, f1, hin, hsz]
        · rcases List.mem_append.mp hy with hy | hy
          · exact hx y hy
          · simp at hy
            rw [hy]
            exact f2) ⟨r, [], Sl.no, Sl.no, rfl, h, by simp, (fun _ h => nomatch h), fun z => by simp at z⟩
  refine ⟨_, r1, ?_, ⟨l, rfl, hne (by simp; omega), hx⟩, hr1⟩
  unfold fun__law_names body__law_names
  try simp at e1
  simp -implicitDefEqProofs [ev_var, ev_own, e0, hok, e1]
theorem split_ok {r : W} (h : IsR r) (rest many : Nat) (h1 : 1 ≤ many) (h2 : many ≤ rest) (h3 : rest ≤ 1000) : ∃ (ps : List Nat) (r' : W), fun__law_split fun__law_next [r, .int rest, .int many] = .ok true (.lst (ps.map fun (n : Nat) => W.int n)) [r'] ∧ ps.length = many ∧ (∀ x ∈ ps, 1 ≤ x) ∧ ps.sum = rest ∧ IsR r' := by
  have e0 : gSet [0] 5 = fun w ρ => some (ρ.set 5 (.val w)) := gset_is (by simp)
  have hok : okR ((many : Int) - 1) = true := by
    unfold okR
    simp
    omega
  have htn : ((many : Int) - 1).toNat = many - 1 := by omega
  obtain ⟨ρ1, e1, r1, ps, left, s5, s6, rfl, hr1, hz, hle, hx, hs, hlf⟩ := for_inv (i := 5) (g := mSeq (mSet [0] 6 (mOp gAdd (mC (.int 1)) (mCall [0] [0] fun__law_next [mVar 0, mOp gSub (mVar 4) (mOp gSub (mOp gSub (mVar 2) (mC (.int 1))) (mVar 5))]))) (mSeq (mDrop (mAppend 3 [0] (mVar 6))) (mSet [0] 4 (mOp gSub (mVar 4) (mVar 6)))))
    (ρ := [Sl.own r, Sl.val (.int rest), Sl.val (.int many), Sl.own (.lst []), Sl.val (.int rest), Sl.no, Sl.no])
    (P := fun zs ρ => ∃ (r1 : W) (ps : List Nat) (left : Nat) (s5 s6 : Sl), ρ = [Sl.own r1, Sl.val (.int rest), Sl.val (.int many), Sl.own (.lst (ps.map fun (n : Nat) => W.int n)), Sl.val (.int left), s5, s6] ∧ IsR r1 ∧ zs = List.range' ps.length (many - 1 - ps.length) ∧ ps.length ≤ many - 1 ∧ (∀ x ∈ ps, 1 ≤ x) ∧ ps.sum + left = rest ∧ many - ps.length ≤ left) (.inr trivial) (all2_rng (many - 1)) (fun a z zs' ρ q ⟨r1, ps, left, s5, s6, er, hr1, hz, hle, hx, hs, hlf⟩ => by
      subst er
      obtain ⟨rfl, hzk⟩ := q
      have hlt : ps.length < many - 1 := by
        rcases Nat.lt_or_ge ps.length (many - 1) with h | h
        · exact h
        · rw [Nat.sub_eq_zero_of_le h] at hz; cases hz
      rw [show many - 1 - ps.length = (many - 1 - (ps.length + 1)) + 1 by omega, List.range'_succ] at hz
      obtain ⟨hz1, hz2⟩ := List.cons.inj hz
      subst hz1
      obtain ⟨u, r2, g1, g2, g3, g4⟩ := next_ok hr1 (m := (left : Int) - ((many : Int) - 1 - (ps.length : Int))) (by omega)
      obtain ⟨n, rfl⟩ := Int.eq_ofNat_of_zero_le g2
      have hsz : ps.length < sizeLine := by rw [line_is]; omega
      have hsub : (left : Int) - (1 + (n : Int)) = ((left - (1 + n) : Nat) : Int) := by omega
      have hadd : (1 + (n : Int)) = ((1 + n : Nat) : Int) := by omega
      refine ⟨[Sl.own r2, Sl.val (.int rest), Sl.val (.int many), Sl.own (.lst ((ps ++ [1 + n]).map fun (n : Nat) => W.int n)), Sl.val (.int ((left - (1 + n) : Nat) : Int)), Sl.val (.int ps.length), Sl.val (.int ((1 + n : Nat) : Int))], ?_, r2, ps ++ [1 + n], left - (1 + n), _, _, rfl, g4, by rw [List.length_append, List.length_singleton]; exact hz2, by simp; omega, fun y hy => ?_, by simp; omega, by simp; omega⟩
      · simp -implicitDefEqProofs [ev_var, ev_own, g1, hsz]
        rw [← hsub]
      · rcases List.mem_append.mp hy with hy | hy
        · exact hx y hy
        · simp at hy
          omega) ⟨r, [], rest, Sl.no, Sl.no, rfl, h, by simp, by simp, (fun _ h => nomatch h), by simp, by simp; omega⟩
  have hlen : ps.length = many - 1 := by
    have := congrArg List.length hz
    simp at this
    omega
  have hsz : ps.length < sizeLine := by rw [line_is]; omega
  refine ⟨ps ++ [left], r1, ?_, by simp; omega, fun y hy => ?_, by simp; omega, hr1⟩
  · unfold fun__law_split body__law_split
    try simp at e1
    simp -implicitDefEqProofs [ev_var, ev_own, e0, hok, htn, e1, hsz]
  · rcases List.mem_append.mp hy with hy | hy
    · exact hx y hy
    · simp at hy
      omega
/-- a comprehension over one name that changes the frame -/
theorem comp_st {σ α : Type} {i : Nat} {fe : Rho → ML.R W} {fr : σ → Rho} {Q : W → α → Prop} {P : List α → List W → σ → Prop}
    (h : ∀ w z zs acc s, Q w z → P (z :: zs) acc s → ∃ y s', fe ((fr s).set i (.val w)) = .ok y ((fr s').set i (.val w)) ∧ P zs (acc ++ [y]) s') (hno : ∀ s, (fr s).set i .no = fr s) :
    ∀ {ws : List W} {zs : List α} {acc : List W} {ρ : Rho} {s : σ}, All2 Q ws zs → P zs acc s → acc.length + ws.length ≤ sizeLine → ρ.set i .no = fr s → ∃ acc' s', compL [i] (CT.put (.nm i)) mYes fe acc ws ρ = .ok (.fre, .lst acc') (fr s') ∧ P [] acc' s'
  | [], _, acc, ρ, s, .nil, hp, hl, hr => by
    refine ⟨acc, s, ?_, hp⟩
    unfold compL
    rw [if_pos (show acc.length ≤ sizeLine from hl)]
    show ML.R.ok _ (wipeR ρ [i]) = _
    rw [show wipeR ρ [i] = ρ.set i .no from rfl, hr]
  | w :: ws, z :: zs, acc, ρ, s, .cons q qs, hp, hl, hr => by
    have hl' : acc.length + (ws.length + 1) ≤ sizeLine := hl
    obtain ⟨y, s', e, hp'⟩ := h w z zs acc s q hp
    obtain ⟨acc', s2, e2, hp2⟩ := comp_st h hno qs hp' (by rw [List.length_append, List.length_singleton]; omega) (ρ := (fr s').set i (.val w)) (s := s') (by rw [List.set_set, hno])
    refine ⟨acc', s2, ?_, hp2⟩
    unfold compL
    rw [show wipeR ρ [i] = ρ.set i .no from rfl, hr]
    show (ML.R.bind (mYes ((fr s).set i (.val w))) _) = _
    rw [ev_yes, ev_bo, if_pos rfl, e, ev_bo, if_pos (by omega), e2]
end K06

namespace K06
open PySem PySem.Spec PyProof.Rows L2 ML
def NextOk (nx : List W → FR) : Prop := ∀ {r : W}, IsR r → ∀ {m : Int}, 0 < m → ∃ v r', nx [r, .int m] = .ok false (.int v) [r'] ∧ 0 ≤ v ∧ v < m ∧ IsR r'
def NumOk (nu : List W → FR) : Prop := ∀ {r : W}, IsR r → ∃ (n : Nat) (r' : W), nu [r] = .ok false (.int n) [r'] ∧ n < 1000 ∧ IsR r'
def PrmOk (pr : List W → FR) : Prop := ∀ {r ns : W}, IsR r → NmL ns → ∀ (k : Nat), k ≤ 50 → ∃ (ms : List (A × Bool)) (r' : W), pr [r, ns, .int k] = .ok false (.tup (ms.map prmW)) [r'] ∧ ms.length = k ∧ (∀ m ∈ ms, IsName m.1) ∧ IsR r'
def LeafOk (lf : List W → FR) : Prop := ∀ {r ns : W}, IsR r → NmL ns → ∃ b r' p, lf [r, ns] = .ok false b [r'] ∧ Wr 1 b p ∧ tl p ≤ 20 ∧ IsR r'
def SplitOk (sp : List W → FR) : Prop := ∀ {r : W}, IsR r → ∀ (rest many : Nat), 1 ≤ many → many ≤ rest → rest ≤ 1000 → ∃ (ps : List Nat) (r' : W), sp [r, .int rest, .int many] = .ok true (.lst (ps.map fun (n : Nat) => W.int n)) [r'] ∧ ps.length = many ∧ (∀ x ∈ ps, 1 ≤ x) ∧ ps.sum = rest ∧ IsR r'
theorem the_next : NextOk fun__law_next := fun h _ hm => next_ok h hm
theorem the_num : NumOk (fun__law_number fun__law_next) := fun h => number_ok h
theorem the_prm : PrmOk (fun__law_parameters fun__law_next) := fun h hn k hk => params_ok h hn k hk
theorem the_leaf : LeafOk (fun__law_any_leaf fun__law_next (fun__law_number fun__law_next)) := fun h hn => leaf_ok h hn
theorem the_split : SplitOk (fun__law_split fun__law_next) := fun h a b h1 h2 h3 => split_ok h a b h1 h2 h3
theorem w1 {d : Nat} {b : W} {p : List A} (h : Wr 1 b p) : Wr (d + 1) b p := h.mono (by omega)
def unF (nx nu : List W → FR) : Rho → ML.R Fl := mSeq (mSet [0] 7 (mLst [0] [mTup [0] [mC (.str "set"), mVar 4, mVar 6], mTup [0] [mC (.str "new"), mVar 4, mCall [0] [0] nu [mVar 0], mVar 6], mTup [0] [mC (.str "call"), mVar 4, mTup [0] [mVar 6]]])) (mRet [0] (mOp gIx (mVar 7) (mOp gIx (mLst [0] [mC (.int 0), mC (.int 0), mC (.int 1), mC (.int 2)]) (mCall [0] [0] nx [mVar 0, mC (.int 4)]))))
theorem un_ok {nx nu : List W → FR} (HN : NextOk nx) (HU : NumOk nu) {d : Nat} {r b s1 s2 s3 s5 s8 s9 s10 s11 : Sl} {r0 : W} {x : A} {w : W} {p : List A} (hr : IsR r0) (hx : IsName x) (hw : Wr d w p) : ∃ (v r' : W) (q : List A) (ρ : Rho), unF nx nu [Sl.own r0, s1, s2, s3, Sl.val (.str (S x)), s5, Sl.val w, Sl.no, s8, s9, s10, s11] = .ok (.rt .val v) (Sl.own r' :: ρ) ∧ Wr (d + 1) v q ∧ tl q ≤ tl p + 60 ∧ IsR r' := by
  obtain ⟨n, r1, e1, n1, h1⟩ := HU hr
  obtain ⟨u, r2, e2, u0, u1, h2⟩ := HN h1 (m := 4) (by omega)
  have hu : u = 0 ∨ u = 1 ∨ u = 2 ∨ u = 3 := by omega
  have hxl := hx.len
  have hnl := num_le n n1
  have hg := tl_grp w p
  have key : ∀ (k : Int) (v : W) (q : List A), atI [W.int 0, W.int 0, W.int 1, W.int 2] u = some (.int k) → atI [W.tup [.str (S [115, 101, 116]), .str (S x), w], W.tup [.str (S [110, 101, 119]), .str (S x), .int n, w], W.tup [.str (S [99, 97, 108, 108]), .str (S x), .tup [w]]] k = some v → Wr (d + 1) v q → tl q ≤ tl p + 60 → ∃ (v r' : W) (q : List A) (ρ : Rho), unF nx nu [Sl.own r0, s1, s2, s3, Sl.val (.str (S x)), s5, Sl.val w, Sl.no, s8, s9, s10, s11] = .ok (.rt .val v) (Sl.own r' :: ρ) ∧ Wr (d + 1) v q ∧ tl q ≤ tl p + 60 ∧ IsR r' := by
    intro k v q f1 f2 f3 f4
    refine ⟨v, r2, q, [s1, s2, s3, Sl.val (.str (S x)), s5, Sl.val w, Sl.own (.lst [W.tup [.str (S [115, 101, 116]), .str (S x), w], W.tup [.str (S [110, 101, 119]), .str (S x), .int n, w], W.tup [.str (S [99, 97, 108, 108]), .str (S x), .tup [w]]]), s8, s9, s10, s11], ?_, f3, f4, h2⟩
    unfold unF
    simp -implicitDefEqProofs [ev_var, ev_own, l1, l2, l3, l4, e1, e2, f1, f2]
  rcases hu with rfl | rfl | rfl | rfl
  · exact key 0 _ _ (by simp) (by simp) (.set x w p hx hw) (by simp; omega)
  · exact key 0 _ _ (by simp) (by simp) (.set x w p hx hw) (by simp; omega)
  · exact key 1 _ _ (by simp) (by simp) (.new x n w p hx n1 hw) (by simp; omega)
  · exact key 2 _ _ (by simp) (by simp) (.call x [w] [p] hx (by simp) (.cons hw .nil)) (by simp [commas]; omega)
def tailF (nx pr : List W → FR) : Rho → ML.R Fl := mSeq (mIf (mTest (mOp gEq (mVar 5) (mC (.int 19)))) (mRet [0] (mTup [0] [mC (.str "call"), mVar 4, mVar 10])) (mNext)) (mSeq (mIf (mTest (mOp gEq (mVar 8) (mC (.int 3)))) (mRet [0] (mOp gIx (mLst [0] [mOp gAdd (mTup [0] [mC (.str "if")]) (mVar 10), mTup [0] [mC (.str "call"), mVar 4, mVar 10]]) (mCB gInt [mOp gEq (mVar 5) (mC (.int 18))]))) (mNext)) (mSeq (mIf (mOr (mTest (mOp (gCmp (fun i j => decide (i < j))) (mVar 5) (mC (.int 9)))) (mTest (mOp (gCmp (fun i j => decide (j < i))) (mVar 5) (mC (.int 15))))) (mRet [0] (mOp gAdd (mTup [0] [mC (.str "then")]) (mVar 10))) (mNext)) (mSeq (mIf (mTest (mOp (gCmp (fun i j => decide (i < j))) (mVar 5) (mC (.int 11)))) (mRet [0] (mOp gAdd (mTup [0] [mOp gIx (mLst [0] [mC (.str "while"), mC (.str "call")]) (mOp gSub (mVar 5) (mC (.int 9)))]) (mOp gIx (mLst [0] [mVar 10, mTup [0] [mVar 4, mVar 10]]) (mOp gSub (mVar 5) (mC (.int 9)))))) (mNext)) (mSeq (mIf (mTest (mOp (gCmp (fun i j => decide (i < j))) (mVar 5) (mC (.int 14)))) (mRet [0] (mOp gAdd (mTup [0] [mOp gIx (mLst [0] [mC (.str "plus"), mC (.str "equal"), mC (.str "less")]) (mOp gSub (mVar 5) (mC (.int 11)))]) (mVar 10))) (mNext)) (mRet [0] (mOp gAdd (mTup [0] [mC (.str "let"), mVar 4, mCall [0] [0] pr [mVar 0, mVar 3, mOp gIx (mLst [0] [mC (.int 0), mC (.int 1), mC (.int 1), mC (.int 2), mC (.int 3), mC (.int 4)]) (mCall [0] [0] nx [mVar 0, mC (.int 6)])]]) (mVar 10)))))))
section
variable {nx pr : List W → FR} {s1 s2 s6 s7 s9 s11 : Sl} {r ns a b c : W} {x : A} {pick : Int} {ys : List W}
theorem t_19 {many : Int} : tailF nx pr [Sl.own r, s1, s2, Sl.val ns, Sl.val (.str (S x)), Sl.val (.int 19), s6, s7, Sl.val (.int many), s9, Sl.val (.tup ys), s11] = .ok (.rt .val (.tup [.str (S [99, 97, 108, 108]), .str (S x), .tup ys])) [Sl.own r, s1, s2, Sl.val ns, Sl.val (.str (S x)), Sl.val (.int 19), s6, s7, Sl.val (.int many), s9, Sl.val (.tup ys), s11] := by
  unfold tailF
  simp -implicitDefEqProofs [ev_var, ev_own, l3]
theorem t_then1 (h : pick < 9) (h19 : ¬ pick = 19) : tailF nx pr [Sl.own r, s1, s2, Sl.val ns, Sl.val (.str (S x)), Sl.val (.int pick), s6, s7, Sl.val (.int 2), s9, Sl.val (.tup [a, b]), s11] = .ok (.rt .val (.tup [.str (S [116, 104, 101, 110]), a, b])) [Sl.own r, s1, s2, Sl.val ns, Sl.val (.str (S x)), Sl.val (.int pick), s6, s7, Sl.val (.int 2), s9, Sl.val (.tup [a, b]), s11] := by
  unfold tailF
  simp -implicitDefEqProofs [ev_var, ev_own, l1, l3, h19, h]
theorem t_then2 (h : 15 < pick) (h19 : ¬ pick = 19) : tailF nx pr [Sl.own r, s1, s2, Sl.val ns, Sl.val (.str (S x)), Sl.val (.int pick), s6, s7, Sl.val (.int 2), s9, Sl.val (.tup [a, b]), s11] = .ok (.rt .val (.tup [.str (S [116, 104, 101, 110]), a, b])) [Sl.own r, s1, s2, Sl.val ns, Sl.val (.str (S x)), Sl.val (.int pick), s6, s7, Sl.val (.int 2), s9, Sl.val (.tup [a, b]), s11] := by
  unfold tailF
  have h2 : ¬ pick < 9 := by omega
  simp -implicitDefEqProofs [ev_var, ev_own, l1, l3, h19, h, h2]
theorem t_9  : tailF nx pr [Sl.own r, s1, s2, Sl.val ns, Sl.val (.str (S x)), Sl.val (.int 9), s6, s7, Sl.val (.int 2), s9, Sl.val (.tup [a, b]), s11] = .ok (.rt .val (.tup [.str (S [119, 104, 105, 108, 101]), a, b])) [Sl.own r, s1, s2, Sl.val ns, Sl.val (.str (S x)), Sl.val (.int 9), s6, s7, Sl.val (.int 2), s9, Sl.val (.tup [a, b]), s11] := by
  unfold tailF
  simp -implicitDefEqProofs [ev_var, ev_own, l1, l2, l3]
theorem t_10  : tailF nx pr [Sl.own r, s1, s2, Sl.val ns, Sl.val (.str (S x)), Sl.val (.int 10), s6, s7, Sl.val (.int 2), s9, Sl.val (.tup [a, b]), s11] = .ok (.rt .val (.tup [.str (S [99, 97, 108, 108]), .str (S x), .tup [a, b]])) [Sl.own r, s1, s2, Sl.val ns, Sl.val (.str (S x)), Sl.val (.int 10), s6, s7, Sl.val (.int 2), s9, Sl.val (.tup [a, b]), s11] := by
  unfold tailF
  simp -implicitDefEqProofs [ev_var, ev_own, l1, l2, l3]
theorem t_11  : tailF nx pr [Sl.own r, s1, s2, Sl.val ns, Sl.val (.str (S x)), Sl.val (.int 11), s6, s7, Sl.val (.int 2), s9, Sl.val (.tup [a, b]), s11] = .ok (.rt .val (.tup [.str (S [112, 108, 117, 115]), a, b])) [Sl.own r, s1, s2, Sl.val ns, Sl.val (.str (S x)), Sl.val (.int 11), s6, s7, Sl.val (.int 2), s9, Sl.val (.tup [a, b]), s11] := by
  unfold tailF
  simp -implicitDefEqProofs [ev_var, ev_own, l1, l2, l3]
theorem t_12  : tailF nx pr [Sl.own r, s1, s2, Sl.val ns, Sl.val (.str (S x)), Sl.val (.int 12), s6, s7, Sl.val (.int 2), s9, Sl.val (.tup [a, b]), s11] = .ok (.rt .val (.tup [.str (S [101, 113, 117, 97, 108]), a, b])) [Sl.own r, s1, s2, Sl.val ns, Sl.val (.str (S x)), Sl.val (.int 12), s6, s7, Sl.val (.int 2), s9, Sl.val (.tup [a, b]), s11] := by
  unfold tailF
  simp -implicitDefEqProofs [ev_var, ev_own, l1, l2, l3]
theorem t_13  : tailF nx pr [Sl.own r, s1, s2, Sl.val ns, Sl.val (.str (S x)), Sl.val (.int 13), s6, s7, Sl.val (.int 2), s9, Sl.val (.tup [a, b]), s11] = .ok (.rt .val (.tup [.str (S [108, 101, 115, 115]), a, b])) [Sl.own r, s1, s2, Sl.val ns, Sl.val (.str (S x)), Sl.val (.int 13), s6, s7, Sl.val (.int 2), s9, Sl.val (.tup [a, b]), s11] := by
  unfold tailF
  simp -implicitDefEqProofs [ev_var, ev_own, l1, l2, l3]
theorem t_18  : tailF nx pr [Sl.own r, s1, s2, Sl.val ns, Sl.val (.str (S x)), Sl.val (.int 18), s6, s7, Sl.val (.int 3), s9, Sl.val (.tup [a, b, c]), s11] = .ok (.rt .val (.tup [.str (S [99, 97, 108, 108]), .str (S x), .tup [a, b, c]])) [Sl.own r, s1, s2, Sl.val ns, Sl.val (.str (S x)), Sl.val (.int 18), s6, s7, Sl.val (.int 3), s9, Sl.val (.tup [a, b, c]), s11] := by
  unfold tailF
  simp -implicitDefEqProofs [ev_var, ev_own, l1, l2, l3, l4]
theorem t_if (h19 : ¬ pick = 19) (h18 : ¬ pick = 18) : tailF nx pr [Sl.own r, s1, s2, Sl.val ns, Sl.val (.str (S x)), Sl.val (.int pick), s6, s7, Sl.val (.int 3), s9, Sl.val (.tup [a, b, c]), s11] = .ok (.rt .val (.tup [.str (S [105, 102]), a, b, c])) [Sl.own r, s1, s2, Sl.val ns, Sl.val (.str (S x)), Sl.val (.int pick), s6, s7, Sl.val (.int 3), s9, Sl.val (.tup [a, b, c]), s11] := by
  unfold tailF
  simp -implicitDefEqProofs [ev_var, ev_own, l1, l2, l3, l4, h19, h18]
theorem t_let1 {u v : Int} {r1 : W} (e1 : nx [r, .int 6] = .ok false (.int u) [r1]) (hu : atI [W.int 0, W.int 1, W.int 1, W.int 2, W.int 3, W.int 4] u = some (.int v)) : mOp gIx (mLst [0] [mC (.int 0), mC (.int 1), mC (.int 1), mC (.int 2), mC (.int 3), mC (.int 4)]) (mCall [0] [0] nx [mVar 0, mC (.int 6)]) [Sl.own r, s1, s2, Sl.val ns, Sl.val (.str (S x)), Sl.val (.int pick), s6, s7, Sl.val (.int 2), s9, Sl.val (.tup [a, b]), s11] = .ok (.val, .int v) [Sl.own r1, s1, s2, Sl.val ns, Sl.val (.str (S x)), Sl.val (.int pick), s6, s7, Sl.val (.int 2), s9, Sl.val (.tup [a, b]), s11] := by
  have l6 : (6 ≤ sizeLine) = True := by simp [line_is]
  simp -implicitDefEqProofs [ev_var, ev_own, l6, e1, hu]
theorem t_let2 {v : Int} {m : List W → FR} {r1 r2 z : W} {f : Rho → ML.R (Md × W)} (hf : f [Sl.own r, s1, s2, Sl.val ns, Sl.val (.str (S x)), Sl.val (.int pick), s6, s7, Sl.val (.int 2), s9, Sl.val (.tup [a, b]), s11] = .ok (.val, .int v) [Sl.own r1, s1, s2, Sl.val ns, Sl.val (.str (S x)), Sl.val (.int pick), s6, s7, Sl.val (.int 2), s9, Sl.val (.tup [a, b]), s11]) (e2 : m [r1, ns, .int v] = .ok false z [r2]) : mCall [0] [0] m [mVar 0, mVar 3, f] [Sl.own r, s1, s2, Sl.val ns, Sl.val (.str (S x)), Sl.val (.int pick), s6, s7, Sl.val (.int 2), s9, Sl.val (.tup [a, b]), s11] = .ok (.val, z) [Sl.own r2, s1, s2, Sl.val ns, Sl.val (.str (S x)), Sl.val (.int pick), s6, s7, Sl.val (.int 2), s9, Sl.val (.tup [a, b]), s11] := by
  simp -implicitDefEqProofs [ev_var, ev_own, hf, e2]
theorem t_let {u : Int} {k : Nat} {ms : List (A × Bool)} {r1 r2 : W} (c1 : 14 ≤ pick) (c2 : pick ≤ 15) (e1 : nx [r, .int 6] = .ok false (.int u) [r1]) (hu : atI [W.int 0, W.int 1, W.int 1, W.int 2, W.int 3, W.int 4] u = some (.int (k : Int))) (e2 : pr [r1, ns, .int k] = .ok false (.tup (ms.map prmW)) [r2]) :
    tailF nx pr [Sl.own r, s1, s2, Sl.val ns, Sl.val (.str (S x)), Sl.val (.int pick), s6, s7, Sl.val (.int 2), s9, Sl.val (.tup [a, b]), s11] = .ok (.rt .val (.tup [.str (S [108, 101, 116]), .str (S x), .tup (ms.map prmW), a, b])) [Sl.own r2, s1, s2, Sl.val ns, Sl.val (.str (S x)), Sl.val (.int pick), s6, s7, Sl.val (.int 2), s9, Sl.val (.tup [a, b]), s11] := by
  have l6 : (6 ≤ sizeLine) = True := by simp [line_is]
  have h0 : ¬ pick = 19 := by omega
  have h1 : ¬ pick < 9 := by omega
  have h2 : ¬ 15 < pick := by omega
  have h3 : ¬ pick < 11 := by omega
  have h4 : ¬ pick < 14 := by omega
  have hc := t_let2 (s1 := s1) (s2 := s2) (s6 := s6) (s7 := s7) (s9 := s9) (s11 := s11) (a := a) (b := b) (x := x) (pick := pick) (t_let1 e1 hu) e2
  clear e1 e2 hu
  unfold tailF
  simp -implicitDefEqProofs [-ev_call, ev_var, ev_own, l1, l2, l3, l5, h0, h1, h2, h3, h4, hc]
end
def TailOk (d : Nat) (ps : List (List A)) (r : ML.R Fl) : Prop := ∃ (v r' : W) (q : List A) (ρ : Rho), r = .ok (.rt .val v) (Sl.own r' :: ρ) ∧ Wr (d + 1) v q ∧ tl q ≤ (ps.map tl).sum + 150 ∧ IsR r'
theorem tail2 {nx pr : List W → FR} (HN : NextOk nx) (HP : PrmOk pr) {d : Nat} {s1 s2 s6 s7 s9 s11 : Sl} {r ns : W} {x : A} {pick : Int} {a b : W} {p q : List A} (hr : IsR r) (hns : NmL ns) (hx : IsName x) (h19 : ¬ pick = 19) (ha : Wr d a p) (hb : Wr d b q) :
    TailOk d [p, q] (tailF nx pr [Sl.own r, s1, s2, Sl.val ns, Sl.val (.str (S x)), Sl.val (.int pick), s6, s7, Sl.val (.int 2), s9, Sl.val (.tup [a, b]), s11]) := by
  have hxl := hx.len
  have hg := tl_grp a p
  have hv : pick < 9 ∨ 15 < pick ∨ pick = 9 ∨ pick = 10 ∨ pick = 11 ∨ pick = 12 ∨ pick = 13 ∨ 14 ≤ pick ∧ pick ≤ 15 := by omega
  rcases hv with hv | hv | rfl | rfl | rfl | rfl | rfl | ⟨h14, h15⟩
  · exact ⟨_, r, _, _, t_then1 hv h19, .seq a b p q ha hb, by simp; omega, hr⟩
  · exact ⟨_, r, _, _, t_then2 hv h19, .seq a b p q ha hb, by simp; omega, hr⟩
  · exact ⟨_, r, _, _, t_9, .loop a b p q ha hb, by simp; omega, hr⟩
  · exact ⟨_, r, _, _, t_10, .call x [a, b] [p, q] hx (by simp) (.cons ha (.cons hb .nil)), by simp [commas]; omega, hr⟩
  · exact ⟨_, r, _, _, t_11, .op 0 a b p q (by omega) ha hb, by simp [sgn]; omega, hr⟩
  · exact ⟨_, r, _, _, t_12, .op 1 a b p q (by omega) ha hb, by simp [sgn]; omega, hr⟩
  · exact ⟨_, r, _, _, t_13, .op 2 a b p q (by omega) ha hb, by simp [sgn]; omega, hr⟩
  · obtain ⟨u, r1, e1, u0, u1, h1⟩ := HN hr (m := 6) (by omega)
    have key : ∀ k : Nat, k ≤ 4 → atI [W.int 0, W.int 1, W.int 1, W.int 2, W.int 3, W.int 4] u = some (.int (k : Int)) → TailOk d [p, q] (tailF nx pr [Sl.own r, s1, s2, Sl.val ns, Sl.val (.str (S x)), Sl.val (.int pick), s6, s7, Sl.val (.int 2), s9, Sl.val (.tup [a, b]), s11]) := by
      intro k hk hu
      obtain ⟨ms, r2, e2, hms, hm2, h2⟩ := HP h1 hns k (by omega)
      have hpl := prm_len (fun y hy => (hm2 y hy).len)
      exact ⟨_, r2, _, _, t_let h14 h15 e1 hu e2, .lett x ms a b p q hx (by omega) hm2 ha hb, by simp; omega, h2⟩
    have hu : u = 0 ∨ u = 1 ∨ u = 2 ∨ u = 3 ∨ u = 4 ∨ u = 5 := by omega
    rcases hu with rfl | rfl | rfl | rfl | rfl | rfl
    · exact key 0 (by omega) (by simp)
    · exact key 1 (by omega) (by simp)
    · exact key 1 (by omega) (by simp)
    · exact key 2 (by omega) (by simp)
    · exact key 3 (by omega) (by simp)
    · exact key 4 (by omega) (by simp)
theorem tail3 {nx pr : List W → FR} {d : Nat} {s1 s2 s6 s7 s9 s11 : Sl} {r ns : W} {x : A} {pick : Int} {a b c : W} {p q t : List A} (hr : IsR r) (hx : IsName x) (h19 : ¬ pick = 19) (ha : Wr d a p) (hb : Wr d b q) (hc : Wr d c t) :
    TailOk d [p, q, t] (tailF nx pr [Sl.own r, s1, s2, Sl.val ns, Sl.val (.str (S x)), Sl.val (.int pick), s6, s7, Sl.val (.int 3), s9, Sl.val (.tup [a, b, c]), s11]) := by
  have hxl := hx.len
  by_cases h18 : pick = 18
  · subst h18
    exact ⟨_, r, _, _, t_18, .call x [a, b, c] [p, q, t] hx (by simp) (.cons ha (.cons hb (.cons hc .nil))), by simp [commas]; omega, hr⟩
  · exact ⟨_, r, _, _, t_if h19 h18, .iff a b c p q t ha hb hc, by simp; omega, hr⟩
theorem tail_ok {nx pr : List W → FR} (HN : NextOk nx) (HP : PrmOk pr) {d : Nat} {s1 s2 s6 s7 s9 s11 : Sl} {r ns : W} {x : A} {pick : Int} {many : Nat} {ys : List W} {ps : List (List A)} (hr : IsR r) (hns : NmL ns) (hx : IsName x) (hy : All2 (Wr d) ys ps) (hl : ys.length = many) (hm1 : 1 ≤ many) (hm5 : many ≤ 5)
    (hm : pick ≠ 19 → many = 2 ∨ many = 3 ∧ 15 < pick) : TailOk d ps (tailF nx pr [Sl.own r, s1, s2, Sl.val ns, Sl.val (.str (S x)), Sl.val (.int pick), s6, s7, Sl.val (.int many), s9, Sl.val (.tup ys), s11]) := by
  have hxl := hx.len
  have hlen := hy.len
  by_cases h19 : pick = 19
  · subst h19
    have hc := tl_commas ps
    exact ⟨_, r, _, _, t_19, .call x ys ps hx (by omega) hy, by simp; omega, hr⟩
  rcases hm h19 with rfl | ⟨rfl, h15⟩
  · cases hy with
    | nil => simp at hl
    | cons ha hy => cases hy with
      | nil => simp at hl
      | cons hb hy => cases hy with
        | cons _ _ => simp at hl
        | nil => exact tail2 HN HP hr hns hx h19 ha hb
  · cases hy with
    | nil => simp at hl
    | cons ha hy => cases hy with
      | nil => simp at hl
      | cons hb hy => cases hy with
        | nil => simp at hl
        | cons hc hy => cases hy with
          | cons _ _ => simp at hl
          | nil => exact tail3 hr hx h19 ha hb hc
end K06

namespace K06
open PySem PySem.Spec PyProof.Rows L2 ML
def a1 (lf : List W → FR) : Rho → ML.R Fl := mIf (mOr (mTest (mOp (gCmp (fun i j => decide (i ≤ j))) (mVar 1) (mC (.int 1)))) (mTest (mOp (gCmp (fun i j => decide (i ≤ j))) (mVar 2) (mC (.int 0))))) (mRet [0] (mCall [0] [0] lf [mVar 0, mVar 3])) (mNext)
def a2 (nx : List W → FR) : Rho → ML.R Fl := mSet [0] 4 (mOp gIx (mVar 3) (mCall [0] [0] nx [mVar 0, mCB gLen [mVar 3]]))
def a3 (nx : List W → FR) : Rho → ML.R Fl := mSet [0] 5 (mCall [0] [0] nx [mVar 0, mC (.int 20)])
def c4 : Rho → ML.R Bool := mOr (mTest (mOp (gCmp (fun i j => decide (i < j))) (mVar 5) (mC (.int 4)))) (mTest (mOp gEq (mVar 1) (mC (.int 2))))
def a5 (m : List W → FR) : Rho → ML.R Fl := mSet [0] 6 (mCall [0] [0] m [mVar 0, mOp gSub (mVar 1) (mC (.int 1)), mOp gSub (mVar 2) (mC (.int 1)), mVar 3])
def a6 : Rho → ML.R Fl := mSet [0] 8 (mC (.int 2))
def a7 : Rho → ML.R Fl := mIf (mAnd (mTest (mOp (gCmp (fun i j => decide (j < i))) (mVar 5) (mC (.int 15)))) (mTest (mOp (gCmp (fun i j => decide (j < i))) (mVar 1) (mC (.int 3))))) (mSet [0] 8 (mC (.int 3))) (mNext)
def a8 (nx : List W → FR) : Rho → ML.R Fl := mIf (mTest (mOp gEq (mVar 5) (mC (.int 19)))) (mSet [0] 8 (mCB gMin [mOp gSub (mVar 1) (mC (.int 1)), mOp gAdd (mC (.int 1)) (mCall [0] [0] nx [mVar 0, mC (.int 5)])])) (mNext)
def a9 (sp : List W → FR) : Rho → ML.R Fl := mSet [0] 9 (mCall [0] [0] sp [mVar 0, mOp gSub (mVar 1) (mC (.int 1)), mVar 8])
def a10 (m : List W → FR) : Rho → ML.R Fl := mSet [0] 10 (mCB gTupC [mLc [0] (mItems [0] (mVar 9)) (.nm 11) (mYes) (mCall [0] [0] m [mVar 0, mVar 11, mOp gSub (mVar 2) (mC (.int 1)), mVar 3])])
def anG (lf nx nu sp pr m : List W → FR) : List W → FR := fun__law_any lf nx m nu sp pr
theorem any_is (lf nx nu sp pr m : List W → FR) : anG lf nx nu sp pr m = mFun [0] 12 (mSeq (a1 lf) (mSeq (a2 nx) (mSeq (a3 nx) (mSeq (mIf c4 (mSeq (a5 m) (unF nx nu)) mNext) (mSeq a6 (mSeq a7 (mSeq (a8 nx) (mSeq (a9 sp) (mSeq (a10 m) (tailF nx pr)))))))))) := rfl
theorem any_leaf {lf nx nu sp pr m : List W → FR} (HL : LeafOk lf) {r ns : W} {bd dp : Int} (hr : IsR r) (hn : NmL ns) (h : bd ≤ 1 ∨ dp ≤ 0) : ∃ v r' p, anG lf nx nu sp pr m [r, .int bd, .int dp, ns] = .ok false v [r'] ∧ Wr 1 v p ∧ tl p ≤ 20 ∧ IsR r' := by
  obtain ⟨v, r', p, e, h1, h2, h3⟩ := HL hr hn
  refine ⟨v, r', p, ?_, h1, h2, h3⟩
  have ea : a1 lf [Sl.own r, Sl.val (.int bd), Sl.val (.int dp), Sl.val ns, Sl.no, Sl.no, Sl.no, Sl.no, Sl.no, Sl.no, Sl.no, Sl.no] = .ok (.rt .val v) [Sl.own r', Sl.val (.int bd), Sl.val (.int dp), Sl.val ns, Sl.no, Sl.no, Sl.no, Sl.no, Sl.no, Sl.no, Sl.no, Sl.no] := by
    unfold a1
    rcases h with h | h
    · simp -implicitDefEqProofs [ev_var, ev_own, h, e]
    · by_cases hb : bd ≤ 1 <;> simp -implicitDefEqProofs [ev_var, ev_own, hb, h, e]
  rw [any_is, ev_fun]
  have e0 : rho0 [0] [r, .int bd, .int dp, ns] 12 = [Sl.own r, Sl.val (.int bd), Sl.val (.int dp), Sl.val ns, Sl.no, Sl.no, Sl.no, Sl.no, Sl.no, Sl.no, Sl.no, Sl.no] := rfl
  rw [e0, ev_seq, ea, ev_tr]
  simp -implicitDefEqProofs [ev_own]
section
variable {lf nx nu sp pr m : List W → FR} {r r1 r2 r3 r4 ns w : W} {x : A} {pick bd dp : Int} {l : List A}
theorem s_a1 (c1 : ¬ bd ≤ 1) (c2 : ¬ dp ≤ 0) : a1 lf [Sl.own r, Sl.val (.int bd), Sl.val (.int dp), Sl.val ns, Sl.no, Sl.no, Sl.no, Sl.no, Sl.no, Sl.no, Sl.no, Sl.no] = .ok .nx [Sl.own r, Sl.val (.int bd), Sl.val (.int dp), Sl.val ns, Sl.no, Sl.no, Sl.no, Sl.no, Sl.no, Sl.no, Sl.no, Sl.no] := by
  unfold a1
  simp -implicitDefEqProofs [ev_var, ev_own, c1, c2]
theorem s_a2 {v1 : Int} (f1 : nx [r, .int (l.length : Int)] = .ok false (.int v1) [r1]) (ex : atI (l.map fun x => W.str (S x)) v1 = some (.str (S x))) (hl1 : ns = .lst (l.map fun x => .str (S x))) : a2 nx [Sl.own r, Sl.val (.int bd), Sl.val (.int dp), Sl.val ns, Sl.no, Sl.no, Sl.no, Sl.no, Sl.no, Sl.no, Sl.no, Sl.no] = .ok .nx [Sl.own r1, Sl.val (.int bd), Sl.val (.int dp), Sl.val ns, Sl.val (.str (S x)), Sl.no, Sl.no, Sl.no, Sl.no, Sl.no, Sl.no, Sl.no] := by
  unfold a2
  subst hl1
  simp -implicitDefEqProofs [ev_var, ev_own, f1, ex]
theorem s_a3 (f2 : nx [r1, .int 20] = .ok false (.int pick) [r2]) : a3 nx [Sl.own r1, Sl.val (.int bd), Sl.val (.int dp), Sl.val ns, Sl.val (.str (S x)), Sl.no, Sl.no, Sl.no, Sl.no, Sl.no, Sl.no, Sl.no] = .ok .nx [Sl.own r2, Sl.val (.int bd), Sl.val (.int dp), Sl.val ns, Sl.val (.str (S x)), Sl.val (.int pick), Sl.no, Sl.no, Sl.no, Sl.no, Sl.no, Sl.no] := by
  unfold a3
  simp -implicitDefEqProofs [ev_var, ev_own, f2]
theorem s_c4t (hc : pick < 4 ∨ bd = 2) : c4 [Sl.own r2, Sl.val (.int bd), Sl.val (.int dp), Sl.val ns, Sl.val (.str (S x)), Sl.val (.int pick), Sl.no, Sl.no, Sl.no, Sl.no, Sl.no, Sl.no] = .ok true [Sl.own r2, Sl.val (.int bd), Sl.val (.int dp), Sl.val ns, Sl.val (.str (S x)), Sl.val (.int pick), Sl.no, Sl.no, Sl.no, Sl.no, Sl.no, Sl.no] := by
  unfold c4
  rcases hc with hc | hc
  · simp -implicitDefEqProofs [ev_var, ev_own, hc]
  · by_cases hp : pick < 4 <;> simp -implicitDefEqProofs [ev_var, ev_own, hc, hp]
theorem s_c4f (hp4 : ¬ pick < 4) (hb3 : ¬ bd = 2) : c4 [Sl.own r2, Sl.val (.int bd), Sl.val (.int dp), Sl.val ns, Sl.val (.str (S x)), Sl.val (.int pick), Sl.no, Sl.no, Sl.no, Sl.no, Sl.no, Sl.no] = .ok false [Sl.own r2, Sl.val (.int bd), Sl.val (.int dp), Sl.val ns, Sl.val (.str (S x)), Sl.val (.int pick), Sl.no, Sl.no, Sl.no, Sl.no, Sl.no, Sl.no] := by
  unfold c4
  simp -implicitDefEqProofs [ev_var, ev_own, hp4, hb3]
theorem s_a5 (f3 : m [r2, .int (bd - 1), .int (dp - 1), ns] = .ok false w [r3]) : a5 m [Sl.own r2, Sl.val (.int bd), Sl.val (.int dp), Sl.val ns, Sl.val (.str (S x)), Sl.val (.int pick), Sl.no, Sl.no, Sl.no, Sl.no, Sl.no, Sl.no] = .ok .nx [Sl.own r3, Sl.val (.int bd), Sl.val (.int dp), Sl.val ns, Sl.val (.str (S x)), Sl.val (.int pick), Sl.val w, Sl.no, Sl.no, Sl.no, Sl.no, Sl.no] := by
  unfold a5
  simp -implicitDefEqProofs [ev_var, ev_own, f3]
theorem s_a6 : a6 [Sl.own r2, Sl.val (.int bd), Sl.val (.int dp), Sl.val ns, Sl.val (.str (S x)), Sl.val (.int pick), Sl.no, Sl.no, Sl.no, Sl.no, Sl.no, Sl.no] = .ok .nx [Sl.own r2, Sl.val (.int bd), Sl.val (.int dp), Sl.val ns, Sl.val (.str (S x)), Sl.val (.int pick), Sl.no, Sl.no, Sl.val (.int 2), Sl.no, Sl.no, Sl.no] := by
  unfold a6
  simp -implicitDefEqProofs [ev_var, ev_own]
theorem s_a7 : ∃ m7 : Nat, a7 [Sl.own r2, Sl.val (.int bd), Sl.val (.int dp), Sl.val ns, Sl.val (.str (S x)), Sl.val (.int pick), Sl.no, Sl.no, Sl.val (.int 2), Sl.no, Sl.no, Sl.no] = .ok .nx [Sl.own r2, Sl.val (.int bd), Sl.val (.int dp), Sl.val ns, Sl.val (.str (S x)), Sl.val (.int pick), Sl.no, Sl.no, Sl.val (.int m7), Sl.no, Sl.no, Sl.no] ∧ (m7 = 2 ∨ m7 = 3 ∧ 15 < pick ∧ 3 < bd) := by
  by_cases c1 : 15 < pick
  · by_cases c2 : 3 < bd
    · refine ⟨3, ?_, .inr ⟨rfl, c1, c2⟩⟩
      unfold a7
      simp -implicitDefEqProofs [ev_var, ev_own, c1, c2]
    · refine ⟨2, ?_, .inl rfl⟩
      unfold a7
      simp -implicitDefEqProofs [ev_var, ev_own, c1, c2]
  · refine ⟨2, ?_, .inl rfl⟩
    unfold a7
    simp -implicitDefEqProofs [ev_var, ev_own, c1]
theorem s_a8 {z n : Int} (c3 : pick = 19) (f3 : nx [r2, .int 5] = .ok false (.int n) [r3]) : a8 nx [Sl.own r2, Sl.val (.int bd), Sl.val (.int dp), Sl.val ns, Sl.val (.str (S x)), Sl.val (.int pick), Sl.no, Sl.no, Sl.val (.int z), Sl.no, Sl.no, Sl.no] = .ok .nx [Sl.own r3, Sl.val (.int bd), Sl.val (.int dp), Sl.val ns, Sl.val (.str (S x)), Sl.val (.int pick), Sl.no, Sl.no, Sl.val (.int (if 1 + n < bd - 1 then 1 + n else bd - 1)), Sl.no, Sl.no, Sl.no] := by
  unfold a8
  simp -implicitDefEqProofs [ev_var, ev_own, c3, f3]
theorem s_a8n {z : Int} (c3 : ¬ pick = 19) : a8 nx [Sl.own r2, Sl.val (.int bd), Sl.val (.int dp), Sl.val ns, Sl.val (.str (S x)), Sl.val (.int pick), Sl.no, Sl.no, Sl.val (.int z), Sl.no, Sl.no, Sl.no] = .ok .nx [Sl.own r2, Sl.val (.int bd), Sl.val (.int dp), Sl.val ns, Sl.val (.str (S x)), Sl.val (.int pick), Sl.no, Sl.no, Sl.val (.int z), Sl.no, Sl.no, Sl.no] := by
  unfold a8
  simp -implicitDefEqProofs [ev_var, ev_own, c3]
theorem s_a9 {z : Int} {L : List W} (f4 : sp [r3, .int (bd - 1), .int z] = .ok true (.lst L) [r4]) : a9 sp [Sl.own r3, Sl.val (.int bd), Sl.val (.int dp), Sl.val ns, Sl.val (.str (S x)), Sl.val (.int pick), Sl.no, Sl.no, Sl.val (.int z), Sl.no, Sl.no, Sl.no] = .ok .nx [Sl.own r4, Sl.val (.int bd), Sl.val (.int dp), Sl.val ns, Sl.val (.str (S x)), Sl.val (.int pick), Sl.no, Sl.no, Sl.val (.int z), Sl.own (.lst L), Sl.no, Sl.no] := by
  unfold a9
  simp -implicitDefEqProofs [ev_var, ev_own, f4]
def elF (m : List W → FR) : Rho → ML.R W := mEl [0] (mCall [0] [0] m [mVar 0, mVar 11, mOp gSub (mVar 2) (mC (.int 1)), mVar 3])
theorem s_el {z k : Int} {L : W} {v : W} (g1 : m [r, .int k, .int (dp - 1), ns] = .ok false v [r1]) : elF m [Sl.own r, Sl.val (.int bd), Sl.val (.int dp), Sl.val ns, Sl.val (.str (S x)), Sl.val (.int pick), Sl.no, Sl.no, Sl.val (.int z), Sl.val L, Sl.no, Sl.val (.int k)] = .ok v [Sl.own r1, Sl.val (.int bd), Sl.val (.int dp), Sl.val ns, Sl.val (.str (S x)), Sl.val (.int pick), Sl.no, Sl.no, Sl.val (.int z), Sl.val L, Sl.no, Sl.val (.int k)] := by
  unfold elF
  simp -implicitDefEqProofs [ev_var, ev_own, g1]
theorem s_a10 {z : Int} {L : List W} {ys : List W} (e : compL [11] (CT.put (.nm 11)) mYes (elF m) [] L [Sl.own r4, Sl.val (.int bd), Sl.val (.int dp), Sl.val ns, Sl.val (.str (S x)), Sl.val (.int pick), Sl.no, Sl.no, Sl.val (.int z), Sl.val (.lst L), Sl.no, Sl.no] = .ok (.fre, .lst ys) [Sl.own r3, Sl.val (.int bd), Sl.val (.int dp), Sl.val ns, Sl.val (.str (S x)), Sl.val (.int pick), Sl.no, Sl.no, Sl.val (.int z), Sl.val (.lst L), Sl.no, Sl.no]) : a10 m [Sl.own r4, Sl.val (.int bd), Sl.val (.int dp), Sl.val ns, Sl.val (.str (S x)), Sl.val (.int pick), Sl.no, Sl.no, Sl.val (.int z), Sl.own (.lst L), Sl.no, Sl.no] = .ok .nx [Sl.own r3, Sl.val (.int bd), Sl.val (.int dp), Sl.val ns, Sl.val (.str (S x)), Sl.val (.int pick), Sl.no, Sl.no, Sl.val (.int z), Sl.val (.lst L), Sl.val (.tup ys), Sl.no] := by
  unfold elF at e
  unfold a10
  simp -implicitDefEqProofs [ev_lc, ev_var, ev_own, CT.ix, -ev_el, e]
end
theorem any_step {lf nx nu sp pr m : List W → FR} (HN : NextOk nx) (HU : NumOk nu) (HP : PrmOk pr) (HS : SplitOk sp) {d : Nat} {r ns : W} {b : Nat} {dp : Int} (hr : IsR r) (hn : NmL ns) (hb : 2 ≤ b) (hb2 : b ≤ 34) (hd : 0 < dp)
    (ih : ∀ (r : W) (b : Nat), IsR r → 1 ≤ b → b ≤ 34 → ∃ v r' p, m [r, .int b, .int (dp - 1), ns] = .ok false v [r'] ∧ Wr d v p ∧ tl p ≤ 200 * b ∧ IsR r') :
    ∃ v r' p, anG lf nx nu sp pr m [r, .int b, .int dp, ns] = .ok false v [r'] ∧ Wr (d + 1) v p ∧ tl p ≤ 200 * b ∧ IsR r' := by
  obtain ⟨bd, hbd⟩ : ∃ bd : Int, bd = (b : Int) := ⟨_, rfl⟩
  rw [← hbd]
  have hns := hn
  obtain ⟨l, hl1, hl2, hl3⟩ := hns
  have hpos : 0 < l.length := List.length_pos_iff.mpr hl2
  have e1 : a1 lf [Sl.own r, Sl.val (.int bd), Sl.val (.int dp), Sl.val ns, Sl.no, Sl.no, Sl.no, Sl.no, Sl.no, Sl.no, Sl.no, Sl.no] = .ok .nx [Sl.own r, Sl.val (.int bd), Sl.val (.int dp), Sl.val ns, Sl.no, Sl.no, Sl.no, Sl.no, Sl.no, Sl.no, Sl.no, Sl.no] := s_a1 (by omega) (by omega)
  obtain ⟨v1, r1, f1, v10, v11, h1⟩ := HN hr (m := (l.length : Int)) (by omega)
  obtain ⟨x, hxl, ex⟩ := nm_get v10 v11
  have hx := hl3 x hxl
  have e2 : a2 nx [Sl.own r, Sl.val (.int bd), Sl.val (.int dp), Sl.val ns, Sl.no, Sl.no, Sl.no, Sl.no, Sl.no, Sl.no, Sl.no, Sl.no] = .ok .nx [Sl.own r1, Sl.val (.int bd), Sl.val (.int dp), Sl.val ns, Sl.val (.str (S x)), Sl.no, Sl.no, Sl.no, Sl.no, Sl.no, Sl.no, Sl.no] := s_a2 f1 ex hl1
  obtain ⟨pick, r2, f2, p0, p1, h2⟩ := HN h1 (m := 20) (by omega)
  have e3 : a3 nx [Sl.own r1, Sl.val (.int bd), Sl.val (.int dp), Sl.val ns, Sl.val (.str (S x)), Sl.no, Sl.no, Sl.no, Sl.no, Sl.no, Sl.no, Sl.no] = .ok .nx [Sl.own r2, Sl.val (.int bd), Sl.val (.int dp), Sl.val ns, Sl.val (.str (S x)), Sl.val (.int pick), Sl.no, Sl.no, Sl.no, Sl.no, Sl.no, Sl.no] := s_a3 f2
  have e0 : rho0 [0] [r, .int bd, .int dp, ns] 12 = [Sl.own r, Sl.val (.int bd), Sl.val (.int dp), Sl.val ns, Sl.no, Sl.no, Sl.no, Sl.no, Sl.no, Sl.no, Sl.no, Sl.no] := rfl
  rw [any_is, ev_fun, e0, ev_seq, e1, ev_tn, ev_seq, e2, ev_tn, ev_seq, e3, ev_tn, ev_seq, ev_if]
  have hsub : bd - 1 = ((b - 1 : Nat) : Int) := by omega
  by_cases hc : pick < 4 ∨ bd = 2
  · have e4 : c4 [Sl.own r2, Sl.val (.int bd), Sl.val (.int dp), Sl.val ns, Sl.val (.str (S x)), Sl.val (.int pick), Sl.no, Sl.no, Sl.no, Sl.no, Sl.no, Sl.no] = .ok true [Sl.own r2, Sl.val (.int bd), Sl.val (.int dp), Sl.val ns, Sl.val (.str (S x)), Sl.val (.int pick), Sl.no, Sl.no, Sl.no, Sl.no, Sl.no, Sl.no] := s_c4t hc
    obtain ⟨w, r3, p, f3, g1, g2, h3⟩ := ih r2 (b - 1) h2 (by omega) (by omega)
    rw [← hsub] at f3
    have e5 : a5 m [Sl.own r2, Sl.val (.int bd), Sl.val (.int dp), Sl.val ns, Sl.val (.str (S x)), Sl.val (.int pick), Sl.no, Sl.no, Sl.no, Sl.no, Sl.no, Sl.no] = .ok .nx [Sl.own r3, Sl.val (.int bd), Sl.val (.int dp), Sl.val ns, Sl.val (.str (S x)), Sl.val (.int pick), Sl.val w, Sl.no, Sl.no, Sl.no, Sl.no, Sl.no] := s_a5 f3
    obtain ⟨v, r', q, ρ, f4, g3, g4, g5⟩ := un_ok HN HU (d := d) (s1 := Sl.val (.int bd)) (s2 := Sl.val (.int dp)) (s3 := Sl.val ns) (s5 := Sl.val (.int pick)) (s8 := Sl.no) (s9 := Sl.no) (s10 := Sl.no) (s11 := Sl.no) (r := Sl.no) (b := Sl.no) h3 hx g1
    refine ⟨v, r', q, ?_, g3, by omega, g5⟩
    rw [e4, ev_bo, if_pos rfl, ev_seq, e5, ev_tn, f4, ev_tr, ev_fv]
    simp -implicitDefEqProofs [ev_own]
  have hp4 : ¬ pick < 4 := fun z => hc (.inl z)
  have hb3 : ¬ bd = 2 := fun z => hc (.inr z)
  have e4 : c4 [Sl.own r2, Sl.val (.int bd), Sl.val (.int dp), Sl.val ns, Sl.val (.str (S x)), Sl.val (.int pick), Sl.no, Sl.no, Sl.no, Sl.no, Sl.no, Sl.no] = .ok false [Sl.own r2, Sl.val (.int bd), Sl.val (.int dp), Sl.val ns, Sl.val (.str (S x)), Sl.val (.int pick), Sl.no, Sl.no, Sl.no, Sl.no, Sl.no, Sl.no] := s_c4f hp4 hb3
  have key : ∃ (many : Nat) (r3 : W), (mSeq a6 (mSeq a7 (mSeq (a8 nx) (mSeq (a9 sp) (mSeq (a10 m) (tailF nx pr))))) [Sl.own r2, Sl.val (.int bd), Sl.val (.int dp), Sl.val ns, Sl.val (.str (S x)), Sl.val (.int pick), Sl.no, Sl.no, Sl.no, Sl.no, Sl.no, Sl.no]) = mSeq (a9 sp) (mSeq (a10 m) (tailF nx pr)) [Sl.own r3, Sl.val (.int bd), Sl.val (.int dp), Sl.val ns, Sl.val (.str (S x)), Sl.val (.int pick), Sl.no, Sl.no, Sl.val (.int many), Sl.no, Sl.no, Sl.no] ∧ 1 ≤ many ∧ many ≤ 5 ∧ many ≤ b - 1 ∧ (pick ≠ 19 → many = 2 ∨ many = 3 ∧ 15 < pick) ∧ IsR r3 := by
    have e6 : a6 [Sl.own r2, Sl.val (.int bd), Sl.val (.int dp), Sl.val ns, Sl.val (.str (S x)), Sl.val (.int pick), Sl.no, Sl.no, Sl.no, Sl.no, Sl.no, Sl.no] = .ok .nx [Sl.own r2, Sl.val (.int bd), Sl.val (.int dp), Sl.val ns, Sl.val (.str (S x)), Sl.val (.int pick), Sl.no, Sl.no, Sl.val (.int 2), Sl.no, Sl.no, Sl.no] := s_a6
    obtain ⟨m7, e7, k7⟩ := s_a7 (r2 := r2) (ns := ns) (x := x) (pick := pick) (bd := bd) (dp := dp)
    by_cases c3 : pick = 19
    · obtain ⟨u, r3, f3, u0, u1, h3⟩ := HN h2 (m := 5) (by omega)
      obtain ⟨n, rfl⟩ := Int.eq_ofNat_of_zero_le u0
      obtain ⟨k, hk⟩ : ∃ k : Nat, (k : Int) = if 1 + (n : Int) < bd - 1 then 1 + (n : Int) else bd - 1 := by
        by_cases c : 1 + (n : Int) < bd - 1
        · exact ⟨1 + n, by rw [if_pos c]; omega⟩
        · exact ⟨b - 1, by rw [if_neg c]; omega⟩
      have hk2 : k = 1 + n ∧ k ≤ b - 1 ∨ k = b - 1 ∧ k ≤ 1 + n := by
        by_cases c : 1 + (n : Int) < bd - 1
        · rw [if_pos c] at hk; omega
        · rw [if_neg c] at hk; omega
      have e8 : a8 nx [Sl.own r2, Sl.val (.int bd), Sl.val (.int dp), Sl.val ns, Sl.val (.str (S x)), Sl.val (.int pick), Sl.no, Sl.no, Sl.val (.int m7), Sl.no, Sl.no, Sl.no] = .ok .nx [Sl.own r3, Sl.val (.int bd), Sl.val (.int dp), Sl.val ns, Sl.val (.str (S x)), Sl.val (.int pick), Sl.no, Sl.no, Sl.val (.int k), Sl.no, Sl.no, Sl.no] := by
        rw [hk]
        exact s_a8 c3 f3
      refine ⟨k, r3, ?_, by omega, by omega, by omega, fun z => absurd c3 z, h3⟩
      rw [ev_seq, e6, ev_tn, ev_seq, e7, ev_tn, ev_seq, e8, ev_tn]
    · have e8 : a8 nx [Sl.own r2, Sl.val (.int bd), Sl.val (.int dp), Sl.val ns, Sl.val (.str (S x)), Sl.val (.int pick), Sl.no, Sl.no, Sl.val (.int m7), Sl.no, Sl.no, Sl.no] = .ok .nx [Sl.own r2, Sl.val (.int bd), Sl.val (.int dp), Sl.val ns, Sl.val (.str (S x)), Sl.val (.int pick), Sl.no, Sl.no, Sl.val (.int m7), Sl.no, Sl.no, Sl.no] := s_a8n c3
      refine ⟨m7, r2, ?_, by omega, by omega, by omega, fun _ => by omega, h2⟩
      rw [ev_seq, e6, ev_tn, ev_seq, e7, ev_tn, ev_seq, e8, ev_tn]
  obtain ⟨many, r3, e8, m1, m5, mb, m19, h3⟩ := key
  obtain ⟨sz, r4, f4, z1, z2, z3, h4⟩ := HS h3 (b - 1) many m1 mb (by omega)
  rw [← hsub] at f4
  have e9 : a9 sp [Sl.own r3, Sl.val (.int bd), Sl.val (.int dp), Sl.val ns, Sl.val (.str (S x)), Sl.val (.int pick), Sl.no, Sl.no, Sl.val (.int many), Sl.no, Sl.no, Sl.no] = .ok .nx [Sl.own r4, Sl.val (.int bd), Sl.val (.int dp), Sl.val ns, Sl.val (.str (S x)), Sl.val (.int pick), Sl.no, Sl.no, Sl.val (.int many), Sl.own (.lst (sz.map fun (n : Nat) => W.int n)), Sl.no, Sl.no] := s_a9 f4
  have hle : ∀ x ∈ sz, x ≤ b - 1 := by
    intro x hx
    have : ∀ l : List Nat, x ∈ l → x ≤ l.sum := by
      intro l
      induction l with
      | nil => exact fun h => nomatch h
      | cons y l ih =>
        intro hx
        rw [List.sum_cons]
        cases hx with
        | head => omega
        | tail _ hx => have := ih hx; omega
    have := this sz hx
    omega
  have ha : All2 (fun (w : W) (n : Nat) => w = .int n) (sz.map fun (n : Nat) => W.int n) sz := by
    have : ∀ l : List Nat, All2 (fun (w : W) (n : Nat) => w = .int n) (l.map fun (n : Nat) => W.int n) l := by
      intro l
      induction l with
      | nil => exact .nil
      | cons y l ih => exact .cons rfl ih
    exact this sz
  obtain ⟨ys, r5, e10, ps, q1, q2, q3, h5⟩ := comp_st (i := 11) (fe := elF m) (fr := fun r => [Sl.own r, Sl.val (.int bd), Sl.val (.int dp), Sl.val ns, Sl.val (.str (S x)), Sl.val (.int pick), Sl.no, Sl.no, Sl.val (.int many), Sl.val (.lst (sz.map fun (n : Nat) => W.int n)), Sl.no, Sl.no])
    (Q := fun (w : W) (n : Nat) => w = .int n) (P := fun zs acc r => ∃ ps, All2 (Wr d) acc ps ∧ (ps.map tl).sum + 200 * zs.sum ≤ 200 * (b - 1) ∧ (acc.length + zs.length = many ∧ ∀ z ∈ zs, 1 ≤ z ∧ z ≤ b - 1) ∧ IsR r) (fun w z zs acc r hw ⟨ps, q1, q2, q3, q4⟩ => by
      subst hw
      obtain ⟨v, r', p, g1, g2, g3, g4⟩ := ih r z q4 (q3.2 z (List.mem_cons_self ..)).1 (by have := (q3.2 z (List.mem_cons_self ..)).2; omega)
      refine ⟨v, r', s_el g1, ps ++ [p], ?_, by simp at q2 ⊢; omega, ⟨by simp at q3 ⊢; omega, fun y hy => q3.2 y (List.mem_cons_of_mem _ hy)⟩, g4⟩
      have app : ∀ {l : List W} {m : List (List A)}, All2 (Wr d) l m → All2 (Wr d) (l ++ [v]) (m ++ [p]) := by
        intro l m h
        induction h with
        | nil => exact .cons g2 .nil
        | cons h _ ih => exact .cons h ih
      exact app q1) (fun _ => rfl) (acc := []) (ρ := [Sl.own r4, Sl.val (.int bd), Sl.val (.int dp), Sl.val ns, Sl.val (.str (S x)), Sl.val (.int pick), Sl.no, Sl.no, Sl.val (.int many), Sl.val (.lst (sz.map fun (n : Nat) => W.int n)), Sl.no, Sl.no]) (s := r4) ha ⟨[], .nil, by simp; omega, ⟨by simp; omega, fun z hz => ⟨z2 z hz, hle z hz⟩⟩, h4⟩ (by rw [line_is]; simp; omega) rfl
  have e11 : a10 m [Sl.own r4, Sl.val (.int bd), Sl.val (.int dp), Sl.val ns, Sl.val (.str (S x)), Sl.val (.int pick), Sl.no, Sl.no, Sl.val (.int many), Sl.own (.lst (sz.map fun (n : Nat) => W.int n)), Sl.no, Sl.no] = .ok .nx [Sl.own r5, Sl.val (.int bd), Sl.val (.int dp), Sl.val ns, Sl.val (.str (S x)), Sl.val (.int pick), Sl.no, Sl.no, Sl.val (.int many), Sl.val (.lst (sz.map fun (n : Nat) => W.int n)), Sl.val (.tup ys), Sl.no] := by
    exact s_a10 e10
  have ht := tail_ok HN HP (d := d) (s1 := Sl.val (.int bd)) (s2 := Sl.val (.int dp)) (s6 := Sl.no) (s7 := Sl.no) (s9 := Sl.val (.lst (sz.map fun (n : Nat) => W.int n))) (s11 := Sl.no) h5 hn hx q1 (by simpa using q3.1) m1 m5 m19
  obtain ⟨v, r', q, ρ, t1, t2, t3, t4⟩ := ht
  refine ⟨v, r', q, ?_, t2, by simp at q2; omega, t4⟩
  rw [e4, ev_bo, if_neg Bool.false_ne_true, ev_next, ev_tn, e8, ev_seq, e9, ev_tn, ev_seq, e11, ev_tn, t1, ev_fv]
  simp -implicitDefEqProofs [ev_own]
def anF : Nat → List W → FR
  | 0 => fun _ => .stk
  | d + 1 => anG (fun__law_any_leaf fun__law_next (fun__law_number fun__law_next)) fun__law_next (fun__law_number fun__law_next) (fun__law_split fun__law_next) (fun__law_parameters fun__law_next) (anF d)
theorem any_ok : ∀ (d : Nat) {r ns : W} {b : Nat} {dp : Int}, IsR r → NmL ns → 1 ≤ b → b ≤ 34 → dp ≤ d → ∃ v r' p, anF (d + 1) [r, .int b, .int dp, ns] = .ok false v [r'] ∧ Wr (d + 1) v p ∧ tl p ≤ 200 * b ∧ IsR r'
  | 0, r, ns, b, dp, hr, hn, hb, _, hd => by
    obtain ⟨v, r', p, e, h1, h2, h3⟩ := any_leaf (m := anF 0) (nx := fun__law_next) (nu := fun__law_number fun__law_next) (sp := fun__law_split fun__law_next) (pr := fun__law_parameters fun__law_next) the_leaf (bd := (b : Int)) hr hn (.inr (by omega))
    exact ⟨v, r', p, e, h1, by omega, h3⟩
  | d + 1, r, ns, b, dp, hr, hn, hb, hb2, hd => by
    by_cases hc : (b : Int) ≤ 1 ∨ dp ≤ 0
    · obtain ⟨v, r', p, e, h1, h2, h3⟩ := any_leaf (m := anF (d + 1)) (nx := fun__law_next) (nu := fun__law_number fun__law_next) (sp := fun__law_split fun__law_next) (pr := fun__law_parameters fun__law_next) the_leaf hr hn hc
      exact ⟨v, r', p, e, h1.mono (by omega), by omega, h3⟩
    · exact any_step the_next the_num the_prm the_split hr hn (by omega) hb2 (by omega) (fun r b hr h1 h2 => any_ok d hr hn h1 h2 (by omega))
end K06

namespace K06
open PySem PySem.Spec PyProof.Rows L2 ML
def ar1 (nx : List W → FR) : Rho → ML.R Fl := mSet [0] 4 (mOp gIx (mVar 2) (mCall [0] [0] nx [mVar 0, mCB gLen [mVar 2]]))
def ar2 (lf : List W → FR) : Rho → ML.R Fl := mSet [0] 5 (mCall [0] [0] lf [mVar 0, mVar 2])
def arT (nx nu pr : List W → FR) : Rho → ML.R Fl := mSeq (mIf (mTest (mOp (gCmp (fun i j => decide (i < j))) (mVar 1) (mC (.int 3)))) (mRet [0] (mOp gAdd (mTup [0] [mC (.str "if")]) (mCB gTupC [mLc [0] (mRange1 [mC (.int 3)]) (.nm 8) (mYes) (mOp gIx (mLst [0] [mVar 5, mVar 3]) (mCB gInt [mOp gEq (mVar 8) (mVar 1)]))]))) (mNext)) (mSeq (mIf (mTest (mOp (gCmp (fun i j => decide (i < j))) (mVar 1) (mC (.int 5)))) (mRet [0] (mOp gIx (mLst [0] [mTup [0] [mC (.str "while"), mVar 3, mVar 5], mTup [0] [mC (.str "while"), mVar 5, mVar 3]]) (mOp gSub (mVar 1) (mC (.int 3))))) (mNext)) (mSeq (mIf (mTest (mOp (gCmp (fun i j => decide (i < j))) (mVar 1) (mC (.int 7)))) (mRet [0] (mOp gIx (mLst [0] [mTup [0] [mC (.str "then"), mVar 3, mVar 5], mTup [0] [mC (.str "then"), mVar 5, mVar 3]]) (mOp gSub (mVar 1) (mC (.int 5))))) (mNext)) (mSeq (mIf (mTest (mOp (gCmp (fun i j => decide (i < j))) (mVar 1) (mC (.int 9)))) (mRet [0] (mOp gIx (mLst [0] [mTup [0] [mC (.str "set"), mVar 4, mVar 3], mTup [0] [mC (.str "new"), mVar 4, mCall [0] [0] nu [mVar 0], mVar 3]]) (mOp gSub (mVar 1) (mC (.int 7))))) (mNext)) (mSeq (mIf (mTest (mOp (gCmp (fun i j => decide (i < j))) (mVar 1) (mC (.int 11)))) (mSeq (mSet [0] 6 (mOp gIx (mLst [0] [mC (.str "plus"), mC (.str "equal"), mC (.str "less")]) (mCall [0] [0] nx [mVar 0, mC (.int 3)]))) (mRet [0] (mOp gIx (mLst [0] [mTup [0] [mVar 6, mVar 3, mVar 5], mTup [0] [mVar 6, mVar 5, mVar 3]]) (mOp gSub (mVar 1) (mC (.int 9)))))) (mNext)) (mSeq (mIf (mTest (mOp gEq (mVar 1) (mC (.int 11)))) (mRet [0] (mTup [0] [mC (.str "call"), mVar 4, mOp gIx (mLst [0] [mTup [0] [mVar 3], mTup [0] [mVar 5, mVar 3], mTup [0] [mVar 3, mVar 5, mVar 5]]) (mCall [0] [0] nx [mVar 0, mC (.int 3)])])) (mNext)) (mSeq (mSet [0] 7 (mCall [0] [0] pr [mVar 0, mVar 2, mCall [0] [0] nx [mVar 0, mC (.int 3)]])) (mRet [0] (mOp gAdd (mTup [0] [mC (.str "let"), mVar 4, mVar 7]) (mOp gIx (mLst [0] [mTup [0] [mVar 3, mVar 5], mTup [0] [mVar 5, mVar 3]]) (mCall [0] [0] nx [mVar 0, mC (.int 2)]))))))))))
def arG (nx lf nu pr : List W → FR) : List W → FR := fun__law_around nx lf nu pr
theorem ar_is (nx lf nu pr : List W → FR) : arG nx lf nu pr = mFun [0] 9 (mSeq (ar1 nx) (mSeq (ar2 lf) (arT nx nu pr))) := rfl
section
variable {nx lf nu pr : List W → FR} {r r1 r2 ns blk leaf : W} {x : A} {form : Int}
theorem s_ar1 {l : List A} {v1 : Int} (f1 : nx [r, .int (l.length : Int)] = .ok false (.int v1) [r1]) (ex : atI (l.map fun x => W.str (S x)) v1 = some (.str (S x))) (hl1 : ns = .lst (l.map fun x => .str (S x))) : ar1 nx [Sl.own r, Sl.val (.int form), Sl.val ns, Sl.val blk, Sl.no, Sl.no, Sl.no, Sl.no, Sl.no] = .ok .nx [Sl.own r1, Sl.val (.int form), Sl.val ns, Sl.val blk, Sl.val (.str (S x)), Sl.no, Sl.no, Sl.no, Sl.no] := by
  unfold ar1
  subst hl1
  simp -implicitDefEqProofs [ev_var, ev_own, f1, ex]
theorem s_ar2 (f2 : lf [r1, ns] = .ok false leaf [r2]) : ar2 lf [Sl.own r1, Sl.val (.int form), Sl.val ns, Sl.val blk, Sl.val (.str (S x)), Sl.no, Sl.no, Sl.no, Sl.no] = .ok .nx [Sl.own r2, Sl.val (.int form), Sl.val ns, Sl.val blk, Sl.val (.str (S x)), Sl.val leaf, Sl.no, Sl.no, Sl.no] := by
  unfold ar2
  simp -implicitDefEqProofs [ev_var, ev_own, f2]
theorem t_if0  : arT nx nu pr [Sl.own r, Sl.val (.int 0), Sl.val ns, Sl.val blk, Sl.val (.str (S x)), Sl.val leaf, Sl.no, Sl.no, Sl.no] = .ok (.rt .val (.tup [.str (S [105, 102]), blk, leaf, leaf])) [Sl.own r, Sl.val (.int 0), Sl.val ns, Sl.val blk, Sl.val (.str (S x)), Sl.val leaf, Sl.no, Sl.no, Sl.no] := by
  unfold arT
  simp -implicitDefEqProofs [ev_var, ev_own, l1, l2, l3, l4, ev_lc, CT.ix, compL, wipeR, CT.put, intsW, okR, List.range_succ, line_is]
theorem t_if1  : arT nx nu pr [Sl.own r, Sl.val (.int 1), Sl.val ns, Sl.val blk, Sl.val (.str (S x)), Sl.val leaf, Sl.no, Sl.no, Sl.no] = .ok (.rt .val (.tup [.str (S [105, 102]), leaf, blk, leaf])) [Sl.own r, Sl.val (.int 1), Sl.val ns, Sl.val blk, Sl.val (.str (S x)), Sl.val leaf, Sl.no, Sl.no, Sl.no] := by
  unfold arT
  simp -implicitDefEqProofs [ev_var, ev_own, l1, l2, l3, l4, ev_lc, CT.ix, compL, wipeR, CT.put, intsW, okR, List.range_succ, line_is]
theorem t_if2  : arT nx nu pr [Sl.own r, Sl.val (.int 2), Sl.val ns, Sl.val blk, Sl.val (.str (S x)), Sl.val leaf, Sl.no, Sl.no, Sl.no] = .ok (.rt .val (.tup [.str (S [105, 102]), leaf, leaf, blk])) [Sl.own r, Sl.val (.int 2), Sl.val ns, Sl.val blk, Sl.val (.str (S x)), Sl.val leaf, Sl.no, Sl.no, Sl.no] := by
  unfold arT
  simp -implicitDefEqProofs [ev_var, ev_own, l1, l2, l3, l4, ev_lc, CT.ix, compL, wipeR, CT.put, intsW, okR, List.range_succ, line_is]
theorem t_w3  : arT nx nu pr [Sl.own r, Sl.val (.int 3), Sl.val ns, Sl.val blk, Sl.val (.str (S x)), Sl.val leaf, Sl.no, Sl.no, Sl.no] = .ok (.rt .val (.tup [.str (S [119, 104, 105, 108, 101]), blk, leaf])) [Sl.own r, Sl.val (.int 3), Sl.val ns, Sl.val blk, Sl.val (.str (S x)), Sl.val leaf, Sl.no, Sl.no, Sl.no] := by
  unfold arT
  simp -implicitDefEqProofs [ev_var, ev_own, l1, l2, l3]
theorem t_w4  : arT nx nu pr [Sl.own r, Sl.val (.int 4), Sl.val ns, Sl.val blk, Sl.val (.str (S x)), Sl.val leaf, Sl.no, Sl.no, Sl.no] = .ok (.rt .val (.tup [.str (S [119, 104, 105, 108, 101]), leaf, blk])) [Sl.own r, Sl.val (.int 4), Sl.val ns, Sl.val blk, Sl.val (.str (S x)), Sl.val leaf, Sl.no, Sl.no, Sl.no] := by
  unfold arT
  simp -implicitDefEqProofs [ev_var, ev_own, l1, l2, l3]
theorem t_t5  : arT nx nu pr [Sl.own r, Sl.val (.int 5), Sl.val ns, Sl.val blk, Sl.val (.str (S x)), Sl.val leaf, Sl.no, Sl.no, Sl.no] = .ok (.rt .val (.tup [.str (S [116, 104, 101, 110]), blk, leaf])) [Sl.own r, Sl.val (.int 5), Sl.val ns, Sl.val blk, Sl.val (.str (S x)), Sl.val leaf, Sl.no, Sl.no, Sl.no] := by
  unfold arT
  simp -implicitDefEqProofs [ev_var, ev_own, l1, l2, l3]
theorem t_t6  : arT nx nu pr [Sl.own r, Sl.val (.int 6), Sl.val ns, Sl.val blk, Sl.val (.str (S x)), Sl.val leaf, Sl.no, Sl.no, Sl.no] = .ok (.rt .val (.tup [.str (S [116, 104, 101, 110]), leaf, blk])) [Sl.own r, Sl.val (.int 6), Sl.val ns, Sl.val blk, Sl.val (.str (S x)), Sl.val leaf, Sl.no, Sl.no, Sl.no] := by
  unfold arT
  simp -implicitDefEqProofs [ev_var, ev_own, l1, l2, l3]
theorem t_s7 {k : Int} (e : nu [r] = .ok false (.int k) [r1]) : arT nx nu pr [Sl.own r, Sl.val (.int 7), Sl.val ns, Sl.val blk, Sl.val (.str (S x)), Sl.val leaf, Sl.no, Sl.no, Sl.no] = .ok (.rt .val (.tup [.str (S [115, 101, 116]), .str (S x), blk])) [Sl.own r1, Sl.val (.int 7), Sl.val ns, Sl.val blk, Sl.val (.str (S x)), Sl.val leaf, Sl.no, Sl.no, Sl.no] := by
  unfold arT
  simp -implicitDefEqProofs [ev_var, ev_own, l1, l2, l3, l4, e]
theorem t_n8 {k : Int} (e : nu [r] = .ok false (.int k) [r1]) : arT nx nu pr [Sl.own r, Sl.val (.int 8), Sl.val ns, Sl.val blk, Sl.val (.str (S x)), Sl.val leaf, Sl.no, Sl.no, Sl.no] = .ok (.rt .val (.tup [.str (S [110, 101, 119]), .str (S x), .int k, blk])) [Sl.own r1, Sl.val (.int 8), Sl.val ns, Sl.val blk, Sl.val (.str (S x)), Sl.val leaf, Sl.no, Sl.no, Sl.no] := by
  unfold arT
  simp -implicitDefEqProofs [ev_var, ev_own, l1, l2, l3, l4, e]
theorem t_o9 {u : Int} {t : A} (e : nx [r, .int 3] = .ok false (.int u) [r1]) (hu : atI [W.str (S [112, 108, 117, 115]), W.str (S [101, 113, 117, 97, 108]), W.str (S [108, 101, 115, 115])] u = some (.str (S t))) : arT nx nu pr [Sl.own r, Sl.val (.int 9), Sl.val ns, Sl.val blk, Sl.val (.str (S x)), Sl.val leaf, Sl.no, Sl.no, Sl.no] = .ok (.rt .val (.tup [.str (S t), blk, leaf])) [Sl.own r1, Sl.val (.int 9), Sl.val ns, Sl.val blk, Sl.val (.str (S x)), Sl.val leaf, Sl.val (.str (S t)), Sl.no, Sl.no] := by
  unfold arT
  simp -implicitDefEqProofs [ev_var, ev_own, l1, l2, l3, l4, e, hu]
theorem t_o10 {u : Int} {t : A} (e : nx [r, .int 3] = .ok false (.int u) [r1]) (hu : atI [W.str (S [112, 108, 117, 115]), W.str (S [101, 113, 117, 97, 108]), W.str (S [108, 101, 115, 115])] u = some (.str (S t))) : arT nx nu pr [Sl.own r, Sl.val (.int 10), Sl.val ns, Sl.val blk, Sl.val (.str (S x)), Sl.val leaf, Sl.no, Sl.no, Sl.no] = .ok (.rt .val (.tup [.str (S t), leaf, blk])) [Sl.own r1, Sl.val (.int 10), Sl.val ns, Sl.val blk, Sl.val (.str (S x)), Sl.val leaf, Sl.val (.str (S t)), Sl.no, Sl.no] := by
  unfold arT
  simp -implicitDefEqProofs [ev_var, ev_own, l1, l2, l3, l4, e, hu]
theorem t_c11 {u : Int} {t : W} (e : nx [r, .int 3] = .ok false (.int u) [r1]) (hu : atI [W.tup [blk], W.tup [leaf, blk], W.tup [blk, leaf, leaf]] u = some t) : arT nx nu pr [Sl.own r, Sl.val (.int 11), Sl.val ns, Sl.val blk, Sl.val (.str (S x)), Sl.val leaf, Sl.no, Sl.no, Sl.no] = .ok (.rt .val (.tup [.str (S [99, 97, 108, 108]), .str (S x), t])) [Sl.own r1, Sl.val (.int 11), Sl.val ns, Sl.val blk, Sl.val (.str (S x)), Sl.val leaf, Sl.no, Sl.no, Sl.no] := by
  unfold arT
  simp -implicitDefEqProofs [ev_var, ev_own, l1, l2, l3, l4, e, hu]
theorem t_l12 {u v : Int} {ms y z : W} {r3 : W} {L : List W} (e : nx [r, .int 3] = .ok false (.int u) [r1]) (e2 : pr [r1, ns, .int u] = .ok false ms [r2]) (e3 : nx [r2, .int 2] = .ok false (.int v) [r3]) (hv : atI [W.tup [blk, leaf], W.tup [leaf, blk]] v = some (.tup [y, z])) :
    arT nx nu pr [Sl.own r, Sl.val (.int 12), Sl.val ns, Sl.val blk, Sl.val (.str (S x)), Sl.val leaf, Sl.no, Sl.no, Sl.no] = .ok (.rt .val (.tup [.str (S [108, 101, 116]), .str (S x), ms, y, z])) [Sl.own r3, Sl.val (.int 12), Sl.val ns, Sl.val blk, Sl.val (.str (S x)), Sl.val leaf, Sl.no, Sl.val ms, Sl.no] := by
  unfold arT
  simp -implicitDefEqProofs [ev_var, ev_own, l1, l2, l3, l4, line_is, e, e2, e3, hv]
end
theorem around_ok {nx lf nu pr : List W → FR} (HN : NextOk nx) (HL : LeafOk lf) (HU : NumOk nu) (HP : PrmOk pr) {r ns blk : W} {p : List A} {d : Nat} {form : Int} (hr : IsR r) (hn : NmL ns) (f0 : 0 ≤ form) (f1 : form < 13) (hb : Wr (d + 1) blk p) :
    ∃ v r' q, arG nx lf nu pr [r, .int form, ns, blk] = .ok false v [r'] ∧ Wr (d + 2) v q ∧ tl q ≤ tl p + 200 ∧ IsR r' := by
  have hns := hn
  obtain ⟨l, hl1, hl2, hl3⟩ := hns
  have hpos : 0 < l.length := List.length_pos_iff.mpr hl2
  obtain ⟨v1, r1, g1, v10, v11, h1⟩ := HN hr (m := (l.length : Int)) (by omega)
  obtain ⟨x, hxl, ex⟩ := nm_get v10 v11
  have hx := hl3 x hxl
  have hxl := hx.len
  obtain ⟨leaf, r2, pl, g2, hw, hlt, h2⟩ := HL h1 hn
  have hw2 : Wr (d + 1) leaf pl := hw.mono (by omega)
  have e1 := s_ar1 (blk := blk) (form := form) g1 ex hl1
  have e2 := s_ar2 (blk := blk) (form := form) (x := x) g2
  have gb := tl_grp blk p
  have gl := tl_grp leaf pl
  have key : ∃ v r' q ρ, arT nx nu pr [Sl.own r2, Sl.val (.int form), Sl.val ns, Sl.val blk, Sl.val (.str (S x)), Sl.val leaf, Sl.no, Sl.no, Sl.no] = .ok (.rt .val v) (Sl.own r' :: ρ) ∧ Wr (d + 2) v q ∧ tl q ≤ tl p + 200 ∧ IsR r' := by
    have hf : form = 0 ∨ form = 1 ∨ form = 2 ∨ form = 3 ∨ form = 4 ∨ form = 5 ∨ form = 6 ∨ form = 7 ∨ form = 8 ∨ form = 9 ∨ form = 10 ∨ form = 11 ∨ form = 12 := by omega
    rcases hf with rfl | rfl | rfl | rfl | rfl | rfl | rfl | rfl | rfl | rfl | rfl | rfl | rfl
    · exact ⟨_, r2, _, _, t_if0, .iff blk leaf leaf p pl pl hb hw2 hw2, by simp; omega, h2⟩
    · exact ⟨_, r2, _, _, t_if1, .iff leaf blk leaf pl p pl hw2 hb hw2, by simp; omega, h2⟩
    · exact ⟨_, r2, _, _, t_if2, .iff leaf leaf blk pl pl p hw2 hw2 hb, by simp; omega, h2⟩
    · exact ⟨_, r2, _, _, t_w3, .loop blk leaf p pl hb hw2, by simp; omega, h2⟩
    · exact ⟨_, r2, _, _, t_w4, .loop leaf blk pl p hw2 hb, by simp; omega, h2⟩
    · exact ⟨_, r2, _, _, t_t5, .seq blk leaf p pl hb hw2, by simp; omega, h2⟩
    · exact ⟨_, r2, _, _, t_t6, .seq leaf blk pl p hw2 hb, by simp; omega, h2⟩
    · obtain ⟨n, r3, g3, n1, h3⟩ := HU h2
      exact ⟨_, r3, _, _, t_s7 g3, .set x blk p hx hb, by simp; omega, h3⟩
    · obtain ⟨n, r3, g3, n1, h3⟩ := HU h2
      have := num_le n n1
      exact ⟨_, r3, _, _, t_n8 g3, .new x n blk p hx n1 hb, by simp; omega, h3⟩
    · obtain ⟨u, r3, g3, u0, u1, h3⟩ := HN h2 (m := 3) (by omega)
      have hu : u = 0 ∨ u = 1 ∨ u = 2 := by omega
      rcases hu with rfl | rfl | rfl
      · exact ⟨_, r3, _, _, t_o9 g3 (t := sgw 0) rfl, .op 0 blk leaf p pl (by omega) hb hw2, by simp [sgn]; omega, h3⟩
      · exact ⟨_, r3, _, _, t_o9 g3 (t := sgw 1) rfl, .op 1 blk leaf p pl (by omega) hb hw2, by simp [sgn]; omega, h3⟩
      · exact ⟨_, r3, _, _, t_o9 g3 (t := sgw 2) rfl, .op 2 blk leaf p pl (by omega) hb hw2, by simp [sgn]; omega, h3⟩
    · obtain ⟨u, r3, g3, u0, u1, h3⟩ := HN h2 (m := 3) (by omega)
      have hu : u = 0 ∨ u = 1 ∨ u = 2 := by omega
      rcases hu with rfl | rfl | rfl
      · exact ⟨_, r3, _, _, t_o10 g3 (t := sgw 0) rfl, .op 0 leaf blk pl p (by omega) hw2 hb, by simp [sgn]; omega, h3⟩
      · exact ⟨_, r3, _, _, t_o10 g3 (t := sgw 1) rfl, .op 1 leaf blk pl p (by omega) hw2 hb, by simp [sgn]; omega, h3⟩
      · exact ⟨_, r3, _, _, t_o10 g3 (t := sgw 2) rfl, .op 2 leaf blk pl p (by omega) hw2 hb, by simp [sgn]; omega, h3⟩
    · obtain ⟨u, r3, g3, u0, u1, h3⟩ := HN h2 (m := 3) (by omega)
      have hu : u = 0 ∨ u = 1 ∨ u = 2 := by omega
      rcases hu with rfl | rfl | rfl
      · exact ⟨_, r3, _, _, t_c11 g3 rfl, .call x [blk] [p] hx (by simp) (.cons hb .nil), by simp [commas]; omega, h3⟩
      · exact ⟨_, r3, _, _, t_c11 g3 rfl, .call x [leaf, blk] [pl, p] hx (by simp) (.cons hw2 (.cons hb .nil)), by simp [commas]; omega, h3⟩
      · exact ⟨_, r3, _, _, t_c11 g3 rfl, .call x [blk, leaf, leaf] [p, pl, pl] hx (by simp) (.cons hb (.cons hw2 (.cons hw2 .nil))), by simp [commas]; omega, h3⟩
    · obtain ⟨u, r3, g3, u0, u1, h3⟩ := HN h2 (m := 3) (by omega)
      obtain ⟨k, rfl⟩ := Int.eq_ofNat_of_zero_le u0
      obtain ⟨ms, r4, g4, hms, hm2, h4⟩ := HP h3 hn k (by omega)
      have hpl := prm_len (fun y hy => (hm2 y hy).len)
      obtain ⟨v, r5, g5, w0, w1, h5⟩ := HN h4 (m := 2) (by omega)
      have hv : v = 0 ∨ v = 1 := by omega
      rcases hv with rfl | rfl
      · exact ⟨_, r5, _, _, t_l12 (L := []) g3 g4 g5 rfl, .lett x ms blk leaf p pl hx (by omega) hm2 hb hw2, by simp; omega, h5⟩
      · exact ⟨_, r5, _, _, t_l12 (L := []) g3 g4 g5 rfl, .lett x ms leaf blk pl p hx (by omega) hm2 hw2 hb, by simp; omega, h5⟩
  obtain ⟨v, r', q, ρ, k1, k2, k3, k4⟩ := key
  refine ⟨v, r', q, ?_, k2, k3, k4⟩
  have e0 : rho0 [0] [r, .int form, ns, blk] 9 = [Sl.own r, Sl.val (.int form), Sl.val ns, Sl.val blk, Sl.no, Sl.no, Sl.no, Sl.no, Sl.no] := rfl
  rw [ar_is, ev_fun, e0, ev_seq, e1, ev_tn, ev_seq, e2, ev_tn, k1, ev_fv]
  simp -implicitDefEqProofs [ev_own]
end K06

namespace K06
open PySem PySem.Spec PyProof.Rows L2 ML
/-! ### layers -/
theorem lay_ok {an nx ar : List W → FR} (HN : NextOk nx) {ns : W} (hn : NmL ns) (HA : ∀ {r : W} {b : Nat}, IsR r → 1 ≤ b → b ≤ 34 → ∃ v r' p, an [r, .int b, .int 12, ns] = .ok false v [r'] ∧ Wr 13 v p ∧ tl p ≤ 200 * b ∧ IsR r')
    (HR : ∀ {r blk : W} {p : List A} {d : Nat} {form : Int}, IsR r → 0 ≤ form → form < 13 → Wr (d + 1) blk p → ∃ v r' q, ar [r, .int form, ns, blk] = .ok false v [r'] ∧ Wr (d + 2) v q ∧ tl q ≤ tl p + 200 ∧ IsR r')
    {r : W} {b many : Nat} (hr : IsR r) (b1 : 1 ≤ b) (b2 : b ≤ 34) (hm : many ≤ 12) : ∃ v r' p, fun__law_layered an nx ar [r, .int b, .int many, ns] = .ok false v [r'] ∧ Wr 25 v p ∧ tl p ≤ 20000 ∧ IsR r' := by
  obtain ⟨v0, r1, p0, f1, w1, t1, h1⟩ := HA hr b1 b2
  obtain ⟨form, r2, f2, u0, u1, h2⟩ := HN h1 (m := 26) (by omega)
  have e0 : gSet [0] 6 = fun w ρ => some (ρ.set 6 (.val w)) := gset_is (by simp)
  have hok : okR (many : Int) = true := by
    unfold okR
    simp
    omega
  obtain ⟨ρ1, e1, r3, blk, p, s6, s7, rfl, h3, w3, t3⟩ := for_inv (i := 6) (g := mSeq (mSet [0] 7 (mVar 5)) (mSeq (mIf (mTest (mOp (gCmp (fun i j => decide (j < i))) (mVar 5) (mC (.int 12)))) (mSet [0] 7 (mCall [0] [0] nx [mVar 0, mC (.int 13)])) (mNext)) (mSet [0] 4 (mCall [0] [0] ar [mVar 0, mVar 7, mVar 3, mVar 4]))))
    (ρ := [Sl.own r2, Sl.val (.int b), Sl.val (.int many), Sl.val ns, Sl.val v0, Sl.val (.int form), Sl.no, Sl.no])
    (P := fun zs ρ => ∃ r blk p s6 s7, ρ = [Sl.own r, Sl.val (.int b), Sl.val (.int many), Sl.val ns, Sl.val blk, Sl.val (.int form), s6, s7] ∧ IsR r ∧ (∃ d, Wr (d + 1) blk p ∧ d + zs.length ≤ 24) ∧ tl p + 200 * zs.length ≤ 20000) (.inr trivial) (all2_ints many) (fun a z zs' ρ q ⟨r, blk, p, s6, s7, er, hr, ⟨d, hw, hd⟩, ht⟩ => by
      subst er
      have key : ∃ (one : Int) (r4 : W), 0 ≤ one ∧ one < 13 ∧ IsR r4 ∧ mSeq (mSet [0] 7 (mVar 5)) (mSeq (mIf (mTest (mOp (gCmp (fun i j => decide (j < i))) (mVar 5) (mC (.int 12)))) (mSet [0] 7 (mCall [0] [0] nx [mVar 0, mC (.int 13)])) (mNext)) (mSet [0] 4 (mCall [0] [0] ar [mVar 0, mVar 7, mVar 3, mVar 4]))) [Sl.own r, Sl.val (.int b), Sl.val (.int many), Sl.val ns, Sl.val blk, Sl.val (.int form), Sl.val a, s7] = mSet [0] 4 (mCall [0] [0] ar [mVar 0, mVar 7, mVar 3, mVar 4]) [Sl.own r4, Sl.val (.int b), Sl.val (.int many), Sl.val ns, Sl.val blk, Sl.val (.int form), Sl.val a, Sl.val (.int one)] := by
        have s1 : mSet [0] 7 (mVar 5) [Sl.own r, Sl.val (.int b), Sl.val (.int many), Sl.val ns, Sl.val blk, Sl.val (.int form), Sl.val a, s7] = .ok .nx [Sl.own r, Sl.val (.int b), Sl.val (.int many), Sl.val ns, Sl.val blk, Sl.val (.int form), Sl.val a, Sl.val (.int form)] := by simp -implicitDefEqProofs [ev_var, ev_own]
        by_cases c : 12 < form
        · obtain ⟨one, r4, g1, g2, g3, g4⟩ := HN hr (m := 13) (by omega)
          have s2 : mIf (mTest (mOp (gCmp (fun i j => decide (j < i))) (mVar 5) (mC (.int 12)))) (mSet [0] 7 (mCall [0] [0] nx [mVar 0, mC (.int 13)])) (mNext) [Sl.own r, Sl.val (.int b), Sl.val (.int many), Sl.val ns, Sl.val blk, Sl.val (.int form), Sl.val a, Sl.val (.int form)] = .ok .nx [Sl.own r4, Sl.val (.int b), Sl.val (.int many), Sl.val ns, Sl.val blk, Sl.val (.int form), Sl.val a, Sl.val (.int one)] := by simp -implicitDefEqProofs [ev_var, ev_own, c, g1]
          exact ⟨one, r4, g2, g3, g4, by rw [ev_seq, s1, ev_tn, ev_seq, s2, ev_tn]⟩
        · have s2 : mIf (mTest (mOp (gCmp (fun i j => decide (j < i))) (mVar 5) (mC (.int 12)))) (mSet [0] 7 (mCall [0] [0] nx [mVar 0, mC (.int 13)])) (mNext) [Sl.own r, Sl.val (.int b), Sl.val (.int many), Sl.val ns, Sl.val blk, Sl.val (.int form), Sl.val a, Sl.val (.int form)] = .ok .nx [Sl.own r, Sl.val (.int b), Sl.val (.int many), Sl.val ns, Sl.val blk, Sl.val (.int form), Sl.val a, Sl.val (.int form)] := by simp -implicitDefEqProofs [ev_var, ev_own, c]
          exact ⟨form, r, u0, by omega, hr, by rw [ev_seq, s1, ev_tn, ev_seq, s2, ev_tn]⟩
      obtain ⟨one, r4, o0, o1, h4, e4⟩ := key
      obtain ⟨v, r5, q, g1, g2, g3, g4⟩ := HR h4 o0 o1 hw
      refine ⟨[Sl.own r5, Sl.val (.int b), Sl.val (.int many), Sl.val ns, Sl.val v, Sl.val (.int form), Sl.val a, Sl.val (.int one)], ?_, r5, v, q, _, _, rfl, g4, ⟨d + 1, g2, by simp at hd; omega⟩, by simp at ht; omega⟩
      refine Eq.trans e4 ?_
      simp -implicitDefEqProofs [ev_var, ev_own, g1]) ⟨r2, v0, p0, Sl.no, Sl.no, rfl, h2, ⟨12, w1, by simp; omega⟩, by simp; omega⟩
  obtain ⟨d, w3, hd⟩ := w3
  refine ⟨blk, r3, p, ?_, w3.mono (by simp at hd; omega), by simp at t3; omega, h3⟩
  try simp at e1
  unfold fun__law_layered body__law_layered
  simp -implicitDefEqProofs [ev_var, ev_own, f1, f2, e0, hok, e1]
/-! ### the script's cells -/
theorem all2_w (ns : List Int) : All2 (fun (w : W) (n : Int) => w = .int n) (ns.map W.int) ns := by
  induction ns with
  | nil => exact .nil
  | cons y l ih => exact .cons rfl ih
theorem cell_ok (ns : List Int) (k : Nat) : ∃ v, fun__law_cell [.frl (ns.map W.int), .int k] = .ok false (.int v) [] := by
  by_cases hk : k < ns.length
  · have e : atI (ns.map W.int) (k : Int) = some (.int ns[k]) := by
      rw [ML.atI_nat, List.getElem?_map, List.getElem?_eq_getElem hk]
      rfl
    refine ⟨ns[k], ?_⟩
    unfold fun__law_cell body__law_cell
    simp -implicitDefEqProofs [ev_var, hk, e]
  · have e0 : gSet [] 3 = fun w ρ => some (ρ.set 3 (.val w)) := gset_is (by simp)
    obtain ⟨ρ1, e1, sd, s, rfl, b0, b1⟩ := for_inv (i := 3) (g := mSet [] 2 (mOp gMod (mCB gInt [mOp gAdd (mOp gMul (mVar 2) (mC (.int 31))) (mOp gMod (mCB gInt [mVar 3]) (mC (.int 1000003)))]) (mC (.int 1000003))))
      (ρ := [Sl.val (.frl (ns.map W.int)), Sl.val (.int k), Sl.val (.int 17), Sl.no])
      (P := fun zs ρ => ∃ (sd : Int) (s : Sl), ρ = [Sl.val (.frl (ns.map W.int)), Sl.val (.int k), Sl.val (.int sd), s] ∧ 0 ≤ sd ∧ sd < 1000003) (.inr trivial) (all2_w ns) (fun a z zs' ρ q ⟨sd, s, er, b0, b1⟩ => by
        subst er q
        have hm : okMul sd 31 = true := by simp [okMul]
        exact ⟨[Sl.val (.frl (ns.map W.int)), Sl.val (.int k), Sl.val (.int ((sd * 31 + z % 1000003) % 1000003)), Sl.val (.int z)], by simp -implicitDefEqProofs [ev_var, ev_own, ev_mod, hm], _, _, rfl, Int.emod_nonneg _ (by omega), Int.emod_lt_of_pos _ (by omega)⟩) ⟨17, Sl.no, rfl, by omega, by omega⟩
    have hm : ∀ a, okMul a 69621 = true := fun a => by simp [okMul]
    have hb : okMul (sd + 7) ((k : Int) + 3) = true := by
      have h1 : (-(2 ^ 64 : Int)) < sd + 7 := by omega
      have h2 : sd + 7 < (2 ^ 64 : Int) := by omega
      unfold okMul
      rw [decide_eq_true h1, decide_eq_true h2]
      rfl
    refine ⟨(sd + 7) * ((k : Int) + 3) * 69621 % 2147483647, ?_⟩
    unfold fun__law_cell body__law_cell
    simp -implicitDefEqProofs [ev_var, hk, e0, e1, ev_mod, hm, hb]
end K06

namespace K06
open PySem PySem.Spec PyProof.Rows L2 ML
theorem pow18 : gPow (.int 10) (.int 18) = some (.val, .int (10 ^ 18)) := rfl
def bdD : Rho → ML.R Fl := mSeq (mSet [] 5 (mOp gMod (mCB gInt [mOp gAdd (mOp gAdd (mOp gMul (mVar 5) (mC (.int 48271))) (mOp gMul (mC (.int 974711)) (mVar 6))) (mC (.int 12345))]) (mC (.int 2147483647)))) (mSeq (mSet [] 7 (mOp gMod (mCB gInt [mOp gMul (mVar 5) (mOp gAdd (mOp gFdiv (mVar 5) (mC (.int 65537))) (mC (.int 3)))]) (mC (.int 2147483629)))) (mIf (mAnd (mTest (mVar 4)) (mTest (mOp (gCmp (fun i j => decide (j < i))) (mVar 3) (mC (.int 0))))) (mSeq (mDrop (mAppend 2 [] (mOp gMod (mCB gInt [mVar 3]) (mOp gIx (mVar 1) (mVar 6))))) (mSet [] 3 (mOp gFdiv (mCB gInt [mVar 3]) (mOp gIx (mVar 1) (mVar 6))))) (mDrop (mAppend 2 [] (mOp gMod (mCB gInt [mOp gFdiv (mVar 7) (mC (.int 19))]) (mOp gIx (mVar 1) (mVar 6)))))))
def frD (c : Int) (szs row : List W) (rest : Int) (g : Bool) (sd : Int) (s6 s7 : Sl) : Rho := [Sl.val (.int c), Sl.val (.lst szs), Sl.own (.lst row), Sl.val (.int rest), Sl.val (.bl g), Sl.val (.int sd), s6, s7]
theorem bd_ok {c rest sd z k : Int} {szs row : List W} {g : Bool} {s7 : Sl} (hz : atI szs k = some (.int z)) (z0 : 0 < z) (z1 : z < 1073741824) (hl : row.length ≤ 2000) : ∃ d rest' sd' s7', bdD (frD c szs row rest g sd (Sl.val (.int k)) s7) = .ok .nx (frD c szs (row ++ [.int d]) rest' g sd' (Sl.val (.int k)) s7') ∧ 0 ≤ d ∧ d < z := by
  have hsz : row.length < sizeLine := by rw [line_is]; omega
  have m1 : okMul sd 48271 = true := by simp [okMul]
  have m2 : okMul 974711 k = true := by simp [okMul]
  obtain ⟨sd', hsd⟩ : ∃ sd' : Int, sd' = (sd * 48271 + 974711 * k + 12345) % 2147483647 := ⟨_, rfl⟩
  have b0 : 0 ≤ sd' := by rw [hsd]; exact Int.emod_nonneg _ (by omega)
  have b1 : sd' < 2147483647 := by rw [hsd]; exact Int.emod_lt_of_pos _ (by omega)
  have m3 : okMul sd' (sd' / 65537 + 3) = true := by
    have h1 : (-(2 ^ 64 : Int)) < sd' := by omega
    have h2 : sd' < (2 ^ 64 : Int) := by omega
    unfold okMul
    rw [decide_eq_true h1, decide_eq_true h2]
    rfl
  obtain ⟨tw, htw⟩ : ∃ tw : Int, tw = sd' * (sd' / 65537 + 3) % 2147483629 := ⟨_, rfl⟩
  have s1 : mSet [] 5 (mOp gMod (mCB gInt [mOp gAdd (mOp gAdd (mOp gMul (mVar 5) (mC (.int 48271))) (mOp gMul (mC (.int 974711)) (mVar 6))) (mC (.int 12345))]) (mC (.int 2147483647))) (frD c szs row rest g sd (Sl.val (.int k)) s7) = .ok .nx (frD c szs row rest g sd' (Sl.val (.int k)) s7) := by
    unfold frD
    rw [hsd]
    simp -implicitDefEqProofs [ev_var, ev_own, ev_mod, m1, m2]
  have s2 : mSet [] 7 (mOp gMod (mCB gInt [mOp gMul (mVar 5) (mOp gAdd (mOp gFdiv (mVar 5) (mC (.int 65537))) (mC (.int 3)))]) (mC (.int 2147483629))) (frD c szs row rest g sd' (Sl.val (.int k)) s7) = .ok .nx (frD c szs row rest g sd' (Sl.val (.int k)) (Sl.val (.int tw))) := by
    unfold frD
    rw [htw]
    simp -implicitDefEqProofs [ev_var, ev_own, ev_mod, ev_div, m3]
  unfold bdD
  rw [ev_seq, s1, ev_tn, ev_seq, s2, ev_tn]
  by_cases hg : g = true ∧ 0 < rest
  · obtain ⟨rfl, h0⟩ := hg
    refine ⟨rest % z, rest / z, sd', Sl.val (.int tw), ?_, Int.emod_nonneg _ (by omega), Int.emod_lt_of_pos _ z0⟩
    unfold frD
    simp -implicitDefEqProofs [ev_var, ev_own, ev_mod, ev_div, hz, z0, z1, h0, hsz]
  · refine ⟨tw / 19 % z, rest, sd', Sl.val (.int tw), ?_, Int.emod_nonneg _ (by omega), Int.emod_lt_of_pos _ z0⟩
    unfold frD
    cases g with
    | false => simp -implicitDefEqProofs [ev_var, ev_own, ev_mod, ev_div, hz, z0, hsz]
    | true =>
      have h0 : ¬ 0 < rest := fun h => hg ⟨rfl, h⟩
      simp -implicitDefEqProofs [ev_var, ev_own, ev_mod, ev_div, hz, z0, hsz, h0]
theorem digits_ok (c : Int) (szs : List Int) (hl : szs.length ≤ 1000) (hs : ∀ z ∈ szs, 0 < z ∧ z < 1073741824) : ∃ ds : List Int, fun__law_digits [.int c, .lst (szs.map W.int)] = .ok true (.lst (ds.map W.int)) [] ∧ ds.length = szs.length ∧ ∀ d ∈ ds, 0 ≤ d := by
  have e0 : gSet [] 6 = fun w ρ => some (ρ.set 6 (.val w)) := gset_is (by simp)
  have hok : okR (szs.length : Int) = true := by
    unfold okR
    simp
    omega
  have key : ∀ (rest : Int) (g : Bool) (sd : Int), ∃ (ds : List Int) (rest' sd' : Int) (s6 s7 : Sl), forL (fun w ρ => some (ρ.set 6 (.val w))) bdD (intsW 0 szs.length) (frD c (szs.map W.int) [] rest g sd Sl.no Sl.no) = .ok .nx (frD c (szs.map W.int) (ds.map W.int) rest' g sd' s6 s7) ∧ ds.length = szs.length ∧ ∀ d ∈ ds, 0 ≤ d := by
    intro rest g sd
    obtain ⟨ρ1, e1, ds, rest', sd', s6, s7, rfl, h1, h2⟩ := for_inv (i := 6) (g := bdD) (ρ := frD c (szs.map W.int) [] rest g sd Sl.no Sl.no)
      (P := fun zs ρ => ∃ (ds : List Int) (rest' sd' : Int) (s6 s7 : Sl), ρ = frD c (szs.map W.int) (ds.map W.int) rest' g sd' s6 s7 ∧ ds.length + zs.length = szs.length ∧ ∀ d ∈ ds, 0 ≤ d) (.inr trivial) (all2_ints szs.length) (fun a k zs' ρ q ⟨ds, rest', sd', s6, s7, er, h1, h2⟩ => by
        subst er
        obtain ⟨rfl, hk⟩ := q
        have hz : atI (szs.map W.int) (k : Int) = some (.int szs[k]) := by
          rw [ML.atI_nat, List.getElem?_map, List.getElem?_eq_getElem hk]
          rfl
        obtain ⟨z0, z1⟩ := hs szs[k] (List.getElem_mem hk)
        obtain ⟨d, r2, sd2, s72, f1, f2, f3⟩ := bd_ok (c := c) (rest := rest') (sd := sd') (g := g) (s7 := s7) (row := ds.map W.int) hz z0 z1 (by simp at h1 ⊢; omega)
        refine ⟨_, f1, ds ++ [d], r2, sd2, Sl.val (.int (k : Int)), s72, by simp, by simp at h1 ⊢; omega, fun y hy => ?_⟩
        rcases List.mem_append.mp hy with hy | hy
        · exact h2 y hy
        · simp at hy
          omega) ⟨[], rest, sd, Sl.no, Sl.no, rfl, by simp, fun _ h => nomatch h⟩
    exact ⟨ds, rest', sd', s6, s7, e1, by simpa using h1, h2⟩
  have l0 : ([] : List W).length ≤ sizeLine := by simp
  by_cases hg : (10 ^ 18 : Int) ≤ c
  · obtain ⟨ds, rest', sd', s6, s7, e1, h1, h2⟩ := key (c - 10 ^ 18) true (c % 2147483629)
    refine ⟨ds, ?_, h1, h2⟩
    unfold bdD frD at e1
    have hg' : (1000000000000000000 : Int) ≤ c := hg
    unfold fun__law_digits body__law_digits
    simp at e1
    simp -implicitDefEqProofs [ev_var, ev_own, ev_mod, pow18, hg', e0, hok, e1]
  · obtain ⟨ds, rest', sd', s6, s7, e1, h1, h2⟩ := key c false (c % 2147483629)
    refine ⟨ds, ?_, h1, h2⟩
    unfold bdD frD at e1
    have hg' : ¬ (1000000000000000000 : Int) ≤ c := hg
    unfold fun__law_digits body__law_digits
    try simp at e1
    simp -implicitDefEqProofs [ev_var, ev_own, ev_mod, pow18, hg', e0, hok, e1]
theorem mul70 : gMul (.lst [W.int 5040]) (.int 70) = some (.fre, .lst ((List.replicate 70 (5040 : Int)).map W.int)) := by
  have e : gMul (.lst [W.int 5040]) (.int 70) = if -(2 ^ 63) ≤ (70 : Int) ∧ (70 : Int) < 2 ^ 63 ∧ [W.int 5040].length * (70 : Int).toNat ≤ sizeLine then some (.fre, .lst (List.replicate (70 : Int).toNat [W.int 5040]).flatten) else none := rfl
  rw [e, if_pos (by rw [line_is]; decide)]
  rfl
theorem reader_step {ce di : List W → FR} (HC : ∀ k : Nat, ∃ v, ce [sc, .int k] = .ok false (.int v) []) (HD : ∀ c : Int, ∃ ds : List Int, di [.int c, .lst ((List.replicate 70 (5040 : Int)).map W.int)] = .ok true (.lst (ds.map W.int)) [] ∧ ds.length = 70) (first : Nat) : ∃ r, fun__law_reader ce di [sc, .int first] = .ok true r [] ∧ IsR r := by
  have e0 : gSet [] 3 = fun w ρ => some (ρ.set 3 (.val w)) := gset_is (by simp)
  have hok : okR 3 = true := by decide
  obtain ⟨ρ1, e1, ds, s, rfl, h1⟩ := for_inv (i := 3) (g := mSet [] 2 (mOp gAdd (mVar 2) (mCall [] [] di [mCall [] [] ce [mVar 0, mOp gAdd (mVar 1) (mVar 3)], mOp gMul (mLst [] [mC (.int 5040)]) (mC (.int 70))])))
    (ρ := [Sl.val sc, Sl.val (.int first), Sl.own (.lst []), Sl.no])
    (P := fun zs ρ => ∃ (ds : List Int) (s : Sl), ρ = [Sl.val sc, Sl.val (.int first), Sl.own (.lst (ds.map W.int)), s] ∧ ds.length + 70 * zs.length = 210) (.inr trivial) (all2_ints 3) (fun a k zs' ρ q ⟨ds, s, er, h1⟩ => by
      subst er
      obtain ⟨rfl, hk⟩ := q
      obtain ⟨v, f1⟩ := HC (first + k)
      obtain ⟨es, f2, f3⟩ := HD v
      rw [Int.natCast_add] at f1
      have hsz : ds.length + es.length ≤ sizeLine := by rw [line_is]; simp at h1; omega
      have m7 := mul70
      refine ⟨[Sl.val sc, Sl.val (.int first), Sl.own (.lst ((ds ++ es).map W.int)), Sl.val (.int k)], ?_, ds ++ es, _, rfl, by simp at h1 ⊢; omega⟩
      generalize (List.replicate 70 (5040 : Int)).map W.int = S70 at *
      simp -implicitDefEqProofs [ev_var, ev_own, l1, f1, m7, f2, hsz]) ⟨[], Sl.no, rfl, rfl⟩
  refine ⟨.lst [.lst (ds.map W.int), .int 0], ?_, ds.map W.int, 0, rfl, by simp at h1 ⊢; omega, fun x hx => ?_⟩
  · unfold fun__law_reader body__law_reader
    try simp at e1
    simp -implicitDefEqProofs [ev_var, ev_own, l2, e0, hok, e1]
  · obtain ⟨i, _, rfl⟩ := List.mem_map.mp hx
    exact ⟨i, rfl⟩
end K06

namespace K06
open PySem PySem.Spec PyProof.Rows L2 ML
/-! ### free rows drawn -/
def rowW (q : List A) : W := .lst (q.map fun x => .str (S x))
theorem rw0 : W.lst [] = rowW [] := rfl
theorem rw1 (x : A) : W.lst [.str (S x)] = rowW [x] := rfl
theorem rw2 (x y : A) : W.lst [.str (S x), .str (S y)] = rowW [x, y] := rfl
theorem rw3 (x y z : A) : W.lst [.str (S x), .str (S y), .str (S z)] = rowW [x, y, z] := rfl
theorem rw5 (x y z u v : A) : W.lst [.str (S x), .str (S y), .str (S z), .str (S u), .str (S v)] = rowW [x, y, z, u, v] := rfl
theorem ev_addR {p q : List A} (h : p.length + q.length ≤ 16777216) : gAdd (rowW p) (rowW q) = some (.fre, rowW (p ++ q)) := by
  unfold rowW
  rw [ev_addL, if_pos (by rw [line_is, List.length_map, List.length_map]; exact h), List.map_append]
def exW (e : Nat) : W := .lst [.int (e : Int)]
/-- the depth that a sequence of b takes -/
def lev (b : W) (d : Nat) : Nat := if hd b = [116, 104, 101, 110] then d - 1 else d
theorem lev_le (b : W) (d : Nat) : lev b d ≤ d := by unfold lev; split <;> omega
def WrapOk (wr : List W → FR) : Prop := ∀ {q : List A} {r : W} {e : Nat}, IsR r → q.length ≤ 100000 → ∃ fr r' e' q', wr [rowW q, r, exW e] = .ok fr (rowW q') [r', exW e'] ∧ IsR r' ∧ (e' = e ∧ q' = q ∨ e = e' + 1 ∧ q' = [40] :: (q ++ [[41]]))
def SeqOk (sq : List W → FR) (d : Nat) : Prop := ∀ {b : W} {p : List A} {r : W} {e : Nat}, Wr d b p → IsR r → p.length + 2 * e ≤ 50000 →
  ∃ fr r' e' q, sq [b, r, exW e] = .ok fr (rowW q) [r', exW e'] ∧ IsR r' ∧ e' ≤ e ∧ q.length + 2 * e' ≤ p.length + 2 * e ∧ FqT (Fi (lev b d + (e - e'))) d b q
def ItOk (it : List W → FR) (d : Nat) : Prop := ∀ {b : W} {p : List A} {r : W} {e : Nat}, Wr d b p → IsR r → (grp b p).length + 2 * e ≤ 50000 →
  ∃ fr r' e' q, it [b, r, exW e] = .ok fr (rowW q) [r', exW e'] ∧ IsR r' ∧ e' ≤ e ∧ q.length + 2 * e' ≤ (grp b p).length + 2 * e ∧ Fi (d + (e - e')) b q
def ItOkN (it : List W → FR) (d : Nat) : Prop := ∀ {b : W} {p : List A} {r : W} {e : Nat}, Wr d b p → hd b ≠ [116, 104, 101, 110] → IsR r → p.length + 2 * e ≤ 50000 →
  ∃ fr r' e' q, it [b, r, exW e] = .ok fr (rowW q) [r', exW e'] ∧ IsR r' ∧ e' ≤ e ∧ q.length + 2 * e' ≤ p.length + 2 * e ∧ Fi (d + (e - e')) b q
def RowOk (rw : List W → FR) (d : Nat) : Prop := ∀ {b : W} {p : List A} {r : W} {e : Nat}, Wr d b p → hd b ≠ [116, 104, 101, 110] → IsR r → p.length + 2 * e ≤ 50000 →
  ∃ r' e' q, rw [b, r, exW e] = .ok true (rowW q) [r', exW e'] ∧ IsR r' ∧ e' ≤ e ∧ q.length + 2 * e' ≤ p.length + 2 * e ∧ Fi (d + (e - e')) b q
theorem wrapped_ok : WrapOk (fun__law_wrapped fun__law_next) := by
  intro q r e hr hq
  cases e with
  | zero =>
    refine ⟨false, r, 0, q, ?_, hr, .inl ⟨rfl, rfl⟩⟩
    unfold fun__law_wrapped body__law_wrapped exW
    simp -implicitDefEqProofs [ev_var, ev_own]
  | succ n =>
    obtain ⟨v, r1, e1, v0, v1, h1⟩ := next_ok hr (m := 6) (by omega)
    have hp : 0 < (n : Int) + 1 := by omega
    by_cases c : v = 0
    · refine ⟨true, r1, n, [40] :: (q ++ [[41]]), ?_, h1, .inr ⟨rfl, rfl⟩⟩
      subst c
      unfold fun__law_wrapped body__law_wrapped exW
      simp -implicitDefEqProofs (disch := first | omega | (simp; done) | (simp <;> omega) | fail) [ev_var, ev_own, e1, hp, rw1, ev_addR, l1, ixN]
    · refine ⟨false, r1, n + 1, q, ?_, h1, .inl ⟨rfl, rfl⟩⟩
      unfold fun__law_wrapped body__law_wrapped exW
      simp -implicitDefEqProofs (disch := first | omega | (simp; done) | (simp <;> omega) | fail) [ev_var, ev_own, e1, hp, c]
section
variable {sq rw it wr ls : List W → FR} {d : Nat}
theorem item_stepN (HR : RowOk rw d) (HW : WrapOk wr) : ItOkN (fun__law_item sq rw wr) d := by
  intro b p r e h hb hr hl
  obtain ⟨t, l, rfl, ht⟩ := h.shape
  have c : t ≠ [116, 104, 101, 110] := by rw [← ht]; exact hb
  obtain ⟨r1, e1, q, f1, h1, h2, h3, h4⟩ := HR (e := e) h hb hr hl
  obtain ⟨fr, r2, e2, q2, f2, g1, g2⟩ := HW (e := e1) h1 (q := q) (by omega)
  refine ⟨fr, r2, e2, q2, ?_, g1, ?_⟩
  · unfold fun__law_item body__law_item
    cases fr <;> simp -implicitDefEqProofs [ev_var, ev_own, c, f1, f2]
  · rcases g2 with ⟨rfl, rfl⟩ | ⟨rfl, rfl⟩
    · exact ⟨h2, h3, h4⟩
    · refine ⟨by omega, by simp; omega, ?_⟩
      have : Fi (d + (e - (e2 + 1)) + 1) (.tup (.str (S t) :: l)) ([40] :: (q ++ [[41]])) := FrS.par _ q (.one (k := 99) h4)
      exact this.mono (by omega)
theorem item_step (hd0 : d ≤ 90) (HS : SeqOk sq d) (HR : RowOk rw d) (HW : WrapOk wr) : ItOk (fun__law_item sq rw wr) d := by
  intro b p r e h hr hl
  have hpos : 1 ≤ d := by cases d with
    | zero => exact h.elim
    | succ d => omega
  obtain ⟨t, l, rfl, ht⟩ := h.shape
  by_cases c : t = [116, 104, 101, 110]
  · subst c
    have hg : (grp (.tup (.str (S [116, 104, 101, 110]) :: l)) p).length = p.length + 2 := by
      unfold grp
      rw [if_pos ht]
      simp
    rw [hg] at hl ⊢
    obtain ⟨fr, r1, e1, q, f1, h1, h2, h3, h4⟩ := HS (e := e) h hr (by omega)
    have hlev : lev (.tup (.str (S [116, 104, 101, 110]) :: l)) d = d - 1 := if_pos ht
    rw [hlev] at h4
    refine ⟨true, r1, e1, [40] :: (q ++ [[41]]), ?_, h1, h2, by simp; omega, ?_⟩
    · unfold fun__law_item body__law_item
      cases fr <;> simp -implicitDefEqProofs (disch := first | omega | (simp; done) | (simp <;> omega) | fail) [ev_var, ev_own, f1, rw1, ev_addR, l1]
    · have : Fi (d - 1 + (e - e1) + 1) (.tup (.str (S [116, 104, 101, 110]) :: l)) ([40] :: (q ++ [[41]])) := FrS.par _ q (h4.up (by omega))
      exact this.mono (by omega)
  · have hb : hd (.tup (.str (S t) :: l)) ≠ [116, 104, 101, 110] := by rw [ht]; exact c
    have hg : grp (.tup (.str (S t) :: l)) p = p := if_neg hb
    rw [hg] at hl ⊢
    exact item_stepN HR HW h hb hr hl
theorem seq_step (hd0 : d ≤ 90) (HI : ItOkN it (d + 1)) (HJ : ItOk it d) (HS : SeqOk sq d) (HW : WrapOk wr) : SeqOk (fun__law_sequence it sq wr) (d + 1) := by
  intro b p r e h hr hl
  by_cases c : hd b = [116, 104, 101, 110]
  · have h0 : WrS (Wr d) b p := h
    cases h0 with
    | seq b1 c1 p1 q1 w1 w2 =>
      have hlen : (grp b1 p1 ++ [[59], [32]] ++ q1).length = (grp b1 p1).length + 2 + q1.length := by simp; omega
      rw [hlen] at hl ⊢
      obtain ⟨fr1, r1, e1, x1, f1, h1, i1, j1, k1⟩ := HJ (e := e) w1 hr (by omega)
      obtain ⟨fr2, r2, e2, x2, f2, h2, i2, j2, k2⟩ := HS w2 h1 (e := e1) (by omega)
      obtain ⟨fr3, r3, e3, x3, f3, h3, g3⟩ := HW (e := e2) h2 (q := x1 ++ [59] :: x2) (by simp; omega)
      have hlev : lev (.tup [.str (S [116, 104, 101, 110]), b1, c1]) (d + 1) = d := by
        unfold lev
        rw [if_pos c]
        rfl
      rw [hlev]
      have key : FqT (Fi (d + (e - e2))) (d + 1) (.tup [.str (S [116, 104, 101, 110]), b1, c1]) (x1 ++ [59] :: x2) := .seq (k1.mono (by omega)) (k2.imp fun _ _ h => h.mono (by have := lev_le c1 d; omega))
      refine ⟨fr3, r3, e3, x3, ?_, h3, ?_⟩
      · unfold fun__law_sequence body__law_sequence
        cases fr1 <;> cases fr2 <;> cases fr3 <;> simp -implicitDefEqProofs (disch := first | omega | (simp; done) | (simp <;> omega) | fail) [ev_var, ev_own, f1, f2, f3, rw1, ev_addR, l1]
      · rcases g3 with ⟨rfl, rfl⟩ | ⟨rfl, rfl⟩
        · exact ⟨by omega, by simp; omega, key⟩
        · refine ⟨by omega, by simp; omega, ?_⟩
          have : Fi (d + (e - (e3 + 1)) + 1) (.tup [.str (S [116, 104, 101, 110]), b1, c1]) ([40] :: ((x1 ++ [59] :: x2) ++ [[41]])) := FrS.par _ _ (key.up (by omega))
          exact .one (this.mono (by omega))
    | op q a b p r hq => rcases sgw_ne hq with rfl | rfl | rfl <;> cases c
    | _ => cases c
  · have hg : grp b p = p := if_neg c
    have hlev : lev b (d + 1) = d + 1 := if_neg c
    obtain ⟨fr1, r1, e1, x1, f1, h1, i1, j1, k1⟩ := HI (e := e) h c hr hl
    obtain ⟨fr3, r3, e3, x3, f3, h3, g3⟩ := HW (e := e1) h1 (q := x1) (by omega)
    rw [hlev]
    refine ⟨fr3, r3, e3, x3, ?_, h3, ?_⟩
    · obtain ⟨t, l, rfl, ht⟩ := h.shape
      have c2 : t ≠ [116, 104, 101, 110] := by rw [← ht]; exact c
      unfold fun__law_sequence body__law_sequence
      cases fr1 <;> cases fr3 <;> simp -implicitDefEqProofs [ev_var, ev_own, c2, f1, f3]
    · rcases g3 with ⟨rfl, rfl⟩ | ⟨rfl, rfl⟩
      · exact ⟨i1, j1, .one k1⟩
      · refine ⟨by omega, by simp; omega, ?_⟩
        have : Fi (d + 1 + (e - (e3 + 1)) + 1) b ([40] :: (x1 ++ [[41]])) := FrS.par _ _ (.one (k := 99) k1)
        exact .one (this.mono (by omega))
end
end K06

namespace K06
open PySem PySem.Spec PyProof.Rows L2 ML
/-! ### rows of parts -/
def sm (ps : List (List A)) : Nat := (ps.map List.length).sum
theorem sm_cons (p : List A) (ps : List (List A)) : sm (p :: ps) = p.length + sm ps := rfl
theorem sm_nil : sm [] = 0 := rfl
theorem tlc_len : ∀ (l : List (List A)), (tlc l).length = sm l + l.length
  | [] => rfl
  | p :: l => by
    have ih := tlc_len l
    show ([44] :: (p ++ tlc l)).length = _
    rw [sm_cons]
    simp
    omega
theorem comm_len (q : List A) (qs : List (List A)) : (comm (q :: qs)).length = sm (q :: qs) + qs.length := by
  show (q ++ tlc qs).length = _
  rw [List.length_append, tlc_len, sm_cons]
  omega
theorem commas_len : ∀ (p : List A) (ps : List (List A)), (commas (p :: ps)).length = sm (p :: ps) + 2 * ps.length
  | p, [] => by
    show p.length = _
    rw [sm_cons, sm_nil]
    simp
  | p, q :: ps => by
    have ih := commas_len q ps
    show (p ++ ([[44], [32]] ++ commas (q :: ps))).length = _
    rw [sm_cons]
    simp
    omega
theorem comm_le {qs ps : List (List A)} {a b : Nat} (hl : qs.length = ps.length) (h : sm qs + 2 * a ≤ sm ps + 2 * b) : (comm qs).length + 2 * a ≤ (commas ps).length + 2 * b := by
  cases qs with
  | nil =>
    cases ps with
    | nil =>
      have e1 : (comm []).length = 0 := rfl
      have e2 : (commas []).length = 0 := rfl
      rw [sm_nil] at h
      omega
    | cons p ps => cases hl
  | cons q qs =>
    cases ps with
    | nil => cases hl
    | cons p ps =>
      rw [comm_len, commas_len]
      simp at hl
      omega
theorem sm_le_commas : ∀ (ps : List (List A)), sm ps ≤ (commas ps).length
  | [] => Nat.le_refl 0
  | p :: ps => by rw [commas_len]; omega
theorem tlc_app : ∀ (a b : List (List A)), tlc (a ++ b) = tlc a ++ tlc b
  | [], _ => rfl
  | p :: a, b => by
    show [44] :: (p ++ tlc (a ++ b)) = [44] :: (p ++ tlc a) ++ tlc b
    rw [tlc_app a b]
    simp
theorem comm_snoc (a : List (List A)) (q : List A) : comm (a ++ [q]) = comm a ++ ((if a = [] then [] else [[44]]) ++ q) := by
  cases a with
  | nil => simp [comm, tlc]
  | cons p a => simp [comm, tlc_app, tlc]
theorem listing_ok {qs : List (List A)} (hn : qs.length ≤ 1000) (hl : (comm qs).length ≤ 60000) : fun__law_listing [.lst (qs.map rowW)] = .ok true (rowW (comm qs)) [] := by
  have e0 : gSet [] 2 = fun w ρ => some (ρ.set 2 (.val w)) := gset_is (by simp)
  have hok : okR (qs.length : Int) = true := by
    unfold okR
    simp
    omega
  have pre : ∀ k, (comm (qs.take k)).length ≤ (comm qs).length := fun k => by
    have e := List.take_append_drop k qs
    have : ∀ a b : List (List A), (comm a).length ≤ (comm (a ++ b)).length := fun a b => by
      cases a with
      | nil => exact Nat.zero_le _
      | cons p a =>
        show (p ++ tlc a).length ≤ (p ++ tlc (a ++ b)).length
        rw [tlc_app]
        simp
    have h := this (qs.take k) (qs.drop k)
    rwa [e] at h
  obtain ⟨ρ1, e1, s, rfl, _, _⟩ := for_inv (i := 2) (g := mSeq (mIf (mTest (mOp (gCmp (fun i j => decide (j < i))) (mVar 2) (mC (.int 0)))) (mDrop (mAppend 1 [] (mC (.str (S [44]))))) (mNext)) (mSet [] 1 (mOp gAdd (mVar 1) (mOp gIx (mVar 0) (mVar 2)))))
    (ρ := [Sl.val (.lst (qs.map rowW)), Sl.own (rowW []), Sl.no])
    (P := fun zs ρ => ∃ s, ρ = [Sl.val (.lst (qs.map rowW)), Sl.own (rowW (comm (qs.take (qs.length - zs.length)))), s] ∧ zs = List.range' (qs.length - zs.length) zs.length ∧ zs.length ≤ qs.length) (.inr trivial) (all2_rng qs.length) (fun a k zs' ρ q ⟨s, er, hz, hle⟩ => by
      subst er
      obtain ⟨rfl, hk⟩ := q
      have hk1 : k = qs.length - (zs'.length + 1) := by
        rw [List.length_cons, List.range'_succ] at hz
        exact (List.cons.inj hz).1
      have hz2 : zs' = List.range' (qs.length - zs'.length) zs'.length := by
        rw [List.length_cons, List.range'_succ] at hz
        have h1 := (List.cons.inj hz).2
        have h2 : qs.length - (zs'.length + 1) + 1 = qs.length - zs'.length := by
          simp at hle
          omega
        rw [h2] at h1
        exact h1
      have hget : atI (qs.map rowW) (k : Int) = some (rowW qs[k]) := by
        rw [ML.atI_nat, List.getElem?_map, List.getElem?_eq_getElem hk]
        rfl
      have hk2 : qs.length - zs'.length = k + 1 := by simp at hle; omega
      have htake : qs.take (k + 1) = qs.take k ++ [qs[k]] := by rw [List.take_succ_eq_append_getElem hk]
      have hb1 := pre k
      have hb2 := pre (k + 1)
      have hcs := comm_snoc (qs.take k) qs[k]
      rw [htake, hcs] at hb2
      rw [List.length_cons, ← hk1]
      refine ⟨[Sl.val (.lst (qs.map rowW)), Sl.own (rowW (comm (qs.take (k + 1)))), Sl.val (.int k)], ?_, _, by rw [hk2], hz2, by simp at hle; omega⟩
      rw [htake, hcs]
      have hsz : (comm (qs.take k)).length < sizeLine := by rw [line_is]; omega
      by_cases c : k = 0
      · subst c
        have hx : qs[0].length ≤ 60000 := by
          have h6 : (qs[0] : List A).length ≤ (comm (qs.take 0) ++ ((if qs.take 0 = [] then [] else [[44]]) ++ qs[0])).length := by simp
          omega
        have hcat : gAdd (rowW []) (rowW qs[0]) = some (.fre, rowW qs[0]) := ev_addR (p := []) (by simp; omega)
        have hg0 : qs[0]? = some qs[0] := List.getElem?_eq_getElem hk
        simp -implicitDefEqProofs [ev_var, ev_own, comm, hcat, hg0]
      · have c0 : 0 < k := by omega
        have c1 : ¬ (qs.take k = []) := by
          intro z
          have h5 : min k qs.length = 0 := by rw [← List.length_take, z]; rfl
          omega
        rw [if_neg c1] at hb2 ⊢
        generalize comm (qs.take k) = acc at *
        generalize qs[k] = x at *
        have hcat : gAdd (W.lst (acc.map (fun x => W.str (S x)) ++ [W.str (S [44])])) (rowW x) = some (.fre, rowW (acc ++ ([[44]] ++ x))) := by
          have e : W.lst (acc.map (fun x => W.str (S x)) ++ [W.str (S [44])]) = rowW (acc ++ [[44]]) := by simp [rowW]
          simp at hb2
          rw [e, ev_addR (by simp; omega)]
          simp
        have hrow : rowW acc = .lst (acc.map fun x => .str (S x)) := rfl
        rw [hrow]
        simp -implicitDefEqProofs [ev_var, ev_own, c0, hget, hcat, hsz]) ⟨Sl.no, by simp [comm], by simp, by simp⟩
  simp at e1
  unfold fun__law_listing body__law_listing
  simp -implicitDefEqProofs [ev_var, ev_own, e0, hok, rw0, e1]
end K06

namespace K06
open PySem PySem.Spec PyProof.Rows L2 ML
/-! ### the row of a block that is no sequence -/
section
variable {sq it : List W → FR} {d : Nat} {s0 s3 s4 s5 s6 s7 s9 : Sl}
theorem comp_rows (HS : SeqOk sq d) (hd0 : d ≤ 90) : ∀ {bs : List W} {ps : List (List A)}, All2 (Wr d) bs ps → ∀ {acc : List W} {r : W} {e : Nat} {ρ : Rho}, IsR r → sm ps + 2 * e ≤ 50000 → acc.length + bs.length ≤ 1000 → ρ.set 8 .no = [s0, Sl.own r, Sl.own (exW e), s3, s4, s5, s6, s7, Sl.no, s9] →
    ∃ qs r' e', compL [8] (CT.put (.nm 8)) mYes (mEl [1, 2] (mCall [1, 2] [1, 2] sq [mVar 8, mVar 1, mVar 2])) acc bs ρ = .ok (.fre, .lst (acc ++ qs.map rowW)) [s0, Sl.own r', Sl.own (exW e'), s3, s4, s5, s6, s7, Sl.no, s9] ∧ IsR r' ∧ e' ≤ e ∧ sm qs + 2 * e' ≤ sm ps + 2 * e ∧ qs.length = ps.length ∧ All2 (FqT (Fi (d + (e - e'))) 100) bs qs
  | _, _, .nil, acc, r, e, ρ, hr, hl, ha, hρ => by
    refine ⟨[], r, e, ?_, hr, Nat.le_refl _, Nat.le_refl _, rfl, .nil⟩
    unfold compL
    rw [if_pos (by rw [line_is]; simp at ha; omega)]
    show ML.R.ok _ (wipeR ρ [8]) = _
    rw [show wipeR ρ [8] = ρ.set 8 .no from rfl, hρ]
    simp
  | _, _, .cons (a := b) (b := p) (l := bs) (m := ps) q qs, acc, r, e, ρ, hr, hl, ha, hρ => by
    rw [sm_cons] at hl
    obtain ⟨fr, r1, e1, x, f1, h1, h2, h3, h4⟩ := HS (e := e) q hr (by omega)
    have hfe : mEl [1, 2] (mCall [1, 2] [1, 2] sq [mVar 8, mVar 1, mVar 2]) [s0, Sl.own r, Sl.own (exW e), s3, s4, s5, s6, s7, Sl.val b, s9] = .ok (rowW x) [s0, Sl.own r1, Sl.own (exW e1), s3, s4, s5, s6, s7, Sl.val b, s9] := by
      cases fr <;> simp -implicitDefEqProofs [ev_var, ev_own, f1]
    have ha' : acc.length + (bs.length + 1) ≤ 1000 := ha
    obtain ⟨ys, r2, e2, f2, g1, g2, g3, g4, g5⟩ := comp_rows HS hd0 qs (acc := acc ++ [rowW x]) (e := e1) (ρ := [s0, Sl.own r1, Sl.own (exW e1), s3, s4, s5, s6, s7, Sl.val b, s9]) h1 (by omega) (by simp; omega) rfl
    refine ⟨x :: ys, r2, e2, ?_, g1, by omega, by rw [sm_cons, sm_cons]; omega, by simp [g4], .cons ((h4.up (by omega)).imp fun _ _ h => h.mono (by have := lev_le b d; omega)) (g5.imp fun _ _ h => h.imp fun _ _ h => h.mono (by omega))⟩
    unfold compL
    rw [show wipeR ρ [8] = ρ.set 8 .no from rfl, hρ]
    show (ML.R.bind (mYes [s0, Sl.own r, Sl.own (exW e), s3, s4, s5, s6, s7, Sl.val b, s9]) _) = _
    rw [ev_yes, ev_bo, if_pos rfl, hfe, ev_bo, if_pos (by rw [line_is]; omega), f2]
    simp
theorem lc_rows (HS : SeqOk sq d) (hd0 : d ≤ 90) {bs : List W} {ps : List (List A)} (h : All2 (Wr d) bs ps) {r w : W} {e : Nat} {src : Rho → ML.R (Md × W)} (hr : IsR r) (hl : sm ps + 2 * e ≤ 50000) (hb : bs.length ≤ 1000)
    (hsrc : src [s0, Sl.own r, Sl.own (exW e), s3, s4, s5, s6, s7, Sl.no, s9] = .ok (.val, w) [s0, Sl.own r, Sl.own (exW e), s3, s4, s5, s6, s7, Sl.no, s9]) (hw : itemsX w = some bs) :
    ∃ qs r' e', mLc [1, 2] (mItems [1, 2] src) (.nm 8) (mYes) (mCall [1, 2] [1, 2] sq [mVar 8, mVar 1, mVar 2]) [s0, Sl.own r, Sl.own (exW e), s3, s4, s5, s6, s7, Sl.no, s9] = .ok (.fre, .lst (qs.map rowW)) [s0, Sl.own r', Sl.own (exW e'), s3, s4, s5, s6, s7, Sl.no, s9] ∧ IsR r' ∧ e' ≤ e ∧ sm qs + 2 * e' ≤ sm ps + 2 * e ∧ qs.length = ps.length ∧ All2 (FqT (Fi (d + (e - e'))) 100) bs qs := by
  obtain ⟨qs, r2, e2, f2, g1, g2, g3, g4, g5⟩ := comp_rows (s0 := s0) (s3 := s3) (s4 := s4) (s5 := s5) (s6 := s6) (s7 := s7) (s9 := s9) HS hd0 h (acc := []) (e := e) (ρ := [s0, Sl.own r, Sl.own (exW e), s3, s4, s5, s6, s7, Sl.no, s9]) hr hl (by simpa using hb) rfl
  refine ⟨qs, r2, e2, ?_, g1, g2, g3, g4, g5⟩
  rw [ev_lc, ev_items, hsrc, ev_bo, ev_tv, ev_bo, hw, ev_ls, ev_bo, if_pos (by simp [CT.ix])]
  show noExc (compL [8] (CT.put (.nm 8)) mYes (mEl [1, 2] (mCall [1, 2] [1, 2] sq [mVar 8, mVar 1, mVar 2])) [] bs _) = _
  rw [f2]
  rfl
end
theorem prm_row (m : A × Bool) : gLstC [prmW m] = some (.fre, rowW (prmR m)) := rfl
section
variable {sq it ls : List W → FR} {r : W} {e : Nat}
theorem row_skip : fun__law_row it sq ls [.tup [.str (S [115, 107, 105, 112])], r, exW e] = .ok true (rowW [[115, 107, 105, 112]]) [r, exW e] := by
  unfold fun__law_row body__law_row
  simp -implicitDefEqProofs [ev_var, ev_own, rw1]
theorem row_quit : fun__law_row it sq ls [.tup [.str (S [113, 117, 105, 116])], r, exW e] = .ok true (rowW [[113, 117, 105, 116]]) [r, exW e] := by
  unfold fun__law_row body__law_row
  simp -implicitDefEqProofs [ev_var, ev_own, rw1]
theorem row_hole : fun__law_row it sq ls [.tup [.str (S [104, 111, 108, 101])], r, exW e] = .ok true (rowW [[91, 93]]) [r, exW e] := by
  unfold fun__law_row body__law_row
  simp -implicitDefEqProofs [ev_var, ev_own, rw1]
theorem row_num {k : Nat} (h : k < 1000) : fun__law_row it sq ls [.tup [.str (S [110, 117, 109, 98, 101, 114]), .int k], r, exW e] = .ok true (rowW [TL.numL k]) [r, exW e] := by
  unfold fun__law_row body__law_row
  simp -implicitDefEqProofs [ev_var, ev_own, rw1, ev_strI h]
theorem row_get (x : A) : fun__law_row it sq ls [.tup [.str (S [103, 101, 116]), .str (S x)], r, exW e] = .ok true (rowW [x]) [r, exW e] := by
  unfold fun__law_row body__law_row
  simp -implicitDefEqProofs [ev_var, ev_own, rw1]
theorem row_set {x : A} {b r1 : W} {q : List A} {e1 : Nat} {fr : Bool} (h : it [b, r, exW e] = .ok fr (rowW q) [r1, exW e1]) (hl : q.length ≤ 60000) : fun__law_row it sq ls [.tup [.str (S [115, 101, 116]), .str (S x), b], r, exW e] = .ok true (rowW (x :: [58, 61] :: q)) [r1, exW e1] := by
  unfold fun__law_row body__law_row
  cases fr <;> simp -implicitDefEqProofs (disch := first | omega | (simp; done) | (simp <;> omega) | fail) [ev_var, ev_own, rw2, h, ev_addR]
theorem row_new {x : A} {k : Nat} {b r1 : W} {q : List A} {e1 : Nat} {fr : Bool} (hk : k < 1000) (h : sq [b, r, exW e] = .ok fr (rowW q) [r1, exW e1]) (hl : q.length ≤ 60000) : fun__law_row it sq ls [.tup [.str (S [110, 101, 119]), .str (S x), .int k, b], r, exW e] = .ok true (rowW ([110, 101, 119] :: x :: [58, 61] :: TL.numL k :: [105, 110] :: (q ++ [[101, 110, 100]]))) [r1, exW e1] := by
  have l5 : (5 ≤ sizeLine) = True := by simp [line_is]
  unfold fun__law_row body__law_row
  cases fr <;> simp -implicitDefEqProofs (disch := first | omega | (simp; done) | (simp <;> omega) | fail) [ev_var, ev_own, rw5, rw1, h, ev_addR, ev_strI hk, l5]
theorem row_call {x : A} {bs : List W} {r1 : W} {qs : List (List A)} {e1 : Nat} (hc : mLc [1, 2] (mItems [1, 2] (mOp gIx (mVar 0) (mC (.int 2)))) (.nm 8) (mYes) (mCall [1, 2] [1, 2] sq [mVar 8, mVar 1, mVar 2]) [Sl.val (.tup [.str (S [99, 97, 108, 108]), .str (S x), .tup bs]), Sl.own r, Sl.own (exW e), Sl.val (.str (S [99, 97, 108, 108])), Sl.no, Sl.no, Sl.no, Sl.no, Sl.no, Sl.no] = .ok (.fre, .lst (qs.map rowW)) [Sl.val (.tup [.str (S [99, 97, 108, 108]), .str (S x), .tup bs]), Sl.own r1, Sl.own (exW e1), Sl.val (.str (S [99, 97, 108, 108])), Sl.no, Sl.no, Sl.no, Sl.no, Sl.no, Sl.no])
    (hs : ls [.lst (qs.map rowW)] = .ok true (rowW (comm qs)) []) (hl : (comm qs).length ≤ 60000) : fun__law_row it sq ls [.tup [.str (S [99, 97, 108, 108]), .str (S x), .tup bs], r, exW e] = .ok true (rowW (x :: [40] :: (comm qs ++ [[41]]))) [r1, exW e1] := by
  unfold fun__law_row body__law_row
  simp -implicitDefEqProofs (disch := first | omega | (simp; done) | (simp <;> omega) | fail) [ev_var, ev_own, rw2, rw1, hc, hs, ev_addR]
theorem lc_prm {w : W} {ex : W} {s3 s4 s5 s6 s7 s8 : Sl} (ms : List (A × Bool)) (hms : ms.length ≤ 100) (hsrc : (mOp gIx (mVar 0) (mC (.int 2))) [Sl.val w, Sl.own r, Sl.own ex, s3, s4, s5, s6, s7, s8, Sl.no] = .ok (.val, .tup (ms.map prmW)) [Sl.val w, Sl.own r, Sl.own ex, s3, s4, s5, s6, s7, s8, Sl.no]) :
    mLc [1, 2] (mItems [1, 2] (mOp gIx (mVar 0) (mC (.int 2)))) (.nm 9) (mYes) (mCB gLstC [mVar 9]) [Sl.val w, Sl.own r, Sl.own ex, s3, s4, s5, s6, s7, s8, Sl.no] = .ok (.fre, .lst ((ms.map prmR).map rowW)) [Sl.val w, Sl.own r, Sl.own ex, s3, s4, s5, s6, s7, s8, Sl.no] := by
  rw [ev_lc, ev_items, hsrc, ev_bo, ev_tv, ev_bo, ev_ixt, ev_ls, ev_bo, if_pos (by simp [CT.ix])]
  have h2 : All2 (fun (w : W) (m : A × Bool) => w = prmW m) (ms.map prmW) ms := by
    have : ∀ l : List (A × Bool), All2 (fun (w : W) (m : A × Bool) => w = prmW m) (l.map prmW) l := by
      intro l
      induction l with
      | nil => exact .nil
      | cons y l ih => exact .cons rfl ih
    exact this ms
  have e := comp2 (i := 9) (fe := mEl [1, 2] (mCB gLstC [mVar 9])) (g := fun m => rowW (prmR m)) (Q := fun (w : W) (m : A × Bool) => w = prmW m) (ρ := [Sl.val w, Sl.own r, Sl.own ex, s3, s4, s5, s6, s7, s8, Sl.no]) (fun w m hw => by
    subst hw
    simp -implicitDefEqProofs [ev_var, prm_row]) h2 (acc := []) (ρ' := [Sl.val w, Sl.own r, Sl.own ex, s3, s4, s5, s6, s7, s8, Sl.no]) (by rw [line_is]; simp; omega) rfl
  show noExc (compL [9] (CT.put (.nm 9)) mYes (mEl [1, 2] (mCB gLstC [mVar 9])) [] (ms.map prmW) _) = _
  rw [e]
  simp
theorem row_let {x : A} {ms : List (A × Bool)} {b c r1 r2 : W} {p q : List A} {e1 e2 : Nat} {f1 f2 : Bool} (hms : ms.length ≤ 100) (hs : ls [.lst ((ms.map prmR).map rowW)] = .ok true (rowW (comm (ms.map prmR))) []) (h1 : sq [b, r, exW e] = .ok f1 (rowW p) [r1, exW e1]) (h2 : sq [c, r1, exW e1] = .ok f2 (rowW q) [r2, exW e2]) (hl : (comm (ms.map prmR)).length ≤ 60000) (hl1 : p.length ≤ 60000) (hl2 : q.length ≤ 60000) :
    fun__law_row it sq ls [.tup [.str (S [108, 101, 116]), .str (S x), .tup (ms.map prmW), b, c], r, exW e] = .ok true (rowW ([108, 101, 116] :: x :: [40] :: (comm (ms.map prmR) ++ [41] :: [98, 101] :: (p ++ [105, 110] :: (q ++ [[101, 110, 100]]))))) [r2, exW e2] := by
  have hc := lc_prm (r := r) (ex := exW e) (w := .tup [.str (S [108, 101, 116]), .str (S x), .tup (ms.map prmW), b, c]) (s3 := Sl.val (.str (S [108, 101, 116]))) (s4 := Sl.no) (s5 := Sl.no) (s6 := Sl.no) (s7 := Sl.no) (s8 := Sl.no) ms hms (by simp -implicitDefEqProofs [ev_var])
  generalize hL : (ms.map prmR).map rowW = L at hs hc
  generalize comm (ms.map prmR) = cs at *
  generalize ms.map prmW = ws at *
  unfold fun__law_row body__law_row
  cases f1 <;> cases f2 <;> simp -implicitDefEqProofs (disch := first | omega | (simp; done) | (simp <;> omega) | fail) [ev_var, ev_own, rw3, rw2, rw1, hc, hs, h1, h2, ev_addR]
theorem row_if {a b c r1 : W} {p q t : List A} {e1 : Nat} (hc : mLc [1, 2] (mItems [1, 2] (mSl (mVar 0) (some (mC (.int 1))) none)) (.nm 8) (mYes) (mCall [1, 2] [1, 2] sq [mVar 8, mVar 1, mVar 2]) [Sl.val (.tup [.str (S [105, 102]), a, b, c]), Sl.own r, Sl.own (exW e), Sl.val (.str (S [105, 102])), Sl.no, Sl.no, Sl.no, Sl.no, Sl.no, Sl.no] = .ok (.fre, .lst [rowW p, rowW q, rowW t]) [Sl.val (.tup [.str (S [105, 102]), a, b, c]), Sl.own r1, Sl.own (exW e1), Sl.val (.str (S [105, 102])), Sl.no, Sl.no, Sl.no, Sl.no, Sl.no, Sl.no])
    (hl : p.length + q.length + t.length ≤ 60000) : fun__law_row it sq ls [.tup [.str (S [105, 102]), a, b, c], r, exW e] = .ok true (rowW ([105, 102] :: (p ++ [116, 104, 101, 110] :: (q ++ [101, 108, 115, 101] :: (t ++ [[102, 105]]))))) [r1, exW e1] := by
  unfold fun__law_row body__law_row
  simp -implicitDefEqProofs (disch := first | omega | (simp; done) | (simp <;> omega) | fail) [ev_var, ev_own, rw1, hc, ev_addR]
theorem row_while {a b r1 : W} {p q : List A} {e1 : Nat} (hc : mLc [1, 2] (mItems [1, 2] (mSl (mVar 0) (some (mC (.int 1))) none)) (.nm 8) (mYes) (mCall [1, 2] [1, 2] sq [mVar 8, mVar 1, mVar 2]) [Sl.val (.tup [.str (S [119, 104, 105, 108, 101]), a, b]), Sl.own r, Sl.own (exW e), Sl.val (.str (S [119, 104, 105, 108, 101])), Sl.no, Sl.no, Sl.no, Sl.no, Sl.no, Sl.no] = .ok (.fre, .lst [rowW p, rowW q]) [Sl.val (.tup [.str (S [119, 104, 105, 108, 101]), a, b]), Sl.own r1, Sl.own (exW e1), Sl.val (.str (S [119, 104, 105, 108, 101])), Sl.no, Sl.no, Sl.no, Sl.no, Sl.no, Sl.no])
    (hl : p.length + q.length ≤ 60000) : fun__law_row it sq ls [.tup [.str (S [119, 104, 105, 108, 101]), a, b], r, exW e] = .ok true (rowW ([119, 104, 105, 108, 101] :: (p ++ [100, 111] :: (q ++ [[111, 100]])))) [r1, exW e1] := by
  unfold fun__law_row body__law_row
  simp -implicitDefEqProofs (disch := first | omega | (simp; done) | (simp <;> omega) | fail) [ev_var, ev_own, rw1, hc, ev_addR]
theorem row_op {k : Nat} (hk : k < 3) {a b r1 : W} {p q : List A} {e1 : Nat} (hc : mLc [1, 2] (mItems [1, 2] (mSl (mVar 0) (some (mC (.int 1))) none)) (.nm 8) (mYes) (mCall [1, 2] [1, 2] sq [mVar 8, mVar 1, mVar 2]) [Sl.val (.tup [.str (S (sgw k)), a, b]), Sl.own r, Sl.own (exW e), Sl.val (.str (S (sgw k))), Sl.no, Sl.no, Sl.no, Sl.no, Sl.no, Sl.no] = .ok (.fre, .lst [rowW p, rowW q]) [Sl.val (.tup [.str (S (sgw k)), a, b]), Sl.own r1, Sl.own (exW e1), Sl.val (.str (S (sgw k))), Sl.no, Sl.no, Sl.no, Sl.no, Sl.no, Sl.no])
    (hl : p.length + q.length ≤ 60000) : fun__law_row it sq ls [.tup [.str (S (sgw k)), a, b], r, exW e] = .ok true (rowW ([40] :: (p ++ sgn k :: (q ++ [[41]])))) [r1, exW e1] := by
  have o2 : okMul 2 0 = true := rfl
  have o3 : okMul 2 1 = true := rfl
  unfold fun__law_row body__law_row
  rcases sgw_ne hk with rfl | rfl | rfl
  · simp only [sgw] at hc
    simp -implicitDefEqProofs (disch := first | omega | (simp; done) | (simp <;> omega) | fail) [ev_var, ev_own, rw1, hc, ev_addR, sgw, sgn, o2, o3]
  · simp only [sgw] at hc
    simp -implicitDefEqProofs (disch := first | omega | (simp; done) | (simp <;> omega) | fail) [ev_var, ev_own, rw1, hc, ev_addR, sgw, sgn, o2, o3]
  · simp only [sgw] at hc
    simp -implicitDefEqProofs (disch := first | omega | (simp; done) | (simp <;> omega) | fail) [ev_var, ev_own, rw1, hc, ev_addR, sgw, sgn, o2, o3]
end
end K06

namespace K06
open PySem PySem.Spec PyProof.Rows L2 ML
def ListOk (ls : List W → FR) : Prop := ∀ {qs : List (List A)}, qs.length ≤ 1000 → (comm qs).length ≤ 60000 → ls [.lst (qs.map rowW)] = .ok true (rowW (comm qs)) []
theorem tlc_prm : ∀ (ms : List (A × Bool)), (tlc (ms.map prmR)).length = 3 * ms.length
  | [] => rfl
  | m :: ms => by
    have ih := tlc_prm ms
    show ([44] :: (prmR m ++ tlc (ms.map prmR))).length = _
    have : (prmR m).length = 2 := rfl
    simp
    omega
theorem comm_prm (ms : List (A × Bool)) : (comm (ms.map prmR)).length ≤ (commas (ms.map prmP)).length := by
  have e : ∀ l : List (A × Bool), sm (l.map prmR) + l.length ≤ sm (l.map prmP) := by
    intro l
    induction l with
    | nil => exact Nat.le_refl _
    | cons m l ih =>
      rw [List.map_cons, List.map_cons, sm_cons, sm_cons]
      have h1 : (prmR m).length = 2 := rfl
      have h2 : (prmP m).length = 3 := rfl
      simp
      omega
  have := comm_le (qs := ms.map prmR) (ps := ms.map prmP) (a := 0) (b := 0) (by simp) (by have := e ms; omega)
  omega
theorem all2_1 {R : W → List A → Prop} {a : W} {qs : List (List A)} (h : All2 R [a] qs) : ∃ p, qs = [p] ∧ R a p := by
  cases h with
  | cons h t => cases t; exact ⟨_, rfl, h⟩
theorem all2_2 {R : W → List A → Prop} {a b : W} {qs : List (List A)} (h : All2 R [a, b] qs) : ∃ p q, qs = [p, q] ∧ R a p ∧ R b q := by
  cases h with
  | cons h t =>
    obtain ⟨q, rfl, hq⟩ := all2_1 t
    exact ⟨_, q, rfl, h, hq⟩
theorem all2_3 {R : W → List A → Prop} {a b c : W} {qs : List (List A)} (h : All2 R [a, b, c] qs) : ∃ p q r, qs = [p, q, r] ∧ R a p ∧ R b q ∧ R c r := by
  cases h with
  | cons h t =>
    obtain ⟨q, r, rfl, hq, hr⟩ := all2_2 t
    exact ⟨_, q, r, rfl, h, hq, hr⟩
theorem row_step {it sq ls : List W → FR} {d : Nat} (hd0 : d ≤ 90) (HI : ItOk it d) (HS : SeqOk sq d) (HL : ListOk ls) : RowOk (fun__law_row it sq ls) (d + 1) := by
  intro b p r e h ht hr hl
  have h0 : WrS (Wr d) b p := h
  have up : ∀ {k e2 : Nat} {b : W} {q : List A}, k ≤ d → FqT (Fi (lev b d + e2)) k b q → FqT (Fi (d + e2)) 100 b q := fun {k e2 b q} hk h => (h.up (by omega)).imp fun _ _ h => h.mono (by have := lev_le b d; omega)
  have fin : ∀ {e2 : Nat} {b : W} {q : List A}, FrS (Fi (d + (e - e2))) (FqT (Fi (d + (e - e2))) 100) b q → Fi (d + 1 + (e - e2)) b q := fun {e2 b q} h => by
    have : Fi (d + (e - e2) + 1) b q := h
    exact this.mono (by omega)
  cases h0 with
  | skip => exact ⟨r, e, _, row_skip, hr, Nat.le_refl _, Nat.le_refl _, fin .skip⟩
  | quit => exact ⟨r, e, _, row_quit, hr, Nat.le_refl _, Nat.le_refl _, fin .quit⟩
  | hole => exact ⟨r, e, _, row_hole, hr, Nat.le_refl _, Nat.le_refl _, fin .hole⟩
  | num k hk => exact ⟨r, e, _, row_num hk, hr, Nat.le_refl _, Nat.le_refl _, fin (.num k hk)⟩
  | get x hn => exact ⟨r, e, _, row_get x, hr, Nat.le_refl _, Nat.le_refl _, fin (.get x hn)⟩
  | call x bs ps hn hb w =>
    have hlen : ([x, [40]] ++ commas ps ++ [[41]] : List A).length = (commas ps).length + 3 := by simp <;> omega
    rw [hlen] at hl ⊢
    have hsm := sm_le_commas ps
    obtain ⟨qs, r1, e1, f1, h1, h2, h3, h4, h5⟩ := lc_rows (s0 := Sl.val (.tup [.str (S [99, 97, 108, 108]), .str (S x), .tup bs])) (s3 := Sl.val (.str (S [99, 97, 108, 108]))) (s4 := Sl.no) (s5 := Sl.no) (s6 := Sl.no) (s7 := Sl.no) (s9 := Sl.no) (src := mOp gIx (mVar 0) (mC (.int 2))) (w := .tup bs) (e := e) HS hd0 w hr (by omega) (by omega) (by simp -implicitDefEqProofs [ev_var]) rfl
    have hcl := comm_le h4 h3
    have hbl := w.len
    exact ⟨r1, e1, _, row_call f1 (HL (by omega) (by omega)) (by omega), h1, h2, by simp; omega, fin (.call x bs qs hn hb h5)⟩
  | set x b p hn w =>
    have hlen : ([x, [32], [58, 61], [32]] ++ grp b p : List A).length = (grp b p).length + 4 := by simp <;> omega
    rw [hlen] at hl ⊢
    obtain ⟨fr, r1, e1, q, f1, h1, h2, h3, h4⟩ := HI (e := e) w hr (by omega)
    exact ⟨r1, e1, _, row_set f1 (by omega), h1, h2, by simp; omega, fin (.set x b q hn h4)⟩
  | seq b c p q h1 h2 => exact absurd rfl ht
  | new x k b p hn hk w =>
    have hlen : ([[110, 101, 119], [32], x, [32], [58, 61], [32], TL.numL k, [32], [105, 110], [32]] ++ p ++ [[32], [101, 110, 100]] : List A).length = p.length + 12 := by simp <;> omega
    rw [hlen] at hl ⊢
    obtain ⟨fr, r1, e1, q, f1, h1, h2, h3, h4⟩ := HS (e := e) w hr (by omega)
    exact ⟨r1, e1, _, row_new hk f1 (by omega), h1, h2, by simp; omega, fin (.new x k b q hn hk (up (Nat.le_refl _) h4))⟩
  | lett x ms b c p q hn hms hm w1 w2 =>
    have hlen : ([[108, 101, 116], [32], x, [40]] ++ commas (ms.map prmP) ++ [[41], [32], [98, 101], [32]] ++ p ++ [[32], [105, 110], [32]] ++ q ++ [[32], [101, 110, 100]] : List A).length = (commas (ms.map prmP)).length + p.length + q.length + 13 := by simp <;> omega
    rw [hlen] at hl ⊢
    have hcp := comm_prm ms
    obtain ⟨fr1, r1, e1, q1, f1, h1, h2, h3, h4⟩ := HS (e := e) w1 hr (by omega)
    obtain ⟨fr2, r2, e2, q2, f2, g1, g2, g3, g4⟩ := HS (e := e1) w2 h1 (by omega)
    exact ⟨r2, e2, _, row_let hms (HL (by simp; omega) (by omega)) f1 f2 (by omega) (by omega) (by omega), g1, by omega, by simp; omega, fin (.lett x ms b c q1 q2 hn hms hm ((up (Nat.le_refl _) h4).imp fun _ _ h => h.mono (by omega)) ((up (Nat.le_refl _) g4).imp fun _ _ h => h.mono (by omega)))⟩
  | iff a b c p q t w1 w2 w3 =>
    have hlen : ([[105, 102], [32]] ++ p ++ [[32], [116, 104, 101, 110], [32]] ++ q ++ [[32], [101, 108, 115, 101], [32]] ++ t ++ [[32], [102, 105]] : List A).length = p.length + q.length + t.length + 10 := by simp <;> omega
    rw [hlen] at hl ⊢
    have hs3 : sm [p, q, t] = p.length + q.length + t.length := by simp [sm] <;> omega
    obtain ⟨qs, r1, e1, f1, h1, h2, h3, h4, h5⟩ := lc_rows (s0 := Sl.val (.tup [.str (S [105, 102]), a, b, c])) (s3 := Sl.val (.str (S [105, 102]))) (s4 := Sl.no) (s5 := Sl.no) (s6 := Sl.no) (s7 := Sl.no) (s9 := Sl.no) (src := mSl (mVar 0) (some (mC (.int 1))) none) (w := .tup [a, b, c]) (e := e) HS hd0 (.cons w1 (.cons w2 (.cons w3 .nil))) hr (by omega) (by simp) (by simp -implicitDefEqProofs [ev_var]) rfl
    obtain ⟨x, y, z, rfl, k1, k2, k3⟩ := all2_3 h5
    have hs4 : sm [x, y, z] = x.length + y.length + z.length := by simp [sm] <;> omega
    exact ⟨r1, e1, _, row_if f1 (by omega), h1, h2, by simp; omega, fin (.iff a b c x y z k1 k2 k3)⟩
  | loop a b p q w1 w2 =>
    have hlen : ([[119, 104, 105, 108, 101], [32]] ++ p ++ [[32], [100, 111], [32]] ++ q ++ [[32], [111, 100]] : List A).length = p.length + q.length + 7 := by simp <;> omega
    rw [hlen] at hl ⊢
    have hs3 : sm [p, q] = p.length + q.length := by simp [sm]
    obtain ⟨qs, r1, e1, f1, h1, h2, h3, h4, h5⟩ := lc_rows (s0 := Sl.val (.tup [.str (S [119, 104, 105, 108, 101]), a, b])) (s3 := Sl.val (.str (S [119, 104, 105, 108, 101]))) (s4 := Sl.no) (s5 := Sl.no) (s6 := Sl.no) (s7 := Sl.no) (s9 := Sl.no) (src := mSl (mVar 0) (some (mC (.int 1))) none) (w := .tup [a, b]) (e := e) HS hd0 (.cons w1 (.cons w2 .nil)) hr (by omega) (by simp) (by simp -implicitDefEqProofs [ev_var]) rfl
    obtain ⟨x, y, rfl, k1, k2⟩ := all2_2 h5
    have hs4 : sm [x, y] = x.length + y.length := by simp [sm]
    exact ⟨r1, e1, _, row_while f1 (by omega), h1, h2, by simp; omega, fin (.loop a b x y k1 k2)⟩
  | op k a b p q hk w1 w2 =>
    have hlen : ([[40]] ++ p ++ [[32], sgn k, [32]] ++ q ++ [[41]] : List A).length = p.length + q.length + 5 := by simp <;> omega
    rw [hlen] at hl ⊢
    have hs3 : sm [p, q] = p.length + q.length := by simp [sm]
    obtain ⟨qs, r1, e1, f1, h1, h2, h3, h4, h5⟩ := lc_rows (s0 := Sl.val (.tup [.str (S (sgw k)), a, b])) (s3 := Sl.val (.str (S (sgw k)))) (s4 := Sl.no) (s5 := Sl.no) (s6 := Sl.no) (s7 := Sl.no) (s9 := Sl.no) (src := mSl (mVar 0) (some (mC (.int 1))) none) (w := .tup [a, b]) (e := e) HS hd0 (.cons w1 (.cons w2 .nil)) hr (by omega) (by simp) (by simp -implicitDefEqProofs [ev_var]) rfl
    obtain ⟨x, y, rfl, k1, k2⟩ := all2_2 h5
    have hs4 : sm [x, y] = x.length + y.length := by simp [sm]
    exact ⟨r1, e1, _, row_op hk f1 (by omega), h1, h2, by simp; omega, fin (.op k a b x y hk k1 k2)⟩
/-- the drawers of sequences and rows, by fuel -/
def drS : Nat → (List W → FR) × (List W → FR)
  | 0 => (fun _ => .stk, fun _ => .stk)
  | f + 1 => (fun__law_sequence (fun__law_item (drS f).1 (drS f).2 (fun__law_wrapped fun__law_next)) (drS f).1 (fun__law_wrapped fun__law_next), fun__law_row (fun__law_item (drS f).1 (drS f).2 (fun__law_wrapped fun__law_next)) (drS f).1 fun__law_listing)
def drI (f : Nat) : List W → FR := fun__law_item (drS f).1 (drS f).2 (fun__law_wrapped fun__law_next)
theorem dr_ok : ∀ f : Nat, f ≤ 170 → (∀ d, 2 * d ≤ f → SeqOk (drS f).1 d) ∧ (∀ d, 2 * d ≤ f + 1 → RowOk (drS f).2 d)
  | 0, _ => ⟨fun d hd => by
      have : d = 0 := by omega
      subst this
      intro b p r e h
      exact h.elim, fun d hd => by
      have : d = 0 := by omega
      subst this
      intro b p r e h
      exact h.elim⟩
  | f + 1, hf => by
    obtain ⟨hS, hR⟩ := dr_ok f (by omega)
    have hI : ∀ d, 2 * d ≤ f → ItOk (drI f) d := fun d hd => item_step (by omega) (hS d hd) (hR d (by omega)) wrapped_ok
    refine ⟨fun d hd => ?_, fun d hd => ?_⟩
    · cases d with
      | zero => intro b p r e h; exact h.elim
      | succ d =>
        exact seq_step (by omega) (item_stepN (hR (d + 1) (by omega)) wrapped_ok) (hI d (by omega)) (hS d (by omega)) wrapped_ok
    · cases d with
      | zero => intro b p r e h; exact h.elim
      | succ d => exact row_step (by omega) (hI d (by omega)) (hS d (by omega)) listing_ok
end K06

namespace K06
open PySem PySem.Spec PyProof.Rows L2 ML
/-! ### tokens joined with gaps -/
theorem in_an (c : Nat) : decide (c ∈ [97, 98, 99, 100, 101, 102, 103, 104, 105, 106, 107, 108, 109, 110, 111, 112, 113, 114, 115, 116, 117, 118, 119, 120, 121, 122, 48, 49, 50, 51, 52, 53, 54, 55, 56, 57]) = alnum c := by
  rw [Bool.eq_iff_iff]
  simp [alnum, lowC, digC]
  omega
@[simp] theorem ev_an (c : Nat) : gIn false (.str (S [c])) (.str (S [97, 98, 99, 100, 101, 102, 103, 104, 105, 106, 107, 108, 109, 110, 111, 112, 113, 114, 115, 116, 117, 118, 119, 120, 121, 122, 48, 49, 50, 51, 52, 53, 54, 55, 56, 57])) = some (.val, .bl (alnum c)) := by
  rw [in_SS, in_an]
  rfl
theorem merging_ok (a b : Nat) : fun__law_merging [.str (S [a]), .str (S [b])] = .ok false (.bl (alnum a && alnum b || decide ([a, b] ∈ [[58, 61], [91, 93]]))) [] := by
  have hin : gIn false (.str (S [a, b])) (.tup [.str (S [58, 61]), .str (S [91, 93])]) = some (.val, .bl (decide ([a, b] ∈ [[58, 61], [91, 93]]))) := in_ST false [a, b] [[58, 61], [91, 93]] _ rfl (by simp)
  unfold fun__law_merging body__law_merging
  cases h1 : alnum a <;> cases h2 : alnum b <;> simp -implicitDefEqProofs (disch := first | omega | (simp; done) | (simp <;> omega) | fail) [ev_var, h1, h2, ev_addSS, hin]
theorem mul_one {c : Nat} : ∀ n : Nat, List.foldl (fun (a b : Array Nat) => a ++ b) #[] (List.replicate n #[c]) = (List.replicate n c).toArray := by
  have key : ∀ (n : Nat) (acc : List Nat), List.foldl (fun (a b : Array Nat) => a ++ b) acc.toArray (List.replicate n #[c]) = (acc ++ List.replicate n c).toArray := by
    intro n
    induction n with
    | zero => intro acc; simp
    | succ n ih =>
      intro acc
      rw [List.replicate_succ, List.foldl_cons, show acc.toArray ++ #[c] = (acc ++ [c]).toArray by simp, ih, List.replicate_succ]
      simp
  intro n
  have := key n []
  simpa using this
theorem mul_S {c : Nat} {n : Nat} (h : 1 ≤ n) : Txt.mul (S [c]) (n : Int) = S (List.replicate n c) := by
  unfold Txt.mul
  rw [if_neg (by omega)]
  by_cases h1 : n = 1
  · subst h1
    rw [if_pos (by simp)]
    rfl
  · have : (((n : Int) == 1) || ((S [c]).length == 0)) = false := by
      simp
      omega
    rw [this, if_neg Bool.false_ne_true]
    show Str.mk (List.foldl (fun (a b : Array Nat) => a ++ b) #[] (List.replicate n #[c])) = _
    rw [mul_one]
    rfl
theorem ev_mulSS {c n : Nat} (h : 1 ≤ n) (h2 : n ≤ 1000) : gMulS (.str (S [c])) (.int (n : Int)) = some (.val, .str (S (List.replicate n c))) := by
  have e : gMulS (.str (S [c])) (.int (n : Int)) = if 0 ≤ (n : Int) ∧ (n : Int) ≤ 10000 ∧ (S [c]).length ≤ 1000 then some (.val, .str (Txt.mul (S [c]) n)) else none := rfl
  rw [e, if_pos ⟨by omega, by omega, by simp⟩, mul_S h]
theorem ev_ixR {q : List A} {k : Nat} {x : A} (h : q[k]? = some x) : gIx (rowW q) (.int (k : Int)) = some (.val, .str (S x)) := by
  unfold rowW
  rw [ev_ixL, ML.atI_nat, List.getElem?_map, h]
  rfl
theorem ev_lenR (q : List A) : gLen [rowW q] = some (.val, .int q.length) := by
  unfold rowW
  rw [ev_lenL, List.length_map]
/-- blanks and line feeds alone -/
def Bl (g : A) : Prop := ∀ c ∈ g, c = 32 ∨ c = 10
def gaps (g : A) : List A := g.map fun c => [c]
theorem gaps_flat (g : A) : (gaps g).flatten = g := by
  induction g with
  | nil => rfl
  | cons c g ih =>
    show [c] ++ (gaps g).flatten = _
    rw [ih]
    rfl
theorem gaps_sp {g : A} (h : Bl g) : ∀ x ∈ gaps g, Sp x := fun x hx => by
  obtain ⟨c, hc, rfl⟩ := List.mem_map.mp hx
  rcases h c hc with rfl | rfl
  · exact .inl rfl
  · exact .inr rfl
theorem sp_w {x : A} (h : Sp x) : isW x = false := by rcases h with rfl | rfl <;> rfl
/-- does a row of pieces end in a word -/
def endW (p : List A) : Bool := match p.getLast? with
  | some x => isW x
  | none => false
theorem sep_snoc (x : A) : ∀ (p : List A) (b : Bool), sepF b (p ++ [x]) = (sepF b p && !((match p.getLast? with
    | some y => isW y
    | none => b) && isW x))
  | [], b => by simp [sepF]
  | [y], b => by simp [sepF]
  | y :: z :: p, b => by
    have ih := sep_snoc x (z :: p) (isW y)
    obtain ⟨l, hl⟩ : ∃ l, (z :: p).getLast? = some l := by
      cases h : (z :: p).getLast? with
      | none => simp at h
      | some l => exact ⟨l, rfl⟩
    have hl2 : (y :: z :: p).getLast? = some l := by rw [List.getLast?_cons_cons, hl]
    rw [hl] at ih
    rw [hl2]
    show (!(b && isW y) && sepF (isW y) ((z :: p) ++ [x])) = (!(b && isW y) && sepF (isW y) (z :: p) && !(isW l && isW x))
    rw [ih, Bool.and_assoc]
theorem sep_end (x : A) (p : List A) : sepF false (p ++ [x]) = (sepF false p && !(endW p && isW x)) := sep_snoc x p false
theorem sep_gaps {p : List A} (h : sepF false p = true) : ∀ (g : List A), (∀ x ∈ g, Sp x) → sepF false (p ++ g) = true ∧ (g ≠ [] → endW (p ++ g) = false) := by
  intro g
  induction g generalizing p with
  | nil => intro _; exact ⟨by simpa using h, fun z => absurd rfl z⟩
  | cons x g ih =>
    intro hg
    have hx := sp_w (hg x (List.mem_cons_self ..))
    have h1 : sepF false (p ++ [x]) = true := by rw [sep_end, h, hx]; simp
    obtain ⟨a, b⟩ := ih h1 fun y hy => hg y (List.mem_cons_of_mem _ hy)
    rw [List.append_assoc] at a b
    refine ⟨a, fun _ => ?_⟩
    cases g with
    | nil =>
      unfold endW
      simp [hx]
    | cons y g => exact b (by simp)
theorem fl_gaps {p : List A} : ∀ {g : List A}, (∀ x ∈ g, Sp x) → fl (p ++ g) = fl p
  | [], _ => by simp
  | x :: g, h => by
    rw [fl_app, fl_sp (h x (List.mem_cons_self ..)), ← fl_app]
    exact fl_gaps fun y hy => h y (List.mem_cons_of_mem _ hy)
/-- what has been written so far -/
structure Jn (p : List A) (t : A) (q : List A) (bf : Nat) : Prop where
  flat : p.flatten = t
  good : ∀ x ∈ p, Sp x ∨ Gd x
  sep : sepF false p = true
  toks : fl p = q
  bef : endW p = true → alnum bf = true
theorem Jn.gap {p : List A} {t : A} {q : List A} {bf : Nat} (h : Jn p t q bf) {g : A} (hg : Bl g) : Jn (p ++ gaps g) (t ++ g) q bf ∧ (g ≠ [] → endW (p ++ gaps g) = false) := by
  obtain ⟨a, b⟩ := sep_gaps h.sep (gaps g) (gaps_sp hg)
  have hb : g ≠ [] → endW (p ++ gaps g) = false := fun z => b (by unfold gaps; simpa using z)
  refine ⟨⟨by rw [List.flatten_append, h.flat, gaps_flat], fun x hx => ?_, a, by rw [fl_gaps (gaps_sp hg), h.toks], fun z => ?_⟩, hb⟩
  · rcases List.mem_append.mp hx with hx | hx
    · exact h.good x hx
    · exact .inl (gaps_sp hg x hx)
  · by_cases hn : g = []
    · subst hn
      simp [gaps] at z
      exact h.bef z
    · rw [hb hn] at z
      cases z
theorem Jn.tok {p : List A} {t : A} {q : List A} {bf : Nat} (h : Jn p t q bf) {x : A} {l : Nat} (hx : Gd x) (hs : ¬ (endW p = true ∧ isW x = true)) (hl : isW x = true → alnum l = true) : Jn (p ++ [x]) (t ++ x) (q ++ [x]) l := by
  refine ⟨by rw [List.flatten_append, h.flat]; simp, fun y hy => ?_, ?_, ?_, fun z => ?_⟩
  · rcases List.mem_append.mp hy with hy | hy
    · exact h.good y hy
    · simp at hy
      rw [hy]
      exact .inr hx
  · rw [sep_end, h.sep]
    cases e1 : endW p <;> cases e2 : isW x
    · rfl
    · rfl
    · rfl
    · exact absurd ⟨e1, e2⟩ hs
  · rw [fl_app, h.toks, fl_c hx.nosp]
    rfl
  · refine hl ?_
    unfold endW at z
    simpa using z
theorem gd_ends {x : A} (h : Gd x) : ∃ c l, atI x 0 = some c ∧ atI x (-1) = some l ∧ isW x = alnum c ∧ (isW x = true → alnum l = true) := by
  have hne : x ≠ [] := by
    rcases h.split with h | h
    · exact sym_ne (.inr h)
    · exact h.1
  obtain ⟨c, r, rfl⟩ : ∃ c r, x = c :: r := by
    cases x with
    | nil => exact absurd rfl hne
    | cons c r => exact ⟨c, r, rfl⟩
  have hm : atI (c :: r) (-1) = some ((c :: r).getLast hne) := by
    have h1 : (1 : Int) ≤ r.length + 1 := by omega
    have h2 : (-1 + ((r.length : Int) + 1)).toNat = r.length := by omega
    simp [atI, ixN, List.getLast_eq_getElem, h1, h2]
  refine ⟨c, _, by simp, hm, rfl, fun hw => ?_⟩
  have hmem := List.getLast_mem hne
  rcases h.split with h | h
  · unfold syms at h
    simp at h
    exfalso
    rcases h with ⟨rfl, rfl⟩ | ⟨rfl, rfl⟩ | ⟨rfl, rfl⟩ | ⟨rfl, rfl⟩ | ⟨rfl, rfl⟩ | ⟨rfl, rfl⟩ | ⟨rfl, rfl⟩ | ⟨rfl, rfl⟩ | ⟨rfl, rfl⟩ <;> cases hw
  · exact h.2 _ hmem
/-! the loop -/
def frJ (q : List A) (r : W) (st wd : Int) (t : A) (ix : W) (bf : A) (k : Nat) (g : Sl) : Rho := [Sl.val (rowW q), Sl.own r, Sl.val (.int st), Sl.val (.int wd), Sl.val (.str (S t)), Sl.own ix, Sl.val (.str (S bf)), Sl.val (.int k), g]
def j1 (nx : List W → FR) : Rho → ML.R Fl := mIf (mTest (mOp (gCmp (fun i j => decide (j < i))) (mVar 2) (mC (.int 0)))) (mSet [1] 8 (mOp gIx (mLst [1] [mC (.str (S [])), mC (.str (S [32])), mC (.str (S [10])), mC (.str (S [32, 32])), mC (.str (S [10, 32])), mC (.str (S [])), mC (.str (S [32])), mC (.str (S []))]) (mCall [1] [0] nx [mVar 1, mC (.int 8)]))) (mNext)
def j2 (nx : List W → FR) : Rho → ML.R Fl := mIf (mTest (mOp gEq (mVar 7) (mVar 3))) (mSet [1] 8 (mOp gAdd (mVar 8) (mOp gMulS (mOp gIx (mLst [1] [mC (.str (S [32])), mC (.str (S [10]))]) (mCall [1] [0] nx [mVar 1, mC (.int 2)])) (mOp gAdd (mC (.int 1)) (mCall [1] [0] nx [mVar 1, mC (.int 200)]))))) (mNext)
def j3 (nx mg : List W → FR) : Rho → ML.R Fl := mIf (mAnd (mTest (mOp gEq (mVar 8) (mC (.str (S []))))) (mTest (mCall [1] [] mg [mVar 6, mOp gIx (mOp gIx (mVar 0) (mVar 7)) (mC (.int 0))]))) (mSet [1] 8 (mOp gIx (mLst [1] [mC (.str (S [32])), mC (.str (S [10]))]) (mCall [1] [0] nx [mVar 1, mC (.int 2)]))) (mNext)
def j4 : Rho → ML.R Fl := mSeq (mDrop (mAppend 5 [1] (mCB gLen [mOp gAdd (mVar 4) (mVar 8)]))) (mSeq (mSet [1] 4 (mOp gAdd (mOp gAdd (mVar 4) (mVar 8)) (mOp gIx (mVar 0) (mVar 7)))) (mSet [1] 6 (mOp gIx (mOp gIx (mVar 0) (mVar 7)) (mNeg (mC (.int 1))))))
section
variable {nx mg : List W → FR} {q : List A} {r ix : W} {st wd : Int} {t bf : A} {k : Nat}
theorem bl_mem {g : A} (h : g ∈ ([[], [32], [10], [32, 32], [10, 32]] : List A)) : Bl g ∧ g.length ≤ 2 := by
  simp at h
  rcases h with rfl | rfl | rfl | rfl | rfl <;> exact ⟨by intro c hc; simp at hc <;> omega, by simp⟩
theorem j1_ok (HN : NextOk nx) (hr : IsR r) : ∃ g r', j1 nx (frJ q r st wd t ix bf k (Sl.val (.str (S [])))) = .ok .nx (frJ q r' st wd t ix bf k (Sl.val (.str (S g)))) ∧ Bl g ∧ g.length ≤ 2 ∧ IsR r' := by
  have l8 : (8 ≤ sizeLine) = True := by simp [line_is]
  by_cases c : 0 < st
  · obtain ⟨v, r1, e1, v0, v1, h1⟩ := HN hr (m := 8) (by omega)
    obtain ⟨g, hg, hm⟩ : ∃ g : A, atI [W.str (S []), W.str (S [32]), W.str (S [10]), W.str (S [32, 32]), W.str (S [10, 32]), W.str (S []), W.str (S [32]), W.str (S [])] v = some (.str (S g)) ∧ g ∈ ([[], [32], [10], [32, 32], [10, 32]] : List A) := by
      have hv : v = 0 ∨ v = 1 ∨ v = 2 ∨ v = 3 ∨ v = 4 ∨ v = 5 ∨ v = 6 ∨ v = 7 := by omega
      rcases hv with rfl | rfl | rfl | rfl | rfl | rfl | rfl | rfl <;> exact ⟨_, by simp; rfl, by simp⟩
    obtain ⟨b1, b2⟩ := bl_mem hm
    refine ⟨g, r1, ?_, b1, b2, h1⟩
    unfold j1 frJ
    simp -implicitDefEqProofs [ev_var, ev_own, c, l8, e1, hg]
  · refine ⟨[], r, ?_, (fun _ h => nomatch h), by simp, hr⟩
    unfold j1 frJ
    simp -implicitDefEqProofs [ev_var, ev_own, c]
theorem two_gap {v : Int} (v0 : 0 ≤ v) (v1 : v < 2) : ∃ c : Nat, (c = 32 ∨ c = 10) ∧ atI [W.str (S [32]), W.str (S [10])] v = some (.str (S [c])) := by
  have hv : v = 0 ∨ v = 1 := by omega
  rcases hv with rfl | rfl
  · exact ⟨32, .inl rfl, by simp⟩
  · exact ⟨10, .inr rfl, by simp⟩
theorem j2_ok (HN : NextOk nx) (hr : IsR r) {g : A} (hg : Bl g) (hl : g.length ≤ 2) : ∃ g' r', j2 nx (frJ q r st wd t ix bf k (Sl.val (.str (S g)))) = .ok .nx (frJ q r' st wd t ix bf k (Sl.val (.str (S g')))) ∧ Bl g' ∧ g'.length ≤ 210 ∧ IsR r' := by
  by_cases c : (k : Int) = wd
  · obtain ⟨v, r1, e1, v0, v1, h1⟩ := HN hr (m := 2) (by omega)
    obtain ⟨u, r2, e2, u0, u1, h2⟩ := HN h1 (m := 200) (by omega)
    obtain ⟨n, rfl⟩ := Int.eq_ofNat_of_zero_le u0
    obtain ⟨ch, hch, hget⟩ := two_gap v0 v1
    have hm : gMulS (.str (S [ch])) (.int (1 + (n : Int))) = some (.val, .str (S (List.replicate (1 + n) ch))) := by
      have := ev_mulSS (c := ch) (n := 1 + n) (by omega) (by omega)
      rwa [Int.natCast_add] at this
    refine ⟨g ++ List.replicate (1 + n) ch, r2, ?_, fun x hx => ?_, by simp; omega, h2⟩
    · unfold j2 frJ
      generalize hrep : List.replicate (1 + n) ch = rep at *
      have hrl : rep.length ≤ 201 := by rw [← hrep]; simp; omega
      simp -implicitDefEqProofs (disch := first | omega | (simp; done) | (simp <;> omega) | fail) [ev_var, ev_own, c, e1, e2, hget, hm, ev_addSS]
    · rcases List.mem_append.mp hx with hx | hx
      · exact hg x hx
      · rw [(List.mem_replicate.mp hx).2]
        exact hch
  · refine ⟨g, r, ?_, hg, by omega, hr⟩
    unfold j2 frJ
    simp -implicitDefEqProofs [ev_var, ev_own, c]
theorem j3_ok (HN : NextOk nx) (HM : ∀ a b : Nat, mg [.str (S [a]), .str (S [b])] = .ok false (.bl (alnum a && alnum b || decide ([a, b] ∈ [[58, 61], [91, 93]]))) []) (hr : IsR r) {g : A} (hg : Bl g) (hl : g.length ≤ 210) {x : A} {b c l : Nat} (hk : q[k]? = some x) (hx : atI x 0 = some c) (hxl : x.length ≤ 1000) :
    ∃ g' r', j3 nx mg (frJ q r st wd t ix [b] k (Sl.val (.str (S g)))) = .ok .nx (frJ q r' st wd t ix [b] k (Sl.val (.str (S g')))) ∧ Bl g' ∧ g'.length ≤ 210 ∧ IsR r' ∧ (g' = [] → ¬ (alnum b = true ∧ alnum c = true)) := by
  have hix := ev_ixR hk
  have hx0 : gIx (.str (S x)) (.int 0) = some (.val, .str (S [c])) := by
    rw [ev_ixSS (by omega), hx]
    rfl
  by_cases hn : g = []
  · subst hn
    by_cases hm : (alnum b && alnum c || decide ([b, c] ∈ [[58, 61], [91, 93]])) = true
    · obtain ⟨v, r1, e1, v0, v1, h1⟩ := HN hr (m := 2) (by omega)
      obtain ⟨ch, hch, hget⟩ := two_gap v0 v1
      refine ⟨[ch], r1, ?_, fun y hy => ?_, by simp, h1, (fun z => nomatch z)⟩
      · have HM' := HM b c
        rw [hm] at HM'
        unfold j3 frJ
        simp -implicitDefEqProofs [ev_var, ev_own, hix, hx0, HM', e1, hget]
      · simp at hy
        rw [hy]
        exact hch
    · refine ⟨[], r, ?_, hg, by simp, hr, fun _ z => hm (by rw [z.1, z.2]; rfl)⟩
      have HM' := HM b c
      rw [Bool.eq_false_iff.mpr hm] at HM'
      unfold j3 frJ
      simp -implicitDefEqProofs [ev_var, ev_own, hix, hx0, HM']
  · refine ⟨g, r, ?_, hg, hl, hr, fun z => absurd z hn⟩
    unfold j3 frJ
    simp -implicitDefEqProofs [ev_var, ev_own, hn]
theorem j4_ok {is : List W} {g x : A} {l : Nat} (hk : q[k]? = some x) (hx : atI x (-1) = some l) (hxl : x.length ≤ 1000) (hg : g.length ≤ 210) (ht : t.length ≤ 16000000) (hi : is.length ≤ 100000) : ∃ w, j4 (frJ q r st wd t (.lst is) bf k (Sl.val (.str (S g)))) = .ok .nx (frJ q r st wd (t ++ g ++ x) (.lst (is ++ [w])) [l] k (Sl.val (.str (S g)))) := by
  have hix := ev_ixR hk
  have hx0 : gIx (.str (S x)) (.int (-1)) = some (.val, .str (S [l])) := by
    rw [ev_ixSS (by omega), hx]
    rfl
  have hsz : is.length < sizeLine := by rw [line_is]; omega
  refine ⟨.int ((t ++ g).length : Int), ?_⟩
  unfold j4 frJ
  simp -implicitDefEqProofs (disch := first | omega | (simp; done) | (simp <;> omega) | fail) [ev_var, ev_own, hix, hx0, ev_addSS, ev_lenSS, hsz]
end
end K06

namespace K06
open PySem PySem.Spec PyProof.Rows L2 ML
theorem tl_take (q : List A) (k : Nat) (h : ∀ x ∈ q, x.length ≤ 20) : tl (q.take k) ≤ 20 * k := by
  have : ∀ (l : List A), (∀ x ∈ l, x.length ≤ 20) → tl l ≤ 20 * l.length := by
    intro l
    induction l with
    | nil => intro _; simp
    | cons x l ih =>
      intro hl
      have h1 := hl x (List.mem_cons_self ..)
      have h2 := ih fun y hy => hl y (List.mem_cons_of_mem _ hy)
      simp
      omega
  have h1 := this (q.take k) fun x hx => h x (List.mem_of_mem_take hx)
  have h2 : (q.take k).length ≤ k := by rw [List.length_take]; exact Nat.min_le_left ..
  omega
def jB (nx mg : List W → FR) : Rho → ML.R Fl := mSeq (mSet [1] 8 (mC (.str (S [])))) (mSeq (j1 nx) (mSeq (j2 nx) (mIf (mTest (mOp (gCmp (fun i j => decide (i < j))) (mVar 7) (mCB gLen [mVar 0]))) (mSeq (j3 nx mg) j4) (mSet [1] 4 (mOp gAdd (mVar 4) (mVar 8))))))
theorem joined_ok {nx mg : List W → FR} (HN : NextOk nx) (HM : ∀ a b : Nat, mg [.str (S [a]), .str (S [b])] = .ok false (.bl (alnum a && alnum b || decide ([a, b] ∈ [[58, 61], [91, 93]]))) []) {q : List A} {r : W} (hr : IsR r) (hq : q.length ≤ 30000) (hg : ∀ x ∈ q, Gd x ∧ x.length ≤ 20) :
    ∃ p ix r', fun__law_joined nx mg [rowW q, r] = .ok true (.lst [.str (S p.flatten), ix]) [r'] ∧ (∀ x ∈ p, Sp x ∨ Gd x) ∧ sepF false p = true ∧ fl p = q ∧ tl p ≤ 16000000 := by
  obtain ⟨st, r1, f1, _, _, h1⟩ := HN hr (m := 4) (by omega)
  obtain ⟨wd, r2, f2, _, _, h2⟩ := HN h1 (m := 300) (by omega)
  have e0 : gSet [1] 7 = fun w ρ => some (ρ.set 7 (.val w)) := gset_is (by simp)
  have hok : okR ((q.length : Int) + 1) = true := by
    unfold okR
    simp
    omega
  obtain ⟨ρ1, e1, k, t, is, bf, s7, s8, p, r3, rfl, hz, hk, h3, hJ, ht, hi⟩ := for_inv (i := 7) (g := jB nx mg)
    (ρ := [Sl.val (rowW q), Sl.own r2, Sl.val (.int st), Sl.val (.int wd), Sl.val (.str (S [])), Sl.own (.lst []), Sl.val (.str (S [32])), Sl.no, Sl.no])
    (P := fun zs ρ => ∃ (k : Nat) (t : A) (is : List W) (bf : Nat) (s7 s8 : Sl) (p : List A) (r : W), ρ = [Sl.val (rowW q), Sl.own r, Sl.val (.int st), Sl.val (.int wd), Sl.val (.str (S t)), Sl.own (.lst is), Sl.val (.str (S [bf])), s7, s8] ∧ zs = List.range' k zs.length ∧ k + zs.length = q.length + 1 ∧ IsR r ∧ Jn p t (q.take k) bf ∧ t.length ≤ 300 * k ∧ is.length ≤ k) (.inr trivial) (all2_rng (q.length + 1)) (fun a z zs' ρ hq2 ⟨k, t, is, bf, s7, s8, p, r, er, hz, hk, hr, hJ, ht, hi⟩ => by
      subst er
      obtain ⟨rfl, hz1⟩ := hq2
      rw [List.length_cons, List.range'_succ] at hz
      obtain ⟨rfl, hz2⟩ := List.cons.inj hz
      rw [List.length_cons] at hk
      obtain ⟨g1, r4, f3, b1, l1, h4⟩ := j1_ok (q := q) (st := st) (wd := wd) (t := t) (bf := [bf]) (ix := .lst is) (k := z) HN hr
      obtain ⟨g2, r5, f4, b2, l2, h5⟩ := j2_ok (q := q) (st := st) (wd := wd) (t := t) (bf := [bf]) (ix := .lst is) (k := z) HN h4 b1 l1
      have s1 : mSet [1] 8 (mC (.str (S []))) [Sl.val (rowW q), Sl.own r, Sl.val (.int st), Sl.val (.int wd), Sl.val (.str (S t)), Sl.own (.lst is), Sl.val (.str (S [bf])), Sl.val (.int z), s8] = .ok .nx (frJ q r st wd t (.lst is) [bf] z (Sl.val (.str (S [])))) := by
        unfold frJ
        simp
      have start : jB nx mg ([Sl.val (rowW q), Sl.own r, Sl.val (.int st), Sl.val (.int wd), Sl.val (.str (S t)), Sl.own (.lst is), Sl.val (.str (S [bf])), s7, s8].set 7 (.val (.int z))) = (mIf (mTest (mOp (gCmp (fun i j => decide (i < j))) (mVar 7) (mCB gLen [mVar 0]))) (mSeq (j3 nx mg) j4) (mSet [1] 4 (mOp gAdd (mVar 4) (mVar 8)))) (frJ q r5 st wd t (.lst is) [bf] z (Sl.val (.str (S g2)))) := by
        show jB nx mg [Sl.val (rowW q), Sl.own r, Sl.val (.int st), Sl.val (.int wd), Sl.val (.str (S t)), Sl.own (.lst is), Sl.val (.str (S [bf])), Sl.val (.int z), s8] = _
        unfold jB
        rw [ev_seq, s1, ev_tn, ev_seq, f3, ev_tn, ev_seq, f4, ev_tn]
      by_cases c : z < q.length
      · obtain ⟨x, hx⟩ : ∃ x, q[z]? = some x := ⟨q[z], List.getElem?_eq_getElem c⟩
        have hmem : x ∈ q := List.mem_of_getElem? hx
        obtain ⟨gx, lx⟩ := hg x hmem
        obtain ⟨c0, l0, i1, i2, i3, i4⟩ := gd_ends gx
        obtain ⟨g3, r6, f5, b3, l3, h6, n3⟩ := j3_ok (q := q) (st := st) (wd := wd) (t := t) (ix := .lst is) (k := z) HN HM h5 b2 l2 (b := bf) (l := 0) hx i1 (by omega)
        obtain ⟨w, f6⟩ := j4_ok (q := q) (r := r6) (st := st) (wd := wd) (t := t) (bf := [bf]) (k := z) (is := is) (g := g3) hx i2 (by omega) l3 (by omega) (by omega)
        obtain ⟨hJ2, hend⟩ := hJ.gap b3
        have htk : q.take (z + 1) = q.take z ++ [x] := by
          rw [List.take_succ, hx]
          rfl
        have hJ3 : Jn ((p ++ gaps g3) ++ [x]) (t ++ g3 ++ x) (q.take (z + 1)) l0 := by
          rw [htk]
          refine hJ2.tok gx (fun hh => ?_) i4
          by_cases hn : g3 = []
          · subst hn
            have e5 : endW p = true := by simpa [gaps] using hh.1
            exact n3 rfl ⟨hJ.bef e5, by rw [← i3]; exact hh.2⟩
          · rw [hend hn] at hh
            exact absurd hh.1 Bool.false_ne_true
        refine ⟨_, ?_, z + 1, t ++ g3 ++ x, is ++ [w], l0, Sl.val (.int z), Sl.val (.str (S g3)), _, r6, rfl, hz2, by omega, h6, hJ3, by simp; omega, by simp; omega⟩
        rw [start, ev_if]
        have tst : mTest (mOp (gCmp (fun i j => decide (i < j))) (mVar 7) (mCB gLen [mVar 0])) (frJ q r5 st wd t (.lst is) [bf] z (Sl.val (.str (S g2)))) = .ok true (frJ q r5 st wd t (.lst is) [bf] z (Sl.val (.str (S g2)))) := by
          unfold frJ
          simp -implicitDefEqProofs [ev_var, ev_own, ev_lenR, c]
        rw [tst, ev_bo, if_pos rfl, ev_seq, f5, ev_tn, f6]
        rfl
      · obtain ⟨hJ2, _⟩ := hJ.gap b2
        have hzq : z = q.length := by omega
        have htk : q.take (z + 1) = q.take z := by
          rw [List.take_of_length_le (by omega), List.take_of_length_le (by omega)]
        refine ⟨_, ?_, z + 1, t ++ g2, is, bf, Sl.val (.int z), Sl.val (.str (S g2)), _, r5, rfl, hz2, by omega, h5, by rw [htk]; exact hJ2, by simp; omega, by omega⟩
        rw [start, ev_if]
        have tst : mTest (mOp (gCmp (fun i j => decide (i < j))) (mVar 7) (mCB gLen [mVar 0])) (frJ q r5 st wd t (.lst is) [bf] z (Sl.val (.str (S g2)))) = .ok false (frJ q r5 st wd t (.lst is) [bf] z (Sl.val (.str (S g2)))) := by
          unfold frJ
          simp -implicitDefEqProofs [ev_var, ev_own, ev_lenR, c]
        rw [tst, ev_bo, if_neg Bool.false_ne_true]
        unfold frJ
        simp -implicitDefEqProofs (disch := first | omega | (simp; done) | (simp <;> omega) | fail) [ev_var, ev_own, ev_addSS]) ⟨0, [], [], 32, Sl.no, Sl.no, [], r2, rfl, by simp [List.range'], by simp, h2, ⟨rfl, (fun _ h => nomatch h), rfl, (by simp [fl]), (fun h => nomatch h)⟩, by simp, by simp⟩
  have hk2 : k = q.length + 1 := by simpa using hk
  have hJ' := hJ.toks
  rw [List.take_of_length_le (by omega)] at hJ'
  have htl : tl p = t.length := by rw [← fl_len, hJ.flat]
  refine ⟨p, .lst (is ++ [.int (t.length : Int)]), r3, ?_, hJ.good, hJ.sep, hJ', by rw [htl]; omega⟩
  rw [hJ.flat]
  have hsz : is.length < sizeLine := by rw [line_is]; omega
  have htn : ((q.length : Int) + 1).toNat = q.length + 1 := by omega
  unfold jB j1 j2 j3 j4 at e1
  try simp at e1
  unfold fun__law_joined body__law_joined
  simp -implicitDefEqProofs (disch := first | omega | (simp; done) | (simp <;> omega) | fail) [ev_var, ev_own, f1, f2, e0, hok, ev_lenR, htn, e1, ev_lenSS, hsz, l2]
end K06

namespace K06
open PySem PySem.Spec PyProof.Rows L2 ML
theorem code_ok {l : List Nat} (h : ∀ c ∈ l, c < 128) : PyData.strOk (S l) = true := by
  show (S l).cps.all _ = true
  rw [← Array.all_toList]
  refine List.all_eq_true.mpr fun c hc => ?_
  have := h c hc
  simp
  omega
theorem nm_code {x : A} (h : IsName x) : PyData.strOk (S x) = true := code_ok fun c hc => by
  rcases h.all c hc with h | h
  · simp [lowC] at h; omega
  · simp [digC] at h; omega
theorem lsd_s {d : Nat} {l : List Nat} (h : PyData.strOk (S l) = true) : Lsd (d + 1) (.str (S l)) (.str (S l)) := .inr (.inl ⟨_, rfl, rfl, h⟩)
theorem lsd_i {d : Nat} {i : Int} : Lsd (d + 1) (.int i) (.int i) := .inl ⟨i, rfl, rfl⟩
theorem lsd_t {d : Nat} {ws : List W} (hl : ws.length ≤ 1000) (h : All2 (Lsd d) ws ws) : Lsd (d + 1) (.tup ws) (.tup ws) := .inr (.inr ⟨ws, ws, .inl rfl, rfl, hl, h⟩)
theorem lsd_block : ∀ (d : Nat) {b : W} {p : List A}, Wr d b p → Lsd (2 * d + 2) b b
  | 0, _, _, h => h.elim
  | d + 1, b, p, h => by
    have ih : ∀ {b : W} {p : List A}, Wr d b p → Lsd (2 * d + 3) b b := fun h => (lsd_block d h).mono
    have ih2 : ∀ {b : W} {p : List A}, Wr d b p → Lsd (2 * d + 2) b b := fun h => lsd_block d h
    have h0 : WrS (Wr d) b p := h
    have w : ∀ {l : List Nat}, l.all (fun c => decide (c < 128)) = true → Lsd (2 * d + 3) (.str (S l)) (.str (S l)) := fun h => lsd_s (code_ok fun c hc => by simpa using List.all_eq_true.mp h c hc)
    have n : ∀ {x : A}, IsName x → Lsd (2 * d + 3) (.str (S x)) (.str (S x)) := fun h => lsd_s (nm_code h)
    show Lsd (2 * d + 3 + 1) b b
    cases h0 with
    | skip => exact lsd_t (by simp) (.cons (w (by decide)) .nil)
    | quit => exact lsd_t (by simp) (.cons (w (by decide)) .nil)
    | hole => exact lsd_t (by simp) (.cons (w (by decide)) .nil)
    | num k hk => exact lsd_t (by simp) (.cons (w (by decide)) (.cons lsd_i .nil))
    | get x hx => exact lsd_t (by simp) (.cons (w (by decide)) (.cons (n hx) .nil))
    | call x bs ps hx hb h1 =>
      have : All2 (Lsd (2 * d + 2)) bs bs := by
        clear h hb
        induction h1 with
        | nil => exact .nil
        | cons h _ ihl => exact .cons (ih2 h) ihl
      exact lsd_t (by simp) (.cons (w (by decide)) (.cons (n hx) (.cons (lsd_t (by omega) this) .nil)))
    | set x b p hx h1 => exact lsd_t (by simp) (.cons (w (by decide)) (.cons (n hx) (.cons (ih h1) .nil)))
    | seq b c p q h1 h2 => exact lsd_t (by simp) (.cons (w (by decide)) (.cons (ih h1) (.cons (ih h2) .nil)))
    | new x k b p hx hk h1 => exact lsd_t (by simp) (.cons (w (by decide)) (.cons (n hx) (.cons lsd_i (.cons (ih h1) .nil))))
    | lett x ms b c p q hx hms hm h1 h2 =>
      have hp : ∀ m ∈ ms, Lsd (2 * d + 2) (prmW m) (prmW m) := fun m hm1 => by
        refine lsd_t (d := 2 * d + 1) (by simp) (.cons (lsd_s (nm_code (hm m hm1))) (.cons (lsd_s (code_ok ?_)) .nil))
        cases m.2 <;> decide
      have : All2 (Lsd (2 * d + 2)) (ms.map prmW) (ms.map prmW) := All2.same fun w hw => by
        obtain ⟨m, hm1, rfl⟩ := List.mem_map.mp hw
        exact hp m hm1
      exact lsd_t (by simp) (.cons (w (by decide)) (.cons (n hx) (.cons (lsd_t (by simp; omega) this) (.cons (ih h1) (.cons (ih h2) .nil)))))
    | iff a b c p q r h1 h2 h3 => exact lsd_t (by simp) (.cons (w (by decide)) (.cons (ih h1) (.cons (ih h2) (.cons (ih h3) .nil))))
    | loop a b p q h1 h2 => exact lsd_t (by simp) (.cons (w (by decide)) (.cons (ih h1) (.cons (ih h2) .nil)))
    | op k a b p q hk h1 h2 =>
      have hs : Lsd (2 * d + 3) (.str (S (sgw k))) (.str (S (sgw k))) := by rcases sgw_ne hk with rfl | rfl | rfl <;> exact w (by decide)
      exact lsd_t (by simp) (.cons hs (.cons (ih h1) (.cons (ih h2) .nil)))
theorem wb_step {fz tx : List W → FR} {v b : W} {t : A} (h1 : fz [v] = .ok false b []) (h2 : tx [b] = .ok false (.str (S t)) []) : fun_write_block fz tx [v] = .ok false (.str (S t)) [] := by
  unfold fun_write_block body_write_block
  simp -implicitDefEqProofs [ev_var, ev_own, h1, h2]
theorem rd_step {rb : List W → FR} {b : W} {t : A} (h1 : rb [.str (S t)] = .ok false b []) : fun__law_read rb [.str (S t)] = .ok false b [] := by
  unfold fun__law_read body__law_read
  simp -implicitDefEqProofs [ev_var, ev_own, h1]
theorem ev_callF {I J : List Nat} (fm : List W → FR) (fs : List (Rho → ML.R (Md × W))) (fl : Rho → ML.R (Md × W)) (ρ : Rho) : mCallF I J fm fs fl ρ = (mHold fs ρ).bind fun bs ρ1 => (fl ρ1).bind fun b ρ2 => match b with
  | (.fre, w) => finFr I J fm ρ2.length (ρ2 ++ [.own w]) (bs ++ [(.bor ρ2.length, w)])
  | _ => .stk := rfl
theorem mul_row {x : A} {n : Nat} (h : n ≤ 1000) : gMul (rowW [x]) (.int (n : Int)) = some (.fre, rowW (List.replicate n x)) := by
  have e : gMul (rowW [x]) (.int (n : Int)) = if -(2 ^ 63) ≤ (n : Int) ∧ (n : Int) < 2 ^ 63 ∧ [W.str (S x)].length * (n : Int).toNat ≤ sizeLine then some (.fre, .lst (List.replicate (n : Int).toNat [W.str (S x)]).flatten) else none := rfl
  have e2 : ∀ n : Nat, (List.replicate n [W.str (S x)]).flatten = (List.replicate n x).map fun x => W.str (S x) := by
    intro n
    induction n with
    | zero => rfl
    | succ n ih => rw [List.replicate_succ, List.replicate_succ, List.flatten_cons, ih]; rfl
  rw [e, if_pos ⟨by omega, by omega, by rw [line_is]; simp; omega⟩]
  show some (Md.fre, W.lst (List.replicate n [W.str (S x)]).flatten) = _
  rw [e2]
  rfl
def gtB (x : A) : Bool := decide (x ∈ syms) || decide (x ∈ resv)
def GdL (x : A) : Prop := Gd x ∧ x.length ≤ 20
theorem gT_ok {x : A} (h : gtB x = true) : GdL x := by
  have hs : ∀ y ∈ syms, y.length ≤ 20 := by decide
  have hr : ∀ y ∈ resv, y.length ≤ 20 := by decide
  unfold gtB at h
  simp at h
  rcases h with h | h
  · exact ⟨.sym h, hs x h⟩
  · exact ⟨.res h, hr x h⟩
def GsL (q : List A) : Prop := ∀ x ∈ q, GdL x
theorem GsL.nil : GsL [] := fun _ h => nomatch h
theorem GsL.cons {x : A} {q : List A} (h : GdL x) (t : GsL q) : GsL (x :: q) := fun y hy => by
  cases hy with
  | head => exact h
  | tail _ hy => exact t y hy
theorem GsL.app {p q : List A} (h : GsL p) (t : GsL q) : GsL (p ++ q) := fun y hy => (List.mem_append.mp hy).elim (h y) (t y)
theorem nameL {x : A} (h : IsName x) : GdL x := ⟨.name h, by have := h.len; omega⟩
theorem numL {n : Nat} (h : n < 1000) : GdL (TL.numL n) := ⟨.num h, by have := (num_facts n h).2.2.2.2.2.2.2; omega⟩
theorem lit {x : A} {q : List A} (h : gtB x = true) (t : GsL q) : GsL (x :: q) := .cons (gT_ok h) t
theorem GsL.tlc : ∀ {qs : List (List A)}, (∀ q ∈ qs, GsL q) → GsL (tlc qs)
  | [], _ => .nil
  | q :: qs, h => lit (by decide) ((h q (List.mem_cons_self ..)).app (GsL.tlc fun x hx => h x (List.mem_cons_of_mem _ hx)))
theorem GsL.comm {qs : List (List A)} (h : ∀ q ∈ qs, GsL q) : GsL (comm qs) := by
  cases qs with
  | nil => exact .nil
  | cons q qs => exact (h q (List.mem_cons_self ..)).app (GsL.tlc fun x hx => h x (List.mem_cons_of_mem _ hx))
theorem fq_gd {R : W → List A → Prop} (hR : ∀ b p, R b p → GsL p) : ∀ {k : Nat} {b : W} {p : List A}, FqT R k b p → GsL p
  | _, _, _, .one h => hR _ _ h
  | _, _, _, .seq h t => (hR _ _ h).app (lit (by decide) (fq_gd hR t))
theorem all2_mem {R : W → List A → Prop} : ∀ {bs : List W} {qs : List (List A)}, All2 R bs qs → ∀ q ∈ qs, ∃ b, R b q
  | _, _, .nil, _, h => nomatch h
  | _, _, .cons h t, q, hq => by
    cases hq with
    | head => exact ⟨_, h⟩
    | tail _ hq => exact all2_mem t q hq
theorem fi_gd : ∀ (n : Nat) (b : W) (p : List A), Fi n b p → GsL p
  | 0, _, _, h => h.elim
  | n + 1, b, p, h => by
    have h0 : FrS (Fi n) (FqT (Fi n) 100) b p := h
    have hi := fi_gd n
    have hq : ∀ {b : W} {p : List A}, FqT (Fi n) 100 b p → GsL p := fun h => fq_gd hi h
    cases h0 with
    | skip => exact lit (by decide) .nil
    | quit => exact lit (by decide) .nil
    | hole => exact lit (by decide) .nil
    | num k hk => exact .cons (numL hk) .nil
    | get x hn => exact .cons (nameL hn) .nil
    | call x bs ps hn hb w => exact .cons (nameL hn) (lit (by decide) ((GsL.comm fun q hq2 => by
        obtain ⟨b, hb⟩ := all2_mem w q hq2
        exact hq hb).app (lit (by decide) .nil)))
    | set x b p hn w => exact .cons (nameL hn) (lit (by decide) (hi _ _ w))
    | new x k b p hn hk w => exact lit (by decide) (.cons (nameL hn) (lit (by decide) (.cons (numL hk) (lit (by decide) ((hq w).app (lit (by decide) .nil))))))
    | lett x ms b c p q hn hms hm h1 h2 => exact lit (by decide) (.cons (nameL hn) (lit (by decide) ((GsL.comm fun q hq2 => by
        obtain ⟨m, hm1, rfl⟩ := List.mem_map.mp hq2
        refine .cons (nameL (hm m hm1)) (lit ?_ .nil)
        cases m.2 <;> decide).app (lit (by decide) (lit (by decide) ((hq h1).app (lit (by decide) ((hq h2).app (lit (by decide) .nil)))))))))
    | iff a b c p q r h1 h2 h3 => exact lit (by decide) ((hq h1).app (lit (by decide) ((hq h2).app (lit (by decide) ((hq h3).app (lit (by decide) .nil))))))
    | loop a b p q h1 h2 => exact lit (by decide) ((hq h1).app (lit (by decide) ((hq h2).app (lit (by decide) .nil))))
    | op k a b p q hk h1 h2 =>
      have hs : gtB (sgn k) = true := by rcases sgw_ne hk with rfl | rfl | rfl <;> decide
      exact lit (by decide) ((hq h1).app (lit hs ((hq h2).app (lit (by decide) .nil))))
    | par b p w => exact lit (by decide) ((hq w).app (lit (by decide) .nil))
theorem rep_snoc (x : A) : ∀ n : Nat, List.replicate n x ++ [x] = x :: List.replicate n x
  | 0 => rfl
  | n + 1 => by
    show x :: (List.replicate n x ++ [x]) = _
    rw [rep_snoc x n]
    rfl
theorem fq_wrap {b : W} : ∀ (n m : Nat) (q : List A), Fq m b q → Fq (m + n) b (List.replicate n [40] ++ q ++ List.replicate n [41])
  | 0, m, q, h => by simpa using h
  | n + 1, m, q, h => by
    have h1 : Fi (m + 1) b ([40] :: (q ++ [[41]])) := FrS.par b q h
    have h2 : Fq (m + 1) b ([40] :: (q ++ [[41]])) := FqT.one (k := 99) h1
    have ih := fq_wrap n (m + 1) _ h2
    have e : List.replicate (n + 1) [40] ++ q ++ List.replicate (n + 1) [41] = List.replicate n [40] ++ ([40] :: (q ++ [[41]])) ++ List.replicate n [41] := by
      rw [List.replicate_succ, List.replicate_succ, ← rep_snoc]
      simp
    rw [e, show m + (n + 1) = m + 1 + n by omega]
    exact ih
theorem wr_len {d : Nat} {b : W} {p : List A} (h : Wr d b p) : p.length ≤ tl p := by
  have hg := (ok_block d h).1
  have : ∀ l : List A, (∀ x ∈ l, x = [32] ∨ Gd x) → l.length ≤ tl l := by
    intro l
    induction l with
    | nil => intro _; simp
    | cons x l ih =>
      intro hl
      have h1 := ih fun y hy => hl y (List.mem_cons_of_mem _ hy)
      have hne : x ≠ [] := by
        rcases hl x (List.mem_cons_self ..) with rfl | h
        · simp
        · rcases h.split with h | h
          · exact sym_ne (.inr h)
          · exact h.1
      have := List.length_pos_iff.mpr hne
      simp
      omega
  exact this p hg
/-- a text from which the block b is read, with n levels -/
structure Txo (n : Nat) (b : W) (t : A) : Prop where
  ex : ∃ p, t = p.flatten ∧ (∀ x ∈ p, Sp x ∨ Gd x) ∧ sepF false p = true ∧ Fq n b (fl p) ∧ tl p ≤ 16000000
theorem free_step {rd sq jn : List W → FR} {sc : W} {first : Nat} (HR : ∃ r, rd [sc, .int first] = .ok true r [] ∧ IsR r) {d : Nat} (hd0 : d ≤ 100) (HS : SeqOk sq d)
    (HJ : ∀ {q : List A} {r : W}, IsR r → q.length ≤ 30000 → (∀ x ∈ q, Gd x ∧ x.length ≤ 20) → ∃ p ix r', jn [rowW q, r] = .ok true (.lst [.str (S p.flatten), ix]) [r'] ∧ (∀ x ∈ p, Sp x ∨ Gd x) ∧ sepF false p = true ∧ fl p = q ∧ tl p ≤ 16000000)
    {b : W} {p : List A} {e n : Nat} (hw : Wr d b p) (hl : tl p ≤ 20000) (he : e ≤ 100) (hn : n ≤ 100) :
    ∃ t ix, fun__law_free_text rd sq jn [sc, .int first, .lst [b, .int e, .int n]] = .ok true (.lst [.str (S t), ix]) [] ∧ Txo (d + e + n) b t := by
  obtain ⟨r, f0, h0⟩ := HR
  have hpl := wr_len hw
  obtain ⟨fr, r1, e1, q, f1, h1, h2, h3, h4⟩ := HS (e := e) hw h0 (by omega)
  have hq : Fq (d + e) b q := by
    have h5 : FqT (Fi (lev b d + (e - e1))) 100 b q := h4.up hd0
    exact h5.imp fun _ _ h => h.mono (by have := lev_le b d; omega)
  have hq2 := fq_wrap n (d + e) q hq
  have hgd : GsL (List.replicate n [40] ++ q ++ List.replicate n [41]) := fq_gd (fi_gd _) hq2
  obtain ⟨t, ix, r2, f2, g1, g2, g3, g4⟩ := HJ h1 (q := List.replicate n [40] ++ q ++ List.replicate n [41]) (by simp; omega) hgd
  refine ⟨t.flatten, ix, ?_, ⟨t, rfl, g1, g2, by rw [g3]; exact hq2, g4⟩⟩
  have m1 := mul_row (x := [40]) (n := n) (by omega)
  have m2 := mul_row (x := [41]) (n := n) (by omega)
  have a1 : gAdd (rowW (List.replicate n [40])) (rowW q) = some (.fre, rowW (List.replicate n [40] ++ q)) := ev_addR (by simp; omega)
  have a2 : gAdd (rowW (List.replicate n [40] ++ q)) (rowW (List.replicate n [41])) = some (.fre, rowW (List.replicate n [40] ++ q ++ List.replicate n [41])) := ev_addR (by simp; omega)
  generalize List.replicate n [40] ++ q ++ List.replicate n [41] = q3 at *
  generalize List.replicate n [40] ++ q = q4 at *
  generalize rowW (List.replicate n [40]) = q5 at *
  generalize rowW (List.replicate n [41]) = q6 at *
  unfold exW at f1
  unfold fun__law_free_text body__law_free_text
  cases fr <;> simp -implicitDefEqProofs [ev_var, ev_own, f0, ev_callF, finFr, f1, rw1, m1, m2, a1, a2, f2]
end K06

namespace K06
open PySem PySem.Spec PyProof.Rows L2 ML
theorem built_step {rd nx nm an ly : List W → FR} {sc : W} (HN : NextOk nx) (HR : ∃ r, rd [sc, .int 0] = .ok true r [] ∧ IsR r)
    (HM : ∀ {r : W} (k : Nat), IsR r → 1 ≤ k → k ≤ 100 → ∃ ns r', nm [r, .int k] = .ok true ns [r'] ∧ NmL ns ∧ IsR r')
    (HA : ∀ {r ns : W} {b : Nat}, IsR r → NmL ns → 1 ≤ b → b ≤ 34 → ∃ v r' p, an [r, .int b, .int 3, ns] = .ok false v [r'] ∧ Wr 13 v p ∧ tl p ≤ 200 * b ∧ IsR r')
    (HL : ∀ {r ns : W} {b many : Nat}, IsR r → NmL ns → 1 ≤ b → b ≤ 34 → many ≤ 12 → ∃ v r' p, ly [r, .int b, .int many, ns] = .ok false v [r'] ∧ Wr 25 v p ∧ tl p ≤ 20000 ∧ IsR r') :
    ∃ (v : W) (e n d : Nat) (p : List A), fun__law_built rd nx nm an ly [sc] = .ok true (.lst [v, .int e, .int n]) [] ∧ Wr d v p ∧ tl p ≤ 20000 ∧ e ≤ 10 ∧ n ≤ 40 ∧ d + e + n ≤ 46 ∧ d ≤ 25 := by
  have l6 : (6 ≤ sizeLine) = True := by simp [line_is]
  obtain ⟨r, e0, h0⟩ := HR
  obtain ⟨u1, r1, e1, a1, b1, h1⟩ := HN h0 (m := 7) (by omega)
  obtain ⟨n1, rfl⟩ := Int.eq_ofNat_of_zero_le a1
  obtain ⟨ns, r2, e2, hn, h2⟩ := HM (1 + n1) h1 (by omega) (by omega)
  rw [Int.natCast_add] at e2
  have e2' : nm [r1, .int (1 + (n1 : Int))] = .ok true ns [r2] := e2
  obtain ⟨u3, r3, e3, a3, b3, h3⟩ := HN h2 (m := 6) (by omega)
  have hns : ∃ l : List A, ns = .lst (l.map fun x => .str (S x)) := ⟨hn.choose, hn.choose_spec.1⟩
  obtain ⟨nl, hnl⟩ := hns
  by_cases c : u3 = 0
  · subst c
    obtain ⟨u4, r4, e4, a4, b4, h4⟩ := HN h3 (m := 4) (by omega)
    obtain ⟨n4, rfl⟩ := Int.eq_ofNat_of_zero_le a4
    obtain ⟨v, r5, p, e5, hw, ht, h5⟩ := HA (b := 1 + n4) h4 hn (by omega) (by omega)
    rw [Int.natCast_add] at e5
    have e5' : an [r4, .int (1 + (n4 : Int)), .int 3, ns] = .ok false v [r5] := e5
    obtain ⟨u6, r6, e6, a6, b6, h6⟩ := HN h5 (m := 31) (by omega)
    obtain ⟨n6, rfl⟩ := Int.eq_ofNat_of_zero_le a6
    refine ⟨v, 3, n6, 13, p, ?_, hw, by omega, by omega, by omega, by omega, by omega⟩
    unfold fun__law_built body__law_built
    simp -implicitDefEqProofs [ev_var, ev_own, e0, e1, e2', e3, e4, e5', e6, l3]
  · obtain ⟨u4, r4, e4, a4, b4, h4⟩ := HN h3 (m := 12) (by omega)
    obtain ⟨n4, rfl⟩ := Int.eq_ofNat_of_zero_le a4
    obtain ⟨u5, r5, e5, a5, b5, h5⟩ := HN h4 (m := 6) (by omega)
    have key : ∃ many : Nat, many ≤ 12 ∧ atI [W.int 0, W.int 0, W.int 0, W.int 1, W.int 2, W.int (1 + (n4 : Int))] u5 = some (.int many) := by
      have hu : u5 = 0 ∨ u5 = 1 ∨ u5 = 2 ∨ u5 = 3 ∨ u5 = 4 ∨ u5 = 5 := by omega
      rcases hu with rfl | rfl | rfl | rfl | rfl | rfl
      · exact ⟨0, by omega, by simp⟩
      · exact ⟨0, by omega, by simp⟩
      · exact ⟨0, by omega, by simp⟩
      · exact ⟨1, by omega, by simp⟩
      · exact ⟨2, by omega, by simp⟩
      · exact ⟨1 + n4, by omega, by simp⟩
    obtain ⟨many, hm, hmany⟩ := key
    obtain ⟨u6, r6, e6, a6, b6, h6⟩ := HN h5 (m := 24) (by omega)
    obtain ⟨n6, rfl⟩ := Int.eq_ofNat_of_zero_le a6
    obtain ⟨v, r7, p, e7, hw, ht, h7⟩ := HL (b := 1 + n6) (many := many) h6 hn (by omega) (by omega) hm
    rw [Int.natCast_add] at e7
    have e7' : ly [r6, .int (1 + (n6 : Int)), .int many, ns] = .ok false v [r7] := e7
    obtain ⟨u8, r8, e8, a8, b8, h8⟩ := HN h7 (m := 9) (by omega)
    obtain ⟨n8, rfl⟩ := Int.eq_ofNat_of_zero_le a8
    obtain ⟨u9, r9, e9, a9, b9, h9⟩ := HN h8 (m := 3) (by omega)
    obtain ⟨n9, rfl⟩ := Int.eq_ofNat_of_zero_le a9
    refine ⟨v, n8, n9, 25, p, ?_, hw, ht, by omega, by omega, by omega, by omega⟩
    unfold fun__law_built body__law_built
    simp -implicitDefEqProofs [ev_var, ev_own, e0, e1, e2', e3, c, e4, e5, hmany, e6, e7', e8, e9, l3, l6]
theorem law_step {bu ft rd sa wb lt : List W → FR} {sc b x1 x2 : W} {e n : Int} {t1 t2 t : A} (h1 : bu [sc] = .ok true (.lst [b, .int e, .int n]) []) (h2 : ft [sc, .int 3, .lst [b, .int e, .int n]] = .ok true (.lst [.str (S t1), x1]) []) (h3 : ft [sc, .int 6, .lst [b, .int 2, .int 0]] = .ok true (.lst [.str (S t2), x2]) [])
    (h4 : rd [.str (S t1)] = .ok false b []) (h5 : rd [.str (S t2)] = .ok false b []) (h6 : sa [b, b] = .ok false (.bl true) []) (h7 : wb [b] = .ok false (.str (S t)) []) (h8 : lt [b] = .ok false (.str (S t)) []) (h9 : rd [.str (S t)] = .ok false b []) : fun_law bu ft rd sa wb lt [sc] = .ok false (.bl true) [] := by
  have l3' : (3 ≤ sizeLine) = True := l3
  unfold fun_law body_law
  simp -implicitDefEqProofs [ev_var, ev_own, l3', h1, h2, h3, h4, h5, h6, h7, h8, h9, gIsi, tyN, isB]
/-! ### the law's mirror -/
noncomputable def wbF : List W → FR := fun_write_block (frF 80) (txF 37)
noncomputable def rdF : List W → FR := fun__law_read (fun_read_block (fun_tokens fun_piece_at (fun_kind_of_piece fun_is_name fun_is_number)) (fun_enclosed (sqF 46) fun_passed))
def lyF : List W → FR := fun__law_layered (anF 13) fun__law_next (fun__law_around fun__law_next (fun__law_any_leaf fun__law_next (fun__law_number fun__law_next)) (fun__law_number fun__law_next) (fun__law_parameters fun__law_next))
def rrF : List W → FR := fun__law_reader fun__law_cell fun__law_digits
def buF : List W → FR := fun__law_built rrF fun__law_next (fun__law_names (fun__law_name fun__law_next fun__law_reserved)) (anF 13) lyF
def ftF : List W → FR := fun__law_free_text rrF (drS 50).1 (fun__law_joined fun__law_next fun__law_merging)
noncomputable def lawF : List W → FR := fun_law buF ftF rdF (saF 80) wbF (ltF 37)
theorem rr_ok (ns : List Int) (first : Nat) : ∃ r, rrF [.frl (ns.map W.int), .int first] = .ok true r [] ∧ IsR r := by
  refine reader_step (fun k => cell_ok ns k) (fun c => ?_) first
  obtain ⟨ds, e, h1, _⟩ := digits_ok c (List.replicate 70 5040) (by simp) (fun z hz => by
    rw [List.mem_replicate] at hz
    omega)
  exact ⟨ds, e, by simpa using h1⟩
theorem bu_ok (ns : List Int) : ∃ (v : W) (e n d : Nat) (p : List A), buF [.frl (ns.map W.int)] = .ok true (.lst [v, .int e, .int n]) [] ∧ Wr d v p ∧ tl p ≤ 20000 ∧ e ≤ 10 ∧ n ≤ 40 ∧ d + e + n ≤ 46 ∧ d ≤ 25 := by
  refine built_step the_next (rr_ok ns 0) (fun k hr h1 h2 => names_ok hr k h1 h2) (fun hr hn h1 h2 => any_ok 12 hr hn h1 h2 (by omega)) (fun hr hn h1 h2 h3 => ?_)
  exact lay_ok the_next hn (fun hr h1 h2 => any_ok 12 hr hn h1 h2 (by omega)) (fun hr h1 h2 hw => around_ok the_next the_leaf the_num the_prm hr hn h1 h2 hw) hr h1 h2 h3
theorem ft_ok (ns : List Int) (first : Nat) {b : W} {p : List A} {d e n : Nat} (hd1 : d ≤ 25) (hw : Wr d b p) (hl : tl p ≤ 20000) (he : e ≤ 100) (hn : n ≤ 100) :
    ∃ t ix, ftF [.frl (ns.map W.int), .int first, .lst [b, .int e, .int n]] = .ok true (.lst [.str (S t), ix]) [] ∧ Txo (d + e + n) b t :=
  free_step (rr_ok ns first) (by omega) ((dr_ok 50 (by omega)).1 d (by omega)) (fun hr h1 h2 => joined_ok the_next merging_ok hr h1 h2) hw hl he hn
theorem rd_txo {n : Nat} {b : W} {t : A} (hn : n ≤ 46) (h : Txo n b t) : rdF [.str (S t)] = .ok false b [] := by
  obtain ⟨p, rfl, h1, h2, h3, h4⟩ := h.ex
  exact rd_step (read_free hn h3 h1 h2 h4)
theorem law_is : ∀ ns : List Int, ns.length ≤ 63 → lawF [.frl (ns.map W.int)] = .ok false (.bl true) [] := by
  intro ns _
  obtain ⟨b, e, n, d, p, f1, hw, hl, he, hn, hs, hd1⟩ := bu_ok ns
  obtain ⟨t1, x1, f2, o1⟩ := ft_ok ns 3 hd1 hw hl (e := e) (n := n) (by omega) (by omega)
  obtain ⟨t2, x2, f3, o2⟩ := ft_ok ns 6 hd1 hw hl (e := 2) (n := 0) (by omega) (by omega)
  have hL : Lsd 80 b b := (lsd_block d hw).up (by omega)
  have hw37 : Wr 37 b p := hw.mono (by omega)
  exact law_step f1 f2 f3 (rd_txo hs o1) (rd_txo (by omega) o2) (same_ok 80 hL) (wb_step (frozen_ok 80 hL) (tx_ok 37 hw37 (by omega))) (lt_ok 37 hw37 (by omega)) (rd_step (read_ok (by omega) (by omega) hw (by omega)))
end K06

namespace K06
open PySem PySem.Spec PyProof.Rows L2 ML
/-! ### the defs tied -/
section
variable {P : Program} {w : World} {K : PySem.W.Frag} {mg : Str → Option Value} {base : Heap} {ct : Str → Addr}
theorem stk_text_of (T : Txt w K mg) : Def P w K mg base ct 1 "text_of" ["block"] [] (fun _ => .stk) :=
  (def_mk (N := ["block", "word", "texts", "part"]) (g := mStk) T.s_text_of sc_text_of (by decide) (fun _ _ _ _ _ _ us hl => match us, hl with | [_], _ => rfl) fun f cdv A outer s H E Y hr hct tk => psms_never).congr fun _ _ => .inl rfl
theorem stk__law_text (T : Txt w K mg) : Def P w K mg base ct 1 "_law_text" ["_law_node"] [] (fun _ => .stk) :=
  (def_mk (N := ["_law_node", "_law_word", "_law_texts", "_law_sign", "_law_part"]) (g := mStk) T.s__law_text sc__law_text (by decide) (fun _ _ _ _ _ _ us hl => match us, hl with | [_], _ => rfl) fun f cdv A outer s H E Y hr hct tk => psms_never).congr fun _ _ => .inl rfl
theorem stk_frozen (T : Txt w K mg) : Def P w K mg base ct 1 "frozen" ["value"] [] (fun _ => .stk) :=
  (def_mk (N := ["value", "parts", "part"]) (g := mStk) T.s_frozen sc_frozen (by decide) (fun _ _ _ _ _ _ us hl => match us, hl with | [_], _ => rfl) fun f cdv A outer s H E Y hr hct tk => psms_never).congr fun _ _ => .inl rfl
theorem stk__law_same (T : Txt w K mg) : Def P w K mg base ct 1 "_law_same" ["_law_actual", "_law_due"] [] (fun _ => .stk) :=
  (def_mk (N := ["_law_actual", "_law_due", "_law_k"]) (g := mStk) T.s__law_same sc__law_same (by decide) (fun _ _ _ _ _ _ us hl => match us, hl with | [_, _], _ => rfl) fun f cdv A outer s H E Y hr hct tk => psms_never).congr fun _ _ => .inl rfl
theorem stk_item_at (T : Txt w K mg) : Def P w K mg base ct 1 "item_at" ["row", "at"] [] (fun _ => .stk) :=
  (def_mk (N := ["row", "at", "kind", "form"]) (g := mStk) T.s_item_at sc_item_at (by decide) (fun _ _ _ _ _ _ us hl => match us, hl with | [_, _], _ => rfl) fun f cdv A outer s H E Y hr hct tk => psms_never).congr fun _ _ => .inl rfl
theorem stk__law_any (T : Txt w K mg) : Def P w K mg base ct 1 "_law_any" ["_law_reader_here", "_law_budget", "_law_depth", "_law_names_here"] [0] (fun _ => .stk) :=
  (def_mk (N := ["_law_reader_here", "_law_budget", "_law_depth", "_law_names_here", "_law_name_here", "_law_pick", "_law_part", "_law_unary", "_law_many", "_law_sizes", "_law_parts", "_law_size"]) (g := mStk) T.s__law_any sc__law_any (by decide) (fun _ _ _ _ _ _ us hl => match us, hl with | [_, _, _, _], _ => rfl) fun f cdv A outer s H E Y hr hct tk => psms_never).congr fun _ _ => .inl rfl
theorem stk__law_sequence (T : Txt w K mg) : Def P w K mg base ct 1 "_law_sequence" ["_law_node", "_law_reader_here", "_law_extra"] [1, 2] (fun _ => .stk) :=
  (def_mk (N := ["_law_node", "_law_reader_here", "_law_extra", "_law_row_here"]) (g := mStk) T.s__law_sequence sc__law_sequence (by decide) (fun _ _ _ _ _ _ us hl => match us, hl with | [_, _, _], _ => rfl) fun f cdv A outer s H E Y hr hct tk => psms_never).congr fun _ _ => .inl rfl
theorem stk__law_row (T : Txt w K mg) : Def P w K mg base ct 1 "_law_row" ["_law_node", "_law_reader_here", "_law_extra"] [1, 2] (fun _ => .stk) :=
  (def_mk (N := ["_law_node", "_law_reader_here", "_law_extra", "_law_word", "_law_head_here", "_law_body", "_law_rows", "_law_sign", "_law_part", "_law_pair"]) (g := mStk) T.s__law_row sc__law_row (by decide) (fun _ _ _ _ _ _ us hl => match us, hl with | [_, _, _], _ => rfl) fun f cdv A outer s H E Y hr hct tk => psms_never).congr fun _ _ => .inl rfl
theorem lv_text (T : Txt w K mg) : ∀ d, Def P w K mg base ct (2 * d + 1) "text_of" ["block"] [] (txF d)
  | 0 => stk_text_of T
  | d + 1 => def_text_of (k := 2 * d + 2) T (def_grouped T (lv_text T d)) ((lv_text T d).mono (by omega)) (def_text_of_binding T (lv_text T d)) (def_parts_of T) (def_text_of_leaf T)
theorem lv_ltext (T : Txt w K mg) : ∀ d, Def P w K mg base ct (2 * d + 1) "_law_text" ["_law_node"] [] (ltF d)
  | 0 => stk__law_text T
  | d + 1 => def__law_text (k := 2 * d + 2) T (def__law_grouped T (lv_ltext T d)) ((lv_ltext T d).mono (by omega)) (def__law_head T (lv_ltext T d))
theorem lv_frozen (T : Txt w K mg) : ∀ d, Def P w K mg base ct (d + 1) "frozen" ["value"] [] (frF d)
  | 0 => stk_frozen T
  | d + 1 => def_frozen T (lv_frozen T d)
theorem lv_same (T : Txt w K mg) : ∀ d, Def P w K mg base ct (d + 1) "_law_same" ["_law_actual", "_law_due"] [] (saF d)
  | 0 => stk__law_same T
  | d + 1 => def__law_same T (lv_same T d) (def__law_whole T)
theorem lv_enc (T : Txt w K mg) {k : Nat} {m : List W → FR} (h : Def P w K mg base ct (k + 1) "sequence_at" ["row", "at"] [] m) : Def P w K mg base ct (k + 2) "enclosed" ["row", "at", "last"] [] (fun_enclosed m fun_passed) := def_enclosed T h (def_passed T)
theorem lv_item (T : Txt w K mg) : ∀ d, Def P w K mg base ct (4 * d + 1) "item_at" ["row", "at"] [] (itF d)
  | 0 => stk_item_at T
  | d + 1 => by
    have hi := lv_item T d
    have hs : Def P w K mg base ct (4 * d + 2) "sequence_at" ["row", "at"] [] (sqF d) := def_sequence_at T hi
    have he : Def P w K mg base ct (4 * d + 3) "enclosed" ["row", "at", "last"] [] (fun_enclosed (sqF d) fun_passed) := def_enclosed T hs (def_passed T)
    exact def_item_at (k := 4 * d + 4) T (def_after_name (k := 4 * d + 3) T (hi.mono (by omega)) (def_arguments_at T hs (def_passed T))) (def_in_parentheses (k := 4 * d + 3) T (hs.mono (by omega)) (def_passed T) he) (def_if_at T he) (def_while_at T he) (def_new_at T (def_passed T) he)
      (def_let_at (k := 4 * d + 3) T (def_passed T) ((def_parameters_at (k := 2) T (def_parameter_at T (def_passed (k := 0) T)) (def_passed T)).mono (by omega)) he)
theorem lv_any (T : Txt w K mg) : ∀ d, Def P w K mg base ct (d + 4) "_law_any" ["_law_reader_here", "_law_budget", "_law_depth", "_law_names_here"] [0] (anF d)
  | 0 => (stk__law_any T).mono (by omega)
  | d + 1 => by
    have hn : Def P w K mg base ct (d + 4) "_law_next" ["_law_reader_here", "_law_many"] [0] fun__law_next := (def__law_next (k := 0) T).mono (by omega)
    have hu : Def P w K mg base ct (d + 4) "_law_number" ["_law_reader_here"] [0] (fun__law_number fun__law_next) := (def__law_number (k := 1) T (def__law_next T)).mono (by omega)
    exact def__law_any (k := d + 4) T ((def__law_any_leaf (k := 2) T (def__law_next T) (def__law_number T (def__law_next T))).mono (by omega)) hn (lv_any T d) hu ((def__law_split (k := 1) T (def__law_next T)).mono (by omega)) ((def__law_parameters (k := 1) T (def__law_next T)).mono (by omega))
theorem res_noexc : ∀ args, match fun__law_reserved args with
    | .exc _ _ _ _ => False
    | _ => True := by
  intro args
  have l14 : (14 ≤ sizeLine) = True := by simp [line_is]
  have l16 : (16 ≤ sizeLine) = True := by simp [line_is]
  cases args with
  | nil => rw [e_reserved]; trivial
  | cons a as =>
    unfold fun__law_reserved body__law_reserved
    simp -implicitDefEqProofs [ev_var, l2, l14, l16]
theorem lv_dr (T : Txt w K mg) : ∀ f, Def P w K mg base ct (2 * f + 3) "_law_sequence" ["_law_node", "_law_reader_here", "_law_extra"] [1, 2] (drS f).1 ∧ Def P w K mg base ct (2 * f + 3) "_law_row" ["_law_node", "_law_reader_here", "_law_extra"] [1, 2] (drS f).2
  | 0 => ⟨(stk__law_sequence T).mono (by omega), (stk__law_row T).mono (by omega)⟩
  | f + 1 => by
    obtain ⟨hs, hr⟩ := lv_dr T f
    have hw : ∀ k, Def P w K mg base ct (k + 2) "_law_wrapped" ["_law_row_here", "_law_reader_here", "_law_extra"] [1, 2] (fun__law_wrapped fun__law_next) := fun k => def__law_wrapped T (def__law_next T)
    have hi : Def P w K mg base ct (2 * f + 4) "_law_item" ["_law_node", "_law_reader_here", "_law_extra"] [1, 2] (fun__law_item (drS f).1 (drS f).2 (fun__law_wrapped fun__law_next)) := def__law_item (k := 2 * f + 3) T hs hr (hw (2 * f + 1))
    exact ⟨def__law_sequence (k := 2 * f + 4) T hi (hs.mono (by omega)) (hw (2 * f + 2)), def__law_row (k := 2 * f + 4) T hi (hs.mono (by omega)) (def__law_listing (k := 2 * f + 3) T)⟩
theorem lv_read (T : Txt w K mg) : Def P w K mg base ct 189 "_law_read" ["_law_text_here"] [] rdF :=
  def__law_read (k := 188) T (def_read_block (k := 187) T ((def_tokens (k := 3) T (def_piece_at T) (def_kind_of_piece T (def_is_name (k := 1) T) (def_is_number T))).mono (by omega)) (def_enclosed (k := 186) T (def_sequence_at (k := 185) T (lv_item T 46)) (def_passed T)))
theorem lv_write (T : Txt w K mg) : Def P w K mg base ct 189 "write_block" ["block"] [] wbF := def_write_block (k := 188) T ((lv_frozen T 80).mono (by omega)) ((lv_text T 37).mono (by omega))
theorem lv_rr (T : Txt w K mg) : ∀ k, Def P w K mg base ct (k + 2) "_law_reader" ["_law_script", "_law_first"] [] rrF := fun k => def__law_reader (k := k + 1) T (def__law_cell T) (def__law_digits T)
theorem lv_built (T : Txt w K mg) : Def P w K mg base ct 189 "_law_built" ["_law_script"] [] buF := by
  have hn : ∀ k, Def P w K mg base ct (k + 1) "_law_next" ["_law_reader_here", "_law_many"] [0] fun__law_next := fun k => def__law_next T
  have hu : Def P w K mg base ct 2 "_law_number" ["_law_reader_here"] [0] (fun__law_number fun__law_next) := def__law_number T (hn 0)
  have hl : Def P w K mg base ct 3 "_law_any_leaf" ["_law_reader_here", "_law_names_here"] [0] (fun__law_any_leaf fun__law_next (fun__law_number fun__law_next)) := def__law_any_leaf (k := 2) T (hn 1) hu
  have ha : Def P w K mg base ct 20 "_law_around" ["_law_reader_here", "_law_form", "_law_names_here", "_law_block"] [0] _ := def__law_around (k := 19) T (hn 18) (hl.mono (by omega)) (hu.mono (by omega)) ((def__law_parameters (k := 18) T (hn 17)).mono (by omega))
  exact def__law_built (k := 188) T (lv_rr T 186) (hn 187) ((def__law_names (k := 3) T (def__law_name (k := 2) T (hn 1) (def__law_reserved T) res_noexc)).mono (by omega)) ((lv_any T 13).mono (by omega)) ((def__law_layered (k := 20) T ((lv_any T 13).mono (by omega)) (hn 19) ha).mono (by omega))
theorem lv_free (T : Txt w K mg) : Def P w K mg base ct 189 "_law_free_text" ["_law_script", "_law_first", "_law_built_here"] [] ftF :=
  def__law_free_text (k := 188) T (lv_rr T 186) ((lv_dr T 50).1.mono (by omega)) (def__law_joined (k := 187) T (def__law_next (k := 186) T) (def__law_merging (k := 186) T))
theorem law_def (T : Txt w K mg) : Def P w K mg base ct 190 "law" ["_law_script"] [] lawF :=
  def_law (k := 189) T (lv_built T) (lv_free T) (lv_read T) ((lv_same T 80).mono (by omega)) (lv_write T) ((lv_ltext T 37).mono (by omega))
end
noncomputable def law_fun : List W → FR := lawF
def law_k : Nat := 190
end K06


set_option maxHeartbeats 4000000
namespace K06
open PySem PySem.Spec PyProof.Rows L2 ML
theorem facts {P : Program} {w : World} {K : PySem.W.Frag} {h : Heap} {mg : Str → Option Value} {f : Addr} (X : K.In h) (G : h.Ns mainGlobals mg) (hq : mg ("law" : Str) = some (.ref f)) (c : SaysM hfa hfn hts hmore w K) :
    ∃ fd : FuncData, (∀ (s : Shared) (v : Value), BindsTo s fd ⟨[v], []⟩ [("_law_script", v)]) ∧ ∀ base : Heap, K.In base → base.Ns mainGlobals mg → FnOk P w K mg base CX0 law_k f fd ["_law_script"] (spEnd K law_fun) := by
  have T := txt_ok X G c
  exact end_fn T.s_law hq (fun fd F => by
    have b := FunD.bindsA (ps := ["_law_script"]) F fun _ _ _ _ _ _ us hl => match us, hl with | [_], _ => rfl
    exact fun s v => b s [v] rfl) fun base _ _ => law_def T
end K06
open PySem PySem.W PySem.Calls PyProof.Rows
set_option maxRecDepth 100000 in
set_option maxHeartbeats 0 in
theorem PySem.Challenge.cw_heardsaid_k06_read_freely_holds : PySem.Challenge.rw_heardsaid_k06_read_freely.Holds := by
  w_on; o_law
  refine HandSHeadRun.head_any (r := (PySem.W.OpenLaw.row PySem.Challenge.rw_heardsaid_k06_read_freely)) (q := view (PySem.W.OpenLaw.row PySem.Challenge.rw_heardsaid_k06_read_freely).prog [80]) (H := K06.hhk) (ob := K06.hob) (M := 20000) (loose := K06.hnames) (d := HandSHeadRun.topDef (PySem.W.OpenLaw.row PySem.Challenge.rw_heardsaid_k06_read_freely).prog 80) (kwd := []) K06.hob_eq
    (by kernel_rfl) (fun s => by kernel_rfl) K06.hrun (by kernel_rfl) (by kernel_rfl) (by kernel_rfl) (by rfl) (by first | assumption | decide +kernel) (by decide +kernel) ⟨rfl, rfl, rfl, rfl, rfl, by decide +kernel⟩ ?hw ?hc
  case hw => w_witness2
  case hc =>
    refine L2.walk_ofE (l := PySem.Challenge.rw_heardsaid_k06_read_freely) (n := 63) (k := K06.law_k) (x := "_law_script") (CX := L2.CX0) rfl (by decide) (by kernel_rfl) ⟨rfl, by decide, by decide⟩ ?F (fun _ _ _ _ z => z)
    intro w mg fa h Y G hmg0
    obtain ⟨K, KX, c⟩ := Y
    have hmg : mg ("law" : PySem.Str) = some (.ref fa) := by
      have e : (HandSHeadRun.topDef (PySem.W.OpenLaw.row PySem.Challenge.rw_heardsaid_k06_read_freely).prog 80).name = ("law" : PySem.Str) := by kernel_rfl
      rw [← e]
      exact hmg0
    obtain ⟨fd, hb, hF⟩ := K06.facts (P := (PySem.Challenge.rw_heardsaid_k06_read_freely).prog) (w := w) KX G hmg c
    exact ⟨K, fd, ML.spEnd K K06.law_fun, KX, hb, fun H a ns hl hO hS => ML.end_sp K06.law_is H a ns hl hO hS, hF⟩

