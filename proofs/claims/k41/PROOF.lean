import PyProof.Rows.All
import Wide.All
import OpenK.AllK
import Wide.FinOn
import HandS.Base
import HandS.Call
import HandS.List
import HandS.Comp
import HandS.Ends
import HandS.Iter
import HandS.Words
import HandS.TupAny
import HandS.TupLe
import HandS.Style
import HandS.Wide
import HandS.Gcd
import HandS.IsInst
import HandS.Deep
import HandS.Conv
import HandS.Exc
import HandS.ExcOwn
import HandS.WordsExc
import HandS.Walk
import HandS.Zip
import HandS.Text
import HandS.SortInts
import KE.KStateDown
import HandS.Head0
import HandS.Head1
import HandS.Head2
import HandS.HeadEnd
import HandS.HeadHook1
import KE.GoesMore
import KE.DataMinMax
import KE.SortData
import HandS.TupMul
import PySem.Challenge.RW_icerink_k41_whole_skaters_at_the_line
set_option Elab.async false
set_option linter.all false
set_option maxRecDepth 100000
set_option maxHeartbeats 4000000
namespace PL
open PySem PySem.Spec PyProof.Rows L2
abbrev St := L2.St
/-! plain data -/
inductive D where
  | non | bl (b : Bool) | int (i : Int) | str (x : Str) | tup (ds : List D) | lst (ds : List D) | cup | ref (a : Addr)
/-- an error of the program's own: its class by name, what it holds -/
structure Exn where
  cls : Str
  arg : List D
inductive Res (α : Type) where
  | ok (a : α) | exc (x : Exn) (c : List D) | bad
inductive Slot where
  | un | val (d : D) | own (ds : List D)
structure S where
  env : List Slot
  cup : List D
inductive Fl where
  | nx (s : S) | rt (d : D) (c : List D) | bk (s : S) | ct (s : S)
/-- an expression's plain function: it reads the state, and may draw from the cup -/
abbrev M (α : Type) := S → Res (α × List D)
def wpr {α : Type} (r : Res α) (P : α → Prop) (N : Exn → List D → Prop) : Prop := match r with
  | .ok a => P a
  | .exc x c => N x c
  | .bad => False
def Res.bind {α β : Type} (r : Res α) (f : α → Res β) : Res β := match r with
  | .ok a => f a
  | .exc x c => .exc x c
  | .bad => .bad
def bindM {α β : Type} (f : M α) (g : α → M β) : M β := fun s => (f s).bind fun r => g r.1 ⟨s.env, r.2⟩
def ret {α : Type} (a : α) : M α := fun s => .ok (a, s.cup)
def lift {α : Type} (r : Option α) : M α := fun s => match r with
  | some a => .ok (a, s.cup)
  | none => .bad
theorem wpr_bind {α β : Type} {r : Res α} {f : α → Res β} {P : β → Prop} {N : Exn → List D → Prop} : wpr (r.bind f) P N ↔ wpr r (fun a => wpr (f a) P N) N := by
  cases r <;> exact Iff.rfl
theorem wpr_mono {α : Type} {r : Res α} {P P' : α → Prop} {N N' : Exn → List D → Prop} (h : wpr r P N) (h1 : ∀ a, P a → P' a) (h2 : ∀ x c, N x c → N' x c) : wpr r P' N' := by
  cases r with
  | ok a => exact h1 _ h
  | exc x c => exact h2 _ _ h
  | bad => exact h
/-! how plain data lies in the heap -/
section
variable (ca : Option Addr) (Mu : Addr → Prop) (H : Hp)
mutual
def Rep : D → V → Prop
  | .non, v => v = .non
  | .bl b, v => v = .bl b
  | .int i, v => v = .int i
  | .str x, v => v = .str x
  | .tup ds, v => ∃ a vs, v = .ref a ∧ H a = some (.tup vs) ∧ Reps ds vs
  | .lst ds, v => ∃ a vs, v = .ref a ∧ ¬ Mu a ∧ H a = some (.lst vs) ∧ Reps ds vs
  | .cup, v => ∃ a, v = .ref a ∧ ca = some a
  | .ref a, v => v = .ref a
def Reps : List D → List V → Prop
  | [], vs => vs = []
  | d :: ds, vs => ∃ v r, vs = v :: r ∧ Rep d v ∧ Reps ds r
end
end
/-- what stays: all but what may be written -/
def Ext (W : Addr → Prop) (H H' : Hp) : Prop := ∀ a o, H a = some o → ¬ W a → H' a = some o
def Lsts (W : Addr → Prop) (H : Hp) : Prop := ∀ a, W a → ∃ xs, H a = some (.lst xs)
theorem Ext.refl (W : Addr → Prop) (H : Hp) : Ext W H H := fun _ _ h _ => h
theorem Ext.trans {W : Addr → Prop} {H H1 H2 : Hp} (x : Ext W H H1) (y : Ext W H1 H2) : Ext W H H2 := fun a o h n => y a o (x a o h n) n
theorem Ext.same {W : Addr → Prop} {H H' : Hp} (x : Same H H') : Ext W H H' := fun a o h _ => x a o h
theorem Ext.upd {W : Addr → Prop} {H : Hp} {p : Addr} {o : HO} (h : H p = none) : Ext W H (upd H p o) := fun a u e _ => by rw [upd_ne (ne_of_none e h)]; exact e
theorem same_upd {H : Hp} {p : Addr} {o : HO} (h : H p = none) : Same H (upd H p o) := fun a u e => by rw [upd_ne (ne_of_none e h)]; exact e
section
variable {ca : Option Addr} {Mu Mu' W F : Addr → Prop} {H H' : Hp}
theorem Ext.rdT {W : Addr → Prop} {a : Addr} {vs : List V} (x : Ext W H H') (l : Lsts W H) (h : H a = some (.tup vs)) : H' a = some (.tup vs) := by
  have nW : ∀ o, H a = some o → (∀ xs, o ≠ .lst xs) → ¬ W a := fun o e n w => by
    obtain ⟨xs, q⟩ := l a w
    rw [e] at q
    exact n xs (Option.some.inj q)
  exact x _ _ h (nW _ h fun xs z => by cases z)
theorem Ext.rdL {W : Addr → Prop} {a : Addr} {vs : List V} (x : Ext W H H') (n : ¬ W a) (h : H a = some (.lst vs)) : H' a = some (.lst vs) := by
  exact x _ _ h n
/-- how the set of what may not be read as plain may change: what is new in it was no object then -/
def Grow (H : Hp) (Mu Mu' : Addr → Prop) : Prop := ∀ a, Mu' a → Mu a ∨ H a = none
mutual
theorem Rep.ext (x : Ext W H H') (l : Lsts W H) (hW : ∀ a, W a → Mu a) (g : Grow H Mu Mu') : ∀ (d : D) (v : V), Rep ca Mu H d v → Rep ca Mu' H' d v
  | .non, _, h => h
  | .bl _, _, h => h
  | .int _, _, h => h
  | .str _, _, h => h
  | .tup ds, v, h => by
    obtain ⟨a, vs, e, s, r⟩ := h
    exact ⟨a, vs, e, x.rdT l s, Reps.ext x l hW g ds vs r⟩
  | .lst ds, v, h => by
    obtain ⟨a, vs, e, n, s, r⟩ := h
    refine ⟨a, vs, e, fun z => ?_, x.rdL (fun z => n (hW _ z)) s, Reps.ext x l hW g ds vs r⟩
    rcases g a z with z | z
    · exact n z
    · rw [z] at s; cases s
  | .cup, _, h => h
  | .ref _, _, h => h
theorem Reps.ext (x : Ext W H H') (l : Lsts W H) (hW : ∀ a, W a → Mu a) (g : Grow H Mu Mu') : ∀ (ds : List D) (vs : List V), Reps ca Mu H ds vs → Reps ca Mu' H' ds vs
  | [], _, h => h
  | d :: ds, vs, h => by
    obtain ⟨v, r, e, h1, h2⟩ := h
    exact ⟨v, r, e, Rep.ext x l hW g d v h1, Reps.ext x l hW g ds r h2⟩
end
theorem Grow.refl : Grow H Mu Mu := fun _ h => .inl h
theorem Grow.sub (h : ∀ a, Mu' a → Mu a) : Grow H Mu Mu' := fun a q => .inl (h a q)
theorem Reps.length : ∀ {ds : List D} {vs : List V}, Reps ca Mu H ds vs → vs.length = ds.length
  | [], _, h => by rw [show _ = [] from h]; rfl
  | d :: ds, vs, h => by
    obtain ⟨v, r, e, _, h2⟩ := h
    rw [e, List.length_cons, List.length_cons, Reps.length h2]
theorem Reps.get : ∀ {ds : List D} {vs : List V} {i : Nat} {d : D}, Reps ca Mu H ds vs → ds[i]? = some d → ∃ v, vs[i]? = some v ∧ Rep ca Mu H d v
  | [], _, _, _, _, h => by simp at h
  | d :: ds, vs, 0, _, h, q => by
    obtain ⟨v, r, e, h1, _⟩ := h
    simp only [List.getElem?_cons_zero, Option.some.injEq] at q
    subst q
    exact ⟨v, by rw [e]; rfl, h1⟩
  | d :: ds, vs, i + 1, _, h, q => by
    obtain ⟨v, r, e, _, h2⟩ := h
    obtain ⟨u, a, b⟩ := Reps.get h2 (by simpa using q)
    exact ⟨u, by rw [e]; simpa using a, b⟩
theorem Reps.append : ∀ {ds es : List D} {vs us : List V}, Reps ca Mu H ds vs → Reps ca Mu H es us → Reps ca Mu H (ds ++ es) (vs ++ us)
  | [], _, _, _, h, q => by rw [show _ = [] from h]; exact q
  | d :: ds, es, vs, us, h, q => by
    obtain ⟨v, r, e, h1, h2⟩ := h
    exact ⟨v, r ++ us, by rw [e]; rfl, h1, Reps.append h2 q⟩
theorem Reps.nil : Reps ca Mu H [] [] := rfl
theorem Reps.cons {d : D} {ds : List D} {v : V} {vs : List V} (h : Rep ca Mu H d v) (q : Reps ca Mu H ds vs) : Reps ca Mu H (d :: ds) (v :: vs) := ⟨v, vs, rfl, h, q⟩
theorem Reps.inv : ∀ {d : D} {ds : List D} {vs : List V}, Reps ca Mu H (d :: ds) vs → ∃ v r, vs = v :: r ∧ Rep ca Mu H d v ∧ Reps ca Mu H ds r := fun h => h
theorem Reps.take : ∀ {ds : List D} {vs : List V} (n : Nat), Reps ca Mu H ds vs → Reps ca Mu H (ds.take n) (vs.take n)
  | _, _, 0, _ => by rw [List.take_zero, List.take_zero]; rfl
  | [], _, n + 1, h => by rw [show _ = [] from h]; rfl
  | d :: ds, vs, n + 1, h => by
    obtain ⟨v, r, e, h1, h2⟩ := h
    rw [e]
    exact ⟨v, r.take n, rfl, h1, Reps.take n h2⟩
theorem Reps.drop : ∀ {ds : List D} {vs : List V} (n : Nat), Reps ca Mu H ds vs → Reps ca Mu H (ds.drop n) (vs.drop n)
  | _, _, 0, h => h
  | [], _, n + 1, h => by rw [show _ = [] from h]; rfl
  | d :: ds, vs, n + 1, h => by
    obtain ⟨v, r, e, h1, h2⟩ := h
    rw [e]
    exact Reps.drop n h2
theorem Reps.set : ∀ {ds : List D} {vs : List V} {d : D} {v : V} (i : Nat), Reps ca Mu H ds vs → Rep ca Mu H d v → Reps ca Mu H (ds.set i d) (vs.set i v)
  | [], _, _, _, i, h, _ => by rw [show _ = [] from h]; cases i <;> rfl
  | d :: ds, vs, _, _, 0, h, q => by
    obtain ⟨v, r, e, h1, h2⟩ := h
    rw [e]
    exact ⟨_, r, rfl, q, h2⟩
  | d :: ds, vs, d', v', i + 1, h, q => by
    obtain ⟨v, r, e, h1, h2⟩ := h
    rw [e]
    exact ⟨v, r.set i v', rfl, h1, Reps.set i h2 q⟩
theorem Reps.reverse : ∀ {ds : List D} {vs : List V}, Reps ca Mu H ds vs → Reps ca Mu H ds.reverse vs.reverse
  | [], _, h => by rw [show _ = [] from h]; rfl
  | d :: ds, vs, h => by
    obtain ⟨v, r, e, h1, h2⟩ := h
    rw [e, List.reverse_cons, List.reverse_cons]
    exact Reps.append (Reps.reverse h2) ⟨v, [], rfl, h1, rfl⟩
theorem Reps.ints : ∀ {ns : List Int} {vs : List V}, Reps ca Mu H (ns.map D.int) vs → vs = ns.map V.int
  | [], _, h => h
  | n :: ns, vs, h => by
    obtain ⟨v, r, e, h1, h2⟩ := h
    rw [e, show v = V.int n from h1, Reps.ints h2]
    rfl
theorem Reps.ofInts : ∀ (ns : List Int), Reps ca Mu H (ns.map D.int) (ns.map V.int)
  | [] => rfl
  | n :: ns => ⟨V.int n, ns.map V.int, rfl, rfl, Reps.ofInts ns⟩
theorem Reps.bls : ∀ {ns : List Bool} {vs : List V}, Reps ca Mu H (ns.map D.bl) vs → vs = ns.map V.bl
  | [], _, h => h
  | n :: ns, vs, h => by
    obtain ⟨v, r, e, h1, h2⟩ := h
    rw [e, show v = V.bl n from h1, Reps.bls h2]
    rfl
theorem Reps.strs : ∀ {ns : List Str} {vs : List V}, Reps ca Mu H (ns.map D.str) vs → vs = ns.map V.str
  | [], _, h => h
  | n :: ns, vs, h => by
    obtain ⟨v, r, e, h1, h2⟩ := h
    rw [e, show v = V.str n from h1, Reps.strs h2]
    rfl
end
/-! the state -/
def or2 (F W : Addr → Prop) : Addr → Prop := fun a => F a ∨ W a
section
variable (ca : Option Addr)
def CupAt (F W : Addr → Prop) (H : Hp) (c : List D) : Prop := ∀ a, ca = some a → W a ∧ ∃ vs, H a = some (.lst vs) ∧ Reps ca (or2 F W) H c vs
structure SRep (F W : Addr → Prop) (H : Hp) (σ : St) (s : S) : Prop where
  len : σ.length = s.env.length
  slot : ∀ (i : Nat) (d : D), s.env[i]? = some (.val d) → ∃ v, σ[i]? = some (some v) ∧ Rep ca (or2 F W) H d v
  own : ∀ (i : Nat) (ds : List D), s.env[i]? = some (.own ds) → ∃ a vs, σ[i]? = some (some (.ref a)) ∧ W a ∧ ca ≠ some a ∧ H a = some (.lst vs) ∧ Reps ca (or2 F W) H ds vs
  inj : ∀ (i j : Nat) (ds es : List D) (a : Addr), s.env[i]? = some (.own ds) → s.env[j]? = some (.own es) → σ[i]? = some (some (.ref a)) → σ[j]? = some (some (.ref a)) → i = j
  cup : CupAt ca F W H s.cup
  wl : Lsts W H
  fl : ∀ a, F a → H a ≠ none
/-- what may be written grows by new objects alone -/
def Step (W : Addr → Prop) (H : Hp) (W' : Addr → Prop) (H' : Hp) : Prop := Ext W H H' ∧ ∀ a, W' a → W a ∨ H a = none
end
section
variable {ca : Option Addr} {F W W' W2 : Addr → Prop} {H H' H2 : Hp} {σ : St} {s : S}
theorem Step.refl : Step W H W H := ⟨Ext.refl _ _, fun _ h => .inl h⟩
theorem Step.trans (x : Step W H W' H') (y : Step W' H' W2 H2) : Step W H W2 H2 := by
  refine ⟨fun a o h n => y.1 a o (x.1 a o h n) fun z => ?_, fun a z => ?_⟩
  · rcases x.2 a z with q | q
    · exact n q
    · rw [h] at q; cases q
  · rcases y.2 a z with q | q
    · exact x.2 a q
    · cases e : H a with
      | none => exact .inr rfl
      | some o =>
        by_cases w : W a
        · exact .inl w
        · rw [x.1 a o e w] at q; cases q
theorem Step.ext (x : Ext W H H') : Step W H W H' := ⟨x, fun _ h => .inl h⟩
theorem SRep.rep (R : SRep ca F W H σ s) (x : Ext W H H') {d : D} {v : V} (h : Rep ca (or2 F W) H d v) : Rep ca (or2 F W) H' d v :=
  Rep.ext x R.wl (fun _ h => .inr h) Grow.refl d v h
theorem SRep.reps (R : SRep ca F W H σ s) (x : Ext W H H') {d : List D} {v : List V} (h : Reps ca (or2 F W) H d v) : Reps ca (or2 F W) H' d v :=
  Reps.ext x R.wl (fun _ h => .inr h) Grow.refl d v h
/-- nothing was written -/
theorem SRep.same (R : SRep ca F W H σ s) (x : Same H H') : SRep ca F W H' σ s where
  len := R.len
  slot := fun i d e => by
    obtain ⟨v, a, b⟩ := R.slot i d e
    exact ⟨v, a, R.rep (Ext.same x) b⟩
  own := fun i ds e => by
    obtain ⟨a, vs, h1, h2, h3, h4, h5⟩ := R.own i ds e
    exact ⟨a, vs, h1, h2, h3, x _ _ h4, R.reps (Ext.same x) h5⟩
  inj := R.inj
  cup := fun a e => by
    obtain ⟨w, vs, h, r⟩ := R.cup a e
    exact ⟨w, vs, x _ _ h, R.reps (Ext.same x) r⟩
  wl := fun a w => by
    obtain ⟨xs, h⟩ := R.wl a w
    exact ⟨xs, x _ _ h⟩
  fl := fun a f z => by
    cases e : H a with
    | none => exact R.fl a f e
    | some o => rw [x _ _ e] at z; cases z
theorem SRep.set (R : SRep ca F W H σ s) {i : Nat} {d : D} {v : V} (h : Rep ca (or2 F W) H d v) : SRep ca F W H (σ.set i (some v)) { s with env := s.env.set i (.val d) } where
  len := by
    show (σ.set i (some v)).length = (s.env.set i (.val d)).length
    rw [List.length_set, List.length_set]; exact R.len
  slot := fun j e q => by
    have q : (s.env.set i (.val d))[j]? = some (.val e) := q
    by_cases hj : i = j
    · subst hj
      have hl : i < s.env.length := by
        have := (List.getElem?_eq_some_iff.mp q).1
        rw [List.length_set] at this; exact this
      rw [List.getElem?_set_self hl] at q
      cases q
      exact ⟨v, by rw [List.getElem?_set_self (by rw [R.len]; exact hl)], h⟩
    · rw [List.getElem?_set_ne hj] at q
      rw [List.getElem?_set_ne hj]
      exact R.slot j e q
  own := fun j ds q => by
    have q : (s.env.set i (.val d))[j]? = some (.own ds) := q
    by_cases hj : i = j
    · subst hj
      have hl : i < s.env.length := by
        have := (List.getElem?_eq_some_iff.mp q).1
        rw [List.length_set] at this; exact this
      rw [List.getElem?_set_self hl] at q
      cases q
    · rw [List.getElem?_set_ne hj] at q
      rw [List.getElem?_set_ne hj]
      exact R.own j ds q
  inj := fun j k ds es a q1 q2 h1 h2 => by
    have q1 : (s.env.set i (.val d))[j]? = some (.own ds) := q1
    have q2 : (s.env.set i (.val d))[k]? = some (.own es) := q2
    have ne : ∀ {m : Nat} {fs : List D}, (s.env.set i (.val d))[m]? = some (.own fs) → i ≠ m := fun {m fs} q e => by
      subst e
      have hl : i < s.env.length := by
        have := (List.getElem?_eq_some_iff.mp q).1
        rw [List.length_set] at this; exact this
      rw [List.getElem?_set_self hl] at q
      cases q
    have n1 := ne q1
    have n2 := ne q2
    rw [List.getElem?_set_ne n1] at q1 h1
    rw [List.getElem?_set_ne n2] at q2 h2
    exact R.inj j k ds es a q1 q2 h1 h2
  cup := R.cup
  wl := R.wl
  fl := R.fl
end
end PL

namespace PL
open PySem PySem.Spec PyProof.Rows L2
/-! a family of contexts in which one text is read -/
structure Fam where
  J : Type
  X : J → Cx
  P : Program
  w : World
  K : PySem.W.Frag
  mg : Str → Option Value
  base : Heap
  CX : CXT
  N : List Str
  E : XK
  XA : Exn → Value → Option Addr → Hp → Prop
  k : Nat
  hP : ∀ j, (X j).prog = P
  hw : ∀ j, (X j).w = w
  hK : ∀ j, (X j).K = K
  hmg : ∀ j, (X j).mg = mg
  hB : ∀ j, (X j).base = base
  hN : ∀ j, (X j).N = N
  nd : N.Nodup
  calm : ∀ j, (X j).calm = true
  room : ∀ j, Room k (X j).A
  pass : ∀ j, Passes CX (X j) E
  own : ∀ j, PassesOwn (model (X j).prog (X j).w) (X j).A (X j).env (X j).xe
  nox : ∀ outer H s e s', CX outer H s E0 e s' → False
def ExcP (ca : Option Addr) (F W : Addr → Prop) (H : Hp) (XA : Exn → Value → Option Addr → Hp → Prop) (E : XK) (x : Exn) (c : List D) : Prop :=
  ∀ cls dx W' H', Step W H W' H' → CupAt ca F W' H' c → XA x cls dx H' → E cls dx H'
theorem ExcP.step {ca : Option Addr} {F W W1 : Addr → Prop} {H H1 : Hp} {XA : Exn → Value → Option Addr → Hp → Prop} {E : XK} {x : Exn} {c : List D} (h : ExcP ca F W H XA E x c) (st : Step W H W1 H1) : ExcP ca F W1 H1 XA E x c :=
  fun cls dx W' H' s q a => h cls dx W' H' (st.trans s) q a
def PostE (ca : Option Addr) (F W : Addr → Prop) (H : Hp) (σ : St) (env : List Slot) (Q : VK) (r : D × List D) : Prop :=
  ∀ v H', Ext W H H' → SRep ca F W H' σ ⟨env, r.2⟩ → Rep ca (or2 F W) H' r.1 v → Q v H'
def SemE (ca : Option Addr) (XA : Exn → Value → Option Addr → Hp → Prop) (E : XK) (t : TE) (f : M D) : Prop :=
  ∀ F W H σ s Q, SRep ca F W H σ s → wpr (f s) (PostE ca F W H σ s.env Q) (ExcP ca F W H XA E) → t σ H Q
def PostB (ca : Option Addr) (F W : Addr → Prop) (H : Hp) (σ : St) (env : List Slot) (Q : Bool → Hp → Prop) (r : Bool × List D) : Prop :=
  ∀ H', Ext W H H' → SRep ca F W H' σ ⟨env, r.2⟩ → Q r.1 H'
def SemT (ca : Option Addr) (XA : Exn → Value → Option Addr → Hp → Prop) (E : XK) (t : TT) (f : M Bool) : Prop :=
  ∀ F W H σ s Q, SRep ca F W H σ s → wpr (f s) (PostB ca F W H σ s.env Q) (ExcP ca F W H XA E) → t σ H Q
def PostA (ca : Option Addr) (F W : Addr → Prop) (H : Hp) (σ : St) (env : List Slot) (Q : List V → Hp → Prop) (r : List D × List D) : Prop :=
  ∀ vs H', Ext W H H' → SRep ca F W H' σ ⟨env, r.2⟩ → Reps ca (or2 F W) H' r.1 vs → Q vs H'
def SemA (ca : Option Addr) (XA : Exn → Value → Option Addr → Hp → Prop) (E : XK) (t : TA) (f : M (List D)) : Prop :=
  ∀ F W H σ s Q, SRep ca F W H σ s → wpr (f s) (PostA ca F W H σ s.env Q) (ExcP ca F W H XA E) → t σ H Q
/-- an expression, a test, arguments: a reading, and the plain function that it comes to -/
def Ev (𝓕 : Fam) (ca : Option Addr) (e : Expr) (f : M D) : Prop := ∃ t : TE, (∀ j, PE (𝓕.X j) e t) ∧ SemE ca 𝓕.XA 𝓕.E t f
def Tv (𝓕 : Fam) (ca : Option Addr) (e : Expr) (f : M Bool) : Prop := ∃ t : TT, (∀ j, PT (𝓕.X j) e t) ∧ SemT ca 𝓕.XA 𝓕.E t f
def Wv (𝓕 : Fam) (ca : Option Addr) (e : Expr) (f : M Bool) : Prop := ∃ t : TT, (∀ j, PW (𝓕.X j) e t) ∧ SemT ca 𝓕.XA 𝓕.E t f
def Av (𝓕 : Fam) (ca : Option Addr) (es : List Expr) (f : M (List D)) : Prop := ∃ t : TA, (∀ j, PA (𝓕.X j) es t) ∧ SemA ca 𝓕.XA 𝓕.E t f ∧ ∀ s ds c, f s = .ok (ds, c) → ds.length = es.length
section
variable {ca : Option Addr} {F W : Addr → Prop} {H H1 : Hp} {σ : St} {XA : Exn → Value → Option Addr → Hp → Prop} {E : XK}
theorem PostE.ext {env : List Slot} {Q : VK} {r : D × List D} (h : PostE ca F W H σ env Q r) (x : Ext W H H1) : PostE ca F W H1 σ env Q r := fun v H' y a b => h v H' (x.trans y) a b
theorem PostB.ext {env : List Slot} {Q : Bool → Hp → Prop} {r : Bool × List D} (h : PostB ca F W H σ env Q r) (x : Ext W H H1) : PostB ca F W H1 σ env Q r := fun H' y a => h H' (x.trans y) a
theorem PostA.ext {env : List Slot} {Q : List V → Hp → Prop} {r : List D × List D} (h : PostA ca F W H σ env Q r) (x : Ext W H H1) : PostA ca F W H1 σ env Q r := fun v H' y a b => h v H' (x.trans y) a b
theorem ExcP.ext {x : Exn} {c : List D} (h : ExcP ca F W H XA E x c) (y : Ext W H H1) : ExcP ca F W H1 XA E x c := h.step (.ext y)
end
/-- what may not be read as plain was laid -/
def Dom (Mu : Addr → Prop) (H : Hp) : Prop := ∀ a, Mu a → H a ≠ none
theorem SRep.dom {ca : Option Addr} {F W : Addr → Prop} {H : Hp} {σ : St} {s : S} (R : SRep ca F W H σ s) : Dom (or2 F W) H := fun a h => by
  rcases h with h | h
  · exact R.fl a h
  · obtain ⟨xs, e⟩ := R.wl a h
    rw [e]; exact fun z => by cases z
/-- the state read off -/
def getv (i : Nat) : M D := fun s => match s.env[i]? with
  | some (.val d) => .ok (d, s.cup)
  | _ => .bad
section
variable {𝓕 : Fam} {ca : Option Addr} {pos : Pos}
/-! names, constants -/
theorem ev_var (i : Nat) {x : Str} (hi : 𝓕.N[i]? = some x := by rfl) (hv : ∀ j, Vis (𝓕.X j).env.scope x := by intro _; first | exact Or.inl rfl | exact Or.inr (Or.inl rfl) | exact Or.inr (Or.inr rfl)) (hd : (x == ("__debug__" : Str)) = false := by decide)
    (hcd : (x == ("__classdict__" : Str)) = false := by decide) : Ev 𝓕 ca (.Name x pos) (getv i) := by
  refine ⟨tVar i, fun j => pe_var (by rw [𝓕.hN j]; exact hi) (hv j) hd hcd, fun F W H σ s Q R h => ?_⟩
  unfold getv at h
  cases e : s.env[i]? with
  | none => rw [e] at h; exact h.elim
  | some sl =>
    rw [e] at h
    cases sl with
    | val d =>
      obtain ⟨v, q, r⟩ := R.slot i d e
      exact ⟨v, q, h v H (Ext.refl _ _) R r⟩
    | un => exact h.elim
    | own ds => exact h.elim
theorem sem_c {XA : Exn → Value → Option Addr → Hp → Prop} {E : XK} {d : D} {v : V} (h : ∀ Mu H, Rep ca Mu H d v) : SemE ca XA E (tC v) (ret d) := fun F W H σ s Q R q => q v H (Ext.refl _ _) R (h _ _)
theorem ev_int {i : Int} {j : Nat} : Ev 𝓕 ca (.Constant (.int i) j pos) (ret (.int i)) := ⟨_, fun _ => pe_int, sem_c fun _ _ => rfl⟩
theorem ev_bl {b : Bool} {j : Nat} : Ev 𝓕 ca (.Constant (.bool b) j pos) (ret (.bl b)) := ⟨_, fun _ => pe_bl, sem_c fun _ _ => rfl⟩
theorem ev_non {j : Nat} : Ev 𝓕 ca (.Constant .none j pos) (ret .non) := ⟨_, fun _ => pe_non, sem_c fun _ _ => rfl⟩
theorem ev_str {x : Str} {j : Nat} : Ev 𝓕 ca (.Constant (.str x) j pos) (ret (.str x)) := ⟨_, fun _ => pe_str, sem_c fun _ _ => rfl⟩
/-- a module's int or text -/
theorem ev_gint {x : Str} {i : Int} (hm : ∃ t, 𝓕.mg x = some (.int i t)) (hg : ∀ j, Gl (𝓕.X j) x := by intro _; rfl) (hd : (x == ("__debug__" : Str)) = false := by decide) : Ev 𝓕 ca (.Name x pos) (ret (.int i)) := by
  obtain ⟨t, e⟩ := hm
  exact ⟨_, fun j => pe_glob (hg j) (by rw [𝓕.hmg j]; exact e) (show RelV (.int i) (.int i t) from ⟨t, rfl⟩) hd, sem_c fun _ _ => rfl⟩
theorem ev_gstr {x z : Str} (hm : ∃ t, 𝓕.mg x = some (.str z t)) (hg : ∀ j, Gl (𝓕.X j) x := by intro _; rfl) (hd : (x == ("__debug__" : Str)) = false := by decide) : Ev 𝓕 ca (.Name x pos) (ret (.str z)) := by
  obtain ⟨t, e⟩ := hm
  exact ⟨_, fun j => pe_glob (hg j) (by rw [𝓕.hmg j]; exact e) (show RelV (.str z) (.str z t) from ⟨t, rfl⟩) hd, sem_c fun _ _ => rfl⟩
/-! operations by values -/
def OpG (ca : Option Addr) (r : R2) (g : D → D → Option D) : Prop := ∀ Mu H dx dy vx vy d Q, Dom Mu H → Rep ca Mu H dx vx → Rep ca Mu H dy vy → g dx dy = some d → (∀ v H', Same H H' → Rep ca Mu H' d v → Q v H') → r vx vy H Q
def OpV (𝓕 : Fam) (ca : Option Addr) (f : Value → Value → Sem Value) (g : D → D → Option D) : Prop := ∃ r : R2, (∀ j, OpR (𝓕.X j) f r) ∧ OpG ca r g
def CallG (ca : Option Addr) (r : List V → Hp → VK → Prop) (g : List D → Option D) : Prop := ∀ Mu H ds vs d Q, Dom Mu H → Reps ca Mu H ds vs → g ds = some d → (∀ v H', Same H H' → Rep ca Mu H' d v → Q v H') → r vs H Q
def CallV (𝓕 : Fam) (ca : Option Addr) (f : Value) (g : List D → Option D) : Prop := ∃ r, (∀ j, CallR (𝓕.X j) f r) ∧ CallG ca r g
def op2 (g : D → D → Option D) (fa fb : M D) : M D := bindM fa fun x => bindM fb fun y => lift (g x y)
theorem wpr_lift {α : Type} {o : Option α} {s : S} {P : α × List D → Prop} {N : Exn → List D → Prop} (h : wpr (lift o s) P N) : ∃ a, o = some a ∧ P (a, s.cup) := by
  unfold lift at h
  cases o with
  | none => exact h.elim
  | some a => exact ⟨a, rfl, h⟩
theorem sem_op {XA : Exn → Value → Option Addr → Hp → Prop} {E : XK} {r : R2} {g : D → D → Option D} {ta tb : TE} {fa fb : M D} (hr : OpG ca r g) (ha : SemE ca XA E ta fa) (hb : SemE ca XA E tb fb) : SemE ca XA E (tOp r ta tb) (op2 g fa fb) := fun F W H σ s Q R q => by
  unfold op2 bindM at q
  refine ha F W H σ s _ R (wpr_mono (wpr_bind.mp q) (fun r1 h1 v1 H1 x1 R1 p1 => ?_) fun _ _ z => z)
  refine hb F W H1 σ ⟨s.env, r1.2⟩ _ R1 (wpr_mono (wpr_bind.mp h1) (fun r2 h2 v2 H2 x2 R2 p2 => ?_) fun _ _ z => z.ext x1)
  obtain ⟨d, e, h3⟩ := wpr_lift h2
  refine hr (or2 F W) H2 r1.1 r2.1 v1 v2 d Q R2.dom (R1.rep x2 p1) p2 e fun v H' sm rp => ?_
  exact h3 v H' ((x1.trans x2).trans (Ext.same sm)) (R2.same sm) rp
theorem ev_op {op : Operator} {g : D → D → Option D} {a b : Expr} {fa fb : M D} (ho : OpV 𝓕 ca (binaryOp op) g) (ha : Ev 𝓕 ca a fa) (hb : Ev 𝓕 ca b fb) : Ev 𝓕 ca (.BinOp a op b pos) (op2 g fa fb) := by
  obtain ⟨r, h1, h2⟩ := ho
  obtain ⟨ta, a1, a2⟩ := ha
  obtain ⟨tb, b1, b2⟩ := hb
  exact ⟨_, fun j => pe_op (h1 j) (a1 j) (b1 j), sem_op h2 a2 b2⟩
theorem ev_cmp {op : CmpOp} {g : D → D → Option D} {a b : Expr} {fa fb : M D} (ho : OpV 𝓕 ca (compareOp op) g) (ha : Ev 𝓕 ca a fa) (hb : Ev 𝓕 ca b fb) (hm : behindInMarks op b = false := by first | exact nomark _ | rfl) : Ev 𝓕 ca (.Compare a [op] [b] pos) (op2 g fa fb) := by
  obtain ⟨r, h1, h2⟩ := ho
  obtain ⟨ta, a1, a2⟩ := ha
  obtain ⟨tb, b1, b2⟩ := hb
  exact ⟨_, fun j => pe_cmpR (h1 j) (a1 j) (b1 j) hm, sem_op h2 a2 b2⟩
/-- a value that is a truth value, as a test -/
def asB (f : M D) : M Bool := bindM f fun d => match d with
  | .bl b => ret b
  | _ => fun _ => .bad
theorem asB_ok {F W : Addr → Prop} {H : Hp} {σ : St} {s : S} {f : M D} {P : Bool × List D → Prop} {N : Exn → List D → Prop} (h : wpr (asB f s) P N) : wpr (f s) (fun r => ∃ b, r.1 = .bl b ∧ P (b, r.2)) N := by
  unfold asB bindM at h
  refine wpr_mono (wpr_bind.mp h) (fun r q => ?_) fun _ _ z => z
  obtain ⟨d, s'⟩ := r
  cases d with
  | bl b => exact ⟨b, rfl, q⟩
  | _ => exact q.elim
theorem sem_asB {XA : Exn → Value → Option Addr → Hp → Prop} {E : XK} {t : TE} {f : M D} (h : SemE ca XA E t f) : SemT ca XA E (tTest t) (asB f) := fun F W H σ s Q R q => by
  refine h F W H σ s _ R (wpr_mono (asB_ok (F := F) (W := W) (H := H) (σ := σ) q) (fun r ⟨b, e, p⟩ v H1 x1 R1 r1 => ?_) fun _ _ z => z)
  rw [e] at r1
  exact ⟨b, r1, p H1 x1 R1⟩
theorem tv_cmp {op : CmpOp} {g : D → D → Option D} {a b : Expr} {fa fb : M D} (ho : OpV 𝓕 ca (compareOp op) g) (ha : Ev 𝓕 ca a fa) (hb : Ev 𝓕 ca b fb) (hm : behindInMarks op b = false := by first | exact nomark _ | rfl) : Tv 𝓕 ca (.Compare a [op] [b] pos) (asB (op2 g fa fb)) := by
  obtain ⟨r, h1, h2⟩ := ho
  obtain ⟨ta, a1, a2⟩ := ha
  obtain ⟨tb, b1, b2⟩ := hb
  exact ⟨_, fun j => pt_cmpR (h1 j) (a1 j) (b1 j) hm, sem_asB (sem_op h2 a2 b2)⟩
theorem tv_val {e : Expr} {f : M D} (h : Ev 𝓕 ca e f) (he : ∀ (env : Env) whole, isTrue e env whole = (do let v ← whole; standAt e.pos; holding [v] (truthy v)) := by intro _ _; rfl) : Tv 𝓕 ca e (asB f) := by
  obtain ⟨t, a1, a2⟩ := h
  exact ⟨_, fun j => pt_val (a1 j) (he _), sem_asB a2⟩
/-- a < b < c -/
def chain2 (g g' : D → D → Option D) (fa fb fc : M D) : M D := bindM fa fun x => bindM fb fun y => bindM (lift (g x y)) fun z => match z with
  | .bl true => bindM fc fun u => lift (g' y u)
  | .bl false => ret (.bl false)
  | _ => fun _ => .bad
theorem sem_chain {XA : Exn → Value → Option Addr → Hp → Prop} {E : XK} {r r' : R2} {g g' : D → D → Option D} {ta tb tc : TE} {fa fb fc : M D} (hr : OpG ca r g) (hr' : OpG ca r' g') (ha : SemE ca XA E ta fa) (hb : SemE ca XA E tb fb) (hc : SemE ca XA E tc fc) :
    SemE ca XA E (tChain r r' ta tb tc) (chain2 g g' fa fb fc) := fun F W H σ s Q R q => by
  unfold chain2 bindM at q
  refine ha F W H σ s _ R (wpr_mono (wpr_bind.mp q) (fun r1 h1 v1 H1 x1 R1 p1 => ?_) fun _ _ z => z)
  refine hb F W H1 σ ⟨s.env, r1.2⟩ _ R1 (wpr_mono (wpr_bind.mp h1) (fun r2 h2 v2 H2 x2 R2 p2 => ?_) fun _ _ z => z.ext x1)
  obtain ⟨d, e, h3⟩ := wpr_lift (wpr_bind.mp h2)
  refine hr (or2 F W) H2 r1.1 r2.1 v1 v2 d _ R2.dom (R1.rep x2 p1) p2 e fun v H3 sm rp => ?_
  have R3 := R2.same sm
  have x3 : Ext W H H3 := (x1.trans x2).trans (Ext.same sm)
  have p3 := R2.rep (Ext.same (W := W) sm) p2
  cases d with
  | bl b =>
    refine ⟨b, rp, ?_⟩
    cases b with
    | true =>
      rw [if_pos rfl]
      refine hc F W H3 σ ⟨s.env, r2.2⟩ _ R3 (wpr_mono (wpr_bind.mp h3) (fun r4 h4 v4 H4 x4 R4 p4 => ?_) fun _ _ z => z.ext x3)
      obtain ⟨d', e', h5⟩ := wpr_lift h4
      refine hr' (or2 F W) H4 r2.1 r4.1 v2 v4 d' Q R4.dom (R3.rep x4 p3) p4 e' fun v' H' sm' rp' => ?_
      exact h5 v' H' ((x3.trans x4).trans (Ext.same sm')) (R4.same sm') rp'
    | false =>
      rw [if_neg Bool.false_ne_true]
      exact h3 (.bl false) H3 x3 R3 rfl
  | _ => exact h3.elim
theorem ev_chain {op op' : CmpOp} {g g' : D → D → Option D} {a b c : Expr} {fa fb fc : M D} (ho : OpV 𝓕 ca (compareOp op) g) (ho' : OpV 𝓕 ca (compareOp op') g') (ha : Ev 𝓕 ca a fa) (hb : Ev 𝓕 ca b fb) (hc : Ev 𝓕 ca c fc) (hm : lastMarks [op, op'] [b, c] = false := by with_unfolding_all rfl) :
    Ev 𝓕 ca (.Compare a [op, op'] [b, c] pos) (chain2 g g' fa fb fc) := by
  obtain ⟨r, h1, h2⟩ := ho
  obtain ⟨r', h1', h2'⟩ := ho'
  obtain ⟨ta, a1, a2⟩ := ha
  obtain ⟨tb, b1, b2⟩ := hb
  obtain ⟨tc, c1, c2⟩ := hc
  exact ⟨_, fun j => pe_chain (h1 j) (h1' j) (a1 j) (b1 j) (c1 j) hm, sem_chain h2 h2' a2 b2 c2⟩
theorem tv_chain {op op' : CmpOp} {g g' : D → D → Option D} {a b c : Expr} {fa fb fc : M D} (ho : OpV 𝓕 ca (compareOp op) g) (ho' : OpV 𝓕 ca (compareOp op') g') (ha : Ev 𝓕 ca a fa) (hb : Ev 𝓕 ca b fb) (hc : Ev 𝓕 ca c fc) (hm : lastMarks [op, op'] [b, c] = false := by with_unfolding_all rfl) :
    Tv 𝓕 ca (.Compare a [op, op'] [b, c] pos) (asB (chain2 g g' fa fb fc)) := by
  obtain ⟨r, h1, h2⟩ := ho
  obtain ⟨r', h1', h2'⟩ := ho'
  obtain ⟨ta, a1, a2⟩ := ha
  obtain ⟨tb, b1, b2⟩ := hb
  obtain ⟨tc, c1, c2⟩ := hc
  exact ⟨_, fun j => pt_chain (h1 j) (h1' j) (a1 j) (b1 j) (c1 j) hm, sem_asB (sem_chain h2 h2' a2 b2 c2)⟩
/-! and, or, not as tests -/
def andT (fa fb : M Bool) : M Bool := bindM fa fun x => if x = true then fb else ret false
def orT (fa fb : M Bool) : M Bool := bindM fa fun x => if x = true then ret true else fb
def notT (fa : M Bool) : M Bool := bindM fa fun x => ret (!x)
theorem wv_and1 {a : Expr} {fa : M Bool} (ha : Tv 𝓕 ca a fa) : Wv 𝓕 ca (.BoolOp .And [a] pos) fa := by
  obtain ⟨ta, a1, a2⟩ := ha
  exact ⟨ta, fun j => pw_and1 (a1 j), a2⟩
theorem wv_or1 {a : Expr} {fa : M Bool} (ha : Tv 𝓕 ca a fa) : Wv 𝓕 ca (.BoolOp .Or [a] pos) fa := by
  obtain ⟨ta, a1, a2⟩ := ha
  exact ⟨ta, fun j => pw_or1 (a1 j), a2⟩
theorem sem_and {XA : Exn → Value → Option Addr → Hp → Prop} {E : XK} {ta tb : TT} {fa fb : M Bool} (ha : SemT ca XA E ta fa) (hb : SemT ca XA E tb fb) : SemT ca XA E (tAnd ta tb) (andT fa fb) := fun F W H σ s Q R q => by
  unfold andT bindM at q
  refine ha F W H σ s _ R (wpr_mono (wpr_bind.mp q) (fun r1 h1 H1 x1 R1 => ?_) fun _ _ z => z)
  obtain ⟨b, s1⟩ := r1
  cases b with
  | true =>
    simp only [if_true] at h1 ⊢
    exact hb F W H1 σ ⟨s.env, s1⟩ Q R1 (wpr_mono h1 (fun r h => h.ext x1) fun _ _ z => z.ext x1)
  | false =>
    simp only [Bool.false_eq_true, if_false] at h1 ⊢
    exact h1 H1 x1 R1
theorem sem_or {XA : Exn → Value → Option Addr → Hp → Prop} {E : XK} {ta tb : TT} {fa fb : M Bool} (ha : SemT ca XA E ta fa) (hb : SemT ca XA E tb fb) : SemT ca XA E (tOr ta tb) (orT fa fb) := fun F W H σ s Q R q => by
  unfold orT bindM at q
  refine ha F W H σ s _ R (wpr_mono (wpr_bind.mp q) (fun r1 h1 H1 x1 R1 => ?_) fun _ _ z => z)
  obtain ⟨b, s1⟩ := r1
  cases b with
  | false =>
    simp only [Bool.false_eq_true, if_false] at h1 ⊢
    exact hb F W H1 σ ⟨s.env, s1⟩ Q R1 (wpr_mono h1 (fun r h => h.ext x1) fun _ _ z => z.ext x1)
  | true =>
    simp only [if_true] at h1 ⊢
    exact h1 H1 x1 R1
theorem wv_and {a b : Expr} {rest : List Expr} {fa fb : M Bool} (ha : Tv 𝓕 ca a fa) (hb : Wv 𝓕 ca (.BoolOp .And (b :: rest) pos) fb) : Wv 𝓕 ca (.BoolOp .And (a :: b :: rest) pos) (andT fa fb) := by
  obtain ⟨ta, a1, a2⟩ := ha
  obtain ⟨tb, b1, b2⟩ := hb
  exact ⟨_, fun j => pw_and (a1 j) (b1 j), sem_and a2 b2⟩
theorem wv_or {a b : Expr} {rest : List Expr} {fa fb : M Bool} (ha : Tv 𝓕 ca a fa) (hb : Wv 𝓕 ca (.BoolOp .Or (b :: rest) pos) fb) : Wv 𝓕 ca (.BoolOp .Or (a :: b :: rest) pos) (orT fa fb) := by
  obtain ⟨ta, a1, a2⟩ := ha
  obtain ⟨tb, b1, b2⟩ := hb
  exact ⟨_, fun j => pw_or (a1 j) (b1 j), sem_or a2 b2⟩
theorem tv_w {e : Expr} {f : M Bool} (h : Wv 𝓕 ca e f) : Tv 𝓕 ca e f := by
  obtain ⟨t, a1, a2⟩ := h
  exact ⟨t, fun j => (a1 j).pt, a2⟩
theorem tv_not {e : Expr} {f : M Bool} (h : Tv 𝓕 ca e f) : Tv 𝓕 ca (.UnaryOp .Not e pos) (notT f) := by
  obtain ⟨t, a1, a2⟩ := h
  refine ⟨_, fun j => pt_not (a1 j), fun F W H σ s Q R q => ?_⟩
  unfold notT bindM at q
  exact a2 F W H σ s _ R (wpr_mono (wpr_bind.mp q) (fun r1 h1 H1 x1 R1 => h1 H1 x1 R1) fun _ _ z => z)
/-- one of two by a test -/
def iteM {α : Type} (c : M Bool) (fa fb : M α) : M α := bindM c fun x => if x = true then fa else fb
theorem sem_if {XA : Exn → Value → Option Addr → Hp → Prop} {E : XK} {tc : TT} {ta tb : TE} {fc : M Bool} {fa fb : M D} (hc : SemT ca XA E tc fc) (ha : SemE ca XA E ta fa) (hb : SemE ca XA E tb fb) : SemE ca XA E (tIf tc ta tb) (iteM fc fa fb) := fun F W H σ s Q R q => by
  unfold iteM bindM at q
  refine hc F W H σ s _ R (wpr_mono (wpr_bind.mp q) (fun r1 h1 H1 x1 R1 => ?_) fun _ _ z => z)
  obtain ⟨b, s1⟩ := r1
  cases b with
  | true =>
    simp only [if_true] at h1 ⊢
    exact ha F W H1 σ ⟨s.env, s1⟩ Q R1 (wpr_mono h1 (fun r h => h.ext x1) fun _ _ z => z.ext x1)
  | false =>
    simp only [Bool.false_eq_true, if_false] at h1 ⊢
    exact hb F W H1 σ ⟨s.env, s1⟩ Q R1 (wpr_mono h1 (fun r h => h.ext x1) fun _ _ z => z.ext x1)
theorem ev_if {c a b : Expr} {fc : M Bool} {fa fb : M D} (hc : Tv 𝓕 ca c fc) (ha : Ev 𝓕 ca a fa) (hb : Ev 𝓕 ca b fb) : Ev 𝓕 ca (.IfExp c a b pos) (iteM fc fa fb) := by
  obtain ⟨tc, c1, c2⟩ := hc
  obtain ⟨ta, a1, a2⟩ := ha
  obtain ⟨tb, b1, b2⟩ := hb
  exact ⟨_, fun j => pe_ifExp (c1 j) (a1 j) (b1 j), sem_if c2 a2 b2⟩
/-! arguments, displays -/
def consA (fa : M D) (fr : M (List D)) : M (List D) := bindM fa fun x => bindM fr fun xs => ret (x :: xs)
theorem av_nil : Av 𝓕 ca [] (ret []) := ⟨_, fun _ => pa_nil, fun F W H σ s Q R q => q [] H (Ext.refl _ _) R rfl, fun s ds s' e => by cases e; rfl⟩
theorem av_cons {e : Expr} {es : List Expr} {fa : M D} {fr : M (List D)} (ha : Ev 𝓕 ca e fa) (hr : Av 𝓕 ca es fr) (hs : ∀ j, starEach (e :: es) (𝓕.X j).env = (false, eval e (𝓕.X j).env) :: starEach es (𝓕.X j).env := by intro _; rfl) : Av 𝓕 ca (e :: es) (consA fa fr) := by
  obtain ⟨ta, a1, a2⟩ := ha
  obtain ⟨tb, b1, b2, b3⟩ := hr
  refine ⟨_, fun j => pa_cons (a1 j) (b1 j) (hs j), fun F W H σ s Q R q => ?_, fun s ds s' e => ?_⟩
  case refine_2 =>
    unfold consA bindM at e
    cases e1 : fa s with
    | ok r =>
      rw [e1] at e
      have e : ((fr ⟨s.env, r.2⟩).bind fun r2 => ret (r.1 :: r2.1) ⟨s.env, r2.2⟩) = .ok (ds, s') := e
      cases e2 : fr ⟨s.env, r.2⟩ with
      | ok r2 =>
        rw [e2] at e
        cases e
        rw [List.length_cons, List.length_cons, b3 _ _ _ e2]
      | exc _ _ => rw [e2] at e; cases e
      | bad => rw [e2] at e; cases e
    | exc _ _ => rw [e1] at e; cases e
    | bad => rw [e1] at e; cases e
  unfold consA bindM at q
  refine a2 F W H σ s _ R (wpr_mono (wpr_bind.mp q) (fun r1 h1 v1 H1 x1 R1 p1 => ?_) fun _ _ z => z)
  refine b2 F W H1 σ ⟨s.env, r1.2⟩ _ R1 (wpr_mono (wpr_bind.mp h1) (fun r2 h2 v2 H2 x2 R2 p2 => ?_) fun _ _ z => z.ext x1)
  exact h2 (v1 :: v2) H2 (x1.trans x2) R2 ⟨v1, v2, rfl, R1.rep x2 p1, p2⟩
def tupM (f : M (List D)) : M D := bindM f fun ds => ret (.tup ds)
def lstM (f : M (List D)) : M D := bindM f fun ds => ret (.lst ds)
theorem wpr_and {α : Type} {r : Res α} {P : α → Prop} {N : Exn → List D → Prop} {G : α → Prop} (h : wpr r P N) (g : ∀ a, r = .ok a → G a) : wpr r (fun a => P a ∧ G a) N := by
  cases r with
  | ok a => exact ⟨h, g a rfl⟩
  | exc x c => exact h
  | bad => exact h
theorem rep_newT {Mu : Addr → Prop} {H : Hp} {p : Addr} {ds : List D} {vs : List V} (h : Reps ca Mu H ds vs) (hp : H p = none) : Rep ca Mu (upd H p (.tup vs)) (.tup ds) (.ref p) :=
  ⟨p, vs, rfl, upd_same, Reps.ext (W := fun _ => False) (Ext.upd hp) (fun _ z => z.elim) (fun _ z => z.elim) Grow.refl ds vs h⟩
theorem rep_newL {Mu : Addr → Prop} {H : Hp} {p : Addr} {ds : List D} {vs : List V} (h : Reps ca Mu H ds vs) (hp : H p = none) (dm : Dom Mu H) : Rep ca Mu (upd H p (.lst vs)) (.lst ds) (.ref p) :=
  ⟨p, vs, rfl, fun z => dm p z hp, upd_same, Reps.ext (W := fun _ => False) (Ext.upd hp) (fun _ z => z.elim) (fun _ z => z.elim) Grow.refl ds vs h⟩
theorem ev_tup {es : List Expr} {f : M (List D)} {k : Nat} (h : Av 𝓕 ca es f) (hz : es.length ≤ sizeLine := by decide) : Ev 𝓕 ca (.Tuple es k pos) (tupM f) := by
  obtain ⟨t, a1, a2, a3⟩ := h
  refine ⟨_, fun j => pe_tup (a1 j), fun F W H σ s Q R q => ?_⟩
  unfold tupM bindM at q
  refine a2 F W H σ s _ R (wpr_mono (wpr_and (wpr_bind.mp q) fun r e => a3 s r.1 r.2 e) (fun r1 ⟨h1, hl⟩ vs H1 x1 R1 p1 => ?_) fun _ _ z => z)
  refine ⟨by rw [p1.length, hl]; exact hz, fun p np => ?_⟩
  exact h1 (.ref p) _ (x1.trans (Ext.upd np)) (R1.same (same_upd np)) (rep_newT p1 np)
theorem ev_lst {es : List Expr} {f : M (List D)} (h : Av 𝓕 ca es f) (hz : es.length ≤ sizeLine := by decide) : Ev 𝓕 ca (.List es pos) (lstM f) := by
  obtain ⟨t, a1, a2, a3⟩ := h
  refine ⟨_, fun j => pe_lst (a1 j), fun F W H σ s Q R q => ?_⟩
  unfold lstM bindM at q
  refine a2 F W H σ s _ R (wpr_mono (wpr_and (wpr_bind.mp q) fun r e => a3 s r.1 r.2 e) (fun r1 ⟨h1, hl⟩ vs H1 x1 R1 p1 => ?_) fun _ _ z => z)
  refine ⟨by rw [p1.length, hl]; exact hz, fun p np => ?_⟩
  exact h1 (.ref p) _ (x1.trans (Ext.upd np)) (R1.same (same_upd np)) (rep_newL p1 np R1.dom)
/-! calls of built-ins -/
def callM (g : List D → Option D) (f : M (List D)) : M D := bindM f fun ds => lift (g ds)
theorem sem_call {XA : Exn → Value → Option Addr → Hp → Prop} {E : XK} {r : List V → Hp → VK → Prop} {g : List D → Option D} {t : TA} {f : M (List D)} (hr : CallG ca r g) (ha : SemA ca XA E t f) : SemE ca XA E (tCB r t) (callM g f) := fun F W H σ s Q R q => by
  unfold callM bindM at q
  refine ha F W H σ s _ R (wpr_mono (wpr_bind.mp q) (fun r1 h1 vs H1 x1 R1 p1 => ?_) fun _ _ z => z)
  obtain ⟨d, e, h2⟩ := wpr_lift h1
  exact hr (or2 F W) H1 r1.1 vs d Q R1.dom p1 e fun v H' sm rp => h2 v H' (x1.trans (Ext.same sm)) (R1.same sm) rp
theorem ev_callB {x : Str} {id : String} {g : List D → Option D} {e : Expr} {es : List Expr} {f : M (List D)} {p : Pos} (hc : CallV 𝓕 ca (.builtin id) g) (hm : 𝓕.mg x = none) (hv : bootBuiltins x = some (.builtin id)) (ha : Av 𝓕 ca (e :: es) f) (hg : ∀ j, Gl (𝓕.X j) x := by intro _; rfl) (hn : x ≠ "__name__" := by decide) (hdb : (x == ("__debug__" : Str)) = false := by decide)
    (he : ∀ j, starEach (e :: es) (𝓕.X j).env = (false, eval e (𝓕.X j).env) :: starEach es (𝓕.X j).env := by intro _; rfl) (hpl : ∀ j, (backTo pos (starEach es (𝓕.X j).env)).any (·.1) = false := by intro _; rfl) : Ev 𝓕 ca (.Call (.Name x p) (e :: es) [] pos) (callM g f) := by
  obtain ⟨r, h1, h2⟩ := hc
  obtain ⟨t, a1, a2, _⟩ := ha
  exact ⟨_, fun j => pe_callB (h1 j) (hg j) (by rw [𝓕.hmg j]; exact hm) hv (a1 j) hn hdb (he j) (hpl j), sem_call h2 a2⟩
theorem ev_callTy {x : Str} {T : String} {g : List D → Option D} {e : Expr} {es : List Expr} {f : M (List D)} {p : Pos} (hc : CallV 𝓕 ca (.type T) g) (hm : 𝓕.mg x = none) (hv : bootBuiltins x = some (.type T)) (ha : Av 𝓕 ca (e :: es) f) (hg : ∀ j, Gl (𝓕.X j) x := by intro _; rfl) (hn : x ≠ "__name__" := by decide) (hdb : (x == ("__debug__" : Str)) = false := by decide)
    (he : ∀ j, starEach (e :: es) (𝓕.X j).env = (false, eval e (𝓕.X j).env) :: starEach es (𝓕.X j).env := by intro _; rfl) (hpl : ∀ j, (backTo pos (starEach es (𝓕.X j).env)).any (·.1) = false := by intro _; rfl) : Ev 𝓕 ca (.Call (.Name x p) (e :: es) [] pos) (callM g f) := by
  obtain ⟨r, h1, h2⟩ := hc
  obtain ⟨t, a1, a2, _⟩ := ha
  exact ⟨_, fun j => pe_callTy (h1 j) (hg j) (by rw [𝓕.hmg j]; exact hm) hv (a1 j) hn hdb (he j) (hpl j), sem_call h2 a2⟩
/-- a global that holds a built-in (gcd) -/
theorem ev_callG {x : Str} {id : String} {g : List D → Option D} {e : Expr} {es : List Expr} {f : M (List D)} {p : Pos} (hc : CallV 𝓕 ca (.builtin id) g) (hm : 𝓕.mg x = some (.builtin id)) (ha : Av 𝓕 ca (e :: es) f) (hg : ∀ j, Gl (𝓕.X j) x := by intro _; rfl) (hdb : (x == ("__debug__" : Str)) = false := by decide)
    (he : ∀ j, starEach (e :: es) (𝓕.X j).env = (false, eval e (𝓕.X j).env) :: starEach es (𝓕.X j).env := by intro _; rfl) (hpl : ∀ j, (backTo pos (starEach es (𝓕.X j).env)).any (·.1) = false := by intro _; rfl) : Ev 𝓕 ca (.Call (.Name x p) (e :: es) [] pos) (callM g f) := by
  obtain ⟨r, h1, h2⟩ := hc
  obtain ⟨t, a1, a2, _⟩ := ha
  exact ⟨_, fun j => pe_callBfun (h1 j) (hg j) (by rw [𝓕.hmg j]; exact hm) (a1 j) hdb (he j) (hpl j), sem_call h2 a2⟩
/-! calls of own defs -/
/-- a def as a plain function: of the arguments and of the cup's content -/
abbrev Fn := List D → List D → Res (D × List D)
def cupW (ca : Option Addr) : Addr → Prop := fun a => ca = some a
/-- the promise of a def that comes to m -/
def spOf (XA : Exn → Value → Option Addr → Hp → Prop) (n : Nat) (m : Fn) : Sp := fun vs H Q E => vs.length = n ∧ ∃ (ca : Option Addr) (F : Addr → Prop) (ds c : List D), Reps ca (or2 F (cupW ca)) H ds vs ∧ CupAt ca F (cupW ca) H c ∧ (∀ a, F a → H a ≠ none) ∧
  wpr (m ds c) (fun r => ∀ v H' W', Step (cupW ca) H W' H' → Rep ca (or2 F W') H' r.1 v → CupAt ca F W' H' r.2 → Q v H') (ExcP ca F (cupW ca) H XA E)
def fnM (m : Fn) (f : M (List D)) : M D := bindM f fun ds s => m ds s.cup
end
end PL

namespace PL
open PySem PySem.Spec PyProof.Rows L2
theorem or2_cup {ca : Option Addr} {F W : Addr → Prop} (hc : ∀ a, ca = some a → W a) (a : Addr) : or2 (fun b => F b ∨ (W b ∧ ¬ cupW ca b)) (cupW ca) a ↔ or2 F W a := by
  constructor
  · rintro ((h | h) | h)
    · exact .inl h
    · exact .inr h.1
    · exact .inr (hc a h)
  · rintro (h | h)
    · exact .inl (.inl h)
    · by_cases c : cupW ca a
      · exact .inr c
      · exact .inl (.inr ⟨h, c⟩)
theorem Reps.mu {ca : Option Addr} {Mu Mu' : Addr → Prop} {H : Hp} {ds : List D} {vs : List V} (h : Reps ca Mu H ds vs) (s : ∀ a, Mu' a → Mu a) : Reps ca Mu' H ds vs :=
  Reps.ext (W := fun _ => False) (Ext.refl _ _) (fun _ z => z.elim) (fun _ z => z.elim) (Grow.sub s) ds vs h
theorem Rep.mu {ca : Option Addr} {Mu Mu' : Addr → Prop} {H : Hp} {d : D} {v : V} (h : Rep ca Mu H d v) (s : ∀ a, Mu' a → Mu a) : Rep ca Mu' H d v :=
  Rep.ext (W := fun _ => False) (Ext.refl _ _) (fun _ z => z.elim) (fun _ z => z.elim) (Grow.sub s) d v h
/-- behind a call: the cup alone may have changed -/
theorem SRep.called {ca : Option Addr} {F W : Addr → Prop} {H H' : Hp} {σ : St} {s : S} {c : List D} (R : SRep ca F W H σ s) (x : Ext (cupW ca) H H') (q : CupAt ca F W H' c) : SRep ca F W H' σ { s with cup := c } := by
  have hW : ∀ a, cupW ca a → W a := fun a e => (R.cup a e).1
  have lc : Lsts (cupW ca) H := fun a e => R.wl a (hW a e)
  have xW : Ext W H H' := fun a o h n => x a o h fun z => n (hW a z)
  refine ⟨R.len, fun i d e => ?_, fun i ds e => ?_, R.inj, q, fun a w => ?_, fun a f z => ?_⟩
  · obtain ⟨v, a, b⟩ := R.slot i d e
    exact ⟨v, a, R.rep xW b⟩
  · obtain ⟨a, vs, h1, h2, h3, h4, h5⟩ := R.own i ds e
    exact ⟨a, vs, h1, h2, h3, x _ _ h4 h3, R.reps xW h5⟩
  · by_cases e : cupW ca a
    · obtain ⟨_, vs, h, _⟩ := q a e
      exact ⟨vs, h⟩
    · obtain ⟨xs, h⟩ := R.wl a w
      exact ⟨xs, x _ _ h e⟩
  · cases e : H a with
    | none => exact R.fl a f e
    | some o =>
      by_cases c : cupW ca a
      · obtain ⟨_, vs, h, _⟩ := q a c
        rw [h] at z; cases z
      · rw [x _ _ e c] at z; cases z
section
variable {𝓕 : Fam} {ca : Option Addr} {pos : Pos}
/-- the def of the text that the module's name x stands for comes to m -/
def FnV (𝓕 : Fam) (x : Str) (n : Nat) (m : Fn) : Prop := ∃ (f : Addr) (fd : FuncData) (ps : List Str) (k : Nat), FnOk 𝓕.P 𝓕.w 𝓕.K 𝓕.mg 𝓕.base 𝓕.CX k f fd ps (spOf 𝓕.XA n m) ∧ k ≤ 𝓕.k ∧ 𝓕.mg x = some (.ref f) ∧ PySem.W.keepIn 𝓕.K (.ref f) = true ∧ Binds 𝓕.K fd ps []
theorem sem_fn {XA : Exn → Value → Option Addr → Hp → Prop} {E : XK} {n : Nat} {m : Fn} {t : TA} {f : M (List D)} (ha : SemA ca XA E t f) (hl : ∀ s ds c, f s = .ok (ds, c) → ds.length = n) : SemE ca XA E (tCall (spOf XA n m) [] E t) (fnM m f) := fun F W H σ s Q R q => by
  unfold fnM bindM at q
  refine ha F W H σ s _ R (wpr_mono (wpr_and (wpr_bind.mp q) fun r e => hl s r.1 r.2 e) (fun r1 ⟨h1, hn⟩ vs H1 x1 R1 p1 => ?_) fun _ _ z => z)
  have hW : ∀ a, ca = some a → W a := fun a e => (R1.cup a e).1
  have lc : Lsts (cupW ca) H1 := fun a e => R1.wl a (hW a e)
  have iff := @or2_cup ca F W hW
  show spOf XA n m (vs ++ []) H1 Q E
  rw [List.append_nil]
  refine ⟨by rw [p1.length, hn], ca, fun b => F b ∨ (W b ∧ ¬ cupW ca b), r1.1, r1.2, p1.mu fun a z => (iff a).mp z, fun a e => ?_, fun a z => ?_, ?_⟩
  · obtain ⟨w, us, h, r⟩ := R1.cup a e
    exact ⟨e, us, h, r.mu fun a z => (iff a).mp z⟩
  · rcases z with z | z
    · exact R1.fl a z
    · obtain ⟨us, e⟩ := R1.wl a z.1
      rw [e]; exact fun z => by cases z
  have conv : ∀ {W' : Addr → Prop} {H' : Hp}, Step (cupW ca) H1 W' H' → (∀ a, ca = some a → W' a) → ∀ a, or2 F W a → or2 (fun b => F b ∨ (W b ∧ ¬ cupW ca b)) W' a := fun {W' H'} st hw a z => by
    rcases z with z | z
    · exact .inl (.inl z)
    · by_cases c : cupW ca a
      · exact .inr (hw a c)
      · exact .inl (.inr ⟨z, c⟩)
  cases e : m r1.1 r1.2 with
  | ok r =>
    have h1 : wpr (m r1.1 r1.2) (PostE ca F W H σ s.env Q) (ExcP ca F W H XA E) := h1
    rw [e] at h1
    intro v H' W' st rp cp
    have hw : ∀ a, ca = some a → W' a := fun a e => (cp a e).1
    have x2 : Ext W H1 H' := fun a o h n => st.1 a o h fun z => n (hW a z)
    have cv := conv st hw
    refine h1 v H' (x1.trans x2) (R1.called st.1 fun a e => ?_) (rp.mu cv)
    obtain ⟨_, us, h, r⟩ := cp a e
    exact ⟨hW a e, us, h, r.mu cv⟩
  | exc x c =>
    have h1 : wpr (m r1.1 r1.2) (PostE ca F W H σ s.env Q) (ExcP ca F W H XA E) := h1
    rw [e] at h1
    intro cls dx W' H' st cp xa
    have hw : ∀ a, ca = some a → W' a := fun a e => (cp a e).1
    have x2 : Ext W H1 H' := fun a o h n => st.1 a o h fun z => n (hW a z)
    refine h1 cls dx W H' (Step.ext (x1.trans x2)) (fun a e => ?_) xa
    obtain ⟨_, us, h, r⟩ := cp a e
    exact ⟨hW a e, us, h, r.mu (conv st hw)⟩
  | bad =>
    have h1 : wpr (m r1.1 r1.2) (PostE ca F W H σ s.env Q) (ExcP ca F W H XA E) := h1
    rw [e] at h1
    exact h1.elim
theorem ev_call {x : Str} {n : Nat} {m : Fn} {e : Expr} {es : List Expr} {f : M (List D)} {p : Pos} (hf : FnV 𝓕 x n m) (ha : Av 𝓕 ca (e :: es) f) (hn : (e :: es).length = n := by rfl) (hg : ∀ j, Gl (𝓕.X j) x := by intro _; rfl) (hdb : (x == ("__debug__" : Str)) = false := by decide)
    (he : ∀ j, starEach (e :: es) (𝓕.X j).env = (false, eval e (𝓕.X j).env) :: starEach es (𝓕.X j).env := by intro _; rfl) (hpl : ∀ j, (backTo pos (starEach es (𝓕.X j).env)).any (·.1) = false := by intro _; rfl) : Ev 𝓕 ca (.Call (.Name x p) (e :: es) [] pos) (fnM m f) := by
  obtain ⟨fa, fd, ps, k, F, hk, hm, kp, b⟩ := hf
  obtain ⟨t, a1, a2, a3⟩ := ha
  refine ⟨tCall (spOf 𝓕.XA n m) [] 𝓕.E t, fun j => ?_, sem_fn a2 fun s ds s' e => (a3 s ds s' e).trans hn⟩
  have hP := 𝓕.hP j
  have hw := 𝓕.hw j
  have hK := 𝓕.hK j
  have hmg := 𝓕.hmg j
  have hB := 𝓕.hB j
  exact pe_call (by rw [hP, hw, hK, hmg, hB]; exact F) ((𝓕.room j).mono hk) (hg j) (by rw [hmg]; exact hm) (by rw [hK]; exact kp) (by rw [hK]; exact b) .nil (𝓕.pass j) (a1 j) hdb (he j) (hpl j)
/-! statements -/
def PostS (ca : Option Addr) (F W : Addr → Prop) (H : Hp) (Dn : Ends) : Fl → Prop
  | .nx s' => ∀ W' H' σ', Step W H W' H' → SRep ca F W' H' σ' s' → Dn.nx σ' H'
  | .bk s' => ∀ W' H' σ', Step W H W' H' → SRep ca F W' H' σ' s' → Dn.bk σ' H'
  | .ct s' => ∀ W' H' σ', Step W H W' H' → SRep ca F W' H' σ' s' → Dn.ct σ' H'
  | .rt d c => ∀ W' v H', Step W H W' H' → Rep ca (or2 F W') H' d v → CupAt ca F W' H' c → Dn.rt v H'
def SemS (ca : Option Addr) (XA : Exn → Value → Option Addr → Hp → Prop) (E : XK) (t : TS) (f : S → Res Fl) : Prop :=
  ∀ F W H σ s (Dn : Ends), SRep ca F W H σ s → wpr (f s) (PostS ca F W H Dn) (ExcP ca F W H XA E) → t Dn σ H
def Sv (𝓕 : Fam) (ca : Option Addr) (st : Stmt) (f : S → Res Fl) : Prop := ∃ t : TS, (∀ j, PS (𝓕.X j) st t) ∧ SemS ca 𝓕.XA 𝓕.E t f
def Bv (𝓕 : Fam) (ca : Option Addr) (st : List Stmt) (f : S → Res Fl) : Prop := ∃ t : TS, (∀ j, PSs (𝓕.X j) st t) ∧ SemS ca 𝓕.XA 𝓕.E t f
theorem PostS.step {F W W1 : Addr → Prop} {H H1 : Hp} {Dn : Ends} {f : Fl} (h : PostS ca F W H Dn f) (st : Step W H W1 H1) : PostS ca F W1 H1 Dn f := by
  cases f with
  | nx s => exact fun W' H' σ' q r => h W' H' σ' (st.trans q) r
  | bk s => exact fun W' H' σ' q r => h W' H' σ' (st.trans q) r
  | ct s => exact fun W' H' σ' q r => h W' H' σ' (st.trans q) r
  | rt d c => exact fun W' v H' q r c' => h W' v H' (st.trans q) r c'
def seqS (f g : S → Res Fl) : S → Res Fl := fun s => (f s).bind fun r => match r with
  | .nx s' => g s'
  | r => .ok r
def skipS : S → Res Fl := fun s => .ok (.nx s)
theorem bv_nil : Bv 𝓕 ca [] skipS := ⟨_, fun _ => pss_nil, fun F W H σ s Dn R q => q W H σ Step.refl R⟩
theorem sem_seq {XA : Exn → Value → Option Addr → Hp → Prop} {E : XK} {t u : TS} {f g : S → Res Fl} (h1 : SemS ca XA E t f) (h2 : SemS ca XA E u g) : SemS ca XA E (tSeq t u) (seqS f g) := fun F W H σ s Dn R q => by
  unfold seqS at q
  refine h1 F W H σ s _ R (wpr_mono (wpr_bind.mp q) (fun r h => ?_) fun _ _ z => z)
  cases r with
  | nx s' => exact fun W' H' σ' st R' => h2 F W' H' σ' s' Dn R' (wpr_mono h (fun r z => z.step st) fun _ _ z => z.step st)
  | bk s' => exact fun W' H' σ' st R' => h W' H' σ' st R'
  | ct s' => exact fun W' H' σ' st R' => h W' H' σ' st R'
  | rt d c => exact fun W' v H' st R' c' => h W' v H' st R' c'
theorem bv_cons {st : Stmt} {rest : List Stmt} {f g : S → Res Fl} (h1 : Sv 𝓕 ca st f) (h2 : Bv 𝓕 ca rest g) : Bv 𝓕 ca (st :: rest) (seqS f g) := by
  obtain ⟨t, a1, a2⟩ := h1
  obtain ⟨u, b1, b2⟩ := h2
  exact ⟨_, fun j => pss_cons (a1 j) (b1 j), sem_seq a2 b2⟩
theorem bv_one {st : Stmt} {f : S → Res Fl} (h1 : Sv 𝓕 ca st f) : Bv 𝓕 ca [st] f := by
  obtain ⟨t, a1, a2⟩ := h1
  exact ⟨_, fun j => pss_one (a1 j), a2⟩
theorem sv_pass : Sv 𝓕 ca (.Pass pos) skipS := ⟨_, fun _ => ps_pass, fun F W H σ s Dn R q => q W H σ Step.refl R⟩
def breakS : S → Res Fl := fun s => .ok (.bk s)
theorem sv_break : Sv 𝓕 ca (.Break pos) breakS := ⟨_, fun _ => ps_break, fun F W H σ s Dn R q => q W H σ Step.refl R⟩
def retS (f : M D) : S → Res Fl := fun s => (f s).bind fun r => .ok (.rt r.1 r.2)
theorem sv_ret {e : Expr} {f : M D} (h : Ev 𝓕 ca e f) : Sv 𝓕 ca (.Return (some e) pos) (retS f) := by
  obtain ⟨t, a1, a2⟩ := h
  refine ⟨_, fun j => ps_ret (a1 j), fun F W H σ s Dn R q => ?_⟩
  unfold retS at q
  exact a2 F W H σ s _ R (wpr_mono (wpr_bind.mp q) (fun r h v H' x R' p => h W v H' (.ext x) p R'.cup) fun _ _ z => z)
theorem sv_retN : Sv 𝓕 ca (.Return none pos) (fun s => .ok (.rt .non s.cup)) := ⟨_, fun _ => ps_retN, fun F W H σ s Dn R q => q W .non H Step.refl rfl R.cup⟩
def exprS (f : M D) : S → Res Fl := fun s => (f s).bind fun r => .ok (.nx ⟨s.env, r.2⟩)
theorem sv_expr {e : Expr} {f : M D} (h : Ev 𝓕 ca e f) (hs : ∀ j, swapsWith e none pos.line (𝓕.X j).env = pure false := by intro _; rfl) : Sv 𝓕 ca (.Expr e pos) (exprS f) := by
  obtain ⟨t, a1, a2⟩ := h
  refine ⟨_, fun j => ps_expr (a1 j) (hs j), fun F W H σ s Dn R q => ?_⟩
  unfold exprS at q
  exact a2 F W H σ s _ R (wpr_mono (wpr_bind.mp q) (fun r h v H' x R' p => h W H' σ (.ext x) R') fun _ _ z => z)
def ifS (c : M Bool) (f g : S → Res Fl) : S → Res Fl := fun s => (c s).bind fun r => if r.1 = true then f ⟨s.env, r.2⟩ else g ⟨s.env, r.2⟩
theorem sv_if {c : Expr} {a b : List Stmt} {fc : M Bool} {fa fb : S → Res Fl} (hc : Tv 𝓕 ca c fc) (ha : Bv 𝓕 ca a fa) (hb : Bv 𝓕 ca b fb) : Sv 𝓕 ca (.If c a b pos) (ifS fc fa fb) := by
  obtain ⟨tc, c1, c2⟩ := hc
  obtain ⟨ta, a1, a2⟩ := ha
  obtain ⟨tb, b1, b2⟩ := hb
  refine ⟨_, fun j => ps_if (c1 j) (a1 j) (b1 j), fun F W H σ s Dn R q => ?_⟩
  unfold ifS at q
  refine c2 F W H σ s _ R (wpr_mono (wpr_bind.mp q) (fun r h H1 x1 R1 => ?_) fun _ _ z => z)
  obtain ⟨b, s1⟩ := r
  cases b with
  | true =>
    simp only [if_true] at h ⊢
    exact a2 F W H1 σ ⟨s.env, s1⟩ Dn R1 (wpr_mono h (fun r z => z.step (.ext x1)) fun _ _ z => z.ext x1)
  | false =>
    simp only [Bool.false_eq_true, if_false] at h ⊢
    exact b2 F W H1 σ ⟨s.env, s1⟩ Dn R1 (wpr_mono h (fun r z => z.step (.ext x1)) fun _ _ z => z.ext x1)
/-! targets -/
/-- a target: from a value and a state; T: the slots that it may change -/
def SemG (ca : Option Addr) (XA : Exn → Value → Option Addr → Hp → Prop) (E : XK) (T : List Nat) (g : TG) (f : D → S → Res S) : Prop :=
  ∀ F W H σ s v d Q, SRep ca F W H σ s → Rep ca (or2 F W) H d v → wpr (f d s) (fun s' => ∀ σ' H', Ext W H H' → SRep ca F W H' σ' s' → σ'.length = σ.length → (∀ i, i ∉ T → σ'[i]? = σ[i]?) → Q σ' H') (ExcP ca F W H XA E) → g v σ H Q
/-- the state's other slots stay -/
def Kp {α : Type} (T : List Nat) (f : α → S → Res S) : Prop := ∀ d s s', f d s = .ok s' → ∀ (i : Nat), i ∉ T → s'.env[i]? = s.env[i]?
def Gv (𝓕 : Fam) (ca : Option Addr) (e : Expr) (T : List Nat) (f : D → S → Res S) : Prop := ∃ g : TG, (∀ j, PG (𝓕.X j) e g) ∧ SemG ca 𝓕.XA 𝓕.E T g f ∧ Kp T f
def setv (i : Nat) (d : D) (s : S) : Res S := .ok { s with env := s.env.set i (.val d) }
theorem setv_ok {i : Nat} {d : D} {s : S} {P : S → Prop} {N : Exn → List D → Prop} (h : wpr (setv i d s) P N) : P { s with env := s.env.set i (.val d) } := h
theorem kp_setv (i : Nat) : Kp [i] (setv i) := fun d s s' e j hj => by
  cases e
  show (s.env.set i (.val d))[j]? = _
  rw [List.getElem?_set_ne]
  intro e
  exact hj (by simp [e])
theorem gv_name {i : Nat} {x : Str} (hi : 𝓕.N[i]? = some x := by rfl) (hx : ∀ j, Loc (𝓕.X j).env.scope x := by intro _; first | exact Or.inl rfl | exact Or.inr rfl) (hf : ∀ j, (𝓕.X j).fn x = true ∨ (𝓕.X j).env.scope.names.lookup x = some .local := by intro _; first | exact .inl rfl | exact .inr rfl) : Gv 𝓕 ca (.Name x pos) [i] (setv i) := by
  refine ⟨gName i, fun j => pg_name (by rw [𝓕.hN j]; exact 𝓕.nd) (by rw [𝓕.hN j]; exact hi) (hx j) (hf j), fun F W H σ s v d Q R p q => ?_, kp_setv i⟩
  exact setv_ok q (σ.set i (some v)) H (Ext.refl _ _) (R.set p) (by rw [List.length_set]) fun j hj => by
    rw [List.getElem?_set_ne]
    intro e
    exact hj (by simp [e])
/-- several targets -/
def SemGs (ca : Option Addr) (XA : Exn → Value → Option Addr → Hp → Prop) (E : XK) (T : List Nat) (g : TGs) (f : List D → S → Res S) : Prop :=
  ∀ F W H σ s vs ds Q, SRep ca F W H σ s → Reps ca (or2 F W) H ds vs → wpr (f ds s) (fun s' => ∀ σ' H', Ext W H H' → SRep ca F W H' σ' s' → σ'.length = σ.length → (∀ i, i ∉ T → σ'[i]? = σ[i]?) → Q σ' H') (ExcP ca F W H XA E) → g vs σ H Q
def Gsv (𝓕 : Fam) (ca : Option Addr) (es : List Expr) (T : List Nat) (f : List D → S → Res S) : Prop := ∃ g : TGs, (∀ j, PGs (𝓕.X j) es g) ∧ SemGs ca 𝓕.XA 𝓕.E T g f ∧ Kp T f
def setNil : List D → S → Res S := fun ds s => match ds with
  | [] => .ok s
  | _ => .bad
def setCons (f : D → S → Res S) (g : List D → S → Res S) : List D → S → Res S := fun ds s => match ds with
  | d :: r => (f d s).bind fun s' => g r s'
  | [] => .bad
theorem gsv_nil : Gsv 𝓕 ca [] [] setNil := by
  refine ⟨gNil, fun j => pgs_nil, fun F W H σ s vs ds Q R p q => ?_, fun ds s s' e i _ => by cases ds with
    | nil => cases e; rfl
    | cons d r => cases e⟩
  cases ds with
  | nil => exact ⟨p, q σ H (Ext.refl _ _) R rfl fun _ _ => rfl⟩
  | cons d r => exact q.elim
theorem gsv_cons {e : Expr} {es : List Expr} {T T' : List Nat} {f : D → S → Res S} {g : List D → S → Res S} (h1 : Gv 𝓕 ca e T f) (h2 : Gsv 𝓕 ca es T' g)
    (hs : ∀ j, (assignEach (e :: es) (𝓕.X j).env).map (·.2) = assign e (𝓕.X j).env :: (assignEach es (𝓕.X j).env).map (·.2) := by intro _; rfl) : Gsv 𝓕 ca (e :: es) (T ++ T') (setCons f g) := by
  obtain ⟨t, a1, a2, a3⟩ := h1
  obtain ⟨u, b1, b2, b3⟩ := h2
  refine ⟨_, fun j => pgs_cons (a1 j) (b1 j) (hs j), fun F W H σ s vs ds Q R p q => ?_, fun ds s s' e i hi => ?_⟩
  case refine_2 =>
    cases ds with
    | nil => cases e
    | cons d r =>
      have e : ((f d s).bind fun s' => g r s') = .ok s' := e
      cases e1 : f d s with
      | ok s1 =>
        rw [e1] at e
        exact (b3 r s1 s' e i fun z => hi (List.mem_append_right _ z)).trans (a3 d s s1 e1 i fun z => hi (List.mem_append_left _ z))
      | exc _ _ => rw [e1] at e; cases e
      | bad => rw [e1] at e; cases e
  cases ds with
  | nil => exact q.elim
  | cons d r =>
    obtain ⟨v, vr, e1, p1, p2⟩ := p
    refine ⟨v, vr, e1, ?_⟩
    have q : wpr ((f d s).bind fun s' => g r s') _ _ := q
    refine a2 F W H σ s v d _ R p1 (wpr_mono (wpr_bind.mp q) (fun s1 h σ1 H1 x1 R1 l1 k1 => ?_) fun _ _ z => z)
    refine b2 F W H1 σ1 s1 vr r _ R1 (R.reps x1 p2) (wpr_mono h (fun s2 h2 σ2 H2 x2 R2 l2 k2 => ?_) fun _ _ z => z.ext x1)
    exact h2 σ2 H2 (x1.trans x2) R2 (l2.trans l1) fun i hi => (k2 i fun z => hi (List.mem_append_right _ z)).trans (k1 i fun z => hi (List.mem_append_left _ z))
def unpack (n : Nat) (f : List D → S → Res S) : D → S → Res S := fun d s => match d with
  | .tup ds => if ds.length = n then f ds s else .bad
  | _ => .bad
theorem gv_tup {es : List Expr} {k : Nat} {T : List Nat} {f : List D → S → Res S} (h : Gsv 𝓕 ca es T f) (n : Nat) (hn : ∀ j, (assignEach es (𝓕.X j).env).length = n := by intro _; rfl) (hst : ∀ j, (assignEach es (𝓕.X j).env).findIdx? (·.1) = none := by intro _; rfl) :
    Gv 𝓕 ca (.Tuple es k pos) T (unpack n f) := by
  obtain ⟨t, a1, a2, a3⟩ := h
  refine ⟨gTup 𝓕.K n t, fun j => ?_, fun F W H σ s v d Q R p q => ?_, fun d s s' e i hi => ?_⟩
  case refine_3 =>
    unfold unpack at e
    cases d with
    | tup ds =>
      dsimp only at e
      by_cases hl : ds.length = n
      · rw [if_pos hl] at e
        exact a3 ds s s' e i hi
      · rw [if_neg hl] at e
        cases e
    | _ => cases e
  · have := pg_tup (pos := pos) (k := k) (n := n) (𝓕.calm j) (a1 j) (hn j) (hst j)
    rw [𝓕.hK j] at this
    exact this
  · unfold unpack at q
    cases d with
    | tup ds =>
      obtain ⟨a, vs, e, h1, h2⟩ := p
      dsimp only at q
      by_cases hl : ds.length = n
      · rw [if_pos hl] at q
        exact ⟨a, vs, e, SqT.of h1, by rw [h2.length, hl], a2 F W H σ s vs ds Q R h2 q⟩
      · rw [if_neg hl] at q
        exact q.elim
    | _ => exact q.elim
def asgS (f : M D) (g : D → S → Res S) : S → Res Fl := fun s => (f s).bind fun r => (g r.1 ⟨s.env, r.2⟩).bind fun s' => .ok (.nx s')
theorem sem_asg {XA : Exn → Value → Option Addr → Hp → Prop} {E : XK} {t : TE} {g : TG} {T : List Nat} {f : M D} {fg : D → S → Res S} (h1 : SemE ca XA E t f) (h2 : SemG ca XA E T g fg) : SemS ca XA E (tAsg t g) (asgS f fg) := fun F W H σ s Dn R q => by
  unfold asgS at q
  refine h1 F W H σ s _ R (wpr_mono (wpr_bind.mp q) (fun r h v H1 x1 R1 p => ?_) fun _ _ z => z)
  refine h2 F W H1 σ ⟨s.env, r.2⟩ v r.1 _ R1 p (wpr_mono (wpr_bind.mp h) (fun s2 h2 σ2 H2 x2 R2 _ _ => ?_) fun _ _ z => z.ext x1)
  exact h2 W H2 σ2 (.ext (x1.trans x2)) R2
theorem sv_set {i : Nat} {x : Str} {e : Expr} {f : M D} {pos' : Pos} (he : Ev 𝓕 ca e f) (hi : 𝓕.N[i]? = some x := by rfl) (hx : ∀ j, Loc (𝓕.X j).env.scope x := by intro _; first | exact Or.inl rfl | exact Or.inr rfl) (hf : ∀ j, (𝓕.X j).fn x = true ∨ (𝓕.X j).env.scope.names.lookup x = some .local := by intro _; first | exact .inl rfl | exact .inr rfl)
    (hs : ∀ j, swapsWith e (some (.Name x pos')) pos.line (𝓕.X j).env = pure false := by intro _; rfl) : Sv 𝓕 ca (.Assign [.Name x pos'] e pos) (asgS f (setv i)) := by
  obtain ⟨t, a1, a2⟩ := he
  obtain ⟨g, b1, b2, _⟩ := gv_name (𝓕 := 𝓕) (ca := ca) (pos := pos) hi hx hf
  refine ⟨_, fun j => ps_set (by rw [𝓕.hN j]; exact 𝓕.nd) (by rw [𝓕.hN j]; exact hi) (hx j) (a1 j) (hs j) (hf j), sem_asg (g := gName i) (T := [i]) a2 fun F W H σ s v d Q R p q => ?_⟩
  exact setv_ok q (σ.set i (some v)) H (Ext.refl _ _) (R.set p) (by rw [List.length_set]) fun j hj => by
    rw [List.getElem?_set_ne]
    intro e
    exact hj (by simp [e])
theorem sv_asg {tg e : Expr} {T : List Nat} {f : M D} {fg : D → S → Res S} (he : Ev 𝓕 ca e f) (hg : Gv 𝓕 ca tg T fg) (hs : ∀ j, swapsWithSole [tg] e pos.line (𝓕.X j).env = pure false := by intro _; rfl) (hw : ∀ j, swappedStores [tg] e (𝓕.X j).env = pure none := by intro _; rfl)
    (h1 : ∀ j, (assignEach [tg] (𝓕.X j).env).map (·.2) = [assign tg (𝓕.X j).env] := by intro _; rfl) : Sv 𝓕 ca (.Assign [tg] e pos) (asgS f fg) := by
  obtain ⟨t, a1, a2⟩ := he
  obtain ⟨g, b1, b2, _⟩ := hg
  exact ⟨_, fun j => ps_asg (a1 j) (b1 j) (hs j) (hw j) (h1 j), sem_asg a2 b2⟩
/-- a, b = x, y: stored from the right -/
def par2 (i j : Nat) (f : M (List D)) : S → Res Fl := fun s => (f s).bind fun r => match r.1 with
  | [x, y] => (setv i x ⟨s.env, r.2⟩).bind fun s1 => (setv j y s1).bind fun s2 => .ok (.nx s2)
  | _ => .bad
theorem sv_par {i j : Nat} {x y : Str} {a b : Expr} {f : M (List D)} {px py pt : Pos} {kt k2 pt2} (ha : Av 𝓕 ca [a, b] f) (hij : i ≠ j := by decide) (hi : 𝓕.N[i]? = some x := by rfl) (hj : 𝓕.N[j]? = some y := by rfl)
    (hx : ∀ j, (𝓕.X j).env.scope.names.lookup x = some .local := by intro _; rfl) (hy : ∀ j, (𝓕.X j).env.scope.names.lookup y = some .local := by intro _; rfl)
    (hw : ∀ j, swappedStores [.Tuple [.Name x px, .Name y py] kt pt] (.Tuple [a, b] k2 pt2) (𝓕.X j).env = pure (some [x, y]) := by intro _; rfl)
    (hs : ∀ j, swapsWithSole [.Tuple [.Name x px, .Name y py] kt pt] (.Tuple [a, b] k2 pt2) pos.line (𝓕.X j).env = pure false := by intro _; rfl) :
    Sv 𝓕 ca (.Assign [.Tuple [.Name x px, .Name y py] kt pt] (.Tuple [a, b] k2 pt2) pos) (par2 i j f) := by
  obtain ⟨t, a1, a2, _⟩ := ha
  refine ⟨_, fun m => ps_par (𝓕.calm m) (by rw [𝓕.hN m]; exact 𝓕.nd) (by rw [𝓕.hN m]; exact hi) (by rw [𝓕.hN m]; exact hj) hij (hx m) (hy m) (a1 m) (hw m) (hs m), fun F W H σ s Dn R q => ?_⟩
  unfold par2 at q
  refine a2 F W H σ s _ R (wpr_mono (wpr_bind.mp q) (fun r h vs H1 x1 R1 p => ?_) fun _ _ z => z)
  obtain ⟨ds, s1⟩ := r
  match ds, h, p with
  | [d, e], h, p =>
    obtain ⟨v, vr, e1, p1, w, wr, e2, p2, e3⟩ := p
    subst e1; subst e2
    have e3 : wr = [] := e3
    subst e3
    refine ⟨v, w, rfl, ?_⟩
    have h : wpr ((setv i d ⟨s.env, s1⟩).bind fun s1 => (setv j e s1).bind fun s2 => Res.ok (Fl.nx s2)) (PostS ca F W H Dn) (ExcP ca F W H 𝓕.XA 𝓕.E) := h
    have h := setv_ok (wpr_bind.mp (setv_ok (wpr_bind.mp h)))
    exact h W H1 _ (.ext x1) ((R1.set p1).set p2)
end
end PL

namespace PL
open PySem PySem.Spec PyProof.Rows L2
/-! what is walked -/
def ItOf (ca : Option Addr) (F W : Addr → Prop) (H1 : Hp) (J : It) (ds : List D) : Prop := ∀ Mu H2, Ext W H1 H2 → Grow H1 (or2 F W) Mu →
  (∀ (i : Nat) (d : D), ds[i]? = some d → J.go i H2 ∧ ∀ x H3, J.yld i H2 x H3 → Same H2 H3 ∧ Rep ca Mu H3 d x) ∧ J.stop ds.length H2
def SemI (ca : Option Addr) (XA : Exn → Value → Option Addr → Hp → Prop) (E : XK) (t : TI) (f : M (List D)) : Prop :=
  ∀ F W H σ s R, SRep ca F W H σ s → wpr (f s) (fun r => ∀ J H', Ext W H H' → SRep ca F W H' σ ⟨s.env, r.2⟩ → ItOf ca F W H' J r.1 → R J H') (ExcP ca F W H XA E) → t σ H R
def Iv (𝓕 : Fam) (ca : Option Addr) (tg e : Expr) (f : M (List D)) : Prop := ∃ t : TI, (∀ j, PI (𝓕.X j) tg e t) ∧ SemI ca 𝓕.XA 𝓕.E t f
theorem pi_or {X : Cx} {tg e : Expr} {t u : TI} (h : PI X tg e t) (h' : PI X tg e u) : PI X tg e (fun σ H R => t σ H R ∨ u σ H R) :=
  ⟨fun pins s σ H R I q => q.elim (h.run pins s σ H R I) (h'.run pins s σ H R I)⟩
/-- the items of what is walked in order -/
def signs (z : Str) : List D := z.cps.toList.map fun c => .str ⟨#[c]⟩
def itemsD : D → Option (List D)
  | .lst ds => some ds
  | .tup ds => some ds
  | .str z => some (signs z)
  | _ => none
def srcM (f : M D) : M (List D) := bindM f fun d => lift (itemsD d)
section
variable {ca : Option Addr} {F W : Addr → Prop} {H : Hp} {K : PySem.W.Frag}
theorem itOf_list {a : Addr} {ds : List D} (h : Rep ca (or2 F W) H (.lst ds) (.ref a)) (l : Lsts W H) : ItOf ca F W H (Itl K a) ds := fun Mu H2 x g => by
  obtain ⟨b, vs, e, n, q, r⟩ := h
  cases e
  have nW : ¬ W a := fun z => n (.inr z)
  have q2 := x _ _ q nW
  have r2 : Reps ca Mu H2 ds vs := Reps.ext x l (fun _ z => .inr z) g ds vs r
  refine ⟨fun i d hd => ?_, vs, SqL.of q2, by rw [r.length]; exact Nat.le_refl _⟩
  obtain ⟨v, hv, rv⟩ := r2.get hd
  refine ⟨⟨vs, v, SqL.of q2, hv⟩, fun y H3 hy => ?_⟩
  obtain ⟨e3, y3⟩ := hy
  subst e3
  have := y3 vs (SqL.of q2)
  rw [hv] at this
  cases this
  exact ⟨Same.refl _, rv⟩
theorem itOf_tup {a : Addr} {ds : List D} (h : Rep ca (or2 F W) H (.tup ds) (.ref a)) (l : Lsts W H) : ItOf ca F W H (Itt K a) ds := fun Mu H2 x g => by
  obtain ⟨b, vs, e, q, r⟩ := h
  cases e
  have q2 := x.rdT l q
  have r2 : Reps ca Mu H2 ds vs := Reps.ext x l (fun _ z => .inr z) g ds vs r
  refine ⟨fun i d hd => ?_, vs, SqT.of q2, by rw [r.length]; exact Nat.le_refl _⟩
  obtain ⟨v, hv, rv⟩ := r2.get hd
  refine ⟨⟨vs, v, SqT.of q2, hv⟩, fun y H3 hy => ?_⟩
  obtain ⟨e3, y3⟩ := hy
  subst e3
  have := y3 vs (SqT.of q2)
  rw [hv] at this
  cases this
  exact ⟨Same.refl _, rv⟩
theorem itOf_str {z : Str} : ItOf ca F W H (Its z) (signs z) := fun Mu H2 x g => by
  refine ⟨fun i d hd => ?_, by show z.cps.size ≤ _; unfold signs; rw [List.length_map, Array.length_toList]; exact Nat.le_refl _⟩
  unfold signs at hd
  rw [List.getElem?_map] at hd
  cases e : z.cps.toList[i]? with
  | none => rw [e] at hd; cases hd
  | some c =>
    rw [e] at hd
    cases hd
    have e2 : z.cps[i]? = some c := by rw [← e]; simp
    refine ⟨(Array.getElem?_eq_some_iff.mp e2).1, fun y H3 hy => ?_⟩
    obtain ⟨e3, c', e4, e5⟩ := hy
    rw [e2] at e4
    cases e4
    rw [e3]
    exact ⟨Same.refl _, e5⟩
theorem itOf_fn {J : It} {n : Nat} {f : Nat → Int} (w : Walk J n (fun _ => True) (YFn fun i => .int (f i))) : ItOf ca F W H J ((List.range n).map fun i => .int (f i)) := fun Mu H2 x g => by
  refine ⟨fun i d hd => ?_, by rw [List.length_map, List.length_range]; exact w.stops H2 trivial⟩
  rw [List.getElem?_map] at hd
  cases e : (List.range n)[i]? with
  | none => rw [e] at hd; cases hd
  | some k =>
    rw [e] at hd
    cases hd
    obtain ⟨h1, h2⟩ := List.getElem?_eq_some_iff.mp e
    rw [List.getElem_range] at h2
    subst h2
    rw [List.length_range] at h1
    refine ⟨w.goes i H2 h1 trivial, fun y H3 hy => ?_⟩
    obtain ⟨e3, e4⟩ := w.yields i H2 y H3 h1 trivial hy
    rw [e3]
    exact ⟨Same.refl _, e4⟩
/-- pairs that are made new at each turn -/
theorem itOf_pair {J : It} {n : Nat} {G : Hp → Prop} {xs ys : Nat → Option V} {ds : List (D × D)} (w : Walk J n G (YPair xs ys)) (hn : ds.length = n) (hG : ∀ H2, Ext W H H2 → G H2)
    (hr : ∀ Mu H2, Ext W H H2 → Grow H (or2 F W) Mu → ∀ (i : Nat) (d : D × D), ds[i]? = some d → ∀ x y, xs i = some x → ys i = some y → Rep ca Mu H2 d.1 x ∧ Rep ca Mu H2 d.2 y) : ItOf ca F W H J (ds.map fun d => .tup [d.1, d.2]) := fun Mu H2 x g => by
  refine ⟨fun i d hd => ?_, by rw [List.length_map, hn]; exact w.stops H2 (hG H2 x)⟩
  rw [List.getElem?_map] at hd
  cases e : ds[i]? with
  | none => rw [e] at hd; cases hd
  | some d2 =>
    rw [e] at hd
    cases hd
    have hi : i < n := by rw [← hn]; exact (List.getElem?_eq_some_iff.mp e).1
    refine ⟨w.goes i H2 hi (hG H2 x), fun y H3 hy => ?_⟩
    obtain ⟨T, u, v, e1, e2, e3, e4, e5⟩ := w.yields i H2 y H3 hi (hG H2 x) hy
    obtain ⟨r1, r2⟩ := hr Mu H2 x g i d2 e u v e4 e5
    rw [e3, e1]
    exact ⟨same_upd e2, rep_newT (⟨u, [v], rfl, r1, ⟨v, [], rfl, r2, rfl⟩⟩ : Reps ca Mu H2 [d2.1, d2.2] [u, v]) e2⟩
end
section
variable {𝓕 : Fam} {ca : Option Addr} {pos : Pos} {tg : Expr}
theorem iv_seq {e : Expr} {f : M D} (h : Ev 𝓕 ca e f) : Iv 𝓕 ca tg e (srcM f) := by
  obtain ⟨t, a1, a2⟩ := h
  refine ⟨fun σ H R => iList 𝓕.K t σ H R ∨ iTup 𝓕.K t σ H R ∨ iStr t σ H R, fun j => ?_, fun F W H σ s R SR q => ?_⟩
  · have h1 := pi_list (tg := tg) (a1 j)
    have h2 := pi_tup (tg := tg) (a1 j)
    rw [𝓕.hK j] at h1 h2
    exact pi_or h1 (pi_or h2 (pi_str (a1 j)))
  · unfold srcM bindM at q
    cases e : f s with
    | exc x c =>
      rw [e] at q
      exact .inl (a2 F W H σ s _ SR (by rw [e]; exact q))
    | bad => rw [e] at q; exact q.elim
    | ok r =>
      rw [e] at q
      have q : wpr (lift (itemsD r.1) ⟨s.env, r.2⟩) _ _ := q
      obtain ⟨ds, e1, q⟩ := wpr_lift q
      obtain ⟨d, c⟩ := r
      cases d with
      | lst es =>
        cases e1
        refine .inl (a2 F W H σ s _ SR ?_)
        rw [e]
        intro v H1 x1 R1 p
        have p' := p
        obtain ⟨a, vs, e2, n, e3, r3⟩ := p'
        subst e2
        exact ⟨a, rfl, ⟨vs, SqL.of e3⟩, q _ H1 x1 R1 (itOf_list p R1.wl)⟩
      | tup es =>
        cases e1
        refine .inr (.inl (a2 F W H σ s _ SR ?_))
        rw [e]
        intro v H1 x1 R1 p
        have p' := p
        obtain ⟨a, vs, e2, e3, r3⟩ := p'
        subst e2
        exact ⟨a, rfl, ⟨vs, SqT.of e3⟩, q _ H1 x1 R1 (itOf_tup p R1.wl)⟩
      | str z =>
        cases e1
        refine .inr (.inr (a2 F W H σ s _ SR ?_))
        rw [e]
        intro v H1 x1 R1 p
        exact ⟨z, p, q _ H1 x1 R1 itOf_str⟩
      | _ => cases e1
/-- range of so many, of two ends, by a step -/
def rangeL (lo : Int) (n : Nat) (c : Int) : List D := (List.range n).map fun i => .int (lo + (i : Nat) * c)
def fits62 (i : Int) : Bool := decide (-(2 ^ 62) ≤ i) && decide (i < 2 ^ 62)
def range1 : List D → Option (List D)
  | [.int j] => if fits62 j = true then some ((List.range j.toNat).map fun i => .int (0 + (i : Nat))) else none
  | _ => none
def range2 : List D → Option (List D)
  | [.int i, .int j] => if (fits62 i && fits62 j) = true then some ((List.range (j - i).toNat).map fun k => .int (i + (k : Nat))) else none
  | _ => none
def srcA (g : List D → Option (List D)) (f : M (List D)) : M (List D) := bindM f fun ds => lift (g ds)
theorem fits62_ok {i : Int} (h : fits62 i = true) : -(2 ^ 62) ≤ i ∧ i < 2 ^ 62 := by
  unfold fits62 at h
  rw [Bool.and_eq_true, decide_eq_true_eq, decide_eq_true_eq] at h
  exact h
theorem iv_range1 {a : Expr} {f : M (List D)} {p : Pos} (ha : Av 𝓕 ca [a] f) (hm : 𝓕.mg "range" = none) (hg : ∀ j, Gl (𝓕.X j) "range" := by intro _; rfl) (hs : ∀ j, starEach [a] (𝓕.X j).env = [(false, eval a (𝓕.X j).env)] := by intro _; rfl) : Iv 𝓕 ca tg (.Call (.Name "range" p) [a] [] pos) (srcA range1 f) := by
  obtain ⟨t, a1, a2, _⟩ := ha
  refine ⟨_, fun j => pi_range1 (hg j) (by rw [𝓕.hmg j]; exact hm) (a1 j) (hs j), fun F W H σ s R SR q => ?_⟩
  unfold srcA bindM at q
  refine a2 F W H σ s _ SR (wpr_mono (wpr_bind.mp q) (fun r h vs H1 x1 R1 p => ?_) fun _ _ z => z)
  obtain ⟨es, e1, h2⟩ := wpr_lift h
  obtain ⟨ds, c⟩ := r
  dsimp only at e1 p h2
  unfold range1 at e1
  split at e1
  · rename_i j
    split at e1
    · rename_i hf
      cases e1
      obtain ⟨b1, b2⟩ := fits62_ok hf
      obtain ⟨v, r, e2, e3, e4⟩ := p
      subst e2
      have e3 : v = .int j := e3
      have e4 : r = [] := e4
      subst e3; subst e4
      exact ⟨j, rfl, b1, b2, h2 _ H1 x1 R1 (itOf_fn walk_range)⟩
    · cases e1
  · cases e1
theorem iv_range2 {a b : Expr} {f : M (List D)} {p : Pos} (ha : Av 𝓕 ca [a, b] f) (hm : 𝓕.mg "range" = none) (hg : ∀ j, Gl (𝓕.X j) "range" := by intro _; rfl) (hs : ∀ j, starEach [a, b] (𝓕.X j).env = [(false, eval a (𝓕.X j).env), (false, eval b (𝓕.X j).env)] := by intro _; rfl)
    (hs2 : ∀ j, starEach [b] (𝓕.X j).env = [(false, eval b (𝓕.X j).env)] := by intro _; rfl) : Iv 𝓕 ca tg (.Call (.Name "range" p) [a, b] [] pos) (srcA range2 f) := by
  obtain ⟨t, a1, a2, _⟩ := ha
  refine ⟨_, fun j => pi_range2 (hg j) (by rw [𝓕.hmg j]; exact hm) (a1 j) (hs j) (hs2 j), fun F W H σ s R SR q => ?_⟩
  unfold srcA bindM at q
  refine a2 F W H σ s _ SR (wpr_mono (wpr_bind.mp q) (fun r h vs H1 x1 R1 p => ?_) fun _ _ z => z)
  obtain ⟨es, e1, h2⟩ := wpr_lift h
  obtain ⟨ds, c⟩ := r
  dsimp only at e1 p h2
  unfold range2 at e1
  split at e1
  · rename_i i j
    split at e1
    · rename_i hf
      cases e1
      rw [Bool.and_eq_true] at hf
      obtain ⟨b1, b2⟩ := fits62_ok hf.1
      obtain ⟨b3, b4⟩ := fits62_ok hf.2
      obtain ⟨v, r, e2, e3, w, r', e4, e5, e6⟩ := p
      subst e2; subst e4
      have e3 : v = .int i := e3
      have e5 : w = .int j := e5
      have e6 : r' = [] := e6
      subst e3; subst e5; subst e6
      exact ⟨i, j, rfl, ⟨b1, b2, b3, b4⟩, h2 _ H1 x1 R1 (itOf_fn walk_range)⟩
    · cases e1
  · cases e1
def range3 : List D → Option (List D)
  | [.int i, .int j, .int c] => if (decide (c ≠ 0) && decide (c.natAbs < 1073741824) && Builtin.Range.small i j c) = true then some ((List.range (Builtin.Range.rangeSize i j c).toNat).map fun k => .int (i + (k : Nat) * c)) else none
  | _ => none
theorem iv_range3 {a b c : Expr} {f : M (List D)} {p : Pos} (ha : Av 𝓕 ca [a, b, c] f) (hm : 𝓕.mg "range" = none) (hz : ∀ i j k, 0 ≤ Builtin.Range.rangeSize i j k) (hg : ∀ j, Gl (𝓕.X j) "range" := by intro _; rfl)
    (hs : ∀ j, starEach [a, b, c] (𝓕.X j).env = (false, eval a (𝓕.X j).env) :: starEach [b, c] (𝓕.X j).env := by intro _; rfl) (hs2 : ∀ j, (backTo pos (starEach [b, c] (𝓕.X j).env)).any (·.1) = false := by intro _; rfl) : Iv 𝓕 ca tg (.Call (.Name "range" p) [a, b, c] [] pos) (srcA range3 f) := by
  obtain ⟨t, a1, a2, _⟩ := ha
  refine ⟨_, fun j => pi_range3 (hg j) (by rw [𝓕.hmg j]; exact hm) (a1 j) (hs j) (hs2 j), fun F W H σ s R SR q => ?_⟩
  unfold srcA bindM at q
  refine a2 F W H σ s _ SR (wpr_mono (wpr_bind.mp q) (fun r h vs H1 x1 R1 p => ?_) fun _ _ z => z)
  obtain ⟨es, e1, h2⟩ := wpr_lift h
  obtain ⟨ds, c'⟩ := r
  dsimp only at e1 p h2
  unfold range3 at e1
  split at e1
  · rename_i i j k
    split at e1
    · rename_i hf
      cases e1
      rw [Bool.and_eq_true, Bool.and_eq_true, decide_eq_true_eq, decide_eq_true_eq] at hf
      obtain ⟨v, r, e2, e3, w, r', e4, e5, u, r2, e7, e8, e6⟩ := p
      subst e2; subst e4; subst e7
      have e3 : v = .int i := e3
      have e5 : w = .int j := e5
      have e8 : u = .int k := e8
      have e6 : r2 = [] := e6
      subst e3; subst e5; subst e6; subst e8
      refine ⟨i, j, k, (Builtin.Range.rangeSize i j k).toNat, rfl, ⟨hf.1.1, hf.1.2, hf.2, ?_⟩, h2 _ H1 x1 R1 (itOf_fn walk_rangeC)⟩
      exact (Int.toNat_of_nonneg (hz i j k)).symm
    · cases e1
  · cases e1
/-- zip of two lists, of two tuples -/
def pairUp (xs ys : List D) : List D := (xs.zip ys).map fun d => .tup [d.1, d.2]
def zip2 : List D → Option (List D)
  | [.lst xs, .lst ys] => some (pairUp xs ys)
  | [.tup xs, .tup ys] => some (pairUp xs ys)
  | _ => none
theorem zip_get {xs ys : List D} {i : Nat} {d : D × D} (h : (xs.zip ys)[i]? = some d) : xs[i]? = some d.1 ∧ ys[i]? = some d.2 := by
  obtain ⟨h1, h2⟩ := List.getElem?_eq_some_iff.mp h
  rw [List.getElem_zip] at h2
  rw [List.length_zip] at h1
  subst h2
  exact ⟨List.getElem?_eq_getElem (by omega), List.getElem?_eq_getElem (by omega)⟩
theorem iv_zip {a b : Expr} {f : M (List D)} {p tpos : Pos} {elts : List Expr} {kk : Nat} (ha : Av 𝓕 ca [a, b] f) (hm : 𝓕.mg "zip" = none) (hg : ∀ j, Gl (𝓕.X j) "zip" := by intro _; rfl)
    (hs : ∀ j, starEach [a, b] (𝓕.X j).env = [(false, eval a (𝓕.X j).env), (false, eval b (𝓕.X j).env)] := by intro _; rfl) (hs2 : ∀ j, starEach [b] (𝓕.X j).env = [(false, eval b (𝓕.X j).env)] := by intro _; rfl) : Iv 𝓕 ca (.Tuple elts kk tpos) (.Call (.Name "zip" p) [a, b] [] pos) (srcA zip2 f) := by
  obtain ⟨t, a1, a2, _⟩ := ha
  refine ⟨RZ.iZipA 𝓕.K t, fun j => ?_, fun F W H σ s R SR q => ?_⟩
  · have h := RZ.pi_zipA (elts := elts) (kk := kk) (tpos := tpos) (p := p) (pos := pos) (hg j) (by rw [𝓕.hmg j]; exact hm) (a1 j) (by rw [hs j, hs2 j]) (by rw [hs2 j]; rfl)
    rw [𝓕.hK j] at h
    exact h
  unfold srcA bindM at q
  refine a2 F W H σ s _ SR (wpr_mono (wpr_bind.mp q) (fun r h vs H1 x1 R1 p => ?_) fun _ _ z => z)
  obtain ⟨es, e1, h2⟩ := wpr_lift h
  obtain ⟨ds, c⟩ := r
  dsimp only at e1 p h2
  unfold zip2 at e1
  split at e1
  · rename_i xs ys
    cases e1
    obtain ⟨v, r, e2, e3, w, r', e4, e5, e6⟩ := p
    subst e2; subst e4
    have e6 : r' = [] := e6
    subst e6
    obtain ⟨a, us, q1, q2, q3, q4⟩ := e3
    obtain ⟨b, ws, q5, q6, q7, q8⟩ := e5
    subst q1; subst q5
    refine ⟨a, b, us, ws, rfl, .inl ⟨SqL.of q3, SqL.of q7, h2 _ H1 x1 R1 ?_⟩⟩
    refine itOf_pair (ds := xs.zip ys) (walk_zip (xs := us) (ys := ws) rfl) (by rw [List.length_zip, q4.length, q8.length]) (fun H2 x => ⟨SqL.of (x _ _ q3 fun z => q2 (.inr z)), SqL.of (x _ _ q7 fun z => q6 (.inr z))⟩) fun Mu H2 x g i d hd y z hy hz => ?_
    obtain ⟨k1, k2⟩ := zip_get hd
    obtain ⟨v1, m1, m2⟩ := (Reps.ext x R1.wl (fun _ z => .inr z) g xs us q4).get k1
    obtain ⟨v2, m3, m4⟩ := (Reps.ext x R1.wl (fun _ z => .inr z) g ys ws q8).get k2
    rw [m1] at hy; rw [m3] at hz
    cases hy; cases hz
    exact ⟨m2, m4⟩
  · rename_i xs ys
    cases e1
    obtain ⟨v, r, e2, e3, w, r', e4, e5, e6⟩ := p
    subst e2; subst e4
    have e6 : r' = [] := e6
    subst e6
    obtain ⟨a, us, q1, q3, q4⟩ := e3
    obtain ⟨b, ws, q5, q7, q8⟩ := e5
    subst q1; subst q5
    refine ⟨a, b, us, ws, rfl, .inr ⟨SqT.of q3, SqT.of q7, h2 _ H1 x1 R1 ?_⟩⟩
    have wk : Walk (RZ.ItzT 𝓕.K a b) (min us.length ws.length) (fun H => SqT 𝓕.K H a us ∧ SqT 𝓕.K H b ws) (YPair (fun i => us[i]?) (fun i => ws[i]?)) := by
      refine ⟨fun i _ hi q => ?_, fun _ q => ⟨us, ws, q.1, q.2, by omega⟩, fun i H v H' _ q y => ?_⟩
      · have g1 : i < us.length := by omega
        have g2 : i < ws.length := by omega
        exact ⟨us, ws, us[i], ws[i], q.1, q.2, List.getElem?_eq_getElem g1, List.getElem?_eq_getElem g2⟩
      · obtain ⟨T, x, z, n1, n2, n3, n4, n5⟩ := y
        exact ⟨T, x, z, n1, n2, n3, n4 us q.1, n5 ws q.2⟩
    refine itOf_pair (ds := xs.zip ys) wk (by rw [List.length_zip, q4.length, q8.length]) (fun H2 x => ⟨SqT.of (x.rdT R1.wl q3), SqT.of (x.rdT R1.wl q7)⟩) fun Mu H2 x g i d hd y z hy hz => ?_
    obtain ⟨k1, k2⟩ := zip_get hd
    obtain ⟨v1, m1, m2⟩ := (Reps.ext x R1.wl (fun _ z => .inr z) g xs us q4).get k1
    obtain ⟨v2, m3, m4⟩ := (Reps.ext x R1.wl (fun _ z => .inr z) g ys ws q8).get k2
    rw [m1] at hy; rw [m3] at hz
    cases hy; cases hz
    exact ⟨m2, m4⟩
  · cases e1
end
end PL

namespace PL
open PySem PySem.Spec PyProof.Rows L2
/-! loops -/
def forL (tgt : D → S → Res S) (body : S → Res Fl) : List D → S → Res Fl
  | [], s => .ok (.nx s)
  | d :: ds, s => (tgt d s).bind fun s1 => (body s1).bind fun r => match r with
    | .nx s2 => forL tgt body ds s2
    | .ct s2 => forL tgt body ds s2
    | .bk s2 => .ok (.nx s2)
    | .rt d c => .ok (.rt d c)
def forS (src : M (List D)) (tgt : D → S → Res S) (body : S → Res Fl) : S → Res Fl := fun s => (src s).bind fun r => forL tgt body r.1 ⟨s.env, r.2⟩
def whileL (c : M Bool) (body : S → Res Fl) : Nat → S → Res Fl
  | 0, _ => .bad
  | n + 1, s => (c s).bind fun r => if r.1 = true then (body ⟨s.env, r.2⟩).bind fun r => (match r with
    | .nx s2 => whileL c body n s2
    | .ct s2 => whileL c body n s2
    | .bk s2 => .ok (.nx s2)
    | .rt d c => .ok (.rt d c)) else .ok (.nx ⟨s.env, r.2⟩)
theorem grow_of {F W W1 W' : Addr → Prop} {H H1 H' : Hp} (x : Step W H W1 H1) (y : Step W1 H1 W' H') : Grow H1 (or2 F W1) (or2 F W') := fun a z => by
  rcases z with z | z
  · exact .inl (.inl z)
  · rcases y.2 a z with q | q
    · exact .inl (.inr q)
    · exact .inr q
section
variable {𝓕 : Fam} {ca : Option Addr} {pos : Pos}
theorem sem_for {XA : Exn → Value → Option Addr → Hp → Prop} {E : XK} {T : List Nat} {wi : TI} {g : TG} {tb : TS} {src : M (List D)} {tgt : D → S → Res S} {body : S → Res Fl} (hi : SemI ca XA E wi src) (hg : SemG ca XA E T g tgt) (hb : SemS ca XA E tb body) :
    SemS ca XA E (tFor wi g tb) (forS src tgt body) := fun F W H σ s Dn R q => by
  unfold forS at q
  refine hi F W H σ s _ R (wpr_mono (wpr_bind.mp q) (fun r h J H1 x1 R1 it => ?_) fun _ _ z => z)
  obtain ⟨ds, c⟩ := r
  dsimp only at h R1 it
  refine ⟨fun i m σ' H' => m + i = ds.length ∧ ∃ W' s', Step W H1 W' H' ∧ SRep ca F W' H' σ' s' ∧ wpr (forL tgt body (ds.drop i) s') (PostS ca F W H Dn) (ExcP ca F W H XA E), ⟨ds.length, by omega, W, _, Step.refl, R1, by rw [List.drop_zero]; exact h⟩, ?_⟩
  rintro i m σ' H' ⟨hm, W', s', st, R', h'⟩
  have st0 : Step W H W' H' := (Step.ext x1).trans st
  have it' := it (or2 F W') H' st.1 (grow_of Step.refl st)
  cases e : ds.drop i with
  | nil =>
    have hl : i = ds.length := by
      have := List.drop_eq_nil_iff.mp e
      omega
    rw [e] at h'
    subst hl
    exact .inl ⟨it'.2, h' W' H' σ' st0 R'⟩
  | cons d rest =>
    have hd : ds[i]? = some d := by
      have : (ds.drop i)[0]? = some d := by rw [e]; rfl
      rw [List.getElem?_drop, Nat.add_zero] at this
      exact this
    have hr : ds.drop (i + 1) = rest := by
      have : (ds.drop i).drop 1 = rest := by rw [e]; rfl
      rw [List.drop_drop] at this
      exact this
    have hi : i < ds.length := (List.getElem?_eq_some_iff.mp hd).1
    rw [e] at h'
    obtain ⟨go, yl⟩ := it'.1 i d hd
    refine .inr ⟨go, fun σ2 H2 => ∃ W2 s2, Step W H1 W2 H2 ∧ SRep ca F W2 H2 σ2 s2 ∧ wpr (forL tgt body rest s2) (PostS ca F W H Dn) (ExcP ca F W H XA E), ?_, fun x H3 hy => ?_⟩
    · rintro σ2 H2 ⟨W2, s2, a, b, c⟩
      exact ⟨m - 1, by omega, by omega, W2, s2, a, b, by rw [hr]; exact c⟩
    · obtain ⟨sm, rp⟩ := yl x H3 hy
      have R3 := R'.same sm
      have h'' : wpr ((tgt d s').bind fun s1 => (body s1).bind fun r => match r with
        | .nx s2 => forL tgt body rest s2
        | .ct s2 => forL tgt body rest s2
        | .bk s2 => .ok (.nx s2)
        | .rt d c => .ok (.rt d c)) (PostS ca F W H Dn) (ExcP ca F W H XA E) := h'
      have s3 : Step W H W' H3 := st0.trans (Step.ext (Ext.same sm))
      refine hg F W' H3 σ' s' x d _ R3 rp (wpr_mono (wpr_bind.mp h'') (fun s4 h4 σ4 H4 x4 R4 _ _ => ?_) fun _ _ z => z.step s3)
      have s5 : Step W H W' H4 := s3.trans (Step.ext x4)
      have s6 : Step W H1 W' H4 := st.trans ((Step.ext (Ext.same sm)).trans (Step.ext x4))
      refine hb F W' H4 σ4 s4 _ R4 (wpr_mono (wpr_bind.mp h4) (fun r hr => ?_) fun _ _ z => z.step s5)
      cases r with
      | nx s2 => exact fun W2 H2 σ2 y R2 => ⟨W2, s2, s6.trans y, R2, hr⟩
      | ct s2 => exact fun W2 H2 σ2 y R2 => ⟨W2, s2, s6.trans y, R2, hr⟩
      | bk s2 => exact fun W2 H2 σ2 y R2 => hr W2 H2 σ2 (s5.trans y) R2
      | rt d c => exact fun W2 v H2 y rp cp => hr W2 v H2 (s5.trans y) rp cp
theorem sv_for {tg iter : Expr} {b : List Stmt} {T : List Nat} {src : M (List D)} {tgt : D → S → Res S} {body : S → Res Fl} (hi : Iv 𝓕 ca tg iter src) (hg : Gv 𝓕 ca tg T tgt) (hb : Bv 𝓕 ca b body) (hs : ∀ j x, foldedSetIterable iter (𝓕.X j).env x = pure x := by intro _ _; rfl) :
    Sv 𝓕 ca (.For tg iter b [] pos) (forS src tgt body) := by
  obtain ⟨wi, i1, i2⟩ := hi
  obtain ⟨g, g1, g2, _⟩ := hg
  obtain ⟨tb, b1, b2⟩ := hb
  exact ⟨_, fun j => ps_for (𝓕.own j) (𝓕.calm j) (i1 j) (g1 j) (b1 j) (hs j), sem_for i2 g2 b2⟩
theorem sem_while {XA : Exn → Value → Option Addr → Hp → Prop} {E : XK} {tc : TT} {tb : TS} {c : M Bool} {body : S → Res Fl} (hc : SemT ca XA E tc c) (hb : SemS ca XA E tb body) (n : Nat) : SemS ca XA E (tWhile tc tb) (whileL c body n) := fun F W H σ s Dn R q => by
  refine ⟨fun m σ' H' => ∃ W' s', Step W H W' H' ∧ SRep ca F W' H' σ' s' ∧ wpr (whileL c body m s') (PostS ca F W H Dn) (ExcP ca F W H XA E), ⟨n, W, s, Step.refl, R, q⟩, ?_⟩
  rintro m σ' H' ⟨W', s', st, R', h⟩
  cases m with
  | zero => exact h.elim
  | succ m =>
    have h : wpr ((c s').bind fun r => if r.1 = true then (body ⟨s'.env, r.2⟩).bind fun r => (match r with
      | .nx s2 => whileL c body m s2
      | .ct s2 => whileL c body m s2
      | .bk s2 => .ok (.nx s2)
      | .rt d c => .ok (.rt d c)) else .ok (.nx ⟨s'.env, r.2⟩)) (PostS ca F W H Dn) (ExcP ca F W H XA E) := h
    refine hc F W' H' σ' s' _ R' (wpr_mono (wpr_bind.mp h) (fun r h2 H2 x2 R2 => ?_) fun _ _ z => z.step st)
    obtain ⟨b, c2⟩ := r
    cases b with
    | true =>
      simp only [if_true] at h2 ⊢
      have s2 : Step W H W' H2 := st.trans (Step.ext x2)
      refine ⟨fun σ3 H3 => ∃ W3 s3, Step W H W3 H3 ∧ SRep ca F W3 H3 σ3 s3 ∧ wpr (whileL c body m s3) (PostS ca F W H Dn) (ExcP ca F W H XA E), fun σ3 H3 z => ⟨m, Nat.lt_succ_self m, z⟩, ?_⟩
      refine hb F W' H2 σ' ⟨s'.env, c2⟩ _ R2 (wpr_mono (wpr_bind.mp h2) (fun r hr => ?_) fun _ _ z => z.step s2)
      cases r with
      | nx s3 => exact fun W3 H3 σ3 y R3 => ⟨W3, s3, s2.trans y, R3, hr⟩
      | ct s3 => exact fun W3 H3 σ3 y R3 => ⟨W3, s3, s2.trans y, R3, hr⟩
      | bk s3 => exact fun W3 H3 σ3 y R3 => hr W3 H3 σ3 (s2.trans y) R3
      | rt d c => exact fun W3 v H3 y rp cp => hr W3 v H3 (s2.trans y) rp cp
    | false =>
      simp only [Bool.false_eq_true, if_false] at h2 ⊢
      exact h2 W' H2 σ' (st.trans (Step.ext x2)) R2
theorem sv_while {c : Expr} {b : List Stmt} {fc : M Bool} {body : S → Res Fl} (n : Nat) (hc : Tv 𝓕 ca c fc) (hb : Bv 𝓕 ca b body) : Sv 𝓕 ca (.While c b [] pos) (whileL fc body n) := by
  obtain ⟨tc, c1, c2⟩ := hc
  obtain ⟨tb, b1, b2⟩ := hb
  exact ⟨_, fun j => ps_while (𝓕.own j) (c1 j) (b1 j), sem_while c2 b2 n⟩
/-! comprehensions -/
/-- no error may leave here -/
def Res.nox {α : Type} : Res α → Res α
  | .ok a => .ok a
  | .exc _ _ => .bad
  | .bad => .bad
theorem nox_ok {α : Type} {r : Res α} {P : α → Prop} {N N' : Exn → List D → Prop} (h : wpr r.nox P N) : wpr r P N' := by
  cases r with
  | ok a => exact h
  | exc x c => exact h.elim
  | bad => exact h
def wipeE (env : List Slot) : List Nat → List Slot
  | [] => env
  | v :: vs => (wipeE env vs).set v .un
def noOwn (env : List Slot) (vs : List Nat) : Bool := vs.all fun i => match env[i]? with
  | some (.own _) => false
  | _ => true
def lcL (vs : List Nat) (tgt : D → S → Res S) (test : M Bool) (elt : M D) : List D → S → List D → Res (D × List D)
  | [], s, acc => .ok (.lst acc, s.cup)
  | d :: ds, s, acc => (tgt d ⟨wipeE s.env vs, s.cup⟩).nox.bind fun s1 => (test s1).nox.bind fun r => if r.1 = true then (elt ⟨s1.env, r.2⟩).nox.bind fun r2 => lcL vs tgt test elt ds ⟨s.env, r2.2⟩ (acc ++ [r2.1]) else lcL vs tgt test elt ds ⟨s.env, r.2⟩ acc
def lcM (vs : List Nat) (src : M (List D)) (tgt : D → S → Res S) (test : M Bool) (elt : M D) : M D := bindM src fun ds s => if noOwn s.env vs = true ∧ ds.length ≤ sizeLine then lcL vs tgt test elt ds s [] else .bad
theorem wipeE_length (env : List Slot) : ∀ vs : List Nat, (wipeE env vs).length = env.length
  | [] => rfl
  | v :: vs => by unfold wipeE; rw [List.length_set, wipeE_length env vs]
theorem wipeE_get {env : List Slot} {i : Nat} {x : Slot} (hx : x ≠ .un) : ∀ {vs : List Nat}, (wipeE env vs)[i]? = some x → env[i]? = some x ∧ i ∉ vs
  | [], h => ⟨h, by simp⟩
  | v :: vs, h => by
    unfold wipeE at h
    by_cases hv : v = i
    · subst hv
      have hl : v < (wipeE env vs).length := by
        have := (List.getElem?_eq_some_iff.mp h).1
        rw [List.length_set] at this
        exact this
      rw [List.getElem?_set_self hl] at h
      exact absurd (Option.some.inj h).symm hx
    · rw [List.getElem?_set_ne hv] at h
      obtain ⟨a, b⟩ := wipeE_get hx h
      exact ⟨a, fun z => (List.mem_cons.mp z).elim (fun q => hv q.symm) b⟩
theorem wipeE_out {env : List Slot} {i : Nat} : ∀ {vs : List Nat}, i ∉ vs → (wipeE env vs)[i]? = env[i]?
  | [], _ => rfl
  | v :: vs, h => by
    have h1 : v ≠ i := fun e => h (by rw [e]; exact List.mem_cons_self)
    unfold wipeE
    rw [List.getElem?_set_ne h1]
    exact wipeE_out fun z => h (List.mem_cons_of_mem _ z)
theorem SRep.wiped {F W : Addr → Prop} {H : Hp} {σ : St} {s : S} (R : SRep ca F W H σ s) (vs : List Nat) : SRep ca F W H (wipe σ vs) ⟨wipeE s.env vs, s.cup⟩ where
  len := by rw [wipe_length, R.len]; exact (wipeE_length s.env vs).symm
  slot := fun i d e => by
    obtain ⟨a, b⟩ := wipeE_get (by intro z; cases z) e
    obtain ⟨v, p, q⟩ := R.slot i d a
    exact ⟨v, by rw [wipe_out b]; exact p, q⟩
  own := fun i ds e => by
    obtain ⟨a, b⟩ := wipeE_get (by intro z; cases z) e
    obtain ⟨x, vs', p, q⟩ := R.own i ds a
    exact ⟨x, vs', by rw [wipe_out b]; exact p, q⟩
  inj := fun i j ds es a e1 e2 h1 h2 => by
    obtain ⟨a1, b1⟩ := wipeE_get (by intro z; cases z) e1
    obtain ⟨a2, b2⟩ := wipeE_get (by intro z; cases z) e2
    rw [wipe_out b1] at h1
    rw [wipe_out b2] at h2
    exact R.inj i j ds es a a1 a2 h1 h2
  cup := R.cup
  wl := R.wl
  fl := R.fl
/-- behind a turn the slots ahead of it stand again -/
theorem SRep.back {F W : Addr → Prop} {H H' : Hp} {σ σ1 : St} {s s1 : S} {c : List D} (R : SRep ca F W H σ s) (x : Ext W H H') (R1 : SRep ca F W H' σ1 ⟨s1.env, c⟩) (ho : ∀ (i : Nat) (ds : List D), s.env[i]? = some (.own ds) → s1.env[i]? = some (.own ds) ∧ σ1[i]? = σ[i]?) : SRep ca F W H' σ ⟨s.env, c⟩ where
  len := R.len
  slot := fun i d e => by
    obtain ⟨v, p, q⟩ := R.slot i d e
    exact ⟨v, p, R.rep x q⟩
  own := fun i ds e => by
    obtain ⟨a, b⟩ := ho i ds e
    obtain ⟨y, vs, p, q⟩ := R1.own i ds a
    exact ⟨y, vs, by rw [← b]; exact p, q⟩
  inj := R.inj
  cup := R1.cup
  wl := R1.wl
  fl := R1.fl
theorem SRep.moreF {F F' W : Addr → Prop} {H H' : Hp} {σ : St} {s : S} (R : SRep ca F W H σ s) (x : Same H H') (g : ∀ a, F' a → F a ∨ H a = none) (f : ∀ a, F' a → H' a ≠ none) : SRep ca F' W H' σ s := by
  have gw : Grow H (or2 F W) (or2 F' W) := fun a z => by
    rcases z with z | z
    · rcases g a z with q | q
      · exact .inl (.inl q)
      · exact .inr q
    · exact .inl (.inr z)
  have cv : ∀ {ds : List D} {vs : List V}, Reps ca (or2 F W) H ds vs → Reps ca (or2 F' W) H' ds vs := fun {ds vs} r => Reps.ext (W := fun _ => False) (Ext.same x) (fun _ z => z.elim) (fun _ z => z.elim) gw ds vs r
  refine ⟨R.len, fun i d e => ?_, fun i ds e => ?_, R.inj, fun a e => ?_, (R.same x).wl, f⟩
  · obtain ⟨v, p, q⟩ := R.slot i d e
    exact ⟨v, p, Rep.ext (W := fun _ => False) (Ext.same x) (fun _ z => z.elim) (fun _ z => z.elim) gw d v q⟩
  · obtain ⟨a, vs, h1, h2, h3, h4, h5⟩ := R.own i ds e
    exact ⟨a, vs, h1, h2, h3, x _ _ h4, cv h5⟩
  · obtain ⟨w, vs, h, r⟩ := R.cup a e
    exact ⟨w, vs, x _ _ h, cv r⟩
/-- a list of someone else's is written -/
theorem SRep.writeF {F W : Addr → Prop} {H : Hp} {σ : St} {s : S} {p : Addr} {xs ys : List V} (R : SRep ca F W H σ s) (hp : F p) (nw : ¬ W p) (h : H p = some (.lst xs)) : SRep ca F W (upd H p (.lst ys)) σ s := by
  have x : Ext (fun a => a = p) H (upd H p (.lst ys)) := fun a o e n => by rw [upd_ne n]; exact e
  have l : Lsts (fun a => a = p) H := fun a e => ⟨xs, by rw [e]; exact h⟩
  have cv : ∀ {ds : List D} {vs : List V}, Reps ca (or2 F W) H ds vs → Reps ca (or2 F W) (upd H p (.lst ys)) ds vs := fun {ds vs} r => Reps.ext x l (fun a z => by rw [show a = p from z]; exact .inl hp) Grow.refl ds vs r
  have ne : ∀ a, W a → a ≠ p := fun a w e => nw (by rw [← e]; exact w)
  refine ⟨R.len, fun i d e => ?_, fun i ds e => ?_, R.inj, fun a e => ?_, fun a w => ?_, fun a f => ?_⟩
  · obtain ⟨v, q, r⟩ := R.slot i d e
    exact ⟨v, q, Rep.ext x l (fun a z => by rw [show a = p from z]; exact .inl hp) Grow.refl d v r⟩
  · obtain ⟨a, vs, h1, h2, h3, h4, h5⟩ := R.own i ds e
    exact ⟨a, vs, h1, h2, h3, by rw [upd_ne (ne a h2)]; exact h4, cv h5⟩
  · obtain ⟨w, vs, q, r⟩ := R.cup a e
    exact ⟨w, vs, by rw [upd_ne (ne a w)]; exact q, cv r⟩
  · obtain ⟨zs, q⟩ := R.wl a w
    exact ⟨zs, by rw [upd_ne (ne a w)]; exact q⟩
  · by_cases e : a = p
    · rw [e, upd_same]; exact fun z => by cases z
    · rw [upd_ne e]; exact R.fl a f
end
end PL

namespace PL
open PySem PySem.Spec PyProof.Rows L2
/-- a comprehension's block, in all contexts of a family -/
def Fam.blk (𝓕 : Fam) (scope : Scope) : Fam where
  J := 𝓕.J × Shared × Hp × Addr × List (Str × Addr) × List Addr
  X := fun j => (𝓕.X j.1).blk j.2.1 j.2.2.1 scope (compEnvC scope j.2.2.2.2.1 j.2.2.2.1 (𝓕.X j.1).env) j.2.2.2.2.2
  P := 𝓕.P
  w := 𝓕.w
  K := 𝓕.K
  mg := 𝓕.mg
  base := 𝓕.base
  CX := 𝓕.CX
  N := 𝓕.N
  E := E0
  XA := 𝓕.XA
  k := 𝓕.k
  hP := fun j => 𝓕.hP j.1
  hw := fun j => 𝓕.hw j.1
  hK := fun j => 𝓕.hK j.1
  hmg := fun j => 𝓕.hmg j.1
  hB := fun j => 𝓕.hB j.1
  hN := fun j => 𝓕.hN j.1
  nd := 𝓕.nd
  calm := fun j => 𝓕.calm j.1
  room := fun j => 𝓕.room j.1
  pass := fun j pins σ H s e s' I h => 𝓕.nox _ _ _ _ _ h
  own := fun j => PassesOwn.never
  nox := 𝓕.nox
theorem nox_get {α : Type} {r : Res α} {a : α} (h : r.nox = .ok a) : r = .ok a := by
  cases r with
  | ok b => exact h
  | exc x c => cases h
  | bad => cases h
def Tsv (𝓕 : Fam) (ca : Option Addr) (es : List Expr) (f : M Bool) : Prop := ∃ t : TT, (∀ j, PTs (𝓕.X j) es t) ∧ SemT ca 𝓕.XA 𝓕.E t f
section
variable {𝓕 : Fam} {ca : Option Addr} {pos : Pos}
theorem tsv_nil : Tsv 𝓕 ca [] (ret true) := ⟨_, fun _ => pts_nil, fun F W H σ s Q R q => q H (Ext.refl _ _) R⟩
theorem tsv_one {c : Expr} {f : M Bool} (h : Tv 𝓕 ca c f) : Tsv 𝓕 ca [c] f := by
  obtain ⟨t, a1, a2⟩ := h
  exact ⟨t, fun j => pts_one (a1 j), a2⟩
theorem sem_lc {XA : Exn → Value → Option Addr → Hp → Prop} {E : XK} {T vs : List Nat} {wi : TI} {g : TG} {tt : TT} {te : TE} {src : M (List D)} {tgt : D → S → Res S} {test : M Bool} {elt : M D}
    (hi : SemI ca XA E wi src) (hg : SemG ca XA E0 T g tgt) (ht : SemT ca XA E0 tt test) (he : SemE ca XA E0 te elt) (kp : Kp T tgt) (hT : ∀ i ∈ T, i ∈ vs) : SemE ca XA E (tLc wi g tt te vs) (lcM vs src tgt test elt) := fun F W H σ s Q R q => by
  unfold lcM bindM at q
  refine hi F W H σ s _ R (wpr_mono (wpr_bind.mp q) (fun r h J H1 x1 R1 it => ?_) fun _ _ z => z)
  obtain ⟨ds, c0⟩ := r
  dsimp only at h R1 it
  by_cases hc : noOwn s.env vs = true ∧ ds.length ≤ sizeLine
  · rw [if_pos hc] at h
    obtain ⟨hno, hsz⟩ := hc
    intro p hp
    -- the new list's address is someone else's while the block runs
    have nWp : ¬ W p := fun w => by
      obtain ⟨xs, e⟩ := R1.wl p w
      rw [hp] at e; cases e
    have R2 : SRep ca (fun a => F a ∨ a = p) W (upd H1 p (.lst [])) σ ⟨s.env, c0⟩ := R1.moreF (same_upd hp) (fun a z => by
      rcases z with z | z
      · exact .inl z
      · exact .inr (by rw [z]; exact hp)) fun a z => by
      by_cases e : a = p
      · rw [e, upd_same]; exact fun z => by cases z
      · rw [upd_ne e]
        rcases z with z | z
        · exact R1.fl a z
        · exact absurd z e
    refine ⟨fun i m H' => m + i = ds.length ∧ ∃ c acc vacc, H' p = some (.lst vacc) ∧ Reps ca (or2 (fun a => F a ∨ a = p) W) H' acc vacc ∧ acc.length ≤ i ∧ Ext W H1 H' ∧ SRep ca (fun a => F a ∨ a = p) W H' σ ⟨s.env, c⟩ ∧ wpr (lcL vs tgt test elt (ds.drop i) ⟨s.env, c⟩ acc) (PostE ca F W H σ s.env Q) (ExcP ca F W H XA E),
      ⟨ds.length, by omega, c0, [], [], upd_same, rfl, Nat.le_refl _, Ext.upd hp, R2, by rw [List.drop_zero]; exact h⟩, ?_⟩
    rintro i m H' ⟨hm, c, acc, vacc, hv, hr, hl, xx, R3, hw⟩
    have gw : Grow H1 (or2 F W) (or2 (fun a => F a ∨ a = p) W) := fun a z => by
      rcases z with (z | z) | z
      · exact .inl (.inl z)
      · exact .inr (by rw [z]; exact hp)
      · exact .inl (.inr z)
    have it' := it (or2 (fun a => F a ∨ a = p) W) H' xx gw
    cases e : ds.drop i with
    | nil =>
      have hle : i = ds.length := by
        have := List.drop_eq_nil_iff.mp e
        omega
      rw [e] at hw
      subst hle
      refine .inl ⟨it'.2, ?_⟩
      refine hw (.ref p) H' (x1.trans xx) ?_ ?_
      · exact R3.moreF (Same.refl _) (fun a z => .inl (.inl z)) fun a z => R3.fl a (.inl z)
      · refine ⟨p, vacc, rfl, fun z => ?_, hv, hr.mu fun a z => ?_⟩
        · rcases z with z | z
          · exact R1.fl p z hp
          · exact nWp z
        · rcases z with z | z
          · exact .inl (.inl z)
          · exact .inr z
    | cons d rest =>
      have hd : ds[i]? = some d := by
        have : (ds.drop i)[0]? = some d := by rw [e]; rfl
        rw [List.getElem?_drop, Nat.add_zero] at this
        exact this
      have hrest : ds.drop (i + 1) = rest := by
        have : (ds.drop i).drop 1 = rest := by rw [e]; rfl
        rw [List.drop_drop] at this
        exact this
      have hi : i < ds.length := (List.getElem?_eq_some_iff.mp hd).1
      rw [e] at hw
      obtain ⟨go, yl⟩ := it'.1 i d hd
      refine .inr ⟨go, fun H2 => ∃ c acc vacc, H2 p = some (.lst vacc) ∧ Reps ca (or2 (fun a => F a ∨ a = p) W) H2 acc vacc ∧ acc.length ≤ i + 1 ∧ Ext W H1 H2 ∧ SRep ca (fun a => F a ∨ a = p) W H2 σ ⟨s.env, c⟩ ∧ wpr (lcL vs tgt test elt rest ⟨s.env, c⟩ acc) (PostE ca F W H σ s.env Q) (ExcP ca F W H XA E), ?_, fun x H3 hy => ?_⟩
      · rintro H2 ⟨c, acc, vacc, z⟩
        refine ⟨m - 1, by omega, by omega, c, acc, vacc, ?_⟩
        rw [hrest]; exact z
      · obtain ⟨sm, rp⟩ := yl x H3 hy
        have R4 := R3.same sm
        have hw' : wpr ((tgt d ⟨wipeE s.env vs, c⟩).nox.bind fun s1 => (test s1).nox.bind fun r => if r.1 = true then (elt ⟨s1.env, r.2⟩).nox.bind fun r2 => lcL vs tgt test elt rest ⟨s.env, r2.2⟩ (acc ++ [r2.1]) else lcL vs tgt test elt rest ⟨s.env, r.2⟩ acc) (PostE ca F W H σ s.env Q) (ExcP ca F W H XA E) := hw
        refine hg (fun a => F a ∨ a = p) W H3 (wipe σ vs) _ x d _ (R4.wiped vs) rp (nox_ok (wpr_mono (wpr_and (wpr_bind.mp hw') fun s4 e4 => nox_get e4) (fun s4 ⟨h4, e4⟩ σ4 H4 x4 R5 l5 k5 => ?_) fun _ _ z => z))
        have ke := kp d _ s4 e4
        have wp : wipe σ4 vs = wipe σ vs := by
          refine List.ext_getElem? fun i => ?_
          by_cases hi : i ∈ vs
          · have both : ∀ (τ : St), i < τ.length → (wipe τ vs)[i]? = some none := fun τ hτ => by
              cases e : (wipe τ vs)[i]? with
              | none =>
                have := List.getElem?_eq_none_iff.mp e
                rw [wipe_length] at this
                omega
              | some o =>
                cases o with
                | none => rfl
                | some y => exact absurd hi (wipe_some e).2
            have l6 : σ4.length = σ.length := by rw [l5, wipe_length]
            by_cases hlen : i < σ.length
            · rw [both σ hlen, both σ4 (by rw [l6]; exact hlen)]
            · rw [List.getElem?_eq_none_iff.mpr (by rw [wipe_length, l6]; omega), List.getElem?_eq_none_iff.mpr (by rw [wipe_length]; omega)]
          · rw [wipe_out hi, wipe_out hi, k5 i fun z => hi (hT i z), wipe_out hi]
        refine ⟨wp, ?_⟩
        -- what stands behind the turn
        have bk : ∀ {H5 : Hp} {c5 : List D}, Ext W H4 H5 → SRep ca (fun a => F a ∨ a = p) W H5 σ4 ⟨s4.env, c5⟩ → SRep ca (fun a => F a ∨ a = p) W H5 σ ⟨s.env, c5⟩ := fun {H5 c5} x5 R6 => by
          refine SRep.back (s := ⟨s.env, c⟩) (σ1 := σ4) (s1 := s4) R4 (x4.trans x5) R6 fun i es ei => ?_
          have hi : i ∉ vs := fun z => by
            have := List.all_eq_true.mp hno i z
            rw [show s.env[i]? = some (.own es) from ei] at this
            cases this
          have q1 : σ4[i]? = σ[i]? := by rw [k5 i fun z => hi (hT i z), wipe_out hi]
          refine ⟨?_, q1⟩
          rw [ke i fun z => hi (hT i z)]
          exact (wipeE_out hi).trans ei
        refine ht (fun a => F a ∨ a = p) W H4 σ4 s4 _ R5 (nox_ok (wpr_mono (wpr_bind.mp h4) (fun r5 h5 H5 x5 R6 => ?_) fun _ _ z => z))
        have vp : ∀ {H6 : Hp}, Ext W H' H6 → H6 p = some (.lst vacc) := fun {H6} y => y p _ hv nWp
        have vr : ∀ {H6 : Hp}, Ext W H' H6 → Reps ca (or2 (fun a => F a ∨ a = p) W) H6 acc vacc := fun {H6} y => R3.reps y hr
        have y5 : Ext W H' H5 := ((Ext.same sm).trans x4).trans x5
        obtain ⟨b, c5⟩ := r5
        cases b with
        | true =>
          simp only [if_true] at h5 ⊢
          refine he (fun a => F a ∨ a = p) W H5 σ4 ⟨s4.env, c5⟩ _ R6 (nox_ok (wpr_mono (wpr_bind.mp h5) (fun r6 h6 v6 H6 x6 R7 p6 => ?_) fun _ _ z => z))
          have y6 := y5.trans x6
          refine ⟨vacc, vp y6, ?_, ?_⟩
          · rw [hr.length]; omega
          · have R8 := bk (x5.trans x6) R7
            have wr := R8.writeF (ys := vacc ++ [v6]) (.inr rfl) nWp (vp y6)
            have cvt : ∀ {es : List D} {us : List V}, Reps ca (or2 (fun a => F a ∨ a = p) W) H6 es us → Reps ca (or2 (fun a => F a ∨ a = p) W) (upd H6 p (.lst (vacc ++ [v6]))) es us := fun {es us} z =>
              Reps.ext (W := fun a => a = p) (fun a o e n => by rw [upd_ne n]; exact e) (fun a e => ⟨vacc, by rw [show a = p from e]; exact vp y6⟩) (fun a z => by rw [show a = p from z]; exact .inl (.inr rfl)) Grow.refl es us z
            refine ⟨r6.2, acc ++ [r6.1], vacc ++ [v6], upd_same, cvt ((vr y6).append ⟨v6, [], rfl, p6, rfl⟩), by rw [List.length_append]; show _ + 1 ≤ _; omega, fun a o e n => ?_, wr, h6⟩
            by_cases ea : a = p
            · rw [ea, hp] at e; cases e
            · rw [upd_ne ea]
              exact (xx.trans y6) a o e n
        | false =>
          simp only [Bool.false_eq_true, if_false] at h5 ⊢
          exact ⟨c5, acc, vacc, vp y5, vr y5, by omega, xx.trans y5, bk x5 R6, h5⟩
  · rw [if_neg hc] at h
    exact h.elim
theorem ev_lc {elt iter tg : Expr} {ifs : List Expr} {scope : Scope} (own : List (Str × Nat)) (sc : Scope) (N : List Str) {T : List Nat} {src : M (List D)} {tgt : D → S → Res S} {test : M Bool} {fe : M D}
    (hi : Iv 𝓕 ca tg iter src) (hg : Gv (𝓕.blk scope) ca tg T tgt) (ht : Tsv (𝓕.blk scope) ca ifs test) (he : Ev (𝓕.blk scope) ca elt fe)
    (ok : blkC N sc scope own = true := by decide +kernel) (hsc : ∀ j, (𝓕.X j).env.scope = sc := by intro _; rfl) (hN : 𝓕.N = N := by rfl) (hT : ∀ i ∈ T, i ∈ own.map (·.2) := by decide) (hs : ∀ j x, foldedSetIterable iter (𝓕.X j).env x = pure x := by intro _ _; rfl) :
    Ev 𝓕 ca (.ListComp elt [⟨tg, iter, ifs, 0⟩] scope pos) (lcM (own.map (·.2)) src tgt test fe) := by
  obtain ⟨wi, i1, i2⟩ := hi
  obtain ⟨g, g1, g2, g3⟩ := hg
  obtain ⟨tt, t1, t2⟩ := ht
  obtain ⟨te, e1, e2⟩ := he
  refine ⟨tLc wi g tt te (own.map (·.2)), fun j => ?_, sem_lc i2 g2 t2 e2 g3 hT⟩
  exact pe_lc (𝓕.calm j) (by rw [𝓕.hN j]; exact 𝓕.nd) (i1 j) (by rw [hsc j, 𝓕.hN j, hN]; exact blkOk_by ok) (fun s H C cl fp => g1 ⟨j, s, H, C, cl, fp⟩) (fun s H C cl fp => t1 ⟨j, s, H, C, cl, fp⟩) (fun s H C cl fp => e1 ⟨j, s, H, C, cl, fp⟩) (hs j)
theorem sv_setLc {i : Nat} {y : Str} {py spos : Pos} {elt iter tg : Expr} {ifs : List Expr} {scope : Scope} (own : List (Str × Nat)) (sc : Scope) (N : List Str) {T : List Nat} {src : M (List D)} {tgt : D → S → Res S} {test : M Bool} {fe : M D}
    (hi : Iv 𝓕 ca tg iter src) (hg : Gv (𝓕.blk scope) ca tg T tgt) (ht : Tsv (𝓕.blk scope) ca ifs test) (he : Ev (𝓕.blk scope) ca elt fe)
    (hy : 𝓕.N[i]? = some y := by rfl) (hyl : ∀ j, (𝓕.X j).env.scope.names.lookup y = some .local := by intro _; rfl) (hsw : ∀ j, swapsWith (.ListComp elt [⟨tg, iter, ifs, 0⟩] scope pos) (some (.Name y py)) spos.line (𝓕.X j).env = pure true := by intro _; exact sw_true rfl rfl rfl (by decide +kernel))
    (ok : blkC N sc scope own = true := by decide +kernel) (hsc : ∀ j, (𝓕.X j).env.scope = sc := by intro _; rfl) (hN : 𝓕.N = N := by rfl) (hT : ∀ i ∈ T, i ∈ own.map (·.2) := by decide) (hs : ∀ j x, foldedSetIterable iter (𝓕.X j).env x = pure x := by intro _ _; rfl) :
    Sv 𝓕 ca (.Assign [.Name y py] (.ListComp elt [⟨tg, iter, ifs, 0⟩] scope pos) spos) (asgS (lcM (own.map (·.2)) src tgt test fe) (setv i)) := by
  obtain ⟨wi, i1, i2⟩ := hi
  obtain ⟨g, g1, g2, g3⟩ := hg
  obtain ⟨tt, t1, t2⟩ := ht
  obtain ⟨te, e1, e2⟩ := he
  refine ⟨tAsg (tLc wi g tt te (own.map (·.2))) (gName i), fun j => ?_, sem_asg (T := [i]) (sem_lc i2 g2 t2 e2 g3 hT) fun F W H σ s v d Q R p q => ?_⟩
  · exact ps_setLc (𝓕.calm j) (by rw [𝓕.hN j]; exact 𝓕.nd) (by rw [𝓕.hN j]; exact hy) (hyl j) (hsw j) (i1 j) (by rw [hsc j, 𝓕.hN j, hN]; exact blkOk_by ok) (fun s H C cl fp => g1 ⟨j, s, H, C, cl, fp⟩) (fun s H C cl fp => t1 ⟨j, s, H, C, cl, fp⟩) (fun s H C cl fp => e1 ⟨j, s, H, C, cl, fp⟩) (hs j)
  · exact setv_ok q (σ.set i (some v)) H (Ext.refl _ _) (R.set p) (by rw [List.length_set]) fun j hj => by
      rw [List.getElem?_set_ne]
      intro e
      exact hj (by simp [e])
/-! the cup -/
def ixc (fi : M D) : M D := bindM fi fun i s => match i with
  | .int k => lift (atI s.cup k) s
  | _ => .bad
theorem ixN_len {α β : Type} {xs : List α} {ys : List β} (h : xs.length = ys.length) (k : Int) : ixN xs.length k = ixN ys.length k := by rw [h]
theorem Reps.atI {Mu : Addr → Prop} {H : Hp} {ds : List D} {vs : List V} {k : Int} {d : D} (h : Reps ca Mu H ds vs) (q : L2.atI ds k = some d) : ∃ v, L2.atI vs k = some v ∧ Rep ca Mu H d v := by
  unfold L2.atI at q ⊢
  rw [h.length]
  cases e : ixN ds.length k with
  | none => rw [e] at q; cases q
  | some j =>
    rw [e] at q
    exact h.get (show ds[j]? = some d from q)
def isCup (i : Nat) (s : S) : Bool := match s.env[i]? with
  | some (.val .cup) => true
  | _ => false
/-- cup[k], the cup at slot i -/
def ixcM (i : Nat) (fi : M D) : M D := fun s => if isCup i s = true then ixc fi s else .bad
theorem ev_ixc (i : Nat) {x : Str} {b : Expr} {fb : M D} {p : Pos} (hb : Ev 𝓕 ca b fb) (hi : 𝓕.N[i]? = some x := by rfl) (hv : ∀ j, Vis (𝓕.X j).env.scope x := by intro _; first | exact Or.inl rfl | exact Or.inr (Or.inl rfl) | exact Or.inr (Or.inr rfl)) (hs : PlainIx b := by intro _ _; rfl)
    (hd : (x == ("__debug__" : Str)) = false := by decide) (hcd : (x == ("__classdict__" : Str)) = false := by decide) : Ev 𝓕 ca (.Subscript (.Name x p) b pos) (ixcM i fb) := by
  obtain ⟨tb, b1, b2⟩ := hb
  refine ⟨tOp (rIxL 𝓕.K) (tVar i) tb, fun j => ?_, fun F W H σ s Q R q => ?_⟩
  · have h := pe_ix (pos := pos) (ix_list (X := 𝓕.X j)) (pe_var (pos := p) (by rw [𝓕.hN j]; exact hi) (hv j) hd hcd) (b1 j) hs
    rw [𝓕.hK j] at h
    exact h
  · unfold ixcM at q
    by_cases hc : isCup i s = true
    · rw [if_pos hc] at q
      have e : s.env[i]? = some (.val .cup) := by
        unfold isCup at hc
        split at hc
        · assumption
        · cases hc
      obtain ⟨v, h1, h2⟩ := R.slot i _ e
      obtain ⟨a, e1, e2⟩ := h2
      subst e1
      refine ⟨.ref a, h1, ?_⟩
      unfold ixc bindM at q
      refine b2 F W H σ s _ R (wpr_mono (wpr_bind.mp q) (fun r h v1 H1 x1 R1 p1 => ?_) fun _ _ z => z)
      obtain ⟨d, c⟩ := r
      cases d with
      | int k =>
        obtain ⟨d2, e3, h3⟩ := wpr_lift (s := ⟨s.env, c⟩) (show wpr (lift (atI c k) ⟨s.env, c⟩) _ _ from h)
        obtain ⟨w, vs, e4, r4⟩ := R1.cup a e2
        obtain ⟨v2, e5, r5⟩ := r4.atI e3
        exact ⟨a, vs, k, v2, rfl, p1, SqL.of e4, e5, h3 v2 H1 x1 R1 r5⟩
      | _ => exact h.elim
    · rw [if_neg hc] at q
      exact q.elim
theorem Reps.setI {Mu : Addr → Prop} {H : Hp} {ds : List D} {vs : List V} {d : D} {v : V} (i : Nat) (h : Reps ca Mu H ds vs) (q : Rep ca Mu H d v) : Reps ca Mu H (ds.set i d) (vs.set i v) := Reps.set i h q
/-- cup[k] = e -/
def setcS (i : Nat) (fe fi : M D) : S → Res Fl := fun s => if isCup i s = true then (fe s).bind fun r => (fi ⟨s.env, r.2⟩).bind fun q => match q.1 with
  | .int k => (match ixN q.2.length k with
    | some j => .ok (.nx ⟨s.env, q.2.set j r.1⟩)
    | none => .bad)
  | _ => .bad else .bad
end
/-- what is written is the cup's own list -/
theorem SRep.cupSet {ca : Option Addr} {F W : Addr → Prop} {H : Hp} {σ : St} {s : S} {a : Addr} {ds : List D} {vs : List V} (R : SRep ca F W H σ s) (hc : ca = some a) (r : Reps ca (or2 F W) H ds vs) : SRep ca F W (upd H a (.lst vs)) σ ⟨s.env, ds⟩ ∧ Ext W H (upd H a (.lst vs)) := by
  obtain ⟨w, us, e, _⟩ := R.cup a hc
  have x : Ext W H (upd H a (.lst vs)) := fun b o q n => by
    rw [upd_ne]
    · exact q
    · intro z; exact n (by rw [z]; exact w)
  refine ⟨⟨R.len, fun i d e => ?_, fun i es q => ?_, R.inj, fun b q => ?_, fun b q => ?_, fun b f => ?_⟩, x⟩
  · obtain ⟨v, p, q⟩ := R.slot i d e
    exact ⟨v, p, R.rep x q⟩
  · obtain ⟨b, ws, h1, h2, h3, h4, h5⟩ := R.own i es q
    have ne : b ≠ a := fun z => h3 (by rw [z]; exact hc)
    exact ⟨b, ws, h1, h2, h3, by rw [upd_ne ne]; exact h4, R.reps x h5⟩
  · rw [hc] at q
    cases q
    exact ⟨w, vs, upd_same, R.reps x r⟩
  · by_cases z : b = a
    · exact ⟨vs, by rw [z, upd_same]⟩
    · obtain ⟨xs, h⟩ := R.wl b q
      exact ⟨xs, by rw [upd_ne z]; exact h⟩
  · by_cases z : b = a
    · rw [z, upd_same]; exact fun y => by cases y
    · rw [upd_ne z]; exact R.fl b f
section
variable {𝓕 : Fam} {ca : Option Addr} {pos : Pos}
theorem sv_setc (i : Nat) {x : Str} {b e : Expr} {fb fe : M D} {p p2 : Pos} (he : Ev 𝓕 ca e fe) (hb : Ev 𝓕 ca b fb) (hi : 𝓕.N[i]? = some x := by rfl) (hv : ∀ j, Vis (𝓕.X j).env.scope x := by intro _; first | exact Or.inl rfl | exact Or.inr (Or.inl rfl) | exact Or.inr (Or.inr rfl))
    (hd : (x == ("__debug__" : Str)) = false := by decide) (hcd : (x == ("__classdict__" : Str)) = false := by decide)
    (hs : ∀ j, swapsWithSole [.Subscript (.Name x p) b p2] e pos.line (𝓕.X j).env = pure false := by intro _; rfl) (hw : ∀ j, swappedStores [.Subscript (.Name x p) b p2] e (𝓕.X j).env = pure none := by intro _; rfl)
    (h1 : ∀ j, (assignEach [.Subscript (.Name x p) b p2] (𝓕.X j).env).map (·.2) = [assign (.Subscript (.Name x p) b p2) (𝓕.X j).env] := by intro _; rfl)
    (ha : ∀ j v, assign (.Subscript (.Name x p) b p2) (𝓕.X j).env v = (do
      let ov ← holding [v] (eval (.Name x p) (𝓕.X j).env)
      let iv ← holding [v, ov] (eval b (𝓕.X j).env)
      standAt p2
      holding [v, ov, iv] (setItem ov iv v)
      release [v, ov, iv] []) := by intro _ _; rfl) : Sv 𝓕 ca (.Assign [.Subscript (.Name x p) b p2] e pos) (setcS i fe fb) := by
  obtain ⟨te, e1, e2⟩ := he
  obtain ⟨tb, b1, b2⟩ := hb
  refine ⟨tAsg te (gSub (tVar i) tb rSetL), fun j => ps_asg (e1 j) (pg_sub (pe_var (pos := p) (by rw [𝓕.hN j]; exact hi) (hv j) hd hcd) (b1 j) set_list (ha j)) (hs j) (hw j) (h1 j), fun F W H σ s Dn R q => ?_⟩
  unfold setcS at q
  by_cases hc : isCup i s = true
  · rw [if_pos hc] at q
    have e : s.env[i]? = some (.val .cup) := by
      unfold isCup at hc
      split at hc
      · assumption
      · cases hc
    refine e2 F W H σ s _ R (wpr_mono (wpr_bind.mp q) (fun r h v H1 x1 R1 p1 => ?_) fun _ _ z => z)
    obtain ⟨v0, g1, g2⟩ := R1.slot i _ e
    obtain ⟨a, e3, e4⟩ := g2
    subst e3
    refine ⟨.ref a, g1, ?_⟩
    refine b2 F W H1 σ ⟨s.env, r.2⟩ _ R1 (wpr_mono (wpr_bind.mp h) (fun r2 h2 v2 H2 x2 R2 p2 => ?_) fun _ _ z => z.ext x1)
    obtain ⟨d2, c2⟩ := r2
    cases d2 with
    | int k =>
      dsimp only at h2 R2
      cases ek : ixN c2.length k with
      | none => rw [ek] at h2; exact h2.elim
      | some m =>
        rw [ek] at h2
        obtain ⟨w, vs, e5, r5⟩ := R2.cup a e4
        have r6 := r5.set m (R1.rep x2 p1)
        obtain ⟨R3, x3⟩ := R2.cupSet e4 r6
        refine ⟨a, vs, k, m, rfl, p2, e5, by rw [r5.length]; exact ek, ?_⟩
        exact h2 W _ σ (.ext ((x1.trans x2).trans x3)) R3
    | _ => exact h2.elim
  · rw [if_neg hc] at q
    exact q.elim
/-! subscripts -/
def ixD : D → D → Option D
  | .lst ds, .int i => atI ds i
  | .tup ds, .int i => atI ds i
  | .str z, .int i => if z.length ≤ sizeLine then (atI z.cps.toList i).map fun c => .str ⟨#[c]⟩ else none
  | _, _ => none
theorem ix_g (K : PySem.W.Frag) : OpG ca (rIx K) ixD := fun Mu H dx dy vx vy d Q dm rx ry e k => by
  unfold ixD at e
  split at e
  · obtain ⟨a, vs, e1, _, e2, e3⟩ := rx
    obtain ⟨v, h1, h2⟩ := e3.atI e
    exact .inl ⟨a, vs, _, v, e1, ry, SqL.of e2, h1, k v H (Same.refl _) h2⟩
  · obtain ⟨a, vs, e1, e2, e3⟩ := rx
    obtain ⟨v, h1, h2⟩ := e3.atI e
    exact .inr (.inl ⟨a, vs, _, v, e1, ry, SqT.of e2, h1, k v H (Same.refl _) h2⟩)
  · rename_i z i
    split at e
    · rename_i hz
      cases q : atI z.cps.toList i with
      | none => rw [q] at e; cases e
      | some c =>
        rw [q] at e
        cases e
        exact .inr (.inr ⟨z, i, c, rx, ry, hz, q, k _ H (Same.refl _) rfl⟩)
    · cases e
  · cases e
theorem ev_ix {a b : Expr} {fa fb : M D} (ha : Ev 𝓕 ca a fa) (hb : Ev 𝓕 ca b fb) (hs : PlainIx b := by intro _ _; rfl) : Ev 𝓕 ca (.Subscript a b pos) (op2 ixD fa fb) := by
  obtain ⟨ta, a1, a2⟩ := ha
  obtain ⟨tb, b1, b2⟩ := hb
  refine ⟨tOp (rIx 𝓕.K) ta tb, fun j => ?_, sem_op (ix_g 𝓕.K) a2 b2⟩
  have h := pe_ix (pos := pos) (ix_seq (X := 𝓕.X j)) (a1 j) (b1 j) hs
  rw [𝓕.hK j] at h
  exact h
/-! a def's body -/
def famB (P : Program) (w : World) (K : PySem.W.Frag) (mg : Str → Option Value) (base : Heap) (N : List Str) (qual : Str) (scope : Scope) (f : Addr) (cdv : Value) (A : Around) (outer : List Env) (s : Shared) (H : Hp) (E : XK) (XA : Exn → Value → Option Addr → Hp → Prop) (k : Nat) (nd : N.Nodup) (hr : Room k (A.deeper (envOfC qual scope s.heap.objs.size f cdv))) : Fam where
  J := Unit
  X := fun _ => cxOf (L2.CX P w) P w K mg base N qual scope f cdv A outer s H E
  P := P
  w := w
  K := K
  mg := mg
  base := base
  CX := L2.CX P w
  N := N
  E := E
  XA := XA
  k := k
  hP := fun _ => rfl
  hw := fun _ => rfl
  hK := fun _ => rfl
  hmg := fun _ => rfl
  hB := fun _ => rfl
  hN := fun _ => rfl
  nd := nd
  calm := fun _ => rfl
  room := fun _ => hr
  pass := fun _ => passes_call (X := cxOf (L2.CX P w) P w K mg base N qual scope f cdv A outer s H E) (takes_of rfl rfl rfl rfl) (fun _ _ _ _ h => h)
  own := fun _ => passes_of rfl
  nox := fun outer H s e s' h => by
    obtain ⟨_, _, _, _, _, _, _, _, _, _, _, _, z⟩ := h
    exact z
def runB (n : Nat) (fb : S → Res Fl) : Fn := fun ds c => (fb ⟨ds.map .val ++ List.replicate (n - ds.length) .un, c⟩).bind fun r => match r with
  | .nx s => .ok (.non, s.cup)
  | .rt d c => .ok (d, c)
  | _ => .bad
theorem srep_start {F : Addr → Prop} {H : Hp} {ds : List D} {vs : List V} {c : List D} {N : List Str} (h : Reps ca (or2 F (cupW ca)) H ds vs) (hC : CupAt ca F (cupW ca) H c) (hF : ∀ a, F a → H a ≠ none) :
    SRep ca F (cupW ca) H (start N vs) ⟨ds.map .val ++ List.replicate (N.length - ds.length) .un, c⟩ where
  len := by
    show (vs.map some ++ List.replicate (N.length - vs.length) none).length = (ds.map Slot.val ++ List.replicate (N.length - ds.length) Slot.un).length
    rw [List.length_append, List.length_append, List.length_map, List.length_map, List.length_replicate, List.length_replicate, h.length]
  slot := fun i d e => by
    have e : (ds.map Slot.val ++ List.replicate (N.length - ds.length) Slot.un)[i]? = some (.val d) := e
    by_cases hi : i < ds.length
    · rw [List.getElem?_append_left (by rw [List.length_map]; exact hi), List.getElem?_map] at e
      cases q : ds[i]? with
      | none => rw [q] at e; cases e
      | some d' =>
        rw [q] at e
        cases e
        obtain ⟨v, h1, h2⟩ := h.get q
        refine ⟨v, ?_, h2⟩
        show (vs.map some ++ List.replicate (N.length - vs.length) none)[i]? = _
        rw [List.getElem?_append_left (by rw [List.length_map, h.length]; exact hi), List.getElem?_map, h1]
        rfl
    · rw [List.getElem?_append_right (by rw [List.length_map]; omega), List.getElem?_replicate] at e
      split at e <;> cases e
  own := fun i es e => by
    have e : (ds.map Slot.val ++ List.replicate (N.length - ds.length) Slot.un)[i]? = some (.own es) := e
    by_cases hi : i < ds.length
    · rw [List.getElem?_append_left (by rw [List.length_map]; exact hi), List.getElem?_map] at e
      cases q : ds[i]? with
      | none => rw [q] at e; cases e
      | some d' => rw [q] at e; cases e
    · rw [List.getElem?_append_right (by rw [List.length_map]; omega), List.getElem?_replicate] at e
      split at e <;> cases e
  inj := fun i j es fs a e _ _ _ => by
    have e : (ds.map Slot.val ++ List.replicate (N.length - ds.length) Slot.un)[i]? = some (.own es) := e
    by_cases hi : i < ds.length
    · rw [List.getElem?_append_left (by rw [List.length_map]; exact hi), List.getElem?_map] at e
      cases q : ds[i]? with
      | none => rw [q] at e; cases e
      | some d' => rw [q] at e; cases e
    · rw [List.getElem?_append_right (by rw [List.length_map]; omega), List.getElem?_replicate] at e
      split at e <;> cases e
  cup := hC
  wl := fun a e => by
    obtain ⟨_, vs, q, _⟩ := hC a e
    exact ⟨vs, q⟩
  fl := hF
/-- THE RULE for a def -/
theorem fn_mk {P : Program} {w : World} {K : PySem.W.Frag} {mg : Str → Option Value} {base : Heap} {XA : Exn → Value → Option Addr → Hp → Prop} {x qual : Str} {st : Stmt} {f : Addr} {fd : FuncData} {N ps : List Str} {k : Nat} {fb : S → Res Fl} (F : Fun K x qual st f fd) (Sc : FnScope N ps (defScope st))
    (hb : ∀ (ca : Option Addr) (cdv : Value) (A : Around) (outer : List Env) (s : Shared) (H : Hp) (E : XK) (hr : Room k (A.deeper (envOfC qual (defScope st) s.heap.objs.size f cdv))), Bv (famB P w K mg base N qual (defScope st) f cdv A outer s H E XA k Sc.nd hr) ca (defBody st) fb) :
    FnOk P w K mg base (L2.CX P w) (k + 1) f fd ps (spOf XA ps.length (runB N.length fb)) := by
  refine F.okX Sc (fun vs H Q E h => h.1) fun cdv A outer s H vs Q E hr h => ?_
  obtain ⟨hl, ca, Fo, ds, c, hR, hC, hF, hw⟩ := h
  obtain ⟨t, h1, h2⟩ := hb ca cdv A outer s H E hr
  refine ⟨t, h1 (), h2 Fo (cupW ca) H (start N vs) _ _ (srep_start hR hC hF) ?_⟩
  unfold runB at hw
  refine wpr_mono (wpr_bind.mp hw) (fun r h => ?_) fun _ _ z => z
  cases r with
  | nx s' => exact fun W' H' σ' st R => h .non H' W' st rfl R.cup
  | rt d c => exact fun W' v H' st rp cp => h v H' W' st rp cp
  | bk s' => exact h.elim
  | ct s' => exact h.elim
end
end PL

namespace PL
open PySem PySem.Spec PyProof.Rows L2
section
variable {𝓕 : Fam} {ca : Option Addr} {pos : Pos}
/-! data as the library's own -/
mutual
def toPy : D → PyData
  | .non => .none
  | .bl b => .bool b
  | .int i => .int i
  | .str x => .str x
  | .tup ds => .tuple (toPys ds)
  | .lst ds => .list (toPys ds)
  | .cup => .none
  | .ref _ => .none
def toPys : List D → List PyData
  | [] => []
  | d :: ds => toPy d :: toPys ds
end
mutual
/-- it holds data alone, its texts of plain signs, at most so deep -/
def dOk : Nat → D → Bool
  | _, .non => true
  | _, .bl _ => true
  | _, .int _ => true
  | _, .str x => PyData.strOk x
  | n, .tup ds => (match n with
    | 0 => false
    | m + 1 => dOks m ds)
  | n, .lst ds => (match n with
    | 0 => false
    | m + 1 => dOks m ds)
  | _, .cup => false
  | _, .ref _ => false
def dOks : Nat → List D → Bool
  | _, [] => true
  | n, d :: ds => dOk n d && dOks n ds
end
mutual
theorem dOk_py : ∀ (n : Nat) (d : D), dOk n d = true → (toPy d).canLay0 = true ∧ (toPy d).depth ≤ n
  | _, .non, _ => by simp [toPy, PyData.canLay0, PyData.depth]
  | _, .bl _, _ => by simp [toPy, PyData.canLay0, PyData.depth]
  | _, .int _, _ => by simp [toPy, PyData.canLay0, PyData.depth]
  | _, .str x, h => by
    have h : PyData.strOk x = true := by rw [dOk] at h; exact h
    simp [toPy, PyData.canLay0, PyData.depth, h]
  | 0, .tup ds, h => by rw [dOk] at h; cases h
  | 0, .lst ds, h => by rw [dOk] at h; cases h
  | n + 1, .tup ds, h => by
    rw [dOk] at h
    obtain ⟨a, b⟩ := dOks_py n ds h
    rw [toPy, PyData.canLay0, PyData.depth]
    exact ⟨a, by omega⟩
  | n + 1, .lst ds, h => by
    rw [dOk] at h
    obtain ⟨a, b⟩ := dOks_py n ds h
    rw [toPy, PyData.canLay0, PyData.depth]
    exact ⟨a, by omega⟩
  | _, .cup, h => by rw [dOk] at h; cases h
  | _, .ref _, h => by rw [dOk] at h; cases h
theorem dOks_py : ∀ (n : Nat) (ds : List D), dOks n ds = true → PyData.canLayAll0 (toPys ds) = true ∧ PyData.depthAll (toPys ds) ≤ n
  | n, [], _ => by simp [toPys, PyData.canLayAll0, PyData.depthAll]
  | n, d :: ds, h => by
    rw [dOks, Bool.and_eq_true] at h
    obtain ⟨a, b⟩ := dOk_py n d h.1
    obtain ⟨c, e⟩ := dOks_py n ds h.2
    rw [toPys, PyData.canLayAll0, PyData.depthAll, a, c]
    exact ⟨rfl, by omega⟩
end
theorem dOk_shaped {d : D} (h : dOk 60 d = true) : SeqAt.shaped (toPy d) = true := by
  obtain ⟨a, b⟩ := dOk_py 60 d h
  unfold SeqAt.shaped
  rw [a, decide_eq_true (show (toPy d).depth ≤ 64 by omega)]
  rfl
mutual
theorem rep_dp {K : PySem.W.Frag} {Mu : Addr → Prop} {H : Hp} : ∀ (n : Nat) (d : D) (v : V), dOk n d = true → Rep ca Mu H d v → Dp K H v (toPy d)
  | _, .non, _, _, h => by rw [show _ = V.non from h, toPy]; exact .non
  | _, .bl b, _, _, h => by rw [show _ = V.bl b from h, toPy]; exact .bl b
  | _, .int i, _, _, h => by rw [show _ = V.int i from h, toPy]; exact .int i
  | _, .str x, _, _, h => by rw [show _ = V.str x from h, toPy]; exact .str x
  | 0, .tup ds, _, k, _ => by rw [dOk] at k; cases k
  | 0, .lst ds, _, k, _ => by rw [dOk] at k; cases k
  | n + 1, .tup ds, v, k, h => by
    rw [dOk] at k
    obtain ⟨a, vs, e, q, r⟩ := h
    rw [e, toPy]
    exact .tup (SqT.of q) (reps_dp n ds vs k r)
  | n + 1, .lst ds, v, k, h => by
    rw [dOk] at k
    obtain ⟨a, vs, e, _, q, r⟩ := h
    rw [e, toPy]
    exact .lst (SqL.of q) (reps_dp n ds vs k r)
  | _, .cup, _, k, _ => by rw [dOk] at k; cases k
  | _, .ref _, _, k, _ => by rw [dOk] at k; cases k
theorem reps_dp {K : PySem.W.Frag} {Mu : Addr → Prop} {H : Hp} : ∀ (n : Nat) (ds : List D) (vs : List V), dOks n ds = true → Reps ca Mu H ds vs → DpAll K H vs (toPys ds)
  | n, [], _, _, h => by rw [show _ = [] from h, toPys]; exact .nil
  | n, d :: ds, vs, k, h => by
    rw [dOks, Bool.and_eq_true] at k
    obtain ⟨v, r, e, h1, h2⟩ := h
    rw [e, toPys]
    exact .cons (rep_dp n d v k.1 h1) (reps_dp n ds r k.2 h2)
end
/-! operators -/
def addD : D → D → Option D
  | .int i, .int j => some (.int (i + j))
  | .str a, .str b => if a.length + b.length ≤ sizeLine then some (.str (a ++ b)) else none
  | .tup xs, .tup ys => if xs.length + ys.length ≤ sizeLine then some (.tup (xs ++ ys)) else none
  | .lst xs, .lst ys => if xs.length + ys.length ≤ sizeLine then some (.lst (xs ++ ys)) else none
  | _, _ => none
theorem op_addD : OpV 𝓕 ca (binaryOp .Add) addD := by
  refine ⟨fun x y H Q => rI0 (fun i j => .int (i + j)) x y H Q ∨ (∃ i j, x = .str i ∧ y = .str j ∧ i.length + j.length ≤ sizeLine ∧ Q (.str (i ++ j)) H) ∨ rCatA 𝓕.K x y H Q ∨ rCat x y H Q, fun j => ?_, fun Mu H dx dy vx vy d Q dm rx ry e k => ?_⟩
  · have h := op_catA (X := 𝓕.X j)
    rw [𝓕.hK j] at h
    exact op_add.or (op_add_str.or (h.or op_cat))
  · unfold addD at e
    split at e
    · cases e
      exact .inl ⟨_, _, rx, ry, k _ H (Same.refl _) rfl⟩
    · split at e
      · cases e
        exact .inr (.inl ⟨_, _, rx, ry, by assumption, k _ H (Same.refl _) rfl⟩)
      · cases e
    · split at e
      · rename_i hz
        cases e
        obtain ⟨a, us, e1, q1, r1⟩ := id rx
        obtain ⟨b, ws, e2, q2, r2⟩ := id ry
        refine .inr (.inr (.inl ⟨a, b, us, ws, e1, e2, SqT.of q1, SqT.of q2, by rw [r1.length, r2.length]; exact hz, fun z => ?_, fun z z2 => ?_, fun z z2 p hp => ?_⟩))
        · subst z
          have : _ = [] := List.length_eq_zero_iff.mp r1.length.symm
          subst this
          exact k _ H (Same.refl _) (by rw [e2] at ry; exact ry)
        · subst z2
          have : _ = [] := List.length_eq_zero_iff.mp r2.length.symm
          subst this
          rw [List.append_nil] at k
          exact k _ H (Same.refl _) (by rw [e1] at rx; exact rx)
        · exact k _ _ (same_upd hp) (rep_newT (r1.append r2) hp)
      · cases e
    · split at e
      · rename_i hz
        cases e
        obtain ⟨a, us, e1, _, q1, r1⟩ := id rx
        obtain ⟨b, ws, e2, _, q2, r2⟩ := id ry
        exact .inr (.inr (.inr ⟨a, b, us, ws, e1, e2, q1, q2, by rw [r1.length, r2.length]; exact hz, fun p hp => k _ _ (same_upd hp) (rep_newL (r1.append r2) hp dm)⟩))
      · cases e
    · cases e
def int2 (C : Int → Int → Bool) (g : Int → Int → D) : D → D → Option D
  | .int i, .int j => if C i j = true then some (g i j) else none
  | _, _ => none
theorem op_int2 {f : Value → Value → Sem Value} {C : Int → Int → Prop} {Cb : Int → Int → Bool} {g : Int → Int → Int} (h : ∀ j, OpR (𝓕.X j) f (rI C fun i j => .int (g i j))) (hc : ∀ i j, Cb i j = true → C i j) : OpV 𝓕 ca f (int2 Cb fun i j => .int (g i j)) := by
  refine ⟨_, h, fun Mu H dx dy vx vy d Q dm rx ry e k => ?_⟩
  unfold int2 at e
  split at e
  · split at e
    · rename_i hh
      cases e
      exact ⟨_, _, rx, ry, hc _ _ hh, k _ H (Same.refl _) rfl⟩
    · cases e
  · cases e
def int0 (g : Int → Int → D) : D → D → Option D
  | .int i, .int j => some (g i j)
  | _, _ => none
theorem op_int0 {f : Value → Value → Sem Value} {g : Int → Int → V} {g' : Int → Int → D} (h : ∀ j, OpR (𝓕.X j) f (rI0 g)) (hg : ∀ i j Mu H, Rep ca Mu H (g' i j) (g i j)) : OpV 𝓕 ca f (int0 g') := by
  refine ⟨_, h, fun Mu H dx dy vx vy d Q dm rx ry e k => ?_⟩
  unfold int0 at e
  split at e
  · cases e
    exact ⟨_, _, rx, ry, k _ H (Same.refl _) (hg _ _ _ _)⟩
  · cases e
abbrev subD : D → D → Option D := int0 fun i j => .int (i - j)
theorem op_subD : OpV 𝓕 ca (binaryOp .Sub) subD := op_int0 (fun _ => op_sub) fun _ _ _ _ => rfl
def cMul (i j : Int) : Bool := (decide (-(2 ^ 64) < i) && decide (i < 2 ^ 64)) || (decide (-(2 ^ 64) < j) && decide (j < 2 ^ 64))
abbrev mulD : D → D → Option D := int2 cMul fun i j => .int (i * j)
theorem op_mulD : OpV 𝓕 ca (binaryOp .Mult) mulD := op_int2 (fun _ => op_mul) fun i j h => by
  unfold cMul at h
  rw [Bool.or_eq_true, Bool.and_eq_true, Bool.and_eq_true, decide_eq_true_eq, decide_eq_true_eq, decide_eq_true_eq, decide_eq_true_eq] at h
  exact h
def cDiv (_ j : Int) : Bool := decide (0 < j) && decide (j < 2 ^ 64)
abbrev fdivD : D → D → Option D := int2 cDiv fun i j => .int (i / j)
theorem op_fdivD : OpV 𝓕 ca (binaryOp .FloorDiv) fdivD := op_int2 (fun _ => op_fdivW) fun i j h => by
  unfold cDiv at h
  rw [Bool.and_eq_true, decide_eq_true_eq, decide_eq_true_eq] at h
  exact wide_div (b := 64) h.1 (by omega) (by decide) (by decide)
def cMod (_ j : Int) : Bool := decide (0 < j)
abbrev modD : D → D → Option D := int2 cMod fun i j => .int (i % j)
theorem op_modD : OpV 𝓕 ca (binaryOp .Mod) modD := op_int2 (fun _ => op_mod) fun i j h => of_decide_eq_true h
def cPow (i j : Int) : Bool := decide (0 ≤ j) && decide (j ≤ 1000000) && decide (i.natAbs < 2 ^ 64)
abbrev powD : D → D → Option D := int2 cPow fun i j => .int (i ^ j.toNat)
theorem op_powD : OpV 𝓕 ca (binaryOp .Pow) powD := op_int2 (fun _ => op_pow) fun i j h => by
  unfold cPow at h
  rw [Bool.and_eq_true, Bool.and_eq_true, decide_eq_true_eq, decide_eq_true_eq, decide_eq_true_eq] at h
  exact ⟨h.1.1, h.1.2, h.2⟩
abbrev ltD : D → D → Option D := int0 fun i j => .bl (decide (i < j))
abbrev leD : D → D → Option D := int0 fun i j => .bl (decide (i ≤ j))
abbrev gtD : D → D → Option D := int0 fun i j => .bl (decide (j < i))
abbrev geD : D → D → Option D := int0 fun i j => .bl (decide (j ≤ i))
theorem op_ltD : OpV 𝓕 ca (compareOp .Lt) ltD := op_int0 (fun _ => op_lt) fun _ _ _ _ => rfl
theorem op_leD : OpV 𝓕 ca (compareOp .LtE) leD := op_int0 (fun _ => op_le) fun _ _ _ _ => rfl
theorem op_gtD : OpV 𝓕 ca (compareOp .Gt) gtD := op_int0 (fun _ => op_gt) fun _ _ _ _ => rfl
theorem op_geD : OpV 𝓕 ca (compareOp .GtE) geD := op_int0 (fun _ => op_ge) fun _ _ _ _ => rfl
/-- equal, as Python says it -/
def dEq (d e : D) : Bool := PyData.eqv (toPy d) (toPy e)
def eqD : D → D → Option D
  | .int i, .int j => some (.bl (decide (i = j)))
  | .str x, .str y => some (.bl (decide (x = y)))
  | .bl x, .bl y => some (.bl (decide (x = y)))
  | d, e => if (dOk 60 d && dOk 60 e) = true then some (.bl (dEq d e)) else none
def neD : D → D → Option D
  | .int i, .int j => some (.bl (!decide (i = j)))
  | .str x, .str y => some (.bl (!decide (x = y)))
  | .bl x, .bl y => some (.bl (!decide (x = y)))
  | d, e => if (dOk 60 d && dOk 60 e) = true then some (.bl (!dEq d e)) else none
theorem dec_v {a b : V} {c : Prop} [Decidable c] (h : a = b ↔ c) : decide (a = b) = decide c := by
  by_cases z : c
  · rw [decide_eq_true z, decide_eq_true (h.mpr z)]
  · rw [decide_eq_false z, decide_eq_false fun q => z (h.mp q)]
theorem op_eqDD (hk : ∀ j, (𝓕.X j).A.units + 64 < cLine) : OpV 𝓕 ca (compareOp .Eq) eqD := by
  refine ⟨fun x y H Q => rEq x y H Q ∨ rEqD 𝓕.K x y H Q, fun j => ?_, fun Mu H dx dy vx vy d Q dm rx ry e k => ?_⟩
  · have h := op_eqD (X := 𝓕.X j) (hk j)
    rw [𝓕.hK j] at h
    exact op_eq.or h
  · unfold eqD at e
    split at e
    · cases e
      rw [show vx = _ from rx, show vy = _ from ry]
      refine .inl ⟨rfl, ?_⟩
      rw [dec_v (c := _ = _) ⟨fun z => V.int.inj z, fun z => by rw [z]⟩]
      exact k _ H (Same.refl _) rfl
    · cases e
      rw [show vx = _ from rx, show vy = _ from ry]
      refine .inl ⟨rfl, ?_⟩
      rw [dec_v (c := _ = _) ⟨fun z => V.str.inj z, fun z => by rw [z]⟩]
      exact k _ H (Same.refl _) rfl
    · cases e
      rw [show vx = _ from rx, show vy = _ from ry]
      refine .inl ⟨rfl, ?_⟩
      rw [dec_v (c := _ = _) ⟨fun z => V.bl.inj z, fun z => by rw [z]⟩]
      exact k _ H (Same.refl _) rfl
    · split at e
      · rename_i hh
        rw [Bool.and_eq_true] at hh
        cases e
        exact .inr ⟨_, _, rep_dp 60 _ _ hh.1 rx, rep_dp 60 _ _ hh.2 ry, dOk_shaped hh.1, dOk_shaped hh.2, k _ H (Same.refl _) rfl⟩
      · cases e
theorem op_neDD (hk : ∀ j, (𝓕.X j).A.units + 64 < cLine) : OpV 𝓕 ca (compareOp .NotEq) neD := by
  refine ⟨fun x y H Q => rNe x y H Q ∨ rNeD 𝓕.K x y H Q, fun j => ?_, fun Mu H dx dy vx vy d Q dm rx ry e k => ?_⟩
  · have h := op_neD (X := 𝓕.X j) (hk j)
    rw [𝓕.hK j] at h
    exact op_ne.or h
  · unfold neD at e
    split at e
    · cases e
      rw [show vx = _ from rx, show vy = _ from ry]
      refine .inl ⟨rfl, ?_⟩
      rw [dec_v (c := _ = _) ⟨fun z => V.int.inj z, fun z => by rw [z]⟩]
      exact k _ H (Same.refl _) rfl
    · cases e
      rw [show vx = _ from rx, show vy = _ from ry]
      refine .inl ⟨rfl, ?_⟩
      rw [dec_v (c := _ = _) ⟨fun z => V.str.inj z, fun z => by rw [z]⟩]
      exact k _ H (Same.refl _) rfl
    · cases e
      rw [show vx = _ from rx, show vy = _ from ry]
      refine .inl ⟨rfl, ?_⟩
      rw [dec_v (c := _ = _) ⟨fun z => V.bl.inj z, fun z => by rw [z]⟩]
      exact k _ H (Same.refl _) rfl
    · split at e
      · rename_i hh
        rw [Bool.and_eq_true] at hh
        cases e
        exact .inr ⟨_, _, rep_dp 60 _ _ hh.1 rx, rep_dp 60 _ _ hh.2 ry, dOk_shaped hh.1, dOk_shaped hh.2, k _ H (Same.refl _) rfl⟩
      · cases e
theorem eq_ok : OpV 𝓕 ca (compareOp .Eq) eqD := op_eqDD fun j => (𝓕.room j).units
theorem ne_ok : OpV 𝓕 ca (compareOp .NotEq) neD := op_neDD fun j => (𝓕.room j).units
/-- is, of None or of truth values -/
def isNon : D → Bool
  | .non => true
  | _ => false
def isD : D → D → Option D
  | .bl x, .bl y => some (.bl (decide (x = y)))
  | d, .non => some (.bl (isNon d))
  | _, _ => none
def isnotD : D → D → Option D
  | .bl x, .bl y => some (.bl (!decide (x = y)))
  | d, .non => some (.bl (!isNon d))
  | _, _ => none
theorem isNon_rep {Mu : Addr → Prop} {H : Hp} {d : D} {v : V} (h : Rep ca Mu H d v) : decide (v = .non) = isNon d := by
  cases d with
  | non => rw [show v = .non from h]; rfl
  | bl b => rw [show v = .bl b from h]; rfl
  | int i => rw [show v = .int i from h]; rfl
  | str x => rw [show v = .str x from h]; rfl
  | tup ds => obtain ⟨a, vs, e, _⟩ := h; rw [e]; rfl
  | lst ds => obtain ⟨a, vs, e, _⟩ := h; rw [e]; rfl
  | cup => obtain ⟨a, e, _⟩ := h; rw [e]; rfl
  | ref a => rw [show v = .ref a from h]; rfl
theorem op_isD : OpV 𝓕 ca (compareOp .Is) isD := by
  refine ⟨_, fun j => op_isN.or op_isBl, fun Mu H dx dy vx vy d Q dm rx ry e k => ?_⟩
  unfold isD at e
  split at e
  · cases e
    exact .inr ⟨_, _, rx, ry, k _ H (Same.refl _) rfl⟩
  · cases e
    refine .inl ⟨ry, ?_⟩
    rw [isNon_rep rx]
    exact k _ H (Same.refl _) rfl
  · cases e
theorem op_isnotD : OpV 𝓕 ca (compareOp .IsNot) isnotD := by
  refine ⟨_, fun j => op_notN.or op_notBl, fun Mu H dx dy vx vy d Q dm rx ry e k => ?_⟩
  unfold isnotD at e
  split at e
  · cases e
    exact .inr ⟨_, _, rx, ry, k _ H (Same.refl _) rfl⟩
  · cases e
    refine .inl ⟨ry, ?_⟩
    rw [isNon_rep rx]
    exact k _ H (Same.refl _) rfl
  · cases e
/-- -x -/
def negM (f : M D) : M D := bindM f fun d => match d with
  | .int i => ret (.int (-i))
  | _ => fun _ => .bad
theorem ev_neg {a : Expr} {fa : M D} (ha : Ev 𝓕 ca a fa) : Ev 𝓕 ca (.UnaryOp .USub a pos) (negM fa) := by
  obtain ⟨t, a1, a2⟩ := ha
  refine ⟨_, fun j => pe_un un_neg (a1 j), fun F W H σ s Q R q => ?_⟩
  unfold negM bindM at q
  refine a2 F W H σ s _ R (wpr_mono (wpr_bind.mp q) (fun r h v H1 x1 R1 p => ?_) fun _ _ z => z)
  obtain ⟨d, c⟩ := r
  cases d with
  | int i => exact ⟨i, p, h (.int (-i)) H1 x1 R1 rfl⟩
  | _ => exact h.elim
/-! built-ins -/
theorem reps1 {Mu : Addr → Prop} {H : Hp} {d : D} {vs : List V} (h : Reps ca Mu H [d] vs) : ∃ v, vs = [v] ∧ Rep ca Mu H d v := by
  obtain ⟨v, r, e, h1, h2⟩ := h
  have h2 : r = [] := h2
  subst h2
  exact ⟨v, e, h1⟩
theorem reps2 {Mu : Addr → Prop} {H : Hp} {d e : D} {vs : List V} (h : Reps ca Mu H [d, e] vs) : ∃ v u, vs = [v, u] ∧ Rep ca Mu H d v ∧ Rep ca Mu H e u := by
  obtain ⟨v, r, e1, h1, h2⟩ := h
  obtain ⟨u, e2, h3⟩ := reps1 h2
  exact ⟨v, u, by rw [e1, e2], h1, h3⟩
def lenD : List D → Option D
  | [.lst ds] => some (.int ds.length)
  | [.tup ds] => some (.int ds.length)
  | [.str z] => if z.length ≤ sizeLine then some (.int z.length) else none
  | _ => none
theorem call_lenD : CallV 𝓕 ca (.builtin "len") lenD := by
  refine ⟨fun xs H Q => (∃ p ys, xs = [.ref p] ∧ (SqL 𝓕.K H p ys ∨ SqT 𝓕.K H p ys) ∧ Q (.int ys.length) H) ∨ (∃ z, xs = [.str z] ∧ z.length ≤ sizeLine ∧ Q (.int z.length) H), fun j => ?_, fun Mu H ds vs d Q dm r e k => ?_⟩
  · have h := call_len_seq (X := 𝓕.X j)
    rw [𝓕.hK j] at h
    exact h.or call_len_str
  · unfold lenD at e
    split at e
    · cases e
      obtain ⟨v, e1, a, us, e2, _, q, r2⟩ := reps1 r
      subst e1; subst e2
      refine .inl ⟨a, us, rfl, .inl (SqL.of q), ?_⟩
      rw [r2.length]
      exact k _ H (Same.refl _) rfl
    · cases e
      obtain ⟨v, e1, a, us, e2, q, r2⟩ := reps1 r
      subst e1; subst e2
      refine .inl ⟨a, us, rfl, .inr (SqT.of q), ?_⟩
      rw [r2.length]
      exact k _ H (Same.refl _) rfl
    · split at e
      · rename_i hz
        cases e
        obtain ⟨v, e1, e2⟩ := reps1 r
        exact .inr ⟨_, by rw [e1, show v = _ from e2], hz, k _ H (Same.refl _) rfl⟩
      · cases e
    · cases e
def absD : List D → Option D
  | [.int i] => some (.int (if i < 0 then -i else i))
  | _ => none
theorem call_absD : CallV 𝓕 ca (.builtin "abs") absD := by
  refine ⟨_, fun j => call_abs, fun Mu H ds vs d Q dm r e k => ?_⟩
  unfold absD at e
  split at e
  · cases e
    obtain ⟨v, e1, e2⟩ := reps1 r
    exact ⟨_, by rw [e1, show v = _ from e2], k _ H (Same.refl _) rfl⟩
  · cases e
/-- the ints of a list of ints -/
def intsOf : List D → Option (List Int)
  | [] => some []
  | .int i :: ds => (intsOf ds).map (i :: ·)
  | _ => none
theorem intsOf_ok : ∀ {ds : List D} {ns : List Int}, intsOf ds = some ns → ds = ns.map D.int
  | [], _, h => by cases h; rfl
  | .int i :: ds, ns, h => by
    unfold intsOf at h
    cases e : intsOf ds with
    | none => rw [e] at h; cases h
    | some ms =>
      rw [e] at h
      cases h
      rw [intsOf_ok e]
      rfl
  | .non :: _, _, h => by cases h
  | .bl _ :: _, _, h => by cases h
  | .str _ :: _, _, h => by cases h
  | .tup _ :: _, _, h => by cases h
  | .lst _ :: _, _, h => by cases h
  | .cup :: _, _, h => by cases h
  | .ref _ :: _, _, h => by cases h
@[simp] theorem intsOf_map : ∀ ns : List Int, intsOf (ns.map D.int) = some ns
  | [] => rfl
  | n :: ns => by
    show (intsOf (ns.map D.int)).map (n :: ·) = _
    rw [intsOf_map ns]
    rfl
def maxI : List Int → Int
  | [] => 0
  | n :: ns => ns.foldl (fun a b => if b > a then b else a) n
theorem foldl_max : ∀ (ns : List Int) (n : Int), let m := ns.foldl (fun a b => if b > a then b else a) n
    (m = n ∨ m ∈ ns) ∧ n ≤ m ∧ ∀ y ∈ ns, y ≤ m
  | [], n => ⟨.inl rfl, Int.le_refl _, fun _ h => by cases h⟩
  | b :: ns, n => by
    obtain ⟨h1, h2, h3⟩ := foldl_max ns (if b > n then b else n)
    show (ns.foldl (fun a b => if b > a then b else a) (if b > n then b else n) = n ∨ ns.foldl (fun a b => if b > a then b else a) (if b > n then b else n) ∈ b :: ns) ∧ _
    refine ⟨?_, ?_, fun y hy => ?_⟩
    · rcases h1 with h1 | h1
      · rw [h1]
        split
        · exact .inr (List.mem_cons_self)
        · exact .inl rfl
      · exact .inr (List.mem_cons_of_mem _ h1)
    · show n ≤ ns.foldl _ (if b > n then b else n)
      refine Int.le_trans ?_ h2
      split <;> omega
    · show y ≤ ns.foldl _ (if b > n then b else n)
      rcases List.mem_cons.mp hy with e | hy
      · refine Int.le_trans ?_ h2
        rw [e]
        split <;> omega
      · exact h3 y hy
theorem maxI_mem {ns : List Int} (h : ns ≠ []) : maxI ns ∈ ns := by
  cases ns with
  | nil => exact absurd rfl h
  | cons n ns =>
    rcases (foldl_max ns n).1 with e | e
    · show ns.foldl _ n ∈ _
      rw [e]; exact List.mem_cons_self
    · exact List.mem_cons_of_mem _ e
theorem maxI_le {ns : List Int} : ∀ y ∈ ns, y ≤ maxI ns := fun y hy => by
  cases ns with
  | nil => cases hy
  | cons n ns =>
    rcases List.mem_cons.mp hy with e | hy
    · rw [e]; exact (foldl_max ns n).2.1
    · exact (foldl_max ns n).2.2 y hy
def maxD : List D → Option D
  | [.int i, .int j] => some (.int (if j > i then j else i))
  | [.lst ds] => (intsOf ds).bind fun ns => if ns = [] then none else some (.int (maxI ns))
  | _ => none
theorem call_maxD : CallV 𝓕 ca (.builtin "max") maxD := by
  refine ⟨fun xs H Q => (∃ i j, xs = [.int i, .int j] ∧ Q (.int (if j > i then j else i)) H) ∨ rMax 𝓕.K xs H Q, fun j => ?_, fun Mu H ds vs d Q dm r e k => ?_⟩
  · have h := cr_max (X := 𝓕.X j) (𝓕.calm j)
    rw [𝓕.hK j] at h
    exact (call_max2 (𝓕.calm j)).or h
  · unfold maxD at e
    split at e
    · cases e
      obtain ⟨v, u, e1, e2, e3⟩ := reps2 r
      exact .inl ⟨_, _, by rw [e1, show v = _ from e2, show u = _ from e3], k _ H (Same.refl _) rfl⟩
    · rename_i es
      cases q : intsOf es with
      | none => rw [q] at e; cases e
      | some ns =>
        rw [q] at e
        have e : (if ns = [] then none else some (D.int (maxI ns))) = some d := e
        split at e
        · cases e
        · rename_i hn
          cases e
          have := intsOf_ok q
          subst this
          obtain ⟨v, e1, a, us, e2, _, q2, r2⟩ := reps1 r
          have r3 := r2.ints
          subst e1; subst e2; subst r3
          refine .inr ⟨a, ns, rfl, SqL.of q2, List.length_pos_iff.mpr hn, fun m hm hle => ?_⟩
          have : m = maxI ns := Int.le_antisymm (maxI_le m hm) (hle _ (maxI_mem hn))
          rw [this]
          exact k _ H (Same.refl _) rfl
    · cases e
def blsOf : List D → Option (List Bool)
  | [] => some []
  | .bl i :: ds => (blsOf ds).map (i :: ·)
  | _ => none
theorem blsOf_ok : ∀ {ds : List D} {ns : List Bool}, blsOf ds = some ns → ds = ns.map D.bl
  | [], _, h => by cases h; rfl
  | .bl i :: ds, ns, h => by
    unfold blsOf at h
    cases e : blsOf ds with
    | none => rw [e] at h; cases h
    | some ms =>
      rw [e] at h
      cases h
      rw [blsOf_ok e]
      rfl
  | .non :: _, _, h => by cases h
  | .int _ :: _, _, h => by cases h
  | .str _ :: _, _, h => by cases h
  | .tup _ :: _, _, h => by cases h
  | .lst _ :: _, _, h => by cases h
  | .cup :: _, _, h => by cases h
  | .ref _ :: _, _, h => by cases h
@[simp] theorem blsOf_map : ∀ ns : List Bool, blsOf (ns.map D.bl) = some ns
  | [] => rfl
  | n :: ns => by
    show (blsOf (ns.map D.bl)).map (n :: ·) = _
    rw [blsOf_map ns]
    rfl
def allD : List D → Option D
  | [.lst ds] => (blsOf ds).map fun bs => .bl (bs.all id)
  | _ => none
def anyD : List D → Option D
  | [.lst ds] => (blsOf ds).map fun bs => .bl (bs.any id)
  | _ => none
theorem call_allD : CallV 𝓕 ca (.builtin "all") allD := by
  refine ⟨rAll 𝓕.K, fun j => ?_, fun Mu H ds vs d Q dm r e k => ?_⟩
  · have h := cr_all (X := 𝓕.X j) (𝓕.calm j)
    rw [𝓕.hK j] at h
    exact h
  · unfold allD at e
    split at e
    · rename_i es
      cases q : blsOf es with
      | none => rw [q] at e; cases e
      | some ns =>
        rw [q] at e
        cases e
        have := blsOf_ok q
        subst this
        obtain ⟨v, e1, a, us, e2, _, q2, r2⟩ := reps1 r
        have r3 := r2.bls
        subst e1; subst e2; subst r3
        exact ⟨a, ns, rfl, SqL.of q2, k _ H (Same.refl _) rfl⟩
    · cases e
theorem call_anyD : CallV 𝓕 ca (.builtin "any") anyD := by
  refine ⟨rAny 𝓕.K, fun j => ?_, fun Mu H ds vs d Q dm r e k => ?_⟩
  · have h := cr_any (X := 𝓕.X j) (𝓕.calm j)
    rw [𝓕.hK j] at h
    exact h
  · unfold anyD at e
    split at e
    · rename_i es
      cases q : blsOf es with
      | none => rw [q] at e; cases e
      | some ns =>
        rw [q] at e
        cases e
        have := blsOf_ok q
        subst this
        obtain ⟨v, e1, a, us, e2, _, q2, r2⟩ := reps1 r
        have r3 := r2.bls
        subst e1; subst e2; subst r3
        exact ⟨a, ns, rfl, SqL.of q2, k _ H (Same.refl _) rfl⟩
    · cases e
def listD : List D → Option D
  | [.lst ds] => some (.lst ds)
  | [.tup ds] => some (.lst ds)
  | _ => none
theorem call_listD : CallV 𝓕 ca (.type "list") listD := by
  refine ⟨fun xs H Q => ∃ p ys, xs = [.ref p] ∧ (SqL 𝓕.K H p ys ∨ SqT 𝓕.K H p ys) ∧ ∀ l, H l = none → Q (.ref l) (upd H l (.lst ys)), fun j => ?_, fun Mu H ds vs d Q dm r e k => ?_⟩
  · have h := call_list_of (X := 𝓕.X j)
    rw [𝓕.hK j] at h
    exact h
  · unfold listD at e
    split at e
    · cases e
      obtain ⟨v, e1, a, us, e2, _, q, r2⟩ := reps1 r
      subst e1; subst e2
      exact ⟨a, us, rfl, .inl (SqL.of q), fun l hl => k _ _ (same_upd hl) (rep_newL r2 hl dm)⟩
    · cases e
      obtain ⟨v, e1, a, us, e2, q, r2⟩ := reps1 r
      subst e1; subst e2
      exact ⟨a, us, rfl, .inr (SqT.of q), fun l hl => k _ _ (same_upd hl) (rep_newL r2 hl dm)⟩
    · cases e
def tupleD : List D → Option D
  | [.lst ds] => some (.tup ds)
  | [.tup ds] => some (.tup ds)
  | _ => none
theorem call_tupleD : CallV 𝓕 ca (.type "tuple") tupleD := by
  refine ⟨fun xs H Q => ∃ p ys, xs = [.ref p] ∧ ((SqL 𝓕.K H p ys ∧ ∀ l, H l = none → Q (.ref l) (upd H l (.tup ys))) ∨ (SqT 𝓕.K H p ys ∧ Q (.ref p) H)), fun j => ?_, fun Mu H ds vs d Q dm r e k => ?_⟩
  · have h := call_tuple_of (X := 𝓕.X j)
    rw [𝓕.hK j] at h
    exact h
  · unfold tupleD at e
    split at e
    · cases e
      obtain ⟨v, e1, a, us, e2, _, q, r2⟩ := reps1 r
      subst e1; subst e2
      exact ⟨a, us, rfl, .inl ⟨SqL.of q, fun l hl => k _ _ (same_upd hl) (rep_newT r2 hl)⟩⟩
    · cases e
      obtain ⟨v, e1, r1⟩ := reps1 r
      obtain ⟨a, us, e2, q, r2⟩ := id r1
      subst e1; subst e2
      exact ⟨a, us, rfl, .inr ⟨SqT.of q, k _ H (Same.refl _) r1⟩⟩
    · cases e
def intD : List D → Option D
  | [.int i] => some (.int i)
  | [.bl b] => some (.int (if b then 1 else 0))
  | _ => none
theorem call_intD : CallV 𝓕 ca (.type "int") intD := by
  refine ⟨_, fun j => call_int1, fun Mu H ds vs d Q dm r e k => ?_⟩
  unfold intD at e
  split at e
  · cases e
    obtain ⟨v, e1, e2⟩ := reps1 r
    exact .inl ⟨_, by rw [e1, show v = _ from e2], k _ H (Same.refl _) rfl⟩
  · cases e
    obtain ⟨v, e1, e2⟩ := reps1 r
    exact .inr ⟨_, by rw [e1, show v = _ from e2], k _ H (Same.refl _) rfl⟩
  · cases e
def gcdD : List D → Option D
  | [.int i, .int j] => some (.int ((Nat.gcd i.natAbs j.natAbs : Nat) : Int))
  | _ => none
theorem call_gcdD : CallV 𝓕 ca (.builtin "math.gcd") gcdD := by
  refine ⟨_, fun j => cr_gcd, fun Mu H ds vs d Q dm r e k => ?_⟩
  unfold gcdD at e
  split at e
  · cases e
    obtain ⟨v, u, e1, e2, e3⟩ := reps2 r
    exact ⟨_, _, by rw [e1, show v = _ from e2, show u = _ from e3], k _ H (Same.refl _) rfl⟩
  · cases e
def sumI (ns : List Int) : Int := ns.sum
def sumD : List D → Option D
  | [.lst ds] => (intsOf ds).map fun ns => .int ns.sum
  | _ => none
theorem call_sumD : CallV 𝓕 ca (.builtin "sum") sumD := by
  refine ⟨rSum 𝓕.K, fun j => ?_, fun Mu H ds vs d Q dm r e k => ?_⟩
  · have h := cr_sum (X := 𝓕.X j) (𝓕.calm j)
    rw [𝓕.hK j] at h
    exact h
  · unfold sumD at e
    split at e
    · rename_i es
      cases q : intsOf es with
      | none => rw [q] at e; cases e
      | some ns =>
        rw [q] at e
        cases e
        have := intsOf_ok q
        subst this
        obtain ⟨v, e1, a, us, e2, _, q2, r2⟩ := reps1 r
        have r3 := r2.ints
        subst e1; subst e2; subst r3
        exact ⟨a, ns, rfl, SqL.of q2, k _ H (Same.refl _) rfl⟩
    · cases e
/-- sorted, of ints -/
def sortI (ns : List Int) : List Int := ns.mergeSort fun a b => decide (a ≤ b)
theorem sort_unique : ∀ {l m : List Int}, l.Perm m → l.Pairwise (· ≤ ·) → m.Pairwise (· ≤ ·) → l = m
  | [], m, p, _, _ => by rw [List.Perm.nil_eq p]
  | a :: l, [], p, _, _ => by have := p.length_eq; simp at this
  | a :: l, b :: m, p, hl, hm => by
    have h1 : a ≤ b := by
      rcases List.mem_cons.mp (p.mem_iff.mpr List.mem_cons_self) with e | e
      · omega
      · exact (List.pairwise_cons.mp hl).1 b e
    have h2 : b ≤ a := by
      rcases List.mem_cons.mp (p.mem_iff.mp List.mem_cons_self) with e | e
      · omega
      · exact (List.pairwise_cons.mp hm).1 a e
    have e : a = b := Int.le_antisymm h1 h2
    subst e
    rw [sort_unique (List.Perm.cons_inv p) (List.pairwise_cons.mp hl).2 (List.pairwise_cons.mp hm).2]
theorem sortI_pairwise (ns : List Int) : (sortI ns).Pairwise (· ≤ ·) := by
  have h := List.pairwise_mergeSort (le := fun (a b : Int) => decide (a ≤ b)) (fun a b c h1 h2 => by
    rw [decide_eq_true_eq] at h1 h2 ⊢; omega) (fun a b => by
    rw [Bool.or_eq_true, decide_eq_true_eq, decide_eq_true_eq]; omega) ns
  exact h.imp fun z => of_decide_eq_true z
theorem sortI_perm (ns : List Int) : (sortI ns).Perm ns := List.mergeSort_perm ns _
def sortedD : List D → Option D
  | [.lst ds] => (intsOf ds).map fun ns => .lst ((sortI ns).map D.int)
  | _ => none
theorem call_sortedD : CallV 𝓕 ca (.builtin "sorted") sortedD := by
  refine ⟨rSortedI 𝓕.K, fun j => ?_, fun Mu H ds vs d Q dm r e k => ?_⟩
  · have h := cr_sortedI (X := 𝓕.X j)
    rw [𝓕.hK j] at h
    exact h
  · unfold sortedD at e
    split at e
    · rename_i es
      cases q : intsOf es with
      | none => rw [q] at e; cases e
      | some ns =>
        rw [q] at e
        cases e
        have := intsOf_ok q
        subst this
        obtain ⟨v, e1, a, us, e2, _, q2, r2⟩ := reps1 r
        have r3 := r2.ints
        subst e1; subst e2; subst r3
        refine ⟨a, ns, rfl, SqL.of q2, fun ns' p h1 h2 hp => ?_⟩
        have : ns' = sortI ns := sort_unique (h1.trans (sortI_perm ns).symm) h2 (sortI_pairwise ns)
        rw [this]
        exact k _ _ (same_upd hp) (rep_newL (Reps.ofInts _) hp dm)
    · cases e
/-! isinstance of a built-in type -/
def tyOf : D → Option String
  | .non => some "NoneType"
  | .bl _ => some "bool"
  | .int _ => some "int"
  | .str _ => some "str"
  | .tup _ => some "tuple"
  | .lst _ => some "list"
  | _ => none
def isiM (T : String) (f : M D) : M D := bindM f fun d => match tyOf d with
  | some t => (match kitB t T with
    | some b => ret (.bl b)
    | none => fun _ => .bad)
  | none => fun _ => .bad
theorem ev_isi {T : String} {x : Str} {e : Expr} {f : M D} {p p2 : Pos} (he : Ev 𝓕 ca e f) (hm : 𝓕.mg "isinstance" = none) (hmT : 𝓕.mg x = none) (hvT : bootBuiltins x = some (.type T)) (hg : ∀ j, Gl (𝓕.X j) "isinstance" := by intro _; rfl) (hgT : ∀ j, Gl (𝓕.X j) x := by intro _; rfl)
    (hn : x ≠ "__name__" := by decide) (hdb : (x == ("__debug__" : Str)) = false := by decide) (hs2 : ∀ j, starEach [.Name x p2] (𝓕.X j).env = (false, eval (.Name x p2) (𝓕.X j).env) :: starEach [] (𝓕.X j).env := by intro _; rfl)
    (hs : ∀ j, starEach [e, .Name x p2] (𝓕.X j).env = (false, eval e (𝓕.X j).env) :: starEach [.Name x p2] (𝓕.X j).env := by intro _; rfl) (hpl : ∀ j, (backTo pos (starEach [.Name x p2] (𝓕.X j).env)).any (·.1) = false := by intro _; rfl) :
    Ev 𝓕 ca (.Call (.Name "isinstance" p) [e, .Name x p2] [] pos) (isiM T f) := by
  obtain ⟨t, a1, a2⟩ := he
  refine ⟨tCB (rIsi 𝓕.K) (tCons t (tCons (tC (.ty T)) tNil)), fun j => ?_, fun F W H σ s Q R q => ?_⟩
  · have h := call_isi (X := 𝓕.X j)
    rw [𝓕.hK j] at h
    exact pe_callB h (hg j) (by rw [𝓕.hmg j]; exact hm) (by decide +kernel) (pa_cons (a1 j) (pa_cons (pe_bltn (v := .ty T) (hgT j) (by rw [𝓕.hmg j]; exact hmT) hvT rfl hn hdb) pa_nil (hs2 j)) (hs j)) (by decide) (by decide) (hs j) (hpl j)
  · unfold isiM bindM at q
    refine a2 F W H σ s _ R (wpr_mono (wpr_bind.mp q) (fun r h v H1 x1 R1 p => ?_) fun _ _ z => z)
    obtain ⟨d, c⟩ := r
    have fin : ∀ ty : String, tyOf d = some ty → TyX 𝓕.K H1 v (.type ty) → ∃ (x c : V) (t u : Value) (b : Bool), [v, V.ty T] = [x, c] ∧ ClsV c u ∧ TyX 𝓕.K H1 x t ∧ PySem.W.kitOne 𝓕.K t u = some b ∧ Q (.bl b) H1 := fun ty e1 tx => by
      dsimp only at h
      rw [e1] at h
      dsimp only at h
      cases e2 : kitB ty T with
      | none => rw [e2] at h; exact h.elim
      | some b =>
        rw [e2] at h
        exact ⟨v, .ty T, .type ty, .type T, b, rfl, .ty T, tx, kit_ty e2, h (.bl b) H1 x1 R1 rfl⟩
    cases d with
    | non => rw [show v = _ from p] at fin ⊢; exact fin _ rfl (.base .non)
    | bl b => rw [show v = _ from p] at fin ⊢; exact fin _ rfl (.base (.bl b))
    | int i => rw [show v = _ from p] at fin ⊢; exact fin _ rfl (.base (.int i))
    | str z => rw [show v = _ from p] at fin ⊢; exact fin _ rfl (.base (.str z))
    | tup ds =>
      obtain ⟨a, vs, e1, e2, _⟩ := p
      rw [e1] at fin ⊢
      exact fin _ rfl (.base (.tup e2))
    | lst ds =>
      obtain ⟨a, vs, e1, _, e2, _⟩ := p
      rw [e1] at fin ⊢
      exact fin _ rfl (.base (.lst e2))
    | cup => exact h.elim
    | ref a => exact h.elim
end
end PL

namespace PL
open PySem PySem.Spec PyProof.Rows L2
section
variable {𝓕 : Fam} {ca : Option Addr} {pos : Pos}
/-! and, or, not as values -/
def andV (fa fb : M D) : M D := bindM fa fun x => match x with
  | .bl true => fb
  | .bl false => ret (.bl false)
  | _ => fun _ => .bad
def orV (fa fb : M D) : M D := bindM fa fun x => match x with
  | .bl true => ret (.bl true)
  | .bl false => fb
  | _ => fun _ => .bad
def notV (fa : M D) : M D := bindM fa fun x => match x with
  | .bl b => ret (.bl (!b))
  | _ => fun _ => .bad
theorem ev_one {op} {a : Expr} {fa : M D} (ha : Ev 𝓕 ca a fa) : Ev 𝓕 ca (.BoolOp op [a] pos) fa := by
  obtain ⟨t, a1, a2⟩ := ha
  exact ⟨t, fun j => pe_one (a1 j), a2⟩
theorem ev_and {a b : Expr} {rest : List Expr} {fa fb : M D} (ha : Ev 𝓕 ca a fa) (hb : Ev 𝓕 ca (.BoolOp .And (b :: rest) pos) fb) : Ev 𝓕 ca (.BoolOp .And (a :: b :: rest) pos) (andV fa fb) := by
  obtain ⟨ta, a1, a2⟩ := ha
  obtain ⟨tb, b1, b2⟩ := hb
  refine ⟨_, fun j => pe_and (a1 j) (b1 j), fun F W H σ s Q R q => ?_⟩
  unfold andV bindM at q
  refine a2 F W H σ s _ R (wpr_mono (wpr_bind.mp q) (fun r h v H1 x1 R1 p => ?_) fun _ _ z => z)
  obtain ⟨d, c⟩ := r
  cases d with
  | bl b =>
    refine ⟨b, p, ?_⟩
    cases b with
    | true =>
      rw [if_pos rfl]
      exact b2 F W H1 σ ⟨s.env, c⟩ Q R1 (wpr_mono h (fun r z => z.ext x1) fun _ _ z => z.ext x1)
    | false =>
      rw [if_neg Bool.false_ne_true]
      exact h (.bl false) H1 x1 R1 rfl
  | _ => exact h.elim
theorem ev_or {a b : Expr} {rest : List Expr} {fa fb : M D} (ha : Ev 𝓕 ca a fa) (hb : Ev 𝓕 ca (.BoolOp .Or (b :: rest) pos) fb) : Ev 𝓕 ca (.BoolOp .Or (a :: b :: rest) pos) (orV fa fb) := by
  obtain ⟨ta, a1, a2⟩ := ha
  obtain ⟨tb, b1, b2⟩ := hb
  refine ⟨_, fun j => pe_or (a1 j) (b1 j), fun F W H σ s Q R q => ?_⟩
  unfold orV bindM at q
  refine a2 F W H σ s _ R (wpr_mono (wpr_bind.mp q) (fun r h v H1 x1 R1 p => ?_) fun _ _ z => z)
  obtain ⟨d, c⟩ := r
  cases d with
  | bl b =>
    refine ⟨b, p, ?_⟩
    cases b with
    | false =>
      rw [if_neg Bool.false_ne_true]
      exact b2 F W H1 σ ⟨s.env, c⟩ Q R1 (wpr_mono h (fun r z => z.ext x1) fun _ _ z => z.ext x1)
    | true =>
      rw [if_pos rfl]
      exact h (.bl true) H1 x1 R1 rfl
  | _ => exact h.elim
theorem ev_not {a : Expr} {fa : M D} (ha : Ev 𝓕 ca a fa) : Ev 𝓕 ca (.UnaryOp .Not a pos) (notV fa) := by
  obtain ⟨ta, a1, a2⟩ := ha
  refine ⟨_, fun j => pe_not (a1 j), fun F W H σ s Q R q => ?_⟩
  unfold notV bindM at q
  refine a2 F W H σ s _ R (wpr_mono (wpr_bind.mp q) (fun r h v H1 x1 R1 p => ?_) fun _ _ z => z)
  obtain ⟨d, c⟩ := r
  cases d with
  | bl b => exact ⟨b, p, h (.bl (!b)) H1 x1 R1 rfl⟩
  | _ => exact h.elim
/-! slices -/
abbrev OM := S → Res (Option Int × List D)
def SemO (ca : Option Addr) (XA : Exn → Value → Option Addr → Hp → Prop) (E : XK) (t : TO) (f : OM) : Prop :=
  ∀ F W H σ s Q, SRep ca F W H σ s → wpr (f s) (fun r => ∀ H', Ext W H H' → SRep ca F W H' σ ⟨s.env, r.2⟩ → Q r.1 H') (ExcP ca F W H XA E) → t σ H Q
def Ov (𝓕 : Fam) (ca : Option Addr) (e : Option Expr) (f : OM) : Prop := ∃ t : TO, (∀ j, PO (𝓕.X j) e t) ∧ SemO ca 𝓕.XA 𝓕.E t f
def partM (f : M D) : OM := fun s => (f s).bind fun r => match r.1 with
  | .int i => .ok (some i, r.2)
  | _ => .bad
def noPart : OM := fun s => .ok (none, s.cup)
theorem ov_none : Ov 𝓕 ca none noPart := ⟨_, fun _ => po_none, fun F W H σ s Q R q => q H (Ext.refl _ _) R⟩
theorem ov_some {e : Expr} {f : M D} (h : Ev 𝓕 ca e f) : Ov 𝓕 ca (some e) (partM f) := by
  obtain ⟨t, a1, a2⟩ := h
  refine ⟨_, fun j => po_some (a1 j), fun F W H σ s Q R q => ?_⟩
  unfold partM at q
  refine a2 F W H σ s _ R (wpr_mono (wpr_bind.mp q) (fun r h v H1 x1 R1 p => ?_) fun _ _ z => z)
  obtain ⟨d, c⟩ := r
  cases d with
  | int i => exact ⟨i, p, h H1 x1 R1⟩
  | _ => exact h.elim
def cutD (ds : List D) (lo hi : Option Int) : List D := (ds.drop (HT.sIx ds.length 0 lo)).take (HT.sIx ds.length ds.length hi - HT.sIx ds.length 0 lo)
def slcD (d : D) (lo hi : Option Int) : Option D := match d with
  | .lst ds => some (.lst (cutD ds lo hi))
  | .tup ds => some (.tup (cutD ds lo hi))
  | .str z => if z.length ≤ sizeLine then some (.str (cutS z lo hi)) else none
  | _ => none
def slcM (f : M D) (lo hi : OM) : M D := fun s => (f s).bind fun r => (lo ⟨s.env, r.2⟩).bind fun l => (hi ⟨s.env, l.2⟩).bind fun h => match slcD r.1 l.1 h.1 with
  | some d => .ok (d, h.2)
  | none => .bad
theorem reps_cut {Mu : Addr → Prop} {H : Hp} {ds : List D} {vs : List V} {lo hi : Option Int} (h : Reps ca Mu H ds vs) : Reps ca Mu H (cutD ds lo hi) (cutV vs lo hi) := by
  unfold cutD cutV
  rw [h.length]
  exact (h.drop _).take _
theorem ev_slc {e : Expr} {lo hi : Option Expr} {f : M D} {fl fh : OM} {p2 : Pos} (he : Ev 𝓕 ca e f) (hl : Ov 𝓕 ca lo fl) (hh : Ov 𝓕 ca hi fh) : Ev 𝓕 ca (.Subscript e (.Slice lo hi none p2) pos) (slcM f fl fh) := by
  obtain ⟨te, e1, e2⟩ := he
  obtain ⟨tl, l1, l2⟩ := hl
  obtain ⟨th, h1, h2⟩ := hh
  refine ⟨tSl (fun x lo hi H Q => rSlL 𝓕.K x lo hi H Q ∨ rSlA 𝓕.K x lo hi H Q ∨ rSlS x lo hi H Q) te tl th, fun j => ?_, fun F W H σ s Q R q => ?_⟩
  · have a := sl_list (X := 𝓕.X j)
    have b := sl_tupA (X := 𝓕.X j)
    rw [𝓕.hK j] at a b
    exact pe_slice (a.or (b.or sl_str)) (e1 j) (l1 j) (h1 j)
  · unfold slcM at q
    refine e2 F W H σ s _ R (wpr_mono (wpr_bind.mp q) (fun r1 g1 v1 H1 x1 R1 p1 => ?_) fun _ _ z => z)
    refine l2 F W H1 σ ⟨s.env, r1.2⟩ _ R1 (wpr_mono (wpr_bind.mp g1) (fun r2 g2 H2 x2 R2 => ?_) fun _ _ z => z.ext x1)
    refine h2 F W H2 σ ⟨s.env, r2.2⟩ _ R2 (wpr_mono (wpr_bind.mp g2) (fun r3 g3 H3 x3 R3 => ?_) fun _ _ z => z.ext (x1.trans x2))
    obtain ⟨d, c⟩ := r1
    dsimp only at g3 p1
    have p3 := R2.rep x3 (R1.rep x2 p1)
    have xx := (x1.trans x2).trans x3
    cases d with
    | lst ds =>
      obtain ⟨a, vs, e, n, q1, q2⟩ := p3
      refine .inl ⟨a, vs, e, SqL.of q1, fun p hp => ?_⟩
      exact g3 _ _ (xx.trans (Ext.upd hp)) (R3.same (same_upd hp)) (rep_newL (reps_cut q2) hp R3.dom)
    | tup ds =>
      obtain ⟨a, vs, e, q1, q2⟩ := p3
      refine .inr (.inl ⟨a, vs, e, SqT.of q1, fun z => ?_, fun _ p hp => ?_⟩)
      · have ee : cutD ds r2.1 r3.1 = ds := by
          unfold cutD
          rw [q2.length] at z
          rw [z.1, z.2, List.drop_zero, Nat.sub_zero, List.take_length]
        have g4 : PostE ca F W H σ s.env Q (.tup (cutD ds r2.1 r3.1), r3.2) := g3
        rw [ee] at g4
        exact g4 _ H3 xx R3 ⟨a, vs, rfl, q1, q2⟩
      · exact g3 _ _ (xx.trans (Ext.upd hp)) (R3.same (same_upd hp)) (rep_newT (reps_cut q2) hp)
    | str z =>
      refine .inr (.inr ⟨z, p3, ?_⟩)
      unfold slcD at g3
      dsimp only at g3
      split at g3
      · rename_i d2 e2
        split at e2
        · rename_i hz
          cases e2
          exact ⟨hz, g3 _ H3 xx R3 rfl⟩
        · cases e2
      · exact g3.elim
    | _ => exact g3.elim
/-! three names at once -/
def par3 (i j l : Nat) (f : M (List D)) : S → Res Fl := fun s => (f s).bind fun r => match r.1 with
  | [x, y, z] => .ok (.nx ⟨((s.env.set i (.val x)).set j (.val y)).set l (.val z), r.2⟩)
  | _ => .bad
theorem sv_par3 {i j l : Nat} {x y z : Str} {a b c : Expr} {f : M (List D)} {px py pz pt : Pos} {kt k2 pt2} (ha : Av 𝓕 ca [a, b, c] f) (hij : i ≠ j := by decide) (hil : i ≠ l := by decide) (hjl : j ≠ l := by decide) (hi : 𝓕.N[i]? = some x := by rfl) (hj : 𝓕.N[j]? = some y := by rfl) (hl : 𝓕.N[l]? = some z := by rfl)
    (hx : ∀ j, (𝓕.X j).env.scope.names.lookup x = some .local := by intro _; rfl) (hy : ∀ j, (𝓕.X j).env.scope.names.lookup y = some .local := by intro _; rfl) (hz : ∀ j, (𝓕.X j).env.scope.names.lookup z = some .local := by intro _; rfl)
    (hw : ∀ j, swappedStores [.Tuple [.Name x px, .Name y py, .Name z pz] kt pt] (.Tuple [a, b, c] k2 pt2) (𝓕.X j).env = pure (some [x, y, z]) := by intro _; rfl)
    (hs : ∀ j, swapsWithSole [.Tuple [.Name x px, .Name y py, .Name z pz] kt pt] (.Tuple [a, b, c] k2 pt2) pos.line (𝓕.X j).env = pure false := by intro _; rfl) :
    Sv 𝓕 ca (.Assign [.Tuple [.Name x px, .Name y py, .Name z pz] kt pt] (.Tuple [a, b, c] k2 pt2) pos) (par3 i j l f) := by
  obtain ⟨t, a1, a2, _⟩ := ha
  refine ⟨_, fun m => ps_par3 (𝓕.calm m) (by rw [𝓕.hN m]; exact 𝓕.nd) (by rw [𝓕.hN m]; exact hi) (by rw [𝓕.hN m]; exact hj) (by rw [𝓕.hN m]; exact hl) hij hil hjl (hx m) (hy m) (hz m) (a1 m) (hw m) (hs m), fun F W H σ s Dn R q => ?_⟩
  unfold par3 at q
  refine a2 F W H σ s _ R (wpr_mono (wpr_bind.mp q) (fun r h vs H1 x1 R1 p => ?_) fun _ _ z => z)
  obtain ⟨ds, s1⟩ := r
  match ds, h, p with
  | [d, e, g], h, p =>
    obtain ⟨v, vr, e1, p1, w, wr, e2, p2, u, ur, e3, p3, e4⟩ := p
    subst e1; subst e2; subst e3
    have e4 : ur = [] := e4
    subst e4
    exact ⟨v, w, u, rfl, h W H1 _ (.ext x1) (((R1.set p1).set p2).set p3)⟩
/-! what is never reached -/
def badS : S → Res Fl := fun _ => .bad
theorem sv_never {st : Stmt} : Sv 𝓕 ca st badS := ⟨_, fun _ => ps_never, fun _ _ _ _ _ _ _ q => q.elim⟩
/-- raise of an own class without fields -/
def XAof (mg : Str → Option Value) : Exn → Value → Option Addr → Hp → Prop := fun x cls dx H => ∃ C, mg x.cls = some (.ref C) ∧ cls = .ref C ∧ (match x.arg with
  | [] => True
  | [d] => ∃ a i, dx = some a ∧ d = .int i ∧ H a = some (.xd [("sign", .int i)])
  | _ => False)
end
/-! the law's end -/
/-- the module's facts of a def -/
structure FnK (P : Program) (w : World) (K : PySem.W.Frag) (mg : Str → Option Value) (base : Heap) (x : Str) (n k : Nat) (m : Fn) : Prop where
  ex : ∃ (f : Addr) (fd : FuncData) (ps : List Str), FnOk P w K mg base (L2.CX P w) k f fd ps (spOf (XAof mg) n m) ∧ mg x = some (.ref f) ∧ PySem.W.keepIn K (.ref f) = true ∧ Binds K fd ps []
theorem FnK.fv {P : Program} {w : World} {K : PySem.W.Frag} {mg : Str → Option Value} {base : Heap} {x : Str} {n k : Nat} {m : Fn} (h : FnK P w K mg base x n k m) {𝓕 : Fam} (hk : k ≤ 𝓕.k := by exact Nat.le_of_ble_eq_true rfl) (h1 : 𝓕.P = P := by rfl) (h2 : 𝓕.w = w := by rfl) (h3 : 𝓕.K = K := by rfl) (h4 : 𝓕.mg = mg := by rfl) (h5 : 𝓕.base = base := by rfl) (h6 : 𝓕.CX = L2.CX P w := by rfl) (h7 : 𝓕.XA = XAof mg := by rfl) : FnV 𝓕 x n m := by
  obtain ⟨f, fd, ps, a, b, c, d⟩ := h.ex
  refine ⟨f, fd, ps, k, ?_, hk, by rw [h4]; exact b, by rw [h3]; exact c, by rw [h3]; exact d⟩
  rw [h1, h2, h3, h4, h5, h6, h7]
  exact a
/-- a def of the text, by its head's facts -/
structure DefF (K : PySem.W.Frag) (mg : Str → Option Value) (x : Str) (st : Stmt) (ps : List Str) : Prop where
  ex : ∃ (f : Addr) (fd : FuncData), Fun K x x st f fd ∧ mg x = some (.ref f) ∧ Binds K fd ps []
theorem fnk {P : Program} {w : World} {K : PySem.W.Frag} {mg : Str → Option Value} {base : Heap} {x : Str} {st : Stmt} {N ps : List Str} {k : Nat} {fb : S → Res Fl} (h : DefF K mg x st ps) (Sc : FnScope N ps (defScope st))
    (hb : ∀ (f : Addr) (ca : Option Addr) (cdv : Value) (A : Around) (outer : List Env) (s : Shared) (H : Hp) (E : XK) (hr : Room k (A.deeper (envOfC x (defScope st) s.heap.objs.size f cdv))), Bv (famB P w K mg base N x (defScope st) f cdv A outer s H E (XAof mg) k Sc.nd hr) ca (defBody st) fb) :
    FnK P w K mg base x ps.length (k + 1) (runB N.length fb) := by
  obtain ⟨f, fd, F, hm, b⟩ := h.ex
  exact ⟨f, fd, ps, fn_mk F Sc (hb f), hm, F.kp, b⟩
/-- nothing is promised -/
theorem fnk0 {P : Program} {w : World} {K : PySem.W.Frag} {mg : Str → Option Value} {base : Heap} {x : Str} {st : Stmt} {ps : List Str} {n k : Nat} (h : DefF K mg x st ps) (hn : n = ps.length) : FnK P w K mg base x n k (fun _ _ => .bad) := by
  obtain ⟨f, fd, F, hm, b⟩ := h.ex
  refine ⟨f, fd, ps, ⟨fun vs H Q E q => by rw [q.1, hn], fun A outer s H args us vs Q E hr he hb hv hs => ?_⟩, hm, F.kp, b⟩
  obtain ⟨_, _, _, _, _, _, _, _, z⟩ := hs
  exact z.elim
section
variable {𝓕 : Fam} {ca : Option Addr} {pos : Pos}
def strD : List D → Option D
  | [.int i] => if i.natAbs.log2 < 1920 then some (.str (toString i)) else none
  | _ => none
theorem call_strD : CallV 𝓕 ca (.type "str") strD := by
  refine ⟨_, fun j => call_str_int, fun Mu H ds vs d Q dm r e k => ?_⟩
  unfold strD at e
  split at e
  · split at e
    · rename_i hz
      cases e
      obtain ⟨v, e1, e2⟩ := reps1 r
      exact ⟨_, by rw [e1, show v = _ from e2], hz, k _ H (Same.refl _) rfl⟩
    · cases e
  · cases e
theorem rangeSize_nn (i j k : Int) : 0 ≤ Builtin.Range.rangeSize i j k := by
  unfold Builtin.Range.rangeSize
  split
  · split
    · have := Int.ediv_nonneg (show 0 ≤ j - i - 1 by omega) (show 0 ≤ k by omega)
      omega
    · omega
  · split
    · have := Int.ediv_nonneg (show 0 ≤ i - j - 1 by omega) (show 0 ≤ -k by omega)
      omega
    · omega
end
end PL

namespace PL
open PySem PySem.Spec PyProof.Rows L2
/-! the head's facts: defs, names that are free, ints, texts, and built-ins that the top has brought in -/
abbrev Bl := Str × String
def blOk (K : PySem.W.Frag) (p : Bl) : Bool := He.eqO (PySem.W.nsIn K mainGlobals p.1) (some (some (.builtin p.2)))
abbrev AlP : Type := Bool × He.Al
def obsP (fa : List He.Fa) (fn : List He.FnD) (bl : List Bl) (K : PySem.W.Frag) : AlP := (bl.all fun p => blOk K p, He.obsE fa fn K)
def valP (fn : List He.FnD) : AlP := (true, He.valE fn)
def SaysP (fa : List He.Fa) (fn : List He.FnD) (bl : List Bl) (K : PySem.W.Frag) : Prop := obsP fa fn bl K = valP fn
def obsPG (n : Nat) (fa : List He.Fa) (fn : List He.FnD) (bl : List Bl) (g : Addr → Option Obj) : AlP := obsP fa fn bl (He.frG g (He.asG g n))
def hookP (n : Nat) (fa : List He.Fa) (fn : List He.FnD) (bl : List Bl) : PySem.W.Hook where
  α := AlP
  obs := fun s => obsPG n fa fn bl s.heap.get?
  val := fun _ => valP fn
  says := fun _ h => ∃ K : PySem.W.Frag, K.In h ∧ SaysP fa fn bl K
  of := fun _ _ e => ⟨_, He.frG_in, e⟩
  keeps := fun _ _ _ ⟨K, a, c⟩ k => ⟨K, PySem.W.Frag.In.keeps a k, c⟩
theorem obsPG_eq {n : Nat} {fa : List He.Fa} {fn : List He.FnD} {bl : List Bl} {g : Addr → Option Obj} {s : Shared} (h : ∀ a, g a = s.heap.get? a) : obsPG n fa fn bl g = (hookP n fa fn bl).obs s := by
  have e : g = s.heap.get? := funext h
  rw [e] <;> rfl
section
variable {fa : List He.Fa} {fn : List He.FnD} {bl : List Bl} {K : PySem.W.Frag} {h : Heap} {mg : Str → Option Value}
theorem SaysP.e (c : SaysP fa fn bl K) : He.SaysE fa fn K := congrArg (fun z : AlP => z.2) c
theorem SaysP.blt (c : SaysP fa fn bl K) (X : K.In h) (G : h.Ns mainGlobals mg) (i : Nat) {p : Bl} (e : bl[i]? = some p := by rfl) : mg p.1 = some (.builtin p.2) := by
  have c1 : (bl.all fun p => blOk K p) = true := congrArg (fun z : AlP => z.1) c
  exact PySem.W.mg_of X G (He.eqO_ok (List.all_eq_true.mp c1 p (List.mem_of_getElem? e)))
def fnD (x : Str) (st : Stmt) : He.FnD := ⟨(x, none), x, x, defArgs st, defBody st, defScope st⟩
theorem SaysP.defF (c : SaysP fa fn bl K) (X : K.In h) (G : h.Ns mainGlobals mg) {x : Str} {st : Stmt} {ps : List Str} (i j m : Nat) (e1 : fn[i]? = some (fnD x st) := by rfl) (e2 : fa[j]? = some (.glo x) := by rfl) (e3 : fa[m]? = some (.keep x) := by rfl)
    (hb : ∀ (kV doc pm : Value) (an : Option Addr) (cdv ct : Value) (us : List Value), us.length = ps.length → bindArgs (PySem.W.fnOf x x (defArgs st) (defBody st) (defScope st) .none kV doc pm an cdv ct) ⟨us, []⟩ = pure (ps.zip us)) : DefF K mg x st ps := by
  obtain ⟨oc, od, osl, kV, doc, pm, an, cdv, ct, l, q⟩ := c.e.def_ i e1
  have k := He.keep_ok (c.e.fact m e3)
  have g := He.glo_ok X G (c.e.fact j e2)
  have F := fun_mk (st := st) (x := x) (qual := x) l q k
  exact ⟨_, _, F, g, F.binds hb⟩
end
/-! the cup of a law -/
/-- the first cell -/
def cell0 (ns : List Int) : Int := if ns.headD 0 < 0 then -(ns.headD 0) else ns.headD 0
def cupX (a : Int) (ns : List Int) : Int := if cell0 ns ≥ 10 ^ 18 then cell0 ns / a else 0
def cupY (b c m d : Int) (ns : List Int) : Int := (cell0 ns * b + c) % m + d
def spCup (K : PySem.W.Frag) (a b c m d : Int) : Sp := fun vs H Q _ => ∃ (ad : Addr) (ns : List Int), vs = [.ref ad] ∧ SqL K H ad (ns.map V.int) ∧ ns.length ≤ 63 ∧
  ∀ (p : Addr) (H' : Hp), Same H H' → H' p = none → Q (.ref p) (upd H' p (.lst [.int (cupX a ns), .int (cupY b c m d ns)]))
theorem head_at (ns : List Int) : atI (ns.map V.int ++ [V.int 0]) 0 = some (V.int (ns.headD 0)) := by
  cases ns with
  | nil => rfl
  | cons n ns => exact atI_nat (j := 0) rfl
/-- the state behind the cup's making -/
theorem srep_law {H : Hp} {p a : Addr} {x y : Int} {n : Nat} (h : H p = some (.lst [.int x, .int y])) :
    SRep (some p) (fun _ => False) (cupW (some p)) H (some (.ref a) :: some (.ref p) :: List.replicate n none) ⟨.un :: .val .cup :: List.replicate n .un, [.int x, .int y]⟩ where
  len := by simp
  slot := fun i d e => by
    match i, e with
    | 0, e => cases e
    | 1, e =>
      cases e
      exact ⟨.ref p, rfl, p, rfl, rfl⟩
    | i + 2, e =>
      have e : (List.replicate n Slot.un)[i]? = some (.val d) := e
      rw [List.getElem?_replicate] at e
      split at e <;> cases e
  own := fun i es e => by
    match i, e with
    | 0, e => cases e
    | 1, e => cases e
    | i + 2, e =>
      have e : (List.replicate n Slot.un)[i]? = some (.own es) := e
      rw [List.getElem?_replicate] at e
      split at e <;> cases e
  inj := fun i j es fs b e _ _ _ => by
    match i, e with
    | 0, e => cases e
    | 1, e => cases e
    | i + 2, e =>
      have e : (List.replicate n Slot.un)[i]? = some (.own es) := e
      rw [List.getElem?_replicate] at e
      split at e <;> cases e
  cup := fun b e => by
    cases e
    exact ⟨rfl, _, h, ⟨V.int x, [V.int y], rfl, rfl, V.int y, [], rfl, rfl, rfl⟩⟩
  wl := fun b e => by
    cases (show some p = some b from e)
    exact ⟨_, h⟩
  fl := fun _ z => z.elim
theorem pss_any {X : Cx} {st : List Stmt} : PSs X st (fun Dn σ H => ∃ t, PSs X st t ∧ t Dn σ H) := ⟨fun pins s σ H Dn I h => by
  obtain ⟨t, a, b⟩ := h
  exact a.run pins s σ H Dn I b⟩
def spLaw (K : PySem.W.Frag) : Sp := fun vs H Q _ => ∃ (a : Addr) (ns : List Int), vs = [.ref a] ∧ SqL K H a (ns.map V.int) ∧ ns.length ≤ 63 ∧ ∀ H', Q (.bl true) H'
end PL

namespace PL
open PySem PySem.Spec PyProof.Rows L2
/-! the end: from the head's facts to the walk of a law -/
theorem walkX {l : PySem.W.OpenLaw} {n k : Nat} {q : Program} {loose : List Str} {XP : (Str → Option Value) → Heap → Prop} {YP : World → Heap → Prop} {d : DefRec} {K : Params → PySem.W.Frag}
    (hn : l.most = some n) (hn2 : n ≤ 63) (hdf : d.params.defaults = []) (hr : Room k callerA)
    (hY : ∀ (w : World) (h : Heap), YP w h → (K w.params).In h)
    (F : ∀ (w : World) (mg : Str → Option Value) (fa : Addr) (h : Heap), (K w.params).In h → h.Ns mainGlobals mg → mg d.name = some (.ref fa) →
      ∃ fd : FuncData, (∀ (s : Shared) (u : Value), BindsTo s fd ⟨[u], []⟩ [("script", u)]) ∧
        ∀ base : Heap, FnOk l.prog w (K w.params) mg base (L2.CX l.prog w) k fa fd ["script"] (spLaw (K w.params))) :
    PySem.W.WalkO q loose XP YP l.row.toRowW d [] (fun f vs => PySem.call f vs) := by
  refine L2.walk_of (x := "script") (K := K) (CX := fun w => L2.CX l.prog w) (sp := fun w => spLaw (K w.params)) hn (Nat.le_trans hn2 (by decide)) hdf hr hY (fun w mg fa h a b c => ?_) (fun w H a ns hl _ hS => ⟨a, ns, rfl, hS, Nat.le_trans hl hn2, fun _ => rfl⟩) (fun w H s e s' z => ?_)
  · obtain ⟨fd, h1, h2⟩ := F w mg fa h a b c
    exact ⟨fd, h1, fun base _ _ => h2 base⟩
  · obtain ⟨_, _, _, _, _, _, _, _, _, _, _, _, z⟩ := z
    exact z
theorem then_ {A B : Prop} (a : A) (f : A → B) : B := f a
section
variable {K : PySem.W.Frag} {h : Heap} {mg : Str → Option Value}
theorem mkDef (X : K.In h) (G : h.Ns mainGlobals mg) {x : Str} {st : Stmt} {ps : List Str} {f : Addr} {oc : Value} {od an : Option Addr} {osl : Array (Option Value)} {kV doc pm cdv ct : Value}
    (g : PySem.W.nsIn K mainGlobals x = some (some (.ref f)))
    (l : K.lookup f = some ⟨oc, od, .func (PySem.W.fnOf x x (defArgs st) (defBody st) (defScope st) .none kV doc pm an cdv ct), osl⟩)
    (c : PySem.W.codeIn K cdv x = true) (k : PySem.W.keepIn K (.ref f) = true)
    (hb : ∀ (kV doc pm : Value) (an : Option Addr) (cdv ct : Value) (us : List Value), us.length = ps.length → bindArgs (PySem.W.fnOf x x (defArgs st) (defBody st) (defScope st) .none kV doc pm an cdv ct) ⟨us, []⟩ = pure (ps.zip us)) : DefF K mg x st ps :=
  ⟨⟨_, _, fun_mk l c k, PySem.W.mg_of X G g, (fun_mk l c k).binds hb⟩⟩
theorem mkInt (X : K.In h) (G : h.Ns mainGlobals mg) {x : Str} {n m : Int} {t : Tok} (e : PySem.W.nsIn K mainGlobals x = some (some (.int n t))) (q : n = m) : ∃ t, mg x = some (.int m t) := ⟨t, by rw [PySem.W.mg_of X G e, q]⟩
theorem mkStr (X : K.In h) (G : h.Ns mainGlobals mg) {x : Str} {n m : Str} {t : Tok} (e : PySem.W.nsIn K mainGlobals x = some (some (.str n t))) (q : n = m) : ∃ t, mg x = some (.str m t) := ⟨t, by rw [PySem.W.mg_of X G e, q]⟩
end
/-- the law's def: the one that the head has made -/
theorem law_mk {P : Program} {w : World} {K : PySem.W.Frag} {h : Heap} {mg : Str → Option Value} {fa : Addr} {st : Stmt} {k : Nat} (X : K.In h) (G : h.Ns mainGlobals mg) (hm : mg "law" = some (.ref fa))
    {f : Addr} {oc : Value} {od an : Option Addr} {osl : Array (Option Value)} {kV doc pm cdv ct : Value}
    (g : PySem.W.nsIn K mainGlobals "law" = some (some (.ref f)))
    (l : K.lookup f = some ⟨oc, od, .func (PySem.W.fnOf "law" "law" (defArgs st) (defBody st) (defScope st) .none kV doc pm an cdv ct), osl⟩)
    (c : PySem.W.codeIn K cdv "law" = true) (k' : PySem.W.keepIn K (.ref f) = true)
    (hb : ∀ (kV doc pm : Value) (an : Option Addr) (cdv ct : Value) (us : List Value), us.length = 1 → bindArgs (PySem.W.fnOf "law" "law" (defArgs st) (defBody st) (defScope st) .none kV doc pm an cdv ct) ⟨us, []⟩ = pure ((["script"] : List Str).zip us))
    (F : ∀ (f : Addr) (fd : FuncData), Fun K "law" "law" st f fd → ∀ base, FnOk P w K mg base (L2.CX P w) k f fd ["script"] (spLaw K)) :
    ∃ fd : FuncData, (∀ (s : Shared) (u : Value), BindsTo s fd ⟨[u], []⟩ [("script", u)]) ∧ ∀ base : Heap, FnOk P w K mg base (L2.CX P w) k fa fd ["script"] (spLaw K) := by
  have e := hm.symm.trans (PySem.W.mg_of X G g)
  cases e
  exact ⟨_, fun s u => .of_eq (hb _ _ _ _ _ _ [u] rfl), fun base => F _ _ (fun_mk l c k') base⟩
end PL

namespace PL
open PySem PySem.Spec PyProof.Rows L2
open AutoSeq1 (wpAny_loadPart')
/-! enumerate of a tuple -/
theorem meets_enumerate_newT (l : Addr) (items : Array Value) (n : Nat) (dct : Option Addr) (sl : Array (Option Value)) :
    Meets (Builtin.«enumerate.__new__» ⟨[.type "enumerate", .ref l], []⟩) (fun _ R s => s.heap.get? l = some { cls := .type "tuple", dict := dct, data := .seq items n, slots := sl } ∧
      R (.ok (.ret (.ref (s.heap.push { cls := .type "tuple_iterator", data := .fields #[.ref l, .int 0 0] }).objs.size)))
        { s with heap := (s.heap.push { cls := .type "tuple_iterator", data := .fields #[.ref l, .int 0 0] }).push { cls := .type "enumerate", data := .fields #[.none, .bool false, .ref s.heap.objs.size, rawInt 0, .none, .none] } }) :=
  .of_wp fun prog w A R s h => by
    obtain ⟨hp, g, d, tk, os⟩ := s; obtain ⟨hl, h⟩ := h
    have hsub := sub_enumerate
    have hL : Heap.IsTuple (Shared.heap ⟨hp, g, d, tk, os⟩) l items := ⟨_, hl, rfl, n, rfl⟩
    wp_walk using wpAny_loadPart' hl
    refine wpAny_stack_any fun st => wpAny_pure ?_
    split
    · rename_i c _ _ _ _ _
      cases (c == Value.type "enumerate")
      · wp_walk using wpAny_loadPart' hl, wpAny_pyIter_tuple hL
        exact ⟨_, rfl, h⟩
      · wp_walk using wpAny_loadPart' hl, wpAny_pyIter_tuple hL
        exact ⟨_, rfl, h⟩
    · wp_walk using wpAny_loadPart' hl, wpAny_pyIter_tuple hL
      exact ⟨_, rfl, h⟩
theorem call_enumerate_tuple {prog : Program} {w : World} {A : Around} {E : Value → Shared → Prop} {s : Shared} {l : Addr} {items : Array Value} {Q : Value → Shared → Prop} (hL : s.heap.IsTuple l items)
    (h : ∀ h', IsEnum h' (s.heap.objs.size + 1) s.heap.objs.size 0 .none → h'.IsTupleIter s.heap.objs.size l 0 → h'.objs.size = s.heap.objs.size + 2 →
      (∀ b o, s.heap.get? b = some o → h'.get? b = some o) → Q (.ref (s.heap.objs.size + 1)) { s with heap := h' }) :
    wpAny (model prog w) A (call (.type "enumerate") [.ref l]) Q E s := by
  obtain ⟨⟨c, dct, dt, sl⟩, hl, hc, n, hd⟩ := hL
  replace hc : c = .type "tuple" := hc
  replace hd : dt = .seq items n := hd
  subst hc hd
  refine callType_new F.called_enumerate (by decide) (F.typeCall_enumerate_1 _) (F.newCall_enumerate_1 _) (fun obj => F.args_object_init_2 obj _) F.entry_enumerate_new
    (meets_enumerate_newT l items n dct sl) ⟨hl, ?_⟩
  have hz : (s.heap.push { cls := .type "tuple_iterator", data := .fields #[.ref l, .int 0 0] }).objs.size = s.heap.objs.size + 1 := Heap.size_push ..
  show _ ∧ _
  rw [hz]
  have he : IsEnum ((s.heap.push { cls := .type "tuple_iterator", data := .fields #[.ref l, .int 0 0] }).push
      { cls := .type "enumerate", data := .fields #[.none, .bool false, .ref s.heap.objs.size, rawInt 0, .none, .none] }) (s.heap.objs.size + 1) s.heap.objs.size 0 .none := by
    have := Heap.get?_push_size (s.heap.push { cls := .type "tuple_iterator", data := .fields #[.ref l, .int 0 0] })
      (o := { cls := .type "enumerate", data := .fields #[.none, .bool false, .ref s.heap.objs.size, rawInt 0, .none, .none] }) rfl
    rw [hz] at this; exact this
  refine ⟨⟨_, he, rfl⟩, h _ he ⟨_, Heap.get?_push_of_some _ (Heap.get?_push_size _ rfl), rfl, rfl⟩ (by rw [Heap.size_push, hz]) fun b o x => Heap.get?_push_of_some _ (Heap.get?_push_of_some _ x)⟩
theorem pyNext_enumT_end {prog : Program} {w : World} {A : Around} {E : Value → Shared → Prop} {s : Shared} {e it l : Addr} {i : Nat} {items : Array Value} {old : Value} {Q : Option Value → Shared → Prop} (hh : A.handled = none)
    (he : IsEnum s.heap e it i old) (hit : s.heap.IsTupleIter it l i) (hl : s.heap.IsTuple l items) (hx : items[i]? = none)
    (hQ : ∀ h', Heap.ExtBut it s.heap h' → Q none { s with heap := h' }) : wpAny (model prog w) A (pyNext (.ref e)) Q E s := by
  have hT : s.TypeIs (.ref e) "enumerate" := ⟨_, he, rfl⟩
  unfold pyNext
  refine wpAny_bind (wpAny_attempt (wpAny_callSpecial?_slot (name := Str.ofString "__next__") hT F.slot_enumerate_next
    (wpAny_call_entry F.slot_enumerate_next hT F.entry_enumerate_next ?_ (F.args_enumerate_next_1 _))))
  show wpAny _ _ (field (.ref e) 2 >>= _) _ _ _
  refine wpAny_bind (wpAny_field he rfl (x := .ref it) rfl ?_)
  refine wpAny_bind (wpAny_nextOf_tuple_end hh hit hl hx fun h' x he' hx' => ?_)
  obtain ⟨o, ho, hc⟩ := hx'
  refine wpAny_bind (wpAny_isInstance (T := "StopIteration") (b := true) ⟨o, ho, hc⟩ isSubtype_stop ?_)
  exact wpAny_pure (hQ _ he')
/-- the tuple at a, each item in a new pair -/
def IteT (K : PySem.W.Frag) (a : Addr) : It :=
  ⟨fun i H => ∃ (xs : List V) (x : V), SqT K H a xs ∧ xs[i]? = some x, fun i H v H' => ∃ T x, v = .ref T ∧ H T = none ∧ H' = upd H T (.tup [.int (i : Nat), x]) ∧ ∀ xs, SqT K H a xs → xs[i]? = some x, fun i H => ∃ xs : List V, SqT K H a xs ∧ xs.length ≤ i⟩
theorem turn_enumT {P : Program} {w : World} {K : PySem.W.Frag} {elts : List Expr} {kk : Nat} {tpos : Pos} (a e it : Addr) :
    Turn P w K (.Tuple elts kk tpos) (IteT K a) [e, it] e (fun i h => (∃ old, IsEnum h e it ((i : Nat) : Int) old) ∧ h.IsTupleIter it a i ∧ e ≠ it) where
  mem := by simp
  obj := fun i h st b hb => by
    obtain ⟨⟨old, he⟩, ⟨o, ho, hc, hd⟩, _⟩ := st
    have e' : b = e ∨ b = it := by simpa using hb
    rcases e' with z | z
    · rw [z]; exact ⟨_, he, fun v q => nomatch q⟩
    · rw [z]; exact ⟨o, ho, fun v q => by rw [hd] at q; cases q⟩
  keep := fun i h h' st k => let ⟨⟨old, he⟩, hi, hne⟩ := st; ⟨⟨old, k e (by simp) _ he⟩, hi.at fun o q => k it (by simp) o q, hne⟩
  item := by
    intro X hP hw hK hc i pins s σ H E I hf st hg
    subst hP hw hK
    obtain ⟨⟨old, he⟩, hit, hne⟩ := st
    obtain ⟨xs, x, hq, hx⟩ := hg
    obtain ⟨its, rv, p, hz⟩ := I.tuple hq
    obtain ⟨u, hu, ru⟩ := rv.get hx
    have hel : e < s.heap.objs.size := Heap.lt_size he
    have hil : it < s.heap.objs.size := by obtain ⟨_, q, _⟩ := hit; exact Heap.lt_size q
    have hai : a ≠ it := fun z => by
      obtain ⟨o, q, hc, _⟩ := hit
      obtain ⟨o', q', hc', _⟩ := id p
      rw [z, q] at q'
      cases q'
      rw [hc] at hc'
      injection hc' with hc'
      exact absurd hc' (by decide)
    have D := Draws.tuple (prog := X.prog) (w := X.w) (A := X.A.in1) (I.ok.hd hc) it a hai its.toArray
    have hlt : i < its.toArray.size := by
      have := (List.getElem?_eq_some_iff.mp hu).1
      simpa using this
    have hea : e ≠ a := fun z => by
      obtain ⟨o', q', hc', _⟩ := id p
      rw [← z, show s.heap.get? e = _ from he] at q'
      cases q'
      injection hc' with hc'
      exact absurd hc' (by decide)
    refine wpAny_pyNext_enum_itemD D he ⟨hit, p⟩ hlt hne (by simp [hne, hea]) fun u' h' tk hP ho st' hT hsz hk => ?_
    have hu' : u' = u := by
      have hu2 : its.toArray[i]? = some u := by simpa using hu
      rw [hu2] at hP
      exact (Option.some.inj hP).symm
    subst hu'
    obtain ⟨hit', _⟩ := st'
    refine ⟨_, rfl, wpAny_letOwnedTupleGo_enum (s := { s with heap := h', toks := tk + 1 }) ho fun h'' he' sb => ?_⟩
    have hT2 : h''.get? s.heap.objs.size = some { cls := .type "tuple", data := .seq #[.int i tk, u'] } := (sb.2 _ (Nat.ne_of_gt hel)).trans hT
    have new : ObjOk X.prog X.w (upd H s.heap.objs.size (.tup [.int (i : Nat), x])) h'' s.heap.objs.size (.tup [.int (i : Nat), x]) :=
      ⟨by show 2 ≤ sizeLine; decide, [.int i tk, u'], .cons ⟨_, rfl⟩ (.cons ru .nil), ⟨_, hT2, rfl, _, rfl⟩⟩
    have I1 : Inv X pins σ (upd H s.heap.objs.size (.tup [.int (i : Nat), x])) { s with heap := h'', toks := tk + 1 } :=
      I.turnedNew (ch := [e, it]) (fun b ob hb q => (sb.2 b (fun z => hb (by simp [z]))).trans (hk b ob (fun z => hb (by simp [z])) (fun z => hb (by simp [z])) q)) hf (Nat.le_refl _) new
    refine ⟨.ref s.heap.objs.size, _, I1, rfl, ⟨_, x, rfl, I.hok.fresh (Nat.le_refl _), rfl, fun ys hy => by rw [I.tuple_inj hy hq]; exact hx⟩, ⟨⟨u', ?_⟩, hit'.at fun o q => (sb.2 it (Ne.symm hne)).trans q, hne⟩, fun b hb => ?_⟩
    · have e1 : ((i + 1 : Nat) : Int) = (i : Int) + 1 := by omega
      rw [e1]; exact he'
    · have hb' : b < s.heap.objs.size := by
        have e' : b = e ∨ b = it := by simpa using hb
        rcases e' with z | z
        · rw [z]; exact hel
        · rw [z]; exact hil
      rw [upd_ne (Nat.ne_of_lt hb')]
      exact (hf b hb).1
  done := by
    intro X hP hw hK hc i pins s σ H E I hf st hg
    subst hP hw hK
    obtain ⟨⟨old, he⟩, hit, hne⟩ := st
    obtain ⟨xs, hq, hx⟩ := hg
    obtain ⟨its, rv, p, hz⟩ := I.tuple hq
    obtain ⟨f0, f1, f2, f3, f4, f5⟩ := hf it (by simp)
    have hl := rv.length
    exact pyNext_enumT_end (I.ok.hd hc) he hit p (by simp; omega) fun h' eb => ⟨rfl, I.turned (t' := s.toks) (fun b o hb q => eb b o hb q) f0 f1 f3 f4 f5⟩
  self := fun A i s Q E st h => let ⟨⟨_, he⟩, _⟩ := st; wpAny_pyIter_enum he h
def iEnumA (K : PySem.W.Frag) (ta : TA) : TI := fun σ H R => ta σ H fun vs H1 => (∃ a xs, vs = [.ref a] ∧ SqL K H1 a xs ∧ R (Ite K a) H1) ∨ ∃ a xs, vs = [.ref a] ∧ SqT K H1 a xs ∧ R (IteT K a) H1
theorem pi_enumA {X : Cx} {e : Expr} {ta : TA} {p pos tpos : Pos} {elts : List Expr} {kk : Nat} (hg : Gl X "enumerate") (hm : X.mg "enumerate" = none) (ha : PA X [e] ta) (hs : starEach [e] X.env = [(false, eval e X.env)] := by rfl) :
    PI X (.Tuple elts kk tpos) (.Call (.Name "enumerate" p) [e] [] pos) (iEnumA X.K ta) := by
  refine ⟨fun pins s σ H R I h => ?_⟩
  refine Call_ (ld_blt I hg hm boot_enumerate (PyProof.Rows.callWith_type1 (thn (ha.run pos pins s σ H _ I h) fun us s1 ⟨vs, H1, I1, r1, q1⟩ => ?_) hs rfl))
  have fpo : ∀ b, b ∈ [s1.heap.objs.size + 1, s1.heap.objs.size] → FpOk X pins H1 b := fun b hb => by
    have e' : b = s1.heap.objs.size + 1 ∨ b = s1.heap.objs.size := by simpa using hb
    have hle : s1.heap.objs.size ≤ b := by
      rcases e' with z | z
      · rw [z]; exact Nat.le_add_right _ _
      · rw [z]; exact Nat.le_refl _
    exact I1.fpOk hle (I1.hok.fresh hle)
  rcases q1 with ⟨a, xs, ex, hq, q⟩ | ⟨a, xs, ex, hq, q⟩
  · subst ex
    cases r1 with
    | cons r rr =>
      cases rr
      cases r
      obtain ⟨its, rv, p', hz⟩ := I1.list hq
      refine call_enumerate_list p'.isList fun h' he hit hsz hk => wpAny_pyIter_enum he ?_
      have I2 : Inv X pins σ H1 { s1 with heap := h' } := I1.kept (t' := s1.toks) hk
      exact ⟨s1.heap.objs.size + 1, [s1.heap.objs.size + 1, s1.heap.objs.size], _, _, H1, rfl, I2, turn_enum a (s1.heap.objs.size + 1) s1.heap.objs.size, ⟨⟨.none, he⟩, hit, Nat.succ_ne_self _⟩, fpo, q⟩
  · subst ex
    cases r1 with
    | cons r rr =>
      cases rr
      cases r
      obtain ⟨its, rv, p', hz⟩ := I1.tuple hq
      refine call_enumerate_tuple (show s1.heap.IsTuple a its.toArray from p') fun h' he hit hsz hk => wpAny_pyIter_enum he ?_
      have I2 : Inv X pins σ H1 { s1 with heap := h' } := I1.kept (t' := s1.toks) hk
      exact ⟨s1.heap.objs.size + 1, [s1.heap.objs.size + 1, s1.heap.objs.size], _, _, H1, rfl, I2, turn_enumT a (s1.heap.objs.size + 1) s1.heap.objs.size, ⟨⟨.none, he⟩, hit, Nat.succ_ne_self _⟩, fpo, q⟩
/-- enumerate of a list, of a tuple -/
def numbered (xs : List D) : List (D × D) := ((List.range xs.length).map fun i => D.int (i : Nat)).zip xs
def enumD : List D → Option (List D)
  | [.lst xs] => some ((numbered xs).map fun d => .tup [d.1, d.2])
  | [.tup xs] => some ((numbered xs).map fun d => .tup [d.1, d.2])
  | _ => none
theorem numbered_get {xs : List D} {i : Nat} {d : D × D} (h : (numbered xs)[i]? = some d) : d.1 = .int (i : Nat) ∧ xs[i]? = some d.2 ∧ i < xs.length := by
  obtain ⟨k1, k2⟩ := zip_get h
  rw [List.getElem?_map] at k1
  have hi := (List.getElem?_eq_some_iff.mp k2).1
  rw [List.getElem?_range hi] at k1
  cases d
  cases k1
  exact ⟨rfl, k2, hi⟩
section
variable {𝓕 : Fam} {ca : Option Addr} {pos : Pos}
theorem iv_enum {e : Expr} {f : M (List D)} {p tpos : Pos} {elts : List Expr} {kk : Nat} (ha : Av 𝓕 ca [e] f) (hm : 𝓕.mg "enumerate" = none) (hg : ∀ j, Gl (𝓕.X j) "enumerate" := by intro _; rfl)
    (hs : ∀ j, starEach [e] (𝓕.X j).env = [(false, eval e (𝓕.X j).env)] := by intro _; rfl) : Iv 𝓕 ca (.Tuple elts kk tpos) (.Call (.Name "enumerate" p) [e] [] pos) (srcA enumD f) := by
  obtain ⟨t, a1, a2, _⟩ := ha
  refine ⟨iEnumA 𝓕.K t, fun j => ?_, fun F W H σ s R SR q => ?_⟩
  · have h := pi_enumA (elts := elts) (kk := kk) (tpos := tpos) (p := p) (pos := pos) (hg j) (by rw [𝓕.hmg j]; exact hm) (a1 j) (hs j)
    rw [𝓕.hK j] at h
    exact h
  unfold srcA bindM at q
  refine a2 F W H σ s _ SR (wpr_mono (wpr_bind.mp q) (fun r h vs H1 x1 R1 p => ?_) fun _ _ z => z)
  obtain ⟨es, e1, h2⟩ := wpr_lift h
  obtain ⟨ds, c⟩ := r
  dsimp only at e1 p h2
  unfold enumD at e1
  split at e1
  · rename_i xs
    cases e1
    obtain ⟨v, r, e2, e3, e6⟩ := p
    subst e2
    have e6 : r = [] := e6
    subst e6
    obtain ⟨a, us, q1, q2, q3, q4⟩ := e3
    subst q1
    refine .inl ⟨a, us, rfl, SqL.of q3, h2 _ H1 x1 R1 ?_⟩
    refine itOf_pair (ds := numbered xs) (walk_enum (xs := us)) (by unfold numbered; rw [List.length_zip, List.length_map, List.length_range, q4.length]; omega) (fun H2 x => SqL.of (x _ _ q3 fun z => q2 (.inr z))) fun Mu H2 x g i d hd y z hy hz => ?_
    obtain ⟨k0, k2, _⟩ := numbered_get hd
    obtain ⟨v2, m3, m4⟩ := (Reps.ext x R1.wl (fun _ z => .inr z) g xs us q4).get k2
    rw [m3] at hz
    cases hy; cases hz
    exact ⟨by rw [k0]; rfl, m4⟩
  · rename_i xs
    cases e1
    obtain ⟨v, r, e2, e3, e6⟩ := p
    subst e2
    have e6 : r = [] := e6
    subst e6
    obtain ⟨a, us, q1, q3, q4⟩ := e3
    subst q1
    refine .inr ⟨a, us, rfl, SqT.of q3, h2 _ H1 x1 R1 ?_⟩
    have wk : Walk (IteT 𝓕.K a) us.length (fun H => SqT 𝓕.K H a us) (YPair (fun i => some (.int (i : Nat))) (fun i => us[i]?)) := by
      refine ⟨fun i _ hi q => ⟨us, us[i], q, List.getElem?_eq_getElem hi⟩, fun _ q => ⟨us, q, Nat.le_refl _⟩, fun i H v H' _ q y => ?_⟩
      obtain ⟨T, x, n1, n2, n3, n4⟩ := y
      exact ⟨T, .int (i : Nat), x, n1, n2, n3, rfl, n4 us q⟩
    refine itOf_pair (ds := numbered xs) wk (by unfold numbered; rw [List.length_zip, List.length_map, List.length_range, q4.length]; omega) (fun H2 x => SqT.of (x.rdT R1.wl q3)) fun Mu H2 x g i d hd y z hy hz => ?_
    obtain ⟨k0, k2, _⟩ := numbered_get hd
    obtain ⟨v2, m3, m4⟩ := (Reps.ext x R1.wl (fun _ z => .inr z) g xs us q4).get k2
    rw [m3] at hz
    cases hy; cases hz
    exact ⟨by rw [k0]; rfl, m4⟩
  · cases e1
end
end PL

namespace PL
open PySem PySem.Spec PyProof.Rows L2
/-! sorted, min, max of data -/
theorem toPys_map : ∀ ds : List D, toPys ds = ds.map toPy
  | [] => by rw [toPys]; rfl
  | d :: ds => by rw [toPys, toPys_map ds]; rfl
def rSortedZ (K : PySem.W.Frag) : List V → Hp → VK → Prop := fun vs H Q => ∃ (a : Addr) (zs : List (V × D)), vs = [.ref a] ∧ SqL K H a (zs.map Prod.fst) ∧ (∀ z ∈ zs, Dp K H z.1 (toPy z.2)) ∧ PySem.W.AllAlike (zs.map fun z => toPy z.2) ∧ PySem.W.Sortable (zs.map fun z => toPy z.2) ∧ (∀ z ∈ zs, (toPy z.2).depth ≤ 60) ∧
  ∀ p, H p = none → Q (.ref p) (upd H p (.lst ((zs.mergeSort (PySem.W.dataLe false fun z => toPy z.2)).map Prod.fst)))
theorem each_vals {zs : List (V × D)} : ∀ {us : List Value}, Vals (zs.map Prod.fst) us → PySem.W.EachIs (fun u (z : V × D) => RelV z.1 u) us zs := by
  induction zs with
  | nil => intro us h; cases h; exact .nil
  | cons z zs ih =>
    intro us h
    cases h with
    | cons a b => exact .cons a (ih b)
theorem vals_each {zs : List (V × D)} : ∀ {us : List Value}, PySem.W.EachIs (fun u (z : V × D) => RelV z.1 u) us zs → Vals (zs.map Prod.fst) us := by
  induction zs with
  | nil => intro us h; cases h; exact .nil
  | cons z zs ih =>
    intro us h
    cases h with
    | cons a b => exact .cons a (ih b)
theorem each_and {zs : List (V × D)} {us : List Value} (h : PySem.W.EachIs (fun u (z : V × D) => RelV z.1 u) us zs) {R : Value → V × D → Prop} (k : ∀ z ∈ zs, ∀ u, RelV z.1 u → R u z) : PySem.W.EachIs R us zs := by
  induction h with
  | nil => exact .nil
  | cons a b ih => exact .cons (k _ List.mem_cons_self _ a) (ih fun z hz => k z (List.mem_cons_of_mem _ hz))
section
variable {X : Cx}
theorem cr_sortedZ (hu : X.A.units + 64 < cLine) : CallR X (.builtin "sorted") (rSortedZ X.K) := by
  intro pins s σ H vs us Q I r h
  obtain ⟨a, zs, rfl, hs, hd, hal, hk, hdep, q⟩ := h
  obtain ⟨its, rv, hl, hz⟩ := I.list hs
  rw [Vals.ref1 r]
  have e := each_vals rv
  have er := each_and e (R := fun u z => ∃ as, Reads s.heap u (toPy z.2) as) fun z hz u hu => Dp.reads I _ _ _ (hd z hz) hu
  refine PySem.W.sorted_data (R := fun u (z : V × D) => RelV z.1 u) (enc := fun z => toPy z.2) hl.isList e er hal hk (by rw [List.length_map] at hz; exact hz) (fun b hb => ?_) fun out h1 h2 => ?_
  · have := hdep b hb
    show X.A.units + 2 + (toPy b.2).depth < cLine
    omega
  · obtain ⟨ep, he'⟩ := PyProof.Rows.sortedAll_at s.heap its out.toArray
    have hlen : ((zs.mergeSort (PySem.W.dataLe false fun z => toPy z.2)).map Prod.fst).length ≤ sizeLine := by
      rw [List.length_map, List.length_mergeSort]
      rw [List.length_map] at hz
      exact hz
    exact ⟨.ref _, upd H (s.heap.objs.size + 1) (.lst ((zs.mergeSort (PySem.W.dataLe false fun z => toPy z.2)).map Prod.fst)), I.laid (t' := s.toks) (fun _ _ => PyProof.Rows.sortedAll_old) (Nat.le_succ _) ⟨hlen, out, ep, vals_each h2, he'⟩, rfl, q _ (I.hok.fresh (Nat.le_succ _))⟩
def rBestZ (K : PySem.W.Frag) (best : PyData → List PyData → PyData) : List V → Hp → VK → Prop := fun vs H Q => ∃ (a : Addr) (z : V × D) (zs : List (V × D)), vs = [.ref a] ∧ SqL K H a ((z :: zs).map Prod.fst) ∧ (∀ y ∈ z :: zs, Dp K H y.1 (toPy y.2)) ∧ PySem.W.AlikeAll ((z :: zs).map fun z => toPy z.2) ∧ PyData.depthAll ((z :: zs).map fun z => toPy z.2) ≤ 60 ∧
  ∀ y ∈ z :: zs, toPy y.2 = best (toPy z.2) (zs.map fun z => toPy z.2) → Q y.1 H
theorem best_end {pins : List (Addr × Obj)} {σ : St} {H : Hp} {s : Shared} {Q : VK} {zs : List (V × D)} {its : List Value} {b : PyData} (I : Inv X pins σ H s) (rv : Vals (zs.map Prod.fst) its) (hd : ∀ y ∈ zs, Dp X.K H y.1 (toPy y.2)) (q : ∀ y ∈ zs, toPy y.2 = b → Q y.1 H)
    {i : Nat} {v : Value} {h' : Heap} {tk : Nat} {bs : List Addr} (hv : its.toArray[i]? = some v) (hr : Reads h' v b bs) (hk : ∀ b o, s.heap.get? b = some o → h'.get? b = some o) : ∃ x H', Inv X pins σ H' { s with heap := h', toks := tk } ∧ RelV x v ∧ Q x H' := by
  have hv : its[i]? = some v := by simpa using hv
  have hi : i < (zs.map Prod.fst).length := by rw [rv.length]; exact (List.getElem?_eq_some_iff.mp hv).1
  obtain ⟨u, hu, ru⟩ := rv.get (List.getElem?_eq_getElem hi)
  rw [hv] at hu
  cases hu
  rw [List.getElem_map] at ru
  rw [List.length_map] at hi
  have hm : zs[i] ∈ zs := List.getElem_mem _
  obtain ⟨as, r2⟩ := Dp.reads I _ _ _ (hd _ hm) ru
  exact ⟨_, H, I.kept hk, ru, q _ hm (hr.unique _ _ (PyProof.Rows.Reads.keeps hk r2)).1.symm⟩
theorem cr_minZ (hc : X.calm = true) (hu : X.A.units + 64 < cLine) : CallR X (.builtin "min") (rBestZ X.K PySem.W.minD) := by
  intro pins s σ H vs us Q I r h
  obtain ⟨a, z, zs, rfl, hs, hd, hal, hdep, q⟩ := h
  obtain ⟨its, rv, hl, hz⟩ := I.list hs
  rw [Vals.ref1 r]
  have er := each_and (each_vals rv) (R := fun u z => ∃ as, Reads s.heap u (toPy z.2) as) fun z hz u hu => Dp.reads I _ _ _ (hd z hz) hu
  obtain ⟨as, ra⟩ := PySem.W.each_readsAll (fun z : V × D => toPy z.2) er
  exact PySem.W.min_list_data (I.ok.hd hc) hl.isList ra hal (by show X.A.units + 1 + PyData.depthAll ((z :: zs).map fun z => toPy z.2) < cLine; omega) fun i v h' tk bs hv hr hk => best_end I rv hd q hv hr hk
theorem cr_maxZ (hc : X.calm = true) (hu : X.A.units + 64 < cLine) : CallR X (.builtin "max") (rBestZ X.K PySem.W.maxD) := by
  intro pins s σ H vs us Q I r h
  obtain ⟨a, z, zs, rfl, hs, hd, hal, hdep, q⟩ := h
  obtain ⟨its, rv, hl, hz⟩ := I.list hs
  rw [Vals.ref1 r]
  have er := each_and (each_vals rv) (R := fun u z => ∃ as, Reads s.heap u (toPy z.2) as) fun z hz u hu => Dp.reads I _ _ _ (hd z hz) hu
  obtain ⟨as, ra⟩ := PySem.W.each_readsAll (fun z : V × D => toPy z.2) er
  exact PySem.W.max_list_data (I.ok.hd hc) hl.isList ra hal (by show X.A.units + 1 + PyData.depthAll ((z :: zs).map fun z => toPy z.2) < cLine; omega) fun i v h' tk bs hv hr hk => best_end I rv hd q hv hr hk
end
/-! the same of plain data -/
mutual
theorem toPy_inj : ∀ (n m : Nat) (d e : D), dOk n d = true → dOk m e = true → toPy d = toPy e → d = e
  | _, _, .non, e, _, he, h => by cases e <;> simp [toPy] at h <;> first | rfl | (rw [dOk] at he; cases he)
  | _, _, .bl _, e, _, he, h => by cases e <;> simp [toPy] at h <;> first | (rw [h]) | (rw [dOk] at he; cases he)
  | _, _, .int _, e, _, he, h => by cases e <;> simp [toPy] at h <;> first | (rw [h]) | (rw [dOk] at he; cases he)
  | _, _, .str _, e, _, he, h => by cases e <;> simp [toPy] at h <;> first | (rw [h]) | (rw [dOk] at he; cases he)
  | 0, _, .tup _, _, hd, _, _ => by rw [dOk] at hd; cases hd
  | 0, _, .lst _, _, hd, _, _ => by rw [dOk] at hd; cases hd
  | n + 1, m, .tup ds, .tup es, hd, he, h => by
    cases m with
    | zero => rw [dOk] at he; cases he
    | succ m =>
      rw [dOk] at hd he
      rw [toPys_inj n m ds es hd he (by simpa [toPy] using h)]
  | n + 1, m, .lst ds, .lst es, hd, he, h => by
    cases m with
    | zero => rw [dOk] at he; cases he
    | succ m =>
      rw [dOk] at hd he
      rw [toPys_inj n m ds es hd he (by simpa [toPy] using h)]
  | n + 1, _, .tup _, .non, _, _, h => by simp [toPy] at h
  | n + 1, _, .tup _, .bl _, _, _, h => by simp [toPy] at h
  | n + 1, _, .tup _, .int _, _, _, h => by simp [toPy] at h
  | n + 1, _, .tup _, .str _, _, _, h => by simp [toPy] at h
  | n + 1, _, .tup _, .lst _, _, _, h => by simp [toPy] at h
  | n + 1, _, .tup _, .cup, _, he, h => by rw [dOk] at he; cases he
  | n + 1, _, .tup _, .ref _, _, he, h => by rw [dOk] at he; cases he
  | n + 1, _, .lst _, .non, _, _, h => by simp [toPy] at h
  | n + 1, _, .lst _, .bl _, _, _, h => by simp [toPy] at h
  | n + 1, _, .lst _, .int _, _, _, h => by simp [toPy] at h
  | n + 1, _, .lst _, .str _, _, _, h => by simp [toPy] at h
  | n + 1, _, .lst _, .tup _, _, _, h => by simp [toPy] at h
  | n + 1, _, .lst _, .cup, _, he, h => by rw [dOk] at he; cases he
  | n + 1, _, .lst _, .ref _, _, he, h => by rw [dOk] at he; cases he
  | _, _, .cup, _, hd, _, _ => by rw [dOk] at hd; cases hd
  | _, _, .ref _, _, hd, _, _ => by rw [dOk] at hd; cases hd
theorem toPys_inj : ∀ (n m : Nat) (ds es : List D), dOks n ds = true → dOks m es = true → toPys ds = toPys es → ds = es
  | _, _, [], [], _, _, _ => rfl
  | _, _, [], _ :: _, _, _, h => by rw [toPys, toPys] at h; cases h
  | _, _, _ :: _, [], _, _, h => by rw [toPys, toPys] at h; cases h
  | n, m, d :: ds, e :: es, hd, he, h => by
    rw [dOks, Bool.and_eq_true] at hd he
    rw [toPys, toPys] at h
    injection h with h1 h2
    rw [toPy_inj n m d e hd.1 he.1 h1, toPys_inj n m ds es hd.2 he.2 h2]
end
def dLt (a b : D) : Bool := PySem.W.dataLt (toPy a) (toPy b)
def dLe (a b : D) : Bool := PySem.W.dataLe false toPy a b
def isTup1 : D → Bool
  | .tup (_ :: _) => true
  | _ => false
def isFlat : D → Bool
  | .bl _ => true
  | .int _ => true
  | .str _ => true
  | .lst _ => true
  | _ => false
theorem isTup1_ok : ∀ {d : D}, isTup1 d = true → ∃ x r, toPy d = .tuple (x :: r)
  | .tup (x :: r), _ => ⟨toPy x, toPys r, by rw [toPy, toPys]⟩
  | .tup [], h => by cases h
  | .non, h => by cases h
  | .bl _, h => by cases h
  | .int _, h => by cases h
  | .str _, h => by cases h
  | .lst _, h => by cases h
  | .cup, h => by cases h
  | .ref _, h => by cases h
theorem isFlat_ok : ∀ {d : D}, isFlat d = true → toPy d ≠ .none ∧ ∀ xs, toPy d ≠ .tuple xs
  | .tup _, h => by cases h
  | .non, h => by cases h
  | .bl _, h => ⟨by simp [toPy], by simp [toPy]⟩
  | .int _, h => ⟨by simp [toPy], by simp [toPy]⟩
  | .str _, h => ⟨by simp [toPy], by simp [toPy]⟩
  | .lst _, h => ⟨by simp [toPy], by simp [toPy]⟩
  | .cup, h => by cases h
  | .ref _, h => by cases h
theorem notNon_ok : ∀ {n : Nat} {d : D}, (!isNon d) = true → dOk n d = true → toPy d ≠ .none
  | _, .tup _, _, _ => by simp [toPy]
  | _, .non, h, _ => by cases h
  | _, .bl _, _, _ => by simp [toPy]
  | _, .int _, _, _ => by simp [toPy]
  | _, .str _, _, _ => by simp [toPy]
  | _, .lst _, _, _ => by simp [toPy]
  | _, .cup, _, h => by rw [dOk] at h; cases h
  | _, .ref _, _, h => by rw [dOk] at h; cases h
def alikeOk (ds : List D) : Bool := dOks 59 ds && ds.all fun a => ds.all fun b => PySem.W.alike (toPy a) (toPy b)
def sortOk (ds : List D) : Bool := alikeOk ds && (ds.all isTup1 || ds.all isFlat)
def bestOk (ds : List D) : Bool := alikeOk ds && ds.all fun d => !isNon d
def sortD (ds : List D) : List D := ds.mergeSort dLe
def mnD (d : D) (ds : List D) : D := ds.foldl (fun a y => if dLt y a = true then y else a) d
def mxD (d : D) (ds : List D) : D := ds.foldl (fun a y => if dLt a y = true then y else a) d
theorem mnD_mem : ∀ (ds : List D) (d : D), mnD d ds ∈ d :: ds
  | [], d => List.mem_cons_self
  | e :: ds, d => by
    have h := mnD_mem ds (if dLt e d = true then e else d)
    show mnD _ ds ∈ _
    rcases List.mem_cons.mp h with h | h
    · rw [h]; split
      · exact List.mem_cons_of_mem _ List.mem_cons_self
      · exact List.mem_cons_self
    · exact List.mem_cons_of_mem _ (List.mem_cons_of_mem _ h)
theorem mxD_mem : ∀ (ds : List D) (d : D), mxD d ds ∈ d :: ds
  | [], d => List.mem_cons_self
  | e :: ds, d => by
    have h := mxD_mem ds (if dLt d e = true then e else d)
    show mxD _ ds ∈ _
    rcases List.mem_cons.mp h with h | h
    · rw [h]; split
      · exact List.mem_cons_of_mem _ List.mem_cons_self
      · exact List.mem_cons_self
    · exact List.mem_cons_of_mem _ (List.mem_cons_of_mem _ h)
theorem mnD_py : ∀ (ds : List D) (d : D), PySem.W.minD (toPy d) (ds.map toPy) = toPy (mnD d ds)
  | [], _ => rfl
  | e :: ds, d => by
    show PySem.W.minD (if PySem.W.dataLt (toPy e) (toPy d) = true then toPy e else toPy d) (ds.map toPy) = toPy (mnD (if dLt e d = true then e else d) ds)
    rw [← mnD_py ds, ← apply_ite toPy]
    rfl
theorem mxD_py : ∀ (ds : List D) (d : D), PySem.W.maxD (toPy d) (ds.map toPy) = toPy (mxD d ds)
  | [], _ => rfl
  | e :: ds, d => by
    show PySem.W.maxD (if PySem.W.dataLt (toPy d) (toPy e) = true then toPy e else toPy d) (ds.map toPy) = toPy (mxD (if dLt d e = true then e else d) ds)
    rw [← mxD_py ds, ← apply_ite toPy]
    rfl
theorem alikeOk_ok {ds : List D} (h : alikeOk ds = true) : dOks 59 ds = true ∧ (∀ a ∈ ds, dOk 59 a = true) ∧ ∀ a ∈ ds, ∀ b ∈ ds, PySem.W.alike (toPy a) (toPy b) = true := by
  unfold alikeOk at h
  rw [Bool.and_eq_true] at h
  refine ⟨h.1, ?_, fun a ha b hb => List.all_eq_true.mp (List.all_eq_true.mp h.2 a ha) b hb⟩
  have h1 := h.1
  clear h
  induction ds with
  | nil => intro a ha; cases ha
  | cons d ds ih =>
    rw [dOks, Bool.and_eq_true] at h1
    intro a ha
    rcases List.mem_cons.mp ha with rfl | ha
    · exact h1.1
    · exact ih h1.2 a ha
/-- the items with their values -/
theorem reps_zip {ca : Option Addr} {K : PySem.W.Frag} {Mu : Addr → Prop} {H : Hp} : ∀ {ds : List D} {vs : List V}, Reps ca Mu H ds vs → ∃ zs : List (V × D), zs.map Prod.fst = vs ∧ zs.map Prod.snd = ds ∧ ∀ z ∈ zs, Rep ca Mu H z.2 z.1
  | [], _, h => ⟨[], by rw [show _ = [] from h]; rfl, rfl, fun z hz => by cases hz⟩
  | d :: ds, _, h => by
    obtain ⟨v, r, e, h1, h2⟩ := h
    obtain ⟨zs, e1, e2, h3⟩ := reps_zip (K := K) h2
    refine ⟨(v, d) :: zs, by rw [e, List.map_cons, e1], by rw [List.map_cons, e2], fun z hz => ?_⟩
    rcases List.mem_cons.mp hz with rfl | hz
    · exact h1
    · exact h3 z hz
theorem zip_reps {ca : Option Addr} {Mu : Addr → Prop} {H : Hp} : ∀ {zs : List (V × D)}, (∀ z ∈ zs, Rep ca Mu H z.2 z.1) → Reps ca Mu H (zs.map Prod.snd) (zs.map Prod.fst)
  | [], _ => rfl
  | z :: zs, h => ⟨z.1, _, rfl, h z List.mem_cons_self, zip_reps fun y hy => h y (List.mem_cons_of_mem _ hy)⟩
theorem depth_all : ∀ {ds : List PyData} {n : Nat}, (∀ d ∈ ds, d.depth ≤ n) → PyData.depthAll ds ≤ n
  | [], _, _ => by simp [PyData.depthAll]
  | d :: ds, n, h => by
    have h1 := h d List.mem_cons_self
    have h2 := depth_all fun e he => h e (List.mem_cons_of_mem _ he)
    rw [PyData.depthAll]
    exact Nat.max_le.mpr ⟨h1, h2⟩
section
variable {𝓕 : Fam} {ca : Option Addr} {pos : Pos}
def sortedA : List D → Option D
  | [.lst ds] => if sortOk ds = true then some (.lst (sortD ds)) else none
  | _ => none
theorem call_sortedA : CallV 𝓕 ca (.builtin "sorted") sortedA := by
  refine ⟨rSortedZ 𝓕.K, fun j => ?_, fun Mu H ds vs d Q dm r e k => ?_⟩
  · have h := cr_sortedZ (X := 𝓕.X j) (𝓕.room j).units
    rw [𝓕.hK j] at h
    exact h
  · unfold sortedA at e
    split at e
    · rename_i es
      split at e
      · rename_i ho
        cases e
        unfold sortOk at ho
        rw [Bool.and_eq_true] at ho
        obtain ⟨o1, o2, o3⟩ := alikeOk_ok ho.1
        obtain ⟨v, e1, a, us, e2, _, q2, r2⟩ := reps1 r
        subst e1; subst e2
        obtain ⟨zs, z1, z2, z3⟩ := reps_zip (K := 𝓕.K) r2
        have zm : ∀ z ∈ zs, z.2 ∈ es := fun z hz => by rw [← z2]; exact List.mem_map_of_mem hz
        refine ⟨a, zs, rfl, by rw [z1]; exact SqL.of q2, fun z hz => rep_dp 59 _ _ (o2 _ (zm z hz)) (z3 z hz), fun x hx y hy => ?_, ?_, fun z hz => Nat.le_trans (dOk_py 59 _ (o2 _ (zm z hz))).2 (by decide), fun p hp => ?_⟩
        · obtain ⟨x, hxm, rfl⟩ := List.mem_map.mp hx
          obtain ⟨y, hym, rfl⟩ := List.mem_map.mp hy
          exact o3 _ (zm x hxm) _ (zm y hym)
        · rcases Bool.or_eq_true _ _ ▸ ho.2 with h | h
          · refine .inl fun x hx => ?_
            obtain ⟨x, hxm, rfl⟩ := List.mem_map.mp hx
            exact isTup1_ok (List.all_eq_true.mp h _ (zm x hxm))
          · refine .inr fun x hx => ?_
            obtain ⟨x, hxm, rfl⟩ := List.mem_map.mp hx
            exact isFlat_ok (List.all_eq_true.mp h _ (zm x hxm))
        · have hm : (zs.mergeSort (PySem.W.dataLe false fun z => toPy z.2)).map Prod.snd = sortD es := by
            have := List.map_mergeSort (r := PySem.W.dataLe false fun z : V × D => toPy z.2) (s := dLe) (f := Prod.snd) (l := zs) fun a _ b _ => rfl
            rw [this, z2]
            rfl
          refine k _ _ (same_upd hp) (rep_newL ?_ hp dm)
          rw [← hm]
          exact zip_reps fun z hz => z3 z (List.mem_mergeSort.mp hz)
      · cases e
    · cases e
def minA : List D → Option D
  | [.int i, .int j] => some (.int (if j < i then j else i))
  | [.lst (d :: ds)] => if bestOk (d :: ds) = true then some (mnD d ds) else none
  | _ => none
def maxA : List D → Option D
  | [.int i, .int j] => some (.int (if j > i then j else i))
  | [.lst (d :: ds)] => if bestOk (d :: ds) = true then some (mxD d ds) else none
  | _ => none
theorem best_use {K : PySem.W.Frag} {Mu : Addr → Prop} {H : Hp} {es : D} {d0 : D} {ds0 : List D} {vs : List V} {best : PyData → List PyData → PyData} {b : D} (hb : best (toPy d0) (ds0.map toPy) = toPy b) (hm : b ∈ d0 :: ds0) {Q : VK} (r : Reps ca Mu H [.lst (d0 :: ds0)] vs) (ho : bestOk (d0 :: ds0) = true) (k : ∀ v H', Same H H' → Rep ca Mu H' b v → Q v H') : rBestZ K best vs H Q := by
  unfold bestOk at ho
  rw [Bool.and_eq_true] at ho
  obtain ⟨o1, o2, o3⟩ := alikeOk_ok ho.1
  obtain ⟨v, e1, a, us, e2, _, q2, r2⟩ := reps1 r
  subst e1; subst e2
  obtain ⟨zs, z1, z2, z3⟩ := reps_zip (K := K) r2
  have zm : ∀ z ∈ zs, z.2 ∈ d0 :: ds0 := fun z hz => by rw [← z2]; exact List.mem_map_of_mem hz
  cases zs with
  | nil => cases z2
  | cons z zs =>
    have zq : z.2 = d0 ∧ zs.map Prod.snd = ds0 := by
      rw [List.map_cons] at z2
      injection z2 with y1 y2
      exact ⟨y1, y2⟩
    refine ⟨a, z, zs, rfl, by rw [z1]; exact SqL.of q2, fun y hy => rep_dp 59 _ _ (o2 _ (zm y hy)) (z3 y hy), ⟨fun x hx y hy => ?_, fun x hx => ?_⟩, depth_all fun x hx => ?_, fun y hy he => ?_⟩
    · obtain ⟨x, hxm, rfl⟩ := List.mem_map.mp hx
      obtain ⟨y, hym, rfl⟩ := List.mem_map.mp hy
      exact o3 _ (zm x hxm) _ (zm y hym)
    · obtain ⟨x, hxm, rfl⟩ := List.mem_map.mp hx
      have h1 := List.all_eq_true.mp ho.2 _ (zm x hxm)
      have h2 := o2 _ (zm x hxm)
      exact notNon_ok h1 h2
    · obtain ⟨x, hxm, rfl⟩ := List.mem_map.mp hx
      exact Nat.le_trans (dOk_py 59 _ (o2 _ (zm x hxm))).2 (by decide)
    · have : (zs.map fun z => toPy z.2) = ds0.map toPy := by rw [← zq.2, List.map_map]; rfl
      rw [this, zq.1, hb] at he
      have e := toPy_inj 59 59 _ _ (o2 _ (zm y hy)) (o2 _ hm) he
      rw [← e]  at k
      exact k _ H (Same.refl _) (z3 y hy)
theorem call_minA : CallV 𝓕 ca (.builtin "min") minA := by
  refine ⟨fun xs H Q => (∃ i j, xs = [.int i, .int j] ∧ Q (.int (if j < i then j else i)) H) ∨ rBestZ 𝓕.K PySem.W.minD xs H Q, fun j => ?_, fun Mu H ds vs d Q dm r e k => ?_⟩
  · have h := cr_minZ (X := 𝓕.X j) (𝓕.calm j) (𝓕.room j).units
    rw [𝓕.hK j] at h
    exact (call_min2 (𝓕.calm j)).or h
  · unfold minA at e
    split at e
    · cases e
      obtain ⟨v, u, e1, e2, e3⟩ := reps2 r
      exact .inl ⟨_, _, by rw [e1, show v = _ from e2, show u = _ from e3], k _ H (Same.refl _) rfl⟩
    · split at e
      · rename_i ho
        cases e
        exact .inr (best_use (es := .non) (mnD_py _ _) (mnD_mem _ _) r ho k)
      · cases e
    · cases e
theorem call_maxA : CallV 𝓕 ca (.builtin "max") maxA := by
  refine ⟨fun xs H Q => (∃ i j, xs = [.int i, .int j] ∧ Q (.int (if j > i then j else i)) H) ∨ rBestZ 𝓕.K PySem.W.maxD xs H Q, fun j => ?_, fun Mu H ds vs d Q dm r e k => ?_⟩
  · have h := cr_maxZ (X := 𝓕.X j) (𝓕.calm j) (𝓕.room j).units
    rw [𝓕.hK j] at h
    exact (call_max2 (𝓕.calm j)).or h
  · unfold maxA at e
    split at e
    · cases e
      obtain ⟨v, u, e1, e2, e3⟩ := reps2 r
      exact .inl ⟨_, _, by rw [e1, show v = _ from e2, show u = _ from e3], k _ H (Same.refl _) rfl⟩
    · split at e
      · rename_i ho
        cases e
        exact .inr (best_use (es := .non) (mxD_py _ _) (mxD_mem _ _) r ho k)
      · cases e
    · cases e
end
end PL

namespace PL
open PySem PySem.Spec PyProof.Rows L2
/-! x in a list, in a tuple, in a text -/
def rInT (K : PySem.W.Frag) (neg : Bool) : R2 := fun x y H Q => ∃ d ds, Dp K H x d ∧ Dp K H y (.tuple ds) ∧ SeqAt.shaped d = true ∧ SeqAt.shaped (.tuple ds) = true ∧ Q (.bl (neg ^^ ds.any fun z => PyData.eqv z d)) H
section
variable {X : Cx}
theorem room_in {d : PyData} {ds : List PyData} {n : Nat} (sd : SeqAt.shaped d = true) (hu : n + 65 < cLine) : n + 1 + min (PyData.depthAll ds) d.depth < cLine := by
  unfold SeqAt.shaped at sd
  rw [Bool.and_eq_true, decide_eq_true_eq] at sd
  omega
theorem lay_tup {ds : List PyData} (h : SeqAt.shaped (.tuple ds) = true) : PyData.canLayAll0 ds = true := by
  unfold SeqAt.shaped at h
  rw [Bool.and_eq_true] at h
  have := h.1
  rw [PyData.canLay0] at this
  exact this
theorem op_inT (hu : X.A.units + 65 < cLine) : OpR X (compareOp .In) (rInT X.K false) := by
  intro pins s σ H x y v u Q I rx ry h
  obtain ⟨d, ds, hd, he, sd, se, q⟩ := h
  obtain ⟨as, r1⟩ := Dp.reads I d x v hd rx
  obtain ⟨bs, r2⟩ := Dp.reads I (.tuple ds) y u he ry
  exact SeqAt.in_tuple_reads r2 r1 (lay_tup se) (SeqAt.canLay_of_shaped sd) (room_in sd hu) ⟨.bl _, H, I, rfl, by simpa using q⟩
theorem op_notInT (hu : X.A.units + 65 < cLine) : OpR X (compareOp .NotIn) (rInT X.K true) := by
  intro pins s σ H x y v u Q I rx ry h
  obtain ⟨d, ds, hd, he, sd, se, q⟩ := h
  obtain ⟨as, r1⟩ := Dp.reads I d x v hd rx
  obtain ⟨bs, r2⟩ := Dp.reads I (.tuple ds) y u he ry
  exact SeqAt.notIn_tuple_reads r2 r1 (lay_tup se) (SeqAt.canLay_of_shaped sd) (room_in sd hu) ⟨.bl _, H, I, rfl, by simpa using q⟩
end
/-- it is one of them -/
def memD (d : D) (ds : List D) : Bool := ds.any fun e => dEq e d
def isInStr (x z : Str) : Bool := !(Builtin.Str.occurrences z x 0 z.length 1).isEmpty
def inD : D → D → Option D
  | .str x, .str z => some (.bl (isInStr x z))
  | d, .lst ds => if (dOk 59 d && dOks 58 ds) = true then some (.bl (memD d ds)) else none
  | d, .tup ds => if (dOk 59 d && dOks 58 ds) = true then some (.bl (memD d ds)) else none
  | _, _ => none
def notinD : D → D → Option D
  | .str x, .str z => some (.bl (!isInStr x z))
  | d, .lst ds => if (dOk 59 d && dOks 58 ds) = true then some (.bl (!memD d ds)) else none
  | d, .tup ds => if (dOk 59 d && dOks 58 ds) = true then some (.bl (!memD d ds)) else none
  | _, _ => none
theorem dOk_sh {n : Nat} {d : D} (h : dOk n d = true) (hn : n ≤ 64) : SeqAt.shaped (toPy d) = true := by
  obtain ⟨a, b⟩ := dOk_py n d h
  unfold SeqAt.shaped
  rw [a, decide_eq_true (show (toPy d).depth ≤ 64 by omega)]
  rfl
theorem memD_py {d : D} {ds : List D} : ((toPys ds).any fun z => PyData.eqv z (toPy d)) = memD d ds := by
  rw [toPys_map, List.any_map]
  rfl
section
variable {𝓕 : Fam} {ca : Option Addr} {pos : Pos} {tg : Expr}
theorem u65 (j : 𝓕.J) : (𝓕.X j).A.units + 65 < cLine := by have := (𝓕.room j).un; omega
theorem in_ok : OpV 𝓕 ca (compareOp .In) inD := by
  refine ⟨fun x y H Q => (∃ i j, x = .str i ∧ y = .str j ∧ Q (.bl (!(Builtin.Str.occurrences j i 0 j.length 1).isEmpty)) H) ∨ rInD 𝓕.K x y H Q ∨ rInT 𝓕.K false x y H Q, fun j => ?_, fun Mu H dx dy vx vy d Q dm rx ry e k => ?_⟩
  · have h := op_inD (X := 𝓕.X j) (u65 j)
    have h' := op_inT (X := 𝓕.X j) (u65 j)
    rw [𝓕.hK j] at h h'
    exact op_in_str.or (h.or h')
  · unfold inD at e
    split at e
    · cases e
      exact .inl ⟨_, _, rx, ry, k _ H (Same.refl _) rfl⟩
    · split at e
      · rename_i ds hh
        cases e
        rw [Bool.and_eq_true] at hh
        have h2 : dOk 59 (.lst ds) = true := by rw [dOk]; exact hh.2
        refine .inr (.inl ⟨toPy dx, toPys ds, rep_dp 59 _ _ hh.1 rx, by have := rep_dp (K := 𝓕.K) 59 _ _ h2 ry; rw [toPy] at this; exact this, dOk_sh hh.1 (by decide), by have := dOk_sh h2 (by decide); rw [toPy] at this; exact this, ?_⟩)
        rw [memD_py]
        exact k _ H (Same.refl _) rfl
      · cases e
    · split at e
      · rename_i ds hh
        cases e
        rw [Bool.and_eq_true] at hh
        have h2 : dOk 59 (.tup ds) = true := by rw [dOk]; exact hh.2
        refine .inr (.inr ⟨toPy dx, toPys ds, rep_dp 59 _ _ hh.1 rx, by have := rep_dp (K := 𝓕.K) 59 _ _ h2 ry; rw [toPy] at this; exact this, dOk_sh hh.1 (by decide), by have := dOk_sh h2 (by decide); rw [toPy] at this; exact this, ?_⟩)
        rw [memD_py, Bool.false_xor]
        exact k _ H (Same.refl _) rfl
      · cases e
    · cases e
theorem notin_ok : OpV 𝓕 ca (compareOp .NotIn) notinD := by
  refine ⟨fun x y H Q => (∃ i j, x = .str i ∧ y = .str j ∧ Q (.bl (!(!(Builtin.Str.occurrences j i 0 j.length 1).isEmpty))) H) ∨ rNotInD 𝓕.K x y H Q ∨ rInT 𝓕.K true x y H Q, fun j => ?_, fun Mu H dx dy vx vy d Q dm rx ry e k => ?_⟩
  · have h := op_notInD (X := 𝓕.X j) (u65 j)
    have h' := op_notInT (X := 𝓕.X j) (u65 j)
    rw [𝓕.hK j] at h h'
    exact op_notin_str.or (h.or h')
  · unfold notinD at e
    split at e
    · cases e
      exact .inl ⟨_, _, rx, ry, k _ H (Same.refl _) rfl⟩
    · split at e
      · rename_i ds hh
        cases e
        rw [Bool.and_eq_true] at hh
        have h2 : dOk 59 (.lst ds) = true := by rw [dOk]; exact hh.2
        refine .inr (.inl ⟨toPy dx, toPys ds, rep_dp 59 _ _ hh.1 rx, by have := rep_dp (K := 𝓕.K) 59 _ _ h2 ry; rw [toPy] at this; exact this, dOk_sh hh.1 (by decide), by have := dOk_sh h2 (by decide); rw [toPy] at this; exact this, ?_⟩)
        rw [memD_py]
        exact k _ H (Same.refl _) rfl
      · cases e
    · split at e
      · rename_i ds hh
        cases e
        rw [Bool.and_eq_true] at hh
        have h2 : dOk 59 (.tup ds) = true := by rw [dOk]; exact hh.2
        refine .inr (.inr ⟨toPy dx, toPys ds, rep_dp 59 _ _ hh.1 rx, by have := rep_dp (K := 𝓕.K) 59 _ _ h2 ry; rw [toPy] at this; exact this, dOk_sh hh.1 (by decide), by have := dOk_sh h2 (by decide); rw [toPy] at this; exact this, ?_⟩)
        rw [memD_py, Bool.true_xor]
        exact k _ H (Same.refl _) rfl
      · cases e
    · cases e
/-! list(range(..)), tuple(range(..)) -/
def rgD (a b : Int) : List D := (List.range (b - a).toNat).map fun i => .int (a + (i : Nat))
def rg1 : D → Option (Int × Int)
  | .int n => some (0, n)
  | _ => none
def okRg (a b : Int) : Bool := decide (-(2 ^ 62) ≤ a) && decide (a < 2 ^ 62) && decide (-(2 ^ 62) ≤ b) && decide (b < 2 ^ 62) && decide ((b - a).toNat ≤ 2 ^ 24)
theorem okRg_ok {a b : Int} (h : okRg a b = true) : RgOk a b := by
  unfold okRg at h
  simp only [Bool.and_eq_true, decide_eq_true_eq] at h
  exact ⟨h.1.1.1.1, h.1.1.1.2, h.1.1.2, h.1.2, h.2⟩
def listRgD : D → Option D
  | .int n => if okRg 0 n = true then some (.lst (rgD 0 n)) else none
  | _ => none
def tupleRgD : D → Option D
  | .int n => if okRg 0 n = true then some (.tup (rgD 0 n)) else none
  | _ => none
def lift1 (g : D → Option D) (f : M D) : M D := bindM f fun d => lift (g d)
theorem reps_rg {ca : Option Addr} {Mu : Addr → Prop} {H : Hp} (a b : Int) : Reps ca Mu H (rgD a b) (rgV a b) := by
  have : ∀ ns : List Nat, Reps ca Mu H (ns.map fun i : Nat => D.int (a + (i : Nat))) (ns.map fun i : Nat => V.int (a + (i : Nat))) := fun ns => by
    induction ns with
    | nil => rfl
    | cons n ns ih => exact ⟨_, _, rfl, rfl, ih⟩
  exact this _
theorem ev_listRg1 {e : Expr} {f : M D} {p p2 rpos : Pos} (he : Ev 𝓕 ca e f) (hm : 𝓕.mg "list" = none) (hr : 𝓕.mg "range" = none) (hg : ∀ j, Gl (𝓕.X j) "list" := by intro _; rfl) (hgr : ∀ j, Gl (𝓕.X j) "range" := by intro _; rfl)
    (hs : ∀ j, starEach [e] (𝓕.X j).env = (false, eval e (𝓕.X j).env) :: starEach [] (𝓕.X j).env := by intro _; rfl)
    (hs2 : ∀ j, starEach [.Call (.Name "range" p2) [e] [] rpos] (𝓕.X j).env = (false, eval (.Call (.Name "range" p2) [e] [] rpos) (𝓕.X j).env) :: starEach [] (𝓕.X j).env := by intro _; rfl) :
    Ev 𝓕 ca (.Call (.Name "list" p) [.Call (.Name "range" p2) [e] [] rpos] [] pos) (lift1 listRgD f) := by
  obtain ⟨t, a1, a2⟩ := he
  refine ⟨tLstRg (tRg1 t), fun j => pe_listRg (𝓕.calm j) (hg j) (by rw [𝓕.hmg j]; exact hm) (prg_1 (hgr j) (by rw [𝓕.hmg j]; exact hr) (a1 j) (hs j)) (hs2 j), fun F W H σ s Q R q => ?_⟩
  unfold lift1 bindM at q
  refine a2 F W H σ s _ R (wpr_mono (wpr_bind.mp q) (fun r h v H1 x1 R1 p => ?_) fun _ _ z => z)
  obtain ⟨d2, e1, h2⟩ := wpr_lift h
  obtain ⟨d, c⟩ := r
  dsimp only at e1 p h2
  unfold listRgD at e1
  split at e1
  · rename_i n
    split at e1
    · rename_i ho
      cases e1
      exact ⟨n, p, okRg_ok ho, fun q hq => h2 _ _ (x1.trans (Ext.upd hq)) (R1.same (same_upd hq)) (rep_newL (reps_rg 0 n) hq R1.dom)⟩
    · cases e1
  · cases e1
theorem ev_tupleRg1 {e : Expr} {f : M D} {p p2 rpos : Pos} (he : Ev 𝓕 ca e f) (hm : 𝓕.mg "tuple" = none) (hr : 𝓕.mg "range" = none) (hg : ∀ j, Gl (𝓕.X j) "tuple" := by intro _; rfl) (hgr : ∀ j, Gl (𝓕.X j) "range" := by intro _; rfl)
    (hs : ∀ j, starEach [e] (𝓕.X j).env = (false, eval e (𝓕.X j).env) :: starEach [] (𝓕.X j).env := by intro _; rfl)
    (hs2 : ∀ j, starEach [.Call (.Name "range" p2) [e] [] rpos] (𝓕.X j).env = (false, eval (.Call (.Name "range" p2) [e] [] rpos) (𝓕.X j).env) :: starEach [] (𝓕.X j).env := by intro _; rfl) :
    Ev 𝓕 ca (.Call (.Name "tuple" p) [.Call (.Name "range" p2) [e] [] rpos] [] pos) (lift1 tupleRgD f) := by
  obtain ⟨t, a1, a2⟩ := he
  refine ⟨tTupRg (tRg1 t), fun j => pe_tupRg (𝓕.calm j) (hg j) (by rw [𝓕.hmg j]; exact hm) (prg_1 (hgr j) (by rw [𝓕.hmg j]; exact hr) (a1 j) (hs j)) (hs2 j), fun F W H σ s Q R q => ?_⟩
  unfold lift1 bindM at q
  refine a2 F W H σ s _ R (wpr_mono (wpr_bind.mp q) (fun r h v H1 x1 R1 p => ?_) fun _ _ z => z)
  obtain ⟨d2, e1, h2⟩ := wpr_lift h
  obtain ⟨d, c⟩ := r
  dsimp only at e1 p h2
  unfold tupleRgD at e1
  split at e1
  · rename_i n
    split at e1
    · rename_i ho
      cases e1
      exact ⟨n, p, okRg_ok ho, fun q hq => h2 _ _ (x1.trans (Ext.upd hq)) (R1.same (same_upd hq)) (rep_newT (reps_rg 0 n) hq)⟩
    · cases e1
  · cases e1
/-! a call without arguments -/
theorem ev_call0 {x : Str} {m : Fn} {p : Pos} (hf : FnV 𝓕 x 0 m) (hg : ∀ j, Gl (𝓕.X j) x := by intro _; rfl) (hdb : (x == ("__debug__" : Str)) = false := by decide) : Ev 𝓕 ca (.Call (.Name x p) [] [] pos) (fnM m (ret [])) := by
  obtain ⟨fa, fd, ps, k, F, hk, hm, kp, b⟩ := hf
  have hnil : SemA ca 𝓕.XA 𝓕.E tNil (ret []) := by
    obtain ⟨t, a1, a2, a3⟩ := av_nil (𝓕 := 𝓕) (ca := ca)
    exact fun F W H σ s R SR q => q [] H (Ext.refl _ _) SR rfl
  refine ⟨tCall (spOf 𝓕.XA 0 m) [] 𝓕.E tNil, fun j => ?_, sem_fn hnil fun s ds s' e => by cases e; rfl⟩
  have hP := 𝓕.hP j
  have hw := 𝓕.hw j
  have hK := 𝓕.hK j
  have hmg := 𝓕.hmg j
  have hB := 𝓕.hB j
  exact pe_call0 (by rw [hP, hw, hK, hmg, hB]; exact F) ((𝓕.room j).mono hk) (hg j) (by rw [hmg]; exact hm) (by rw [hK]; exact kp) (by rw [hK]; exact b) .nil (𝓕.pass j) hdb
/-! a comprehension within a comprehension -/
def relC (scope outer : Scope) : Scope :=
  { scope with names := scope.names.map fun (n, k) => if (k == .free && outer.kind == .function && outer.names.lookup n == some .cell) then (n, .cell) else (n, k) }
theorem ev_lcN {elt iter tg : Expr} {ifs : List Expr} {scope s0 : Scope} (own : List (Str × Nat)) (sc : Scope) (N : List Str) {T : List Nat} {src : M (List D)} {tgt : D → S → Res S} {test : M Bool} {fe : M D}
    (hi : Iv (𝓕.blk s0) ca tg iter src) (hg : Gv ((𝓕.blk s0).blk scope) ca tg T tgt) (ht : Tsv ((𝓕.blk s0).blk scope) ca ifs test) (he : Ev ((𝓕.blk s0).blk scope) ca elt fe)
    (ok : blkC N (relC s0 sc) scope own = true := by decide +kernel) (hsc : ∀ j, (𝓕.X j).env.scope = sc := by intro _; rfl) (hN : 𝓕.N = N := by rfl) (hT : ∀ i ∈ T, i ∈ own.map (·.2) := by decide) (hs : ∀ j x, foldedSetIterable iter ((𝓕.blk s0).X j).env x = pure x := by intro _ _; rfl) :
    Ev (𝓕.blk s0) ca (.ListComp elt [⟨tg, iter, ifs, 0⟩] scope pos) (lcM (own.map (·.2)) src tgt test fe) :=
  ev_lc (𝓕 := 𝓕.blk s0) own (relC s0 sc) N hi hg ht he ok (fun j => by
    show relabel s0 (𝓕.X j.1).env = relC s0 sc
    rw [← hsc j.1]
    rfl) hN hT hs
/-- this way or that -/
def orD (g g' : List D → Option D) (ds : List D) : Option D := match g ds with
  | some d => some d
  | none => g' ds
theorem call_orD {f : Value} {g g' : List D → Option D} (h : CallV 𝓕 ca f g) (h' : CallV 𝓕 ca f g') : CallV 𝓕 ca f (orD g g') := by
  obtain ⟨r, a1, a2⟩ := h
  obtain ⟨r', b1, b2⟩ := h'
  refine ⟨fun xs H Q => r xs H Q ∨ r' xs H Q, fun j => (a1 j).or (b1 j), fun Mu H ds vs d Q dm rp e k => ?_⟩
  unfold orD at e
  split at e
  · rename_i q
    cases e
    exact .inl (a2 Mu H ds vs _ Q dm rp q k)
  · exact .inr (b2 Mu H ds vs _ Q dm rp e k)
end
end PL

namespace PL
open PySem PySem.Spec PyProof.Rows L2
/-! plain functions, evaluated -/
section
variable {α β : Type} {s : S} {env : List Slot} {c : List D}
@[simp] theorem bind_ok {a : α} {f : α → Res β} : (Res.ok a).bind f = f a := id rfl
@[simp] theorem nox_ok' {a : α} : (Res.ok a).nox = .ok a := id rfl
@[simp] theorem bindM_ap {f : M α} {g : α → M β} : bindM f g s = (f s).bind fun r => g r.1 ⟨s.env, r.2⟩ := id rfl
@[simp] theorem ret_ap {a : α} : ret a s = .ok (a, s.cup) := id rfl
@[simp] theorem lift_some {a : α} : lift (some a) s = .ok (a, s.cup) := id rfl
@[simp] theorem getv_0 {d : D} {r : List Slot} : getv 0 ⟨.val d :: r, c⟩ = .ok (d, c) := id rfl
@[simp] theorem getv_s {i : Nat} {x : Slot} {r : List Slot} : getv (i + 1) ⟨x :: r, c⟩ = getv i ⟨r, c⟩ := id rfl
@[simp] theorem op2_ap {g : D → D → Option D} {fa fb : M D} : op2 g fa fb s = (fa s).bind fun r => (fb ⟨s.env, r.2⟩).bind fun q => lift (g r.1 q.1) ⟨s.env, q.2⟩ := id rfl
@[simp] theorem asB_ap {f : M D} : asB f s = (f s).bind fun r => (match r.1 with | .bl b => ret b | _ => fun _ => .bad : M Bool) ⟨s.env, r.2⟩ := id rfl
theorem asB_e {f : M D} {b : Bool} {c' : List D} (h : f s = .ok (.bl b, c')) : asB f s = .ok (b, c') := by rw [asB_ap, h]; rfl
@[simp] theorem andT_ap {fa fb : M Bool} : andT fa fb s = (fa s).bind fun r => if r.1 = true then fb ⟨s.env, r.2⟩ else .ok (false, r.2) := by
  show (fa s).bind _ = _
  congr 1; funext r; show (if r.1 = true then fb else ret false) _ = _; split <;> rfl
@[simp] theorem orT_ap {fa fb : M Bool} : orT fa fb s = (fa s).bind fun r => if r.1 = true then .ok (true, r.2) else fb ⟨s.env, r.2⟩ := by
  show (fa s).bind _ = _
  congr 1; funext r; show (if r.1 = true then ret true else fb) _ = _; split <;> rfl
@[simp] theorem notT_ap {fa : M Bool} : notT fa s = (fa s).bind fun r => .ok (!r.1, r.2) := id rfl
@[simp] theorem iteM_ap {b : M Bool} {fa fb : M α} : iteM b fa fb s = (b s).bind fun r => if r.1 = true then fa ⟨s.env, r.2⟩ else fb ⟨s.env, r.2⟩ := by
  show (b s).bind _ = _
  congr 1; funext r; show (if r.1 = true then fa else fb) _ = _; split <;> rfl
@[simp] theorem consA_ap {fa : M D} {fr : M (List D)} : consA fa fr s = (fa s).bind fun r => (fr ⟨s.env, r.2⟩).bind fun q => .ok (r.1 :: q.1, q.2) := id rfl
@[simp] theorem tupM_ap {f : M (List D)} : tupM f s = (f s).bind fun r => .ok (.tup r.1, r.2) := id rfl
@[simp] theorem lstM_ap {f : M (List D)} : lstM f s = (f s).bind fun r => .ok (.lst r.1, r.2) := id rfl
@[simp] theorem callM_ap {g : List D → Option D} {f : M (List D)} : callM g f s = (f s).bind fun r => lift (g r.1) ⟨s.env, r.2⟩ := id rfl
@[simp] theorem fnM_ap {m : Fn} {f : M (List D)} : fnM m f s = (f s).bind fun r => m r.1 r.2 := id rfl
theorem seqS_ap {f g : S → Res Fl} : seqS f g s = (f s).bind fun r => (match r with | .nx s' => g s' | r => .ok r) := by
  show (f s).bind _ = _
  congr 1
@[simp] theorem skipS_ap : skipS s = .ok (.nx s) := id rfl
@[simp] theorem retS_ap {f : M D} : retS f s = (f s).bind fun r => .ok (.rt r.1 r.2) := id rfl
@[simp] theorem exprS_ap {f : M D} : exprS f s = (f s).bind fun r => .ok (.nx ⟨s.env, r.2⟩) := id rfl
@[simp] theorem ifS_ap {b : M Bool} {f g : S → Res Fl} : ifS b f g s = (b s).bind fun r => if r.1 = true then f ⟨s.env, r.2⟩ else g ⟨s.env, r.2⟩ := id rfl
@[simp] theorem setv_ap {i : Nat} {d : D} : setv i d s = .ok { s with env := s.env.set i (.val d) } := id rfl
@[simp] theorem setNil_ap : setNil [] s = .ok s := id rfl
@[simp] theorem setCons_ap {f : D → S → Res S} {g : List D → S → Res S} {d : D} {ds : List D} : setCons f g (d :: ds) s = (f d s).bind fun s1 => g ds s1 := id rfl
@[simp] theorem asgS_ap {f : M D} {g : D → S → Res S} : asgS f g s = (f s).bind fun r => (g r.1 ⟨s.env, r.2⟩).bind fun s' => .ok (.nx s') := id rfl
@[simp] theorem srcM_ap {f : M D} : srcM f s = (f s).bind fun r => lift (itemsD r.1) ⟨s.env, r.2⟩ := id rfl
@[simp] theorem srcA_ap {g : List D → Option (List D)} {f : M (List D)} : srcA g f s = (f s).bind fun r => lift (g r.1) ⟨s.env, r.2⟩ := id rfl
@[simp] theorem items_lst {ds : List D} : itemsD (.lst ds) = some ds := id rfl
@[simp] theorem items_tup {ds : List D} : itemsD (.tup ds) = some ds := id rfl
theorem forS_ap {src : M (List D)} {tgt : D → S → Res S} {body : S → Res Fl} : forS src tgt body s = (src s).bind fun r => forL tgt body r.1 ⟨s.env, r.2⟩ := id rfl
theorem lcM_ap {vs : List Nat} {src : M (List D)} {tgt : D → S → Res S} {test : M Bool} {elt : M D} : lcM vs src tgt test elt s = (src s).bind fun r => if noOwn s.env vs = true ∧ r.1.length ≤ sizeLine then lcL vs tgt test elt r.1 ⟨s.env, r.2⟩ [] else .bad := id rfl
@[simp] theorem andV_ap {fa fb : M D} : andV fa fb s = (fa s).bind fun r => (match r.1 with | .bl true => fb | .bl false => ret (.bl false) | _ => fun _ => .bad : M D) ⟨s.env, r.2⟩ := id rfl
@[simp] theorem orV_ap {fa fb : M D} : orV fa fb s = (fa s).bind fun r => (match r.1 with | .bl true => ret (.bl true) | .bl false => fb | _ => fun _ => .bad : M D) ⟨s.env, r.2⟩ := id rfl
@[simp] theorem notV_ap {fa : M D} : notV fa s = (fa s).bind fun r => (match r.1 with | .bl b => ret (.bl (!b)) | _ => fun _ => .bad : M D) ⟨s.env, r.2⟩ := id rfl
@[simp] theorem negM_ap {fa : M D} : negM fa s = (fa s).bind fun r => (match r.1 with | .int i => ret (.int (-i)) | _ => fun _ => .bad : M D) ⟨s.env, r.2⟩ := id rfl
@[simp] theorem addD_int {i j : Int} : addD (.int i) (.int j) = some (.int (i + j)) := id rfl
@[simp] theorem subD_int {i j : Int} : subD (.int i) (.int j) = some (.int (i - j)) := id rfl
@[simp] theorem mulD_int {i j : Int} (h : cMul i j = true) : mulD (.int i) (.int j) = some (.int (i * j)) := if_pos h
@[simp] theorem fdivD_int {i j : Int} (h : 0 < j) (h' : j < 18446744073709551616) : fdivD (.int i) (.int j) = some (.int (i / j)) := if_pos (by unfold cDiv; rw [Bool.and_eq_true, decide_eq_true_eq, decide_eq_true_eq]; exact ⟨h, h'⟩)
@[simp] theorem modD_int {i j : Int} (h : 0 < j) : modD (.int i) (.int j) = some (.int (i % j)) := if_pos (by unfold cMod; exact decide_eq_true h)
@[simp] theorem ltD_int {i j : Int} : ltD (.int i) (.int j) = some (.bl (decide (i < j))) := id rfl
@[simp] theorem leD_int {i j : Int} : leD (.int i) (.int j) = some (.bl (decide (i ≤ j))) := id rfl
@[simp] theorem gtD_int {i j : Int} : gtD (.int i) (.int j) = some (.bl (decide (j < i))) := id rfl
@[simp] theorem geD_int {i j : Int} : geD (.int i) (.int j) = some (.bl (decide (j ≤ i))) := id rfl
@[simp] theorem eqD_int {i j : Int} : eqD (.int i) (.int j) = some (.bl (decide (i = j))) := id rfl
@[simp] theorem neD_int {i j : Int} : neD (.int i) (.int j) = some (.bl (!decide (i = j))) := id rfl
@[simp] theorem eqD_bl {i j : Bool} : eqD (.bl i) (.bl j) = some (.bl (decide (i = j))) := id rfl
@[simp] theorem neD_bl {i j : Bool} : neD (.bl i) (.bl j) = some (.bl (!decide (i = j))) := id rfl
@[simp] theorem lenD_tup {ds : List D} : lenD [.tup ds] = some (.int ds.length) := id rfl
@[simp] theorem lenD_lst {ds : List D} : lenD [.lst ds] = some (.int ds.length) := id rfl
@[simp] theorem intD_int {i : Int} : intD [.int i] = some (.int i) := id rfl
def gcdI (a b : Int) : Int := ((Nat.gcd a.natAbs b.natAbs : Nat) : Int)
theorem gcd_pos {a b : Int} (h : 0 < a) : 0 < gcdI a b := by
  have : 0 < a.natAbs.gcd b.natAbs := Nat.gcd_pos_of_pos_left _ (Int.natAbs_pos.mpr (by omega))
  unfold gcdI
  omega
theorem gcd_dl (a b : Int) : gcdI a b ∣ a := PySem.W.mg_dvd_left a b
theorem gcd_dr (a b : Int) : gcdI a b ∣ b := PySem.W.mg_dvd_right a b
theorem gcd_le {a b : Int} (h : 0 < a) : gcdI a b ≤ a := Int.le_of_dvd h (gcd_dl a b)
@[simp] theorem gcdD_int {i j : Int} : gcdD [.int i, .int j] = some (.int (gcdI i j)) := id rfl
@[simp] theorem maxD_2 {i j : Int} : maxD [.int i, .int j] = some (.int (if j > i then j else i)) := id rfl
@[simp] theorem isD_bl {i j : Bool} : isD (.bl i) (.bl j) = some (.bl (decide (i = j))) := id rfl
@[simp] theorem isnotD_bl {i j : Bool} : isnotD (.bl i) (.bl j) = some (.bl (!decide (i = j))) := id rfl
@[simp] theorem isD_non {d : D} : isD d .non = some (.bl (isNon d)) := by cases d <;> rfl
@[simp] theorem isnotD_non {d : D} : isnotD d .non = some (.bl (!isNon d)) := by cases d <;> rfl
@[simp] theorem isNon_non : isNon .non = true := id rfl
@[simp] theorem isNon_int {i : Int} : isNon (.int i) = false := id rfl
@[simp] theorem isNon_tup {i : List D} : isNon (.tup i) = false := id rfl
@[simp] theorem isNon_lst {i : List D} : isNon (.lst i) = false := id rfl
@[simp] theorem isNon_bl {i : Bool} : isNon (.bl i) = false := id rfl
@[simp] theorem isNon_str {i : Str} : isNon (.str i) = false := id rfl
/-- two lists are alike as lists that are empty -/
theorem eqD_nil {ds : List D} (h : dOk 60 (.lst ds) = true) : eqD (.lst ds) (.lst []) = some (.bl ds.isEmpty) := by
  show (if (dOk 60 (.lst ds) && dOk 60 (.lst [])) = true then some (D.bl (dEq (.lst ds) (.lst []))) else none) = _
  rw [if_pos (by rw [h]; rfl)]
  cases ds with
  | nil => rfl
  | cons d ds => rfl
theorem neD_nil {ds : List D} (h : dOk 60 (.lst ds) = true) : neD (.lst ds) (.lst []) = some (.bl (!ds.isEmpty)) := by
  show (if (dOk 60 (.lst ds) && dOk 60 (.lst [])) = true then some (D.bl (!dEq (.lst ds) (.lst []))) else none) = _
  rw [if_pos (by rw [h]; rfl)]
  cases ds with
  | nil => rfl
  | cons d ds => rfl
theorem dOks_all {n : Nat} : ∀ {ds : List D}, (∀ d ∈ ds, dOk n d = true) → dOks n ds = true
  | [], _ => by rw [dOks]
  | d :: ds, h => by rw [dOks, h d List.mem_cons_self, dOks_all fun e he => h e (List.mem_cons_of_mem _ he)]; rfl
theorem dOk_lst {n : Nat} {ds : List D} (h : ∀ d ∈ ds, dOk n d = true) : dOk (n + 1) (.lst ds) = true := by rw [dOk]; exact dOks_all h
theorem dOk_tup {n : Nat} {ds : List D} (h : ∀ d ∈ ds, dOk n d = true) : dOk (n + 1) (.tup ds) = true := by rw [dOk]; exact dOks_all h
@[simp] theorem dOk_int {n : Nat} {i : Int} : dOk n (.int i) = true := by rw [dOk]
@[simp] theorem dOk_bl {n : Nat} {i : Bool} : dOk n (.bl i) = true := by rw [dOk]
/-! subscripts -/
theorem atI_nat {α : Type} {xs : List α} {i : Nat} (h : i < xs.length) : L2.atI xs (i : Int) = some xs[i] := by
  unfold L2.atI ixN
  simp [h]
theorem atI_of {α : Type} {xs : List α} {i : Int} {d : α} (h0 : 0 ≤ i) (h : xs[i.toNat]? = some d) : L2.atI xs i = some d := by
  obtain ⟨h1, h2⟩ := List.getElem?_eq_some_iff.mp h
  have e : i = (i.toNat : Int) := by omega
  rw [e, atI_nat h1, h2]
@[simp] theorem ixD_tup {ds : List D} {i : Int} : ixD (.tup ds) (.int i) = L2.atI ds i := id rfl
@[simp] theorem ixD_lst {ds : List D} {i : Int} : ixD (.lst ds) (.int i) = L2.atI ds i := id rfl
/-! loops -/
theorem forL_inv {tgt : D → S → Res S} {body : S → Res Fl} (I : Nat → S → Prop) : ∀ (ds : List D) (s : S) (k0 : Nat), I k0 s → (∀ k d s, ds[k]? = some d → I (k0 + k) s → ∃ s1 s2, tgt d s = .ok s1 ∧ body s1 = .ok (.nx s2) ∧ I (k0 + k + 1) s2) →
    ∃ s', forL tgt body ds s = .ok (.nx s') ∧ I (k0 + ds.length) s'
  | [], s, k0, h, _ => ⟨s, rfl, h⟩
  | d :: ds, s, k0, h, st => by
    obtain ⟨s1, s2, e1, e2, h2⟩ := st 0 d s rfl h
    obtain ⟨s', e3, h3⟩ := forL_inv I ds s2 (k0 + 1) h2 fun k d s hd hi => by
      have := st (k + 1) d s (by simpa using hd) (by rw [show k0 + (k + 1) = k0 + 1 + k by omega]; exact hi)
      rw [show k0 + (k + 1) = k0 + 1 + k by omega] at this
      exact this
    refine ⟨s', ?_, by rw [List.length_cons, show k0 + (ds.length + 1) = k0 + 1 + ds.length by omega]; exact h3⟩
    show (tgt d s).bind _ = _
    rw [e1]
    show (body s1).bind _ = _
    rw [e2]
    exact e3
/-- each turn keeps the same -/
theorem forL_keep {tgt : D → S → Res S} {body : S → Res Fl} {ds : List D} {s : S} (I : S → Prop) (h : I s) (st : ∀ d s, d ∈ ds → I s → ∃ s1 s2, tgt d s = .ok s1 ∧ body s1 = .ok (.nx s2) ∧ I s2) :
    ∃ s', forL tgt body ds s = .ok (.nx s') ∧ I s' :=
  forL_inv (fun _ => I) ds s 0 h fun k d s hd hi => st d s (List.mem_of_getElem? hd) hi
/-- a comprehension that draws nothing -/
theorem lcL_pure {vs : List Nat} {tgt : D → S → Res S} {test : M Bool} {elt : M D} {env : List Slot} {c : List D} (p : D → Bool) (g : D → D) : ∀ (ds acc : List D),
    (∀ d ∈ ds, ∃ s1, tgt d ⟨wipeE env vs, c⟩ = .ok s1 ∧ test s1 = .ok (p d, c) ∧ (p d = true → elt ⟨s1.env, c⟩ = .ok (g d, c))) →
    lcL vs tgt test elt ds ⟨env, c⟩ acc = .ok (.lst (acc ++ (ds.filter p).map g), c)
  | [], acc, _ => by show Res.ok (D.lst acc, c) = _; simp
  | d :: ds, acc, h => by
    obtain ⟨s1, e1, e2, e3⟩ := h d List.mem_cons_self
    show (tgt d ⟨wipeE env vs, c⟩).nox.bind _ = _
    rw [e1, nox_ok', bind_ok, e2, nox_ok', bind_ok]
    cases hp : p d with
    | true =>
      rw [if_pos rfl, e3 hp, nox_ok', bind_ok, lcL_pure p g ds _ fun e he => h e (List.mem_cons_of_mem _ he)]
      simp [List.filter_cons, hp]
    | false =>
      rw [if_neg Bool.false_ne_true, lcL_pure p g ds _ fun e he => h e (List.mem_cons_of_mem _ he)]
      simp [List.filter_cons, hp]
theorem lcM_pure {vs : List Nat} {src : M (List D)} {tgt : D → S → Res S} {test : M Bool} {elt : M D} {env : List Slot} {c c' ds : List D} (p : D → Bool) (g : D → D) (hs : src ⟨env, c⟩ = .ok (ds, c')) (ho : noOwn env vs = true) (hl : ds.length ≤ sizeLine)
    (h : ∀ d ∈ ds, ∃ s1, tgt d ⟨wipeE env vs, c'⟩ = .ok s1 ∧ test s1 = .ok (p d, c') ∧ (p d = true → elt ⟨s1.env, c'⟩ = .ok (g d, c'))) :
    lcM vs src tgt test elt ⟨env, c⟩ = .ok (.lst ((ds.filter p).map g), c') := by
  rw [lcM_ap, hs, bind_ok, if_pos ⟨ho, hl⟩]
  exact (lcL_pure p g ds [] h).trans (by simp)
@[simp] theorem bind_assoc {α β γ : Type} {r : Res α} {f : α → Res β} {g : β → Res γ} : (r.bind f).bind g = r.bind fun a => (f a).bind g := by cases r <;> rfl
/-- it ends, and so -/
def Okr {α : Type} (r : Res α) (P : α → Prop) : Prop := ∃ a, r = .ok a ∧ P a
@[simp] theorem okr_ok {P : α → Prop} {a : α} : Okr (.ok a) P ↔ P a := ⟨fun ⟨b, e, h⟩ => by cases e; exact h, fun h => ⟨a, rfl, h⟩⟩
theorem okr_bind {r : Res α} {f : α → Res β} {Q : α → Prop} {P : β → Prop} (h : Okr r Q) (k : ∀ a, Q a → Okr (f a) P) : Okr (r.bind f) P := by
  obtain ⟨a, rfl, q⟩ := h
  exact k a q
theorem okr_mono {r : Res α} {Q P : α → Prop} (h : Okr r Q) (k : ∀ a, Q a → P a) : Okr r P := by
  obtain ⟨a, rfl, q⟩ := h
  exact ⟨a, rfl, k a q⟩
theorem okr_eq {r r' : Res α} {P : α → Prop} (e : r = r') (h : Okr r' P) : Okr r P := e ▸ h
/-- what a def tells -/
def Tells (m : Fn) (ds c : List D) (P : D → List D → Prop) : Prop := ∃ v c', m ds c = .ok (v, c') ∧ P v c'
/-- a body's end, as a def's -/
def Fin (P : D → List D → Prop) : Fl → Prop
  | .nx s => P .non s.cup
  | .rt d c => P d c
  | _ => False
@[simp] theorem fin_nx {P : D → List D → Prop} : Fin P (.nx s) = P .non s.cup := id rfl
@[simp] theorem fin_rt {P : D → List D → Prop} {d : D} : Fin P (.rt d c) = P d c := id rfl
theorem ok_run {n : Nat} {fb : S → Res Fl} {ds : List D} {P : D → List D → Prop} (env : List Slot) (h : Okr (fb ⟨env, c⟩) (Fin P)) (he : ds.map .val ++ List.replicate (n - ds.length) .un = env := by rfl) : Tells (runB n fb) ds c P := by
  subst he
  obtain ⟨a, e, h⟩ := h
  unfold Tells runB
  rw [e]
  cases a with
  | nx s => exact ⟨_, _, rfl, h⟩
  | rt d c => exact ⟨_, _, rfl, h⟩
  | bk s => exact h.elim
  | ct s => exact h.elim
theorem tells_mono {m : Fn} {ds : List D} {P Q : D → List D → Prop} (h : Tells m ds c P) (k : ∀ v c', P v c' → Q v c') : Tells m ds c Q := by
  obtain ⟨v, c', e, h⟩ := h
  exact ⟨v, c', e, k v c' h⟩
theorem tells_of {m : Fn} {ds c' : List D} {v : D} {P : D → List D → Prop} (e : m ds c = .ok (v, c')) (h : P v c') : Tells m ds c P := ⟨v, c', e, h⟩
theorem tells_eq {m : Fn} {ds c' : List D} {v : D} (h : Tells m ds c fun v' c'' => v' = v ∧ c'' = c') : m ds c = .ok (v, c') := by
  obtain ⟨v, c', e, rfl, rfl⟩ := h
  exact e
/-- statement by statement -/
theorem ok_seq {f g : S → Res Fl} {P : Fl → Prop} (s' : S) (h : f s = .ok (.nx s')) (k : Okr (g s') P) : Okr (seqS f g s) P := by
  rw [seqS_ap, h]
  exact k
theorem ok_seqE {f g : S → Res Fl} {P : Fl → Prop} {s' : S} (h : f s = .ok (.nx s')) (k : Okr (g s') P) : Okr (seqS f g s) P := ok_seq s' h k
/-- the post of a first part that may end the whole -/
def Nxt (Q : S → Prop) (P : Fl → Prop) : Fl → Prop
  | .nx s => Q s
  | r => P r
@[simp] theorem nxt_nx {Q : S → Prop} {P : Fl → Prop} : Nxt Q P (.nx s) = Q s := id rfl
@[simp] theorem nxt_rt {Q : S → Prop} {P : Fl → Prop} {d : D} : Nxt Q P (.rt d c) = P (.rt d c) := id rfl
theorem ok_seqN {f g : S → Res Fl} {P : Fl → Prop} (Q : S → Prop) (h : Okr (f s) (Nxt Q P)) (k : ∀ s', Q s' → Okr (g s') P) : Okr (seqS f g s) P := by
  obtain ⟨a, e, h⟩ := h
  rw [seqS_ap, e]
  cases a with
  | nx s => exact k s h
  | rt d c => exact ⟨_, rfl, h⟩
  | bk s => exact ⟨_, rfl, h⟩
  | ct s => exact ⟨_, rfl, h⟩
/-- a loop without an end of its own -/
theorem ok_for {src : M (List D)} {tgt : D → S → Res S} {body : S → Res Fl} {ds c' : List D} {P : Fl → Prop} (I : Nat → S → Prop) (hs : src s = .ok (ds, c')) (h0 : I 0 ⟨s.env, c'⟩)
    (st : ∀ k d s, ds[k]? = some d → I k s → Okr (tgt d s) fun s1 => Okr (body s1) (Nxt (I (k + 1)) fun _ => False)) (he : ∀ s, I ds.length s → P (.nx s)) : Okr (forS src tgt body s) P := by
  rw [forS_ap, hs]
  obtain ⟨s', e, h⟩ := forL_inv (tgt := tgt) (body := body) I ds _ 0 h0 fun k d s hd hi => by
    rw [Nat.zero_add] at hi ⊢
    obtain ⟨s1, e1, r, e2, h⟩ := st k d s hd hi
    cases r with
    | nx s2 => exact ⟨s1, s2, e1, e2, h⟩
    | rt d c => exact h.elim
    | bk s => exact h.elim
    | ct s => exact h.elim
  rw [Nat.zero_add] at h
  exact ⟨_, e, he _ h⟩
/-- a loop that may tell -/
theorem forL_tell {tgt : D → S → Res S} {body : S → Res Fl} {P : Fl → Prop} (I : Nat → S → Prop) : ∀ (ds : List D) (s : S) (k0 : Nat), I k0 s → (∀ k d s, ds[k]? = some d → I (k0 + k) s → Okr (tgt d s) fun s1 => Okr (body s1) (Nxt (I (k0 + k + 1)) fun r => ∃ d c, r = .rt d c ∧ P r)) →
    Okr (forL tgt body ds s) (Nxt (I (k0 + ds.length)) P)
  | [], s, k0, h, _ => ⟨_, rfl, h⟩
  | d :: ds, s, k0, h, st => by
    obtain ⟨s1, e1, r, e2, h2⟩ := st 0 d s rfl h
    have ih := fun s2 h2 => forL_tell (P := P) I ds s2 (k0 + 1) h2 fun k d s hd hi => by
      have := st (k + 1) d s (by simpa using hd) (by rw [show k0 + (k + 1) = k0 + 1 + k by omega]; exact hi)
      rw [show k0 + (k + 1) = k0 + 1 + k by omega] at this
      exact this
    rw [List.length_cons, show k0 + (ds.length + 1) = k0 + 1 + ds.length by omega]
    show Okr ((tgt d s).bind _) _
    rw [e1]
    show Okr ((body s1).bind _) _
    rw [e2]
    cases r with
    | nx s2 => exact ih s2 h2
    | rt d c => obtain ⟨_, _, e, h⟩ := h2; cases e; exact ⟨_, rfl, h⟩
    | bk s => obtain ⟨_, _, e, h⟩ := h2; cases e
    | ct s => obtain ⟨_, _, e, h⟩ := h2; cases e
theorem ok_forT {src : M (List D)} {tgt : D → S → Res S} {body : S → Res Fl} {ds c' : List D} {P : Fl → Prop} (I : Nat → S → Prop) (hs : src s = .ok (ds, c')) (h0 : I 0 ⟨s.env, c'⟩)
    (st : ∀ k d s, ds[k]? = some d → I k s → Okr (tgt d s) fun s1 => Okr (body s1) (Nxt (I (k + 1)) fun r => ∃ d c, r = .rt d c ∧ P r)) (he : ∀ s, I ds.length s → P (.nx s)) : Okr (forS src tgt body s) P := by
  rw [forS_ap, hs]
  obtain ⟨r, e, h⟩ := forL_tell (tgt := tgt) (body := body) (P := P) I ds _ 0 h0 fun k d s hd hi => by
    rw [Nat.zero_add] at hi ⊢
    exact st k d s hd hi
  rw [Nat.zero_add] at h
  refine ⟨_, e, ?_⟩
  cases r with
  | nx s => exact he _ h
  | rt d c => exact h
  | bk s => exact h
  | ct s => exact h
/-! ranges -/
def upTo (n : Nat) : List D := (List.range n).map fun i => .int (i : Nat)
@[simp] theorem upTo_len {n : Nat} : (upTo n).length = n := by unfold upTo; rw [List.length_map, List.length_range]
theorem upTo_get {n k : Nat} {d : D} (h : (upTo n)[k]? = some d) : k < n ∧ d = .int (k : Nat) := by
  unfold upTo at h
  rw [List.getElem?_map] at h
  by_cases hk : k < n
  · rw [List.getElem?_range hk] at h
    cases h
    exact ⟨hk, rfl⟩
  · rw [List.getElem?_eq_none (by rw [List.length_range]; omega)] at h
    cases h
theorem mem_upTo {n : Nat} {d : D} : d ∈ upTo n ↔ ∃ i : Nat, i < n ∧ d = .int i := by
  unfold upTo
  rw [List.mem_map]
  constructor
  · rintro ⟨i, h, rfl⟩; exact ⟨i, List.mem_range.mp h, rfl⟩
  · rintro ⟨i, h, rfl⟩; exact ⟨i, List.mem_range.mpr h, rfl⟩
@[simp] theorem range1_int {j : Int} (h0 : -4611686018427387904 ≤ j) (h1 : j < 4611686018427387904) : range1 [.int j] = some (upTo j.toNat) := by
  show (if fits62 j = true then _ else _) = _
  rw [if_pos (by unfold fits62; rw [Bool.and_eq_true, decide_eq_true_eq, decide_eq_true_eq]; exact ⟨h0, h1⟩)]
  unfold upTo
  simp
def upFrom (lo : Int) (n : Nat) : List D := (List.range n).map fun i => .int (lo + (i : Nat))
@[simp] theorem upFrom_len {lo : Int} {n : Nat} : (upFrom lo n).length = n := by unfold upFrom; rw [List.length_map, List.length_range]
theorem mem_upFrom {lo : Int} {n : Nat} {d : D} : d ∈ upFrom lo n ↔ ∃ i : Int, lo ≤ i ∧ i < lo + n ∧ d = .int i := by
  unfold upFrom
  rw [List.mem_map]
  constructor
  · rintro ⟨i, h, rfl⟩; have := List.mem_range.mp h; exact ⟨lo + i, by omega, by omega, rfl⟩
  · rintro ⟨i, h1, h2, rfl⟩; exact ⟨(i - lo).toNat, List.mem_range.mpr (by omega), by rw [show lo + ((i - lo).toNat : Int) = i by omega]⟩
theorem upFrom_get {lo : Int} {n k : Nat} {d : D} (h : (upFrom lo n)[k]? = some d) : k < n ∧ d = .int (lo + (k : Nat)) := by
  unfold upFrom at h
  rw [List.getElem?_map] at h
  by_cases hk : k < n
  · rw [List.getElem?_range hk] at h
    cases h
    exact ⟨hk, rfl⟩
  · rw [List.getElem?_eq_none (by rw [List.length_range]; omega)] at h
    cases h
@[simp] theorem range2_int {i j : Int} (h0 : -4611686018427387904 ≤ i) (h1 : i < 4611686018427387904) (h2 : -4611686018427387904 ≤ j) (h3 : j < 4611686018427387904) : range2 [.int i, .int j] = some (upFrom i (j - i).toNat) := by
  show (if (fits62 i && fits62 j) = true then _ else _) = _
  rw [if_pos (by unfold fits62; rw [Bool.and_eq_true, Bool.and_eq_true, Bool.and_eq_true, decide_eq_true_eq, decide_eq_true_eq, decide_eq_true_eq, decide_eq_true_eq]; exact ⟨⟨h0, h1⟩, h2, h3⟩)]
  rfl
/-! all of a list -/
theorem blsOf_map' {α : Type} {f : α → Bool} {l : List α} : blsOf (l.map fun x => D.bl (f x)) = some (l.map f) := by
  have := blsOf_map (ns := l.map f)
  rw [List.map_map] at this
  exact this
@[simp] theorem allD_map {α : Type} {f : α → Bool} {l : List α} : allD [.lst (l.map fun x => D.bl (f x))] = some (.bl (l.all f)) := by
  show (blsOf _).map _ = _
  rw [blsOf_map']
  simp [List.all_map]
@[simp] theorem anyD_map {α : Type} {f : α → Bool} {l : List α} : anyD [.lst (l.map fun x => D.bl (f x))] = some (.bl (l.any f)) := by
  show (blsOf _).map _ = _
  rw [blsOf_map']
  simp [List.any_map]
/-! kinds -/
@[simp] theorem kb_NoneType_bool : kitB "NoneType" "bool" = some false := by decide +kernel
@[simp] theorem kb_NoneType_int : kitB "NoneType" "int" = some false := by decide +kernel
@[simp] theorem kb_NoneType_str : kitB "NoneType" "str" = some false := by decide +kernel
@[simp] theorem kb_NoneType_tuple : kitB "NoneType" "tuple" = some false := by decide +kernel
@[simp] theorem kb_NoneType_list : kitB "NoneType" "list" = some false := by decide +kernel
@[simp] theorem kb_bool_bool : kitB "bool" "bool" = some true := by decide +kernel
@[simp] theorem kb_bool_int : kitB "bool" "int" = some true := by decide +kernel
@[simp] theorem kb_bool_str : kitB "bool" "str" = some false := by decide +kernel
@[simp] theorem kb_bool_tuple : kitB "bool" "tuple" = some false := by decide +kernel
@[simp] theorem kb_bool_list : kitB "bool" "list" = some false := by decide +kernel
@[simp] theorem kb_int_bool : kitB "int" "bool" = some false := by decide +kernel
@[simp] theorem kb_int_int : kitB "int" "int" = some true := by decide +kernel
@[simp] theorem kb_int_str : kitB "int" "str" = some false := by decide +kernel
@[simp] theorem kb_int_tuple : kitB "int" "tuple" = some false := by decide +kernel
@[simp] theorem kb_int_list : kitB "int" "list" = some false := by decide +kernel
@[simp] theorem kb_str_bool : kitB "str" "bool" = some false := by decide +kernel
@[simp] theorem kb_str_int : kitB "str" "int" = some false := by decide +kernel
@[simp] theorem kb_str_str : kitB "str" "str" = some true := by decide +kernel
@[simp] theorem kb_str_tuple : kitB "str" "tuple" = some false := by decide +kernel
@[simp] theorem kb_str_list : kitB "str" "list" = some false := by decide +kernel
@[simp] theorem kb_tuple_bool : kitB "tuple" "bool" = some false := by decide +kernel
@[simp] theorem kb_tuple_int : kitB "tuple" "int" = some false := by decide +kernel
@[simp] theorem kb_tuple_str : kitB "tuple" "str" = some false := by decide +kernel
@[simp] theorem kb_tuple_tuple : kitB "tuple" "tuple" = some true := by decide +kernel
@[simp] theorem kb_tuple_list : kitB "tuple" "list" = some false := by decide +kernel
@[simp] theorem kb_list_bool : kitB "list" "bool" = some false := by decide +kernel
@[simp] theorem kb_list_int : kitB "list" "int" = some false := by decide +kernel
@[simp] theorem kb_list_str : kitB "list" "str" = some false := by decide +kernel
@[simp] theorem kb_list_tuple : kitB "list" "tuple" = some false := by decide +kernel
@[simp] theorem kb_list_list : kitB "list" "list" = some true := by decide +kernel
@[simp] theorem isi_ap {T : String} {f : M D} : isiM T f s = (f s).bind fun r => (match tyOf r.1 with | some t => (match kitB t T with | some b => ret (.bl b) | none => fun _ => .bad) | none => fun _ => .bad : M D) ⟨s.env, r.2⟩ := id rfl
@[simp] theorem ty_non : tyOf .non = some "NoneType" := id rfl
@[simp] theorem ty_bl {b : Bool} : tyOf (.bl b) = some "bool" := id rfl
@[simp] theorem ty_int {b : Int} : tyOf (.int b) = some "int" := id rfl
@[simp] theorem ty_str {b : Str} : tyOf (.str b) = some "str" := id rfl
@[simp] theorem ty_tup {b : List D} : tyOf (.tup b) = some "tuple" := id rfl
@[simp] theorem ty_lst {b : List D} : tyOf (.lst b) = some "list" := id rfl
end
end PL

namespace PL
open PySem PySem.Spec PyProof.Rows L2
/-! numbers -/
theorem bezout (a b : Nat) : ∃ x y : Int, x * a + y * b = (Nat.gcd a b : Nat) := by
  induction a, b using Nat.gcd.induction with
  | H0 n => exact ⟨0, 1, by simp⟩
  | H1 m n h ih =>
    obtain ⟨x, y, e⟩ := ih
    refine ⟨y - x * (n / m : Nat), x, ?_⟩
    rw [Nat.gcd_rec, ← e]
    have h2 : ((n % m : Nat) : Int) = n - m * (n / m : Nat) := by
      have := Nat.div_add_mod n m
      have : ((m * (n / m) + n % m : Nat) : Int) = n := by rw [this]
      push_cast at this ⊢
      omega
    rw [h2, Int.sub_mul, Int.mul_sub, Int.mul_comm (m : Int), ← Int.mul_assoc]
    omega
theorem bezoutI (a b : Int) (ha : 0 ≤ a) (hb : 0 ≤ b) : ∃ x y : Int, x * a + y * b = gcdI a b := by
  obtain ⟨x, y, e⟩ := bezout a.natAbs b.natAbs
  refine ⟨x, y, ?_⟩
  unfold gcdI
  rw [← e, Int.natAbs_of_nonneg ha, Int.natAbs_of_nonneg hb]
theorem mod0 {a b : Int} : a % b = 0 ↔ ∃ k, a = b * k := ⟨fun h => Int.dvd_of_emod_eq_zero h, fun ⟨k, h⟩ => by rw [h]; exact Int.mul_emod_right _ _⟩
theorem crt_only {a b s t z : Int} (h1 : (z - s) % a = 0) (h2 : (z - t) % b = 0) : (s - t) % gcdI a b = 0 := by
  have d1 : gcdI a b ∣ z - s := Int.dvd_trans (gcd_dl a b) (Int.dvd_of_emod_eq_zero h1)
  have d2 : gcdI a b ∣ z - t := Int.dvd_trans (gcd_dr a b) (Int.dvd_of_emod_eq_zero h2)
  have : gcdI a b ∣ (z - t) - (z - s) := Int.dvd_sub d2 d1
  rw [show (z - t) - (z - s) = s - t by omega] at this
  exact Int.emod_eq_zero_of_dvd this
theorem crt_some {a b s t : Int} (ha : 0 ≤ a) (hb : 0 ≤ b) (h : (s - t) % gcdI a b = 0) : ∃ z, (z - s) % a = 0 ∧ (z - t) % b = 0 := by
  obtain ⟨k, e⟩ := mod0.mp h
  obtain ⟨x, y, e2⟩ := bezoutI a b ha hb
  refine ⟨s - a * (x * k), mod0.mpr ⟨-(x * k), ?_⟩, mod0.mpr ⟨y * k, ?_⟩⟩
  · rw [Int.mul_neg]; omega
  · have : (x * a + y * b) * k = s - t := by rw [e2, e]
    rw [Int.add_mul, Int.mul_right_comm, Int.mul_comm _ a, Int.mul_right_comm, Int.mul_comm _ b] at this
    omega
/-- what comes round comes round from any time on -/
theorem crt_from {a b s t z : Int} (lo : Int) (ha : 0 < a) (hb : 0 < b) (h1 : (z - s) % a = 0) (h2 : (z - t) % b = 0) : ∃ y, lo ≤ y ∧ y < lo + a * b ∧ (y - s) % a = 0 ∧ (y - t) % b = 0 := by
  have hab : 0 < a * b := Int.mul_pos ha hb
  obtain ⟨k1, e1⟩ := mod0.mp h1
  obtain ⟨k2, e2⟩ := mod0.mp h2
  have n0 := Int.emod_nonneg (z - lo) (show a * b ≠ 0 by omega)
  have n1 := Int.emod_lt_of_pos (z - lo) hab
  have n2 := Int.mul_ediv_add_emod (z - lo) (a * b)
  refine ⟨lo + (z - lo) % (a * b), by omega, by omega, mod0.mpr ⟨k1 - b * ((z - lo) / (a * b)), ?_⟩, mod0.mpr ⟨k2 - a * ((z - lo) / (a * b)), ?_⟩⟩
  · rw [Int.mul_sub, ← Int.mul_assoc]; omega
  · rw [Int.mul_sub, ← Int.mul_assoc, Int.mul_comm b a]; omega
/-- what two divide, their least common one divides -/
theorem lcm_dvd {a b x : Int} (ha : 0 < a) (hb : 0 < b) (h1 : x % a = 0) (h2 : x % b = 0) : x % (a * b / gcdI a b) = 0 := by
  have g0 := gcd_pos (a := a) (b := b) ha
  obtain ⟨u, v, e⟩ := bezoutI a b (by omega) (by omega)
  obtain ⟨m, e1⟩ := mod0.mp h1
  obtain ⟨n, e2⟩ := mod0.mp h2
  obtain ⟨b', eb⟩ := gcd_dr a b
  have ew : a * b / gcdI a b = a * b' := by
    have : a * b = gcdI a b * (a * b') := by
      rw [show a * b = a * (gcdI a b * b') by rw [← eb], ← Int.mul_assoc, ← Int.mul_assoc, Int.mul_comm a]
    rw [this]
    exact Int.mul_ediv_cancel_left _ (by omega)
  rw [ew]
  refine mod0.mpr ⟨u * n + v * m, Int.eq_of_mul_eq_mul_left (show gcdI a b ≠ 0 by omega) ?_⟩
  have k1 : gcdI a b * x = (u * a + v * b) * x := by rw [e]
  have k2 : gcdI a b * (a * b' * (u * n + v * m)) = a * b * (u * n + v * m) := by
    rw [← Int.mul_assoc]
    congr 1
    rw [show a * b = a * (gcdI a b * b') by rw [← eb], ← Int.mul_assoc, ← Int.mul_assoc, Int.mul_comm a]
  rw [k1, k2, Int.add_mul, Int.mul_add]
  have t1 : u * a * x = a * b * (u * n) := by
    rw [e2, Int.mul_comm u a, Int.mul_assoc, Int.mul_assoc, Int.mul_left_comm u b n]
  have t2 : v * b * x = a * b * (v * m) := by
    rw [e1, Int.mul_comm v b, Int.mul_assoc, Int.mul_left_comm v a m, ← Int.mul_assoc, Int.mul_comm b a]
  rw [t1, t2]
theorem lcm_eq {a b : Int} (ha : 0 < a) (hb : 0 < b) : a * b / gcdI a b = a * (b / gcdI a b) ∧ a * b / gcdI a b = b * (a / gcdI a b) ∧ 0 < b / gcdI a b ∧ b / gcdI a b ≤ b := by
  have g0 := gcd_pos (a := a) (b := b) ha
  have d1 := gcd_dl a b
  have d2 := gcd_dr a b
  have hle : gcdI a b ≤ b := Int.le_of_dvd hb d2
  refine ⟨Int.mul_ediv_assoc a d2, ?_, ?_, ?_⟩
  · rw [Int.mul_comm a b]; exact Int.mul_ediv_assoc b d1
  · exact Int.ediv_pos_of_pos_of_dvd hb (by omega) d2
  · exact Int.ediv_le_self _ (by omega)
def upStep (i : Int) (n : Nat) (c : Int) : List D := (List.range n).map fun k => .int (i + (k : Nat) * c)
@[simp] theorem upStep_len {i : Int} {n : Nat} {c : Int} : (upStep i n c).length = n := by unfold upStep; rw [List.length_map, List.length_range]
theorem mem_upStep {i : Int} {n : Nat} {c : Int} {d : D} : d ∈ upStep i n c ↔ ∃ k : Nat, k < n ∧ d = .int (i + k * c) := by
  unfold upStep
  rw [List.mem_map]
  constructor
  · rintro ⟨k, h, rfl⟩; exact ⟨k, List.mem_range.mp h, rfl⟩
  · rintro ⟨k, h, rfl⟩; exact ⟨k, List.mem_range.mpr h, rfl⟩
theorem range3_up {i c : Int} {n : Nat} (h0 : -1152921504606846976 < i) (h1 : i < 1152921504606846976) (hc : 0 < c) (hc1 : c < 1073741824) (hn0 : 0 < n) (hn : (n : Int) < 1073741824) : range3 [.int i, .int (i + n * c), .int c] = some (upStep i n c) := by
  have hp : 0 < (n : Int) * c := Int.mul_pos (by omega) hc
  have hq : (n : Int) * c ≤ 1073741824 * 1073741824 := Int.mul_le_mul (by omega) (by omega) (by omega) (by omega)
  have e : Builtin.Range.rangeSize i (i + n * c) c = n := by
    unfold Builtin.Range.rangeSize
    rw [if_pos (show c > 0 from hc), if_pos (by omega)]
    have : i + n * c - i - 1 = c * (n - 1) + (c - 1) := by rw [Int.mul_sub, Int.mul_comm c]; omega
    rw [this, Int.mul_add_ediv_left _ _ (by omega), Int.ediv_eq_zero_of_lt (by omega) (by omega)]
    omega
  have sm : Builtin.Range.small i (i + n * c) c = true := by
    unfold Builtin.Range.small
    rw [e]
    rw [if_pos (show c > 0 from hc)]
    simp only [Builtin.Range.rangeFitsLong, Bool.and_eq_true, Bool.or_eq_true, decide_eq_true_eq, beq_iff_eq]
    exact ⟨⟨⟨⟨by omega, by omega⟩, by omega, by omega⟩, by omega, by omega⟩, Or.inr ⟨by omega, by omega⟩⟩
  unfold range3
  dsimp only
  rw [if_pos (by rw [sm, Bool.and_true, Bool.and_eq_true, decide_eq_true_eq, decide_eq_true_eq]; exact ⟨by omega, by omega⟩), e]
  rfl
end PL

namespace PL
open PySem PySem.Spec PyProof.Rows L2
@[simp] theorem orD_fst {g g' : List D → Option D} {ds : List D} {d : D} (h : g ds = some d) : orD g g' ds = some d := by unfold orD; rw [h]
theorem orD_snd {g g' : List D → Option D} {ds : List D} (h : g ds = none) : orD g g' ds = g' ds := by unfold orD; rw [h]
@[simp] theorem lift1_ap {g : D → Option D} {f : M D} {s : S} : lift1 g f s = (f s).bind fun r => lift (g r.1) ⟨s.env, r.2⟩ := id rfl
@[simp] theorem minA_2 {i j : Int} : minA [.int i, .int j] = some (.int (if j < i then j else i)) := id rfl
@[simp] theorem absD_1 {i : Int} : absD [.int i] = some (.int (if i < 0 then -i else i)) := id rfl
theorem rgD_up {n : Nat} : rgD 0 n = upTo n := by
  unfold rgD upTo
  simp
theorem listRg_int {n : Nat} (h : n ≤ 1000000) : listRgD (.int n) = some (.lst (upTo n)) := by
  show (if okRg 0 n = true then some (D.lst (rgD 0 n)) else none) = _
  rw [if_pos (by unfold okRg; simp only [Bool.and_eq_true, decide_eq_true_eq]; omega), rgD_up]
theorem tupleRg_int {n : Nat} (h : n ≤ 1000000) : tupleRgD (.int n) = some (.tup (upTo n)) := by
  show (if okRg 0 n = true then some (D.tup (rgD 0 n)) else none) = _
  rw [if_pos (by unfold okRg; simp only [Bool.and_eq_true, decide_eq_true_eq]; omega), rgD_up]
/-! order of data -/
@[simp] theorem dLt_int {a b : Int} : dLt (.int a) (.int b) = decide (a < b) := by
  unfold dLt
  rw [toPy, toPy]
  exact PySem.W.dataLt_int a b
theorem dLt_nil_l {b : D} {bs : List D} : dLt (.tup []) (.tup (b :: bs)) = true := by
  unfold dLt
  rw [toPy, toPy, toPys, toPys, PySem.W.dataLt_tuple, PySem.W.toks_all_cons]
  unfold PySem.W.keyToksAll
  rfl
theorem dLt_nil_r {bs : List D} : dLt (.tup bs) (.tup []) = false := by
  unfold dLt
  rw [toPy, toPy, toPys, PySem.W.dataLt_tuple]
  cases bs with
  | nil => rw [toPys]; exact PyProof.Rows.lex_irrefl _
  | cons b bs => rw [toPys, PySem.W.toks_all_cons]; unfold PySem.W.keyToksAll; rfl
theorem dLt_cons_eq {a b : D} {as bs : List D} (h : PySem.W.alike (toPy a) (toPy b) = true) (e : dEq a b = true) : dLt (.tup (a :: as)) (.tup (b :: bs)) = dLt (.tup as) (.tup bs) := by
  unfold dLt
  rw [toPy, toPy, toPys, toPys, PySem.W.dataLt_tuple, PySem.W.dataLt_all_yes h e, toPy, toPy, PySem.W.dataLt_tuple]
theorem dLt_cons_ne {a b : D} {as bs : List D} (h : PySem.W.alike (toPy a) (toPy b) = true) (e : dEq a b = false) : dLt (.tup (a :: as)) (.tup (b :: bs)) = dLt a b := by
  unfold dLt
  rw [toPy, toPy, toPys, toPys, PySem.W.dataLt_tuple, PySem.W.dataLt_all_no h e]
theorem dEq_int {a b : Int} : dEq (.int a) (.int b) = decide (a = b) := by
  unfold dEq
  rw [toPy, toPy]
  simp only [PyData.eqv]
  by_cases h : a = b <;> simp [h]
theorem dLt_int_cons {a b : Int} {as bs : List D} : dLt (.tup (.int a :: as)) (.tup (.int b :: bs)) = if a = b then dLt (.tup as) (.tup bs) else decide (a < b) := by
  have al : PySem.W.alike (toPy (.int a)) (toPy (.int b)) = true := by rw [toPy, toPy]; simp [PySem.W.alike]
  by_cases h : a = b
  · rw [if_pos h, dLt_cons_eq al (by rw [dEq_int]; exact decide_eq_true h)]
  · rw [if_neg h, dLt_cons_ne al (by rw [dEq_int]; exact decide_eq_false h), dLt_int]
/-- lists of ints, by their first difference -/
def ltL : List Int → List Int → Bool
  | _, [] => false
  | [], _ :: _ => true
  | a :: as, b :: bs => if a = b then ltL as bs else decide (a < b)
def intsT (ns : List Int) : D := .tup (ns.map D.int)
theorem dLt_ints : ∀ (as bs : List Int), dLt (intsT as) (intsT bs) = ltL as bs
  | as, [] => by rw [show intsT [] = .tup [] from rfl]; unfold intsT ltL; exact dLt_nil_r
  | [], b :: bs => dLt_nil_l
  | a :: as, b :: bs => by
    show dLt (.tup (.int a :: as.map D.int)) (.tup (.int b :: bs.map D.int)) = _
    rw [dLt_int_cons]
    have := dLt_ints as bs
    unfold intsT at this
    rw [this]
    rfl
theorem ltL_irrefl : ∀ as : List Int, ltL as as = false
  | [] => rfl
  | a :: as => by unfold ltL; rw [if_pos rfl]; exact ltL_irrefl as
theorem ltL_total : ∀ as bs : List Int, ltL as bs = false → ltL bs as = false → as = bs
  | [], [], _, _ => rfl
  | [], _ :: _, h, _ => by cases h
  | _ :: _, [], _, h => by cases h
  | a :: as, b :: bs, h1, h2 => by
    unfold ltL at h1 h2
    by_cases e : a = b
    · rw [if_pos e] at h1
      rw [if_pos e.symm] at h2
      rw [e, ltL_total as bs h1 h2]
    · rw [if_neg e, decide_eq_false_iff_not] at h1
      rw [if_neg fun z => e z.symm, decide_eq_false_iff_not] at h2
      exact absurd (show a = b by omega) e
theorem alike_intsT (as bs : List Int) : PySem.W.alike (toPy (intsT as)) (toPy (intsT bs)) = true := by
  unfold intsT
  rw [toPy, toPy, toPys_map, toPys_map, List.map_map, List.map_map]
  have e : (toPy ∘ D.int) = PyData.int := by funext i; show toPy (.int i) = _; rw [toPy]
  rw [e, PySem.W.alike]
  exact PySem.W.alike_ints as bs
theorem eqv_ints : ∀ as bs : List Int, PyData.eqv (toPy (intsT as)) (toPy (intsT bs)) = decide (as = bs) := by
  have key : ∀ as bs : List Int, PyData.eqvAll (as.map PyData.int) (bs.map PyData.int) = decide (as = bs) := fun as => by
    induction as with
    | nil => intro bs; cases bs <;> simp [PyData.eqvAll]
    | cons a as ih =>
      intro bs
      cases bs with
      | nil => simp [PyData.eqvAll]
      | cons b bs =>
        rw [List.map_cons, List.map_cons, PyData.eqvAll, ih bs]
        simp only [PyData.eqv]
        by_cases h : a = b <;> simp [h]
  intro as bs
  unfold intsT
  rw [toPy, toPy, toPys_map, toPys_map, List.map_map, List.map_map]
  have e : (toPy ∘ D.int) = PyData.int := by funext i; show toPy (.int i) = _; rw [toPy]
  rw [e, PyData.eqv]
  exact key as bs
theorem mnD_least : ∀ (ds : List D) (d : D) (y : D), y ∈ d :: ds → dLt y (mnD d ds) = false
  | [], d, y, h => by
    rw [List.mem_singleton.mp h]
    exact PyProof.Rows.lex_irrefl _
  | e :: ds, d, y, h => by
    show dLt y (mnD (if dLt e d = true then e else d) ds) = false
    have ih := mnD_least ds (if dLt e d = true then e else d)
    by_cases hc : dLt e d = true
    · rw [if_pos hc] at ih ⊢
      rcases List.mem_cons.mp h with rfl | h
      · cases q : dLt y (mnD e ds) with
        | false => rfl
        | true =>
          have := ih e List.mem_cons_self
          have t : dLt e (mnD e ds) = true := PyProof.Rows.lex_trans _ _ _ hc q
          rw [t] at this; cases this
      · exact ih y h
    · rw [if_neg hc] at ih ⊢
      rcases List.mem_cons.mp h with rfl | h
      · exact ih y List.mem_cons_self
      · rcases List.mem_cons.mp h with rfl | h
        · cases q : dLt y (mnD d ds) with
          | false => rfl
          | true =>
            rcases PyProof.Rows.lex_negTrans _ (PySem.W.keyToks (toPy d)) _ q with z | z
            · exact absurd z hc
            · have := ih d List.mem_cons_self
              rw [show dLt d (mnD d ds) = true from z] at this; cases this
        · exact ih y (List.mem_cons_of_mem _ h)
theorem sortD_perm (ds : List D) : (sortD ds).Perm ds := List.mergeSort_perm ds _
theorem mem_sortD {d : D} {ds : List D} : d ∈ sortD ds ↔ d ∈ ds := (sortD_perm ds).mem_iff
/-- a size and its lot -/
def keyT (n : Int) (ns : List Int) : D := .tup [.int n, intsT ns]
theorem alike_keyT (n m : Int) (as bs : List Int) : PySem.W.alike (toPy (keyT n as)) (toPy (keyT m bs)) = true := by
  unfold keyT
  rw [toPy, toPy, toPys, toPys, toPys, toPys, toPys, toPys, PySem.W.alike, PySem.W.alikeAll, PySem.W.alikeAll, alike_intsT as bs, toPy, toPy]
  simp [PySem.W.alike, PySem.W.alikeAll]
theorem dOk_intsT {n : Nat} {ns : List Int} : dOk (n + 1) (intsT ns) = true := dOk_tup fun d hd => by
  obtain ⟨i, _, rfl⟩ := List.mem_map.mp hd
  exact dOk_int
theorem dOk_keyT {n : Nat} {m : Int} {ns : List Int} : dOk (n + 2) (keyT m ns) = true := dOk_tup fun d hd => by
  simp at hd
  rcases hd with rfl | rfl
  · exact dOk_int
  · exact dOk_intsT
theorem alikeOk_keys {l : List (Int × List Int)} : alikeOk (l.map fun p => keyT p.1 p.2) = true := by
  unfold alikeOk
  rw [Bool.and_eq_true]
  refine ⟨dOks_all fun d hd => ?_, List.all_eq_true.mpr fun a ha => List.all_eq_true.mpr fun b hb => ?_⟩
  · obtain ⟨p, _, rfl⟩ := List.mem_map.mp hd
    exact dOk_keyT
  · obtain ⟨p, _, rfl⟩ := List.mem_map.mp ha
    obtain ⟨q, _, rfl⟩ := List.mem_map.mp hb
    exact alike_keyT _ _ _ _
theorem dLt_keyT (n m : Int) (as bs : List Int) : dLt (keyT n as) (keyT m bs) = if n = m then ltL as bs else decide (n < m) := by
  unfold keyT
  rw [dLt_int_cons]
  by_cases h : n = m
  · rw [if_pos h, if_pos h]
    by_cases e : as = bs
    · rw [dLt_cons_eq (alike_intsT as bs) (by show PyData.eqv _ _ = true; rw [eqv_ints]; exact decide_eq_true e), e, ltL_irrefl, dLt_nil_r]
    · rw [dLt_cons_ne (alike_intsT as bs) (by show PyData.eqv _ _ = false; rw [eqv_ints]; exact decide_eq_false e), dLt_ints]
  · rw [if_neg h, if_neg h]
theorem sorted_keys {l : List (Int × List Int)} : sortedA [.lst (l.map fun p => keyT p.1 p.2)] = some (.lst (sortD (l.map fun p => keyT p.1 p.2))) := by
  show (if sortOk _ = true then _ else _) = _
  rw [if_pos]
  unfold sortOk
  rw [alikeOk_keys, Bool.true_and, Bool.or_eq_true]
  refine .inl (List.all_eq_true.mpr fun d hd => ?_)
  obtain ⟨p, _, rfl⟩ := List.mem_map.mp hd
  rfl
theorem intsOf_keys {p : Int × List Int} {l : List (Int × List Int)} : intsOf ((p :: l).map fun p => keyT p.1 p.2) = none := rfl
theorem min_keys {p : Int × List Int} {l : List (Int × List Int)} : ∃ q ∈ p :: l, minA [.lst ((p :: l).map fun p => keyT p.1 p.2)] = some (keyT q.1 q.2) ∧ ∀ r ∈ p :: l, dLt (keyT r.1 r.2) (keyT q.1 q.2) = false := by
  have h : minA [.lst ((p :: l).map fun p => keyT p.1 p.2)] = some (mnD (keyT p.1 p.2) (l.map fun p => keyT p.1 p.2)) := by
    show (if bestOk _ = true then _ else _) = _
    rw [if_pos]
    unfold bestOk
    have := alikeOk_keys (l := p :: l)
    rw [List.map_cons] at this
    rw [this, Bool.true_and]
    exact List.all_eq_true.mpr fun d hd => by
      rcases List.mem_cons.mp hd with rfl | hd
      · rfl
      · obtain ⟨q, _, rfl⟩ := List.mem_map.mp hd; rfl
  have hm := mnD_mem (l.map fun p => keyT p.1 p.2) (keyT p.1 p.2)
  have hl := mnD_least (l.map fun p => keyT p.1 p.2) (keyT p.1 p.2)
  rw [← List.map_cons (f := fun p : Int × List Int => keyT p.1 p.2)] at hm hl
  obtain ⟨q, hq, e⟩ := List.mem_map.mp hm
  refine ⟨q, hq, by rw [h, ← e], fun r hr => ?_⟩
  rw [show keyT q.1 q.2 = _ from e]
  exact hl _ (List.mem_map.mpr ⟨r, hr, rfl⟩)
/-! comprehensions over lists that are read -/
theorem lcL_map {α : Type} {vs : List Nat} {tgt : D → S → Res S} {test : M Bool} {elt : M D} {env : List Slot} {c : List D} (enc : α → D) (p : α → Bool) (g : α → D) : ∀ (xs : List α) (acc : List D),
    (∀ x ∈ xs, ∃ s1, tgt (enc x) ⟨wipeE env vs, c⟩ = .ok s1 ∧ test s1 = .ok (p x, c) ∧ (p x = true → elt ⟨s1.env, c⟩ = .ok (g x, c))) →
    lcL vs tgt test elt (xs.map enc) ⟨env, c⟩ acc = .ok (.lst (acc ++ (xs.filter p).map g), c)
  | [], acc, _ => by show Res.ok (D.lst acc, c) = _; simp
  | d :: ds, acc, h => by
    obtain ⟨s1, e1, e2, e3⟩ := h d List.mem_cons_self
    show (tgt (enc d) ⟨wipeE env vs, c⟩).nox.bind _ = _
    rw [e1, nox_ok', bind_ok, e2, nox_ok', bind_ok]
    cases hp : p d with
    | true =>
      rw [if_pos rfl, e3 hp, nox_ok', bind_ok, lcL_map enc p g ds _ fun e he => h e (List.mem_cons_of_mem _ he)]
      simp [List.filter_cons, hp]
    | false =>
      rw [if_neg Bool.false_ne_true, lcL_map enc p g ds _ fun e he => h e (List.mem_cons_of_mem _ he)]
      simp [List.filter_cons, hp]
theorem lcM_map {α : Type} {vs : List Nat} {src : M (List D)} {tgt : D → S → Res S} {test : M Bool} {elt : M D} {env : List Slot} {c c' : List D} (xs : List α) (enc : α → D) (p : α → Bool) (g : α → D) (hs : src ⟨env, c⟩ = .ok (xs.map enc, c')) (ho : noOwn env vs = true) (hl : xs.length ≤ sizeLine)
    (h : ∀ x ∈ xs, ∃ s1, tgt (enc x) ⟨wipeE env vs, c'⟩ = .ok s1 ∧ test s1 = .ok (p x, c') ∧ (p x = true → elt ⟨s1.env, c'⟩ = .ok (g x, c'))) :
    lcM vs src tgt test elt ⟨env, c⟩ = .ok (.lst ((xs.filter p).map g), c') := by
  rw [lcM_ap, hs, bind_ok, if_pos ⟨ho, by rw [List.length_map]; exact hl⟩]
  exact (lcL_map enc p g xs [] h).trans (by simp)
/-- all of them taken -/
theorem lcM_all {α : Type} {vs : List Nat} {src : M (List D)} {tgt : D → S → Res S} {elt : M D} {env : List Slot} {c c' : List D} (xs : List α) (enc : α → D) (g : α → D) (hs : src ⟨env, c⟩ = .ok (xs.map enc, c')) (ho : noOwn env vs = true) (hl : xs.length ≤ sizeLine)
    (h : ∀ x ∈ xs, ∃ s1, tgt (enc x) ⟨wipeE env vs, c'⟩ = .ok s1 ∧ s1.cup = c' ∧ elt ⟨s1.env, c'⟩ = .ok (g x, c')) :
    lcM vs src tgt (ret true) elt ⟨env, c⟩ = .ok (.lst (xs.map g), c') := by
  have := lcM_map (vs := vs) (src := src) (tgt := tgt) (test := ret true) (elt := elt) xs enc (fun _ => true) g hs ho hl fun x hx => by
    obtain ⟨s1, e1, e2, e3⟩ := h x hx
    exact ⟨s1, e1, by rw [ret_ap, e2], fun _ => e3⟩
  rw [this, List.filter_eq_self.mpr fun _ _ => rfl]
theorem line1000 {n : Nat} (h : n ≤ 1000) : n ≤ sizeLine := Nat.le_trans h (by decide)
theorem line100k {n : Nat} (h : n ≤ 100000) : n ≤ sizeLine := Nat.le_trans h (by decide)
/-! loops while -/
theorem while_find {c : M Bool} {body : S → Res Fl} (st : Int → S) (p : Int → Bool) (hc : ∀ x, c (st x) = .ok (p x, (st x).cup)) (hb : ∀ x, p x = true → body ⟨(st x).env, (st x).cup⟩ = .ok (.nx (st (x + 1)))) : ∀ (k n : Nat) (x : Int), k < n → p (x + k) = false → ∃ y, x ≤ y ∧ y ≤ x + k ∧ p y = false ∧ whileL c body n (st x) = .ok (.nx (st y))
  | k, 0, _, h, _ => absurd h (Nat.not_lt_zero k)
  | k, n + 1, x, h, hp => by
    show ∃ y, _ ∧ _ ∧ _ ∧ (c (st x)).bind _ = _
    rw [hc x, bind_ok]
    cases hx : p x with
    | false => exact ⟨x, Int.le_refl _, by omega, hx, by rw [if_neg Bool.false_ne_true]⟩
    | true =>
      cases k with
      | zero => rw [show x + ((0 : Nat) : Int) = x by omega, hx] at hp; cases hp
      | succ k =>
        rw [if_pos rfl, hb x hx, bind_ok]
        obtain ⟨y, h1, h2, h3, h4⟩ := while_find st p hc hb k n (x + 1) (by omega) (by rw [show x + 1 + (k : Int) = x + ((k + 1 : Nat) : Int) by omega]; exact hp)
        exact ⟨y, by omega, by omega, h3, h4⟩
/-! counting -/
theorem filter_head {N a : Nat} {p : Nat → Bool} (ha : a < N) (hp : p a = true) (hm : ∀ t, p t = true → a ≤ t) : ∃ r, (List.range N).filter p = a :: r := by
  have hmem : a ∈ (List.range N).filter p := List.mem_filter.mpr ⟨List.mem_range.mpr ha, hp⟩
  have hpw : ((List.range N).filter p).Pairwise (· < ·) := List.pairwise_lt_range.filter _
  cases e : (List.range N).filter p with
  | nil => rw [e] at hmem; cases hmem
  | cons h t =>
    rw [e] at hmem hpw
    have h1 : p h = true := (List.mem_filter.mp (show h ∈ (List.range N).filter p by rw [e]; exact List.mem_cons_self)).2
    have h2 := hm h h1
    rcases List.mem_cons.mp hmem with rfl | h3
    · exact ⟨t, rfl⟩
    · have := (List.pairwise_cons.mp hpw).1 a h3
      omega
theorem count_step {a b : Nat} (hb : 0 < b) {p : Nat → Bool} (hp : ∀ t, p t = (decide (a ≤ t) && decide ((t - a) % b = 0))) : ∀ N, ((List.range N).filter p).length = if N ≤ a then 0 else (N - a - 1) / b + 1
  | 0 => by simp
  | N + 1 => by
    rw [List.range_succ, List.filter_append, List.length_append, count_step hb hp N]
    by_cases h1 : N < a
    · have : p N = false := by rw [hp, decide_eq_false (show ¬ a ≤ N by omega)]; rfl
      rw [if_pos (by omega), if_pos (by omega)]
      simp [this]
    · rw [if_neg (show ¬ N + 1 ≤ a by omega)]
      have e1 : p N = decide ((N - a) % b = 0) := by rw [hp, decide_eq_true (show a ≤ N by omega), Bool.true_and]
      by_cases h2 : N = a
      · subst h2
        have : p N = true := by rw [e1]; simp
        rw [if_pos (Nat.le_refl _)]
        simp [this]
      · rw [if_neg (by omega), show N + 1 - a - 1 = (N - a - 1) + 1 by omega]
        rw [Nat.succ_div]
        by_cases h3 : (N - a) % b = 0
        · have : p N = true := by rw [e1]; exact decide_eq_true h3
          rw [if_pos (by rw [show N - a - 1 + 1 = N - a by omega]; exact Nat.dvd_of_mod_eq_zero h3)]
          simp [this]
        · have : p N = false := by rw [e1]; exact decide_eq_false h3
          rw [if_neg (by rw [show N - a - 1 + 1 = N - a by omega]; exact fun z => h3 (Nat.mod_eq_zero_of_dvd z))]
          simp [this]
theorem count_until {u : Nat} {p : Nat → Bool} : ∀ k : Nat, (((List.range (u + k)).filter p).filter fun t => decide (t < u)).length = ((List.range u).filter p).length
  | 0 => by
    congr 1
    refine List.filter_eq_self.mpr fun t ht => ?_
    have := List.mem_range.mp (List.mem_filter.mp ht).1
    exact decide_eq_true this
  | k + 1 => by
    rw [show u + (k + 1) = (u + k) + 1 by omega, List.range_succ, List.filter_append, List.filter_append, List.length_append, count_until k]
    have : ((([u + k] : List Nat).filter p).filter fun t => decide (t < u)) = [] := by
      refine List.filter_eq_nil_iff.mpr fun t ht => ?_
      have := List.mem_singleton.mp (List.mem_filter.mp ht).1
      simp
      omega
    rw [this]
    rfl
theorem addL {xs ys : List D} (h : xs.length + ys.length ≤ 1000) : addD (.lst xs) (.lst ys) = some (.lst (xs ++ ys)) := if_pos (line1000 h)
theorem addT {xs ys : List D} (h : xs.length + ys.length ≤ 1000) : addD (.tup xs) (.tup ys) = some (.tup (xs ++ ys)) := if_pos (line1000 h)
end PL

namespace Lw
open PySem PySem.Spec PyProof.Rows L2 PL
abbrev fuel : Nat := 1000000
def b_is_whole : S → Res Fl := retS (andV (isiM "int" (getv 0)) (andV (notV (isiM "bool" (getv 0))) (chain2 leD leD (getv 1) (getv 0) (getv 2))))
def m_is_whole : Fn := runB 3 b_is_whole
def b_is_tuple_of : S → Res Fl := retS (andV (isiM "tuple" (getv 0)) (chain2 leD leD (getv 1) (callM (lenD) (consA (getv 0) (ret []))) (getv 2)))
def m_is_tuple_of : Fn := runB 3 b_is_tuple_of
def b_is_rising : S → Res Fl := retS (callM (allD) (consA (lcM [1, 2] (srcA zip2 (consA (getv 0) (consA (slcM (getv 0) (partM (ret (.int 1))) (noPart)) (ret [])))) (unpack 2 (setCons (setv 1) (setCons (setv 2) (setNil)))) (ret true) (op2 ltD (getv 1) (getv 2))) (ret [])))
def m_is_rising : Fn := runB 3 b_is_rising
def b_is_at_line : S → Res Fl := retS (andV (op2 geD (getv 1) (op2 ixD (getv 0) (ret (.int 1)))) (op2 eqD (op2 modD (op2 subD (getv 1) (op2 ixD (getv 0) (ret (.int 1)))) (op2 ixD (getv 0) (ret (.int 0)))) (ret (.int 0))))
def m_is_at_line : Fn := runB 2 b_is_at_line
def b_meeting_of : S → Res Fl := seqS (asgS (tupM (consA (ret (.int 0)) (consA (ret (.int 1)) (ret [])))) (unpack 2 (setCons (setv 1) (setCons (setv 2) (setNil))))) (seqS (forS (srcM (getv 0)) (unpack 2 (setCons (setv 3) (setCons (setv 4) (setNil)))) (seqS (asgS (op2 fdivD (op2 mulD (getv 2) (getv 3)) (callM gcdD (consA (getv 2) (consA (getv 3) (ret []))))) (setv 6)) (seqS (asgS (lcM [8] (srcA range3 (consA (getv 1) (consA (op2 addD (getv 1) (getv 6)) (consA (getv 2) (ret []))))) (setv 8) (asB (op2 eqD (op2 modD (op2 subD (getv 8) (getv 4)) (getv 3)) (ret (.int 0)))) (getv 8)) (setv 7)) (seqS (ifS (asB (op2 eqD (getv 7) (lstM (ret [])))) (retS (ret .non)) (skipS)) (par2 1 2 (consA (op2 ixD (getv 7) (ret (.int 0))) (consA (getv 6) (ret [])))))))) (seqS (asgS (callM (orD maxD maxA) (consA (op2 addD (lcM [3, 4] (srcM (getv 0)) (unpack 2 (setCons (setv 3) (setCons (setv 4) (setNil)))) (ret true) (getv 4)) (lstM (consA (ret (.int 0)) (ret [])))) (ret []))) (setv 5)) (retS (tupM (consA (op2 addD (getv 1) (op2 mulD (op2 fdivD (op2 subD (op2 addD (callM (orD maxD maxA) (consA (ret (.int 0)) (consA (op2 subD (getv 5) (getv 1)) (ret [])))) (getv 2)) (ret (.int 1))) (getv 2)) (getv 2))) (consA (getv 2) (ret [])))))))
def m_meeting_of : Fn := runB 9 b_meeting_of
def b_lots_of : S → Res Fl := seqS (asgS (lstM (consA (tupM (ret [])) (ret []))) (setv 1)) (seqS (forS (srcA range1 (consA (getv 0) (ret []))) (setv 2) (asgS (op2 addD (getv 1) (lcM [4] (srcM (getv 1)) (setv 4) (ret true) (op2 addD (getv 4) (tupM (consA (getv 2) (ret [])))))) (setv 1))) (retS (lcM [3, 4] (srcM (callM (orD sortedD sortedA) (consA (lcM [4] (srcM (getv 1)) (setv 4) (ret true) (tupM (consA (callM (lenD) (consA (getv 4) (ret []))) (consA (getv 4) (ret []))))) (ret [])))) (unpack 2 (setCons (setv 3) (setCons (setv 4) (setNil)))) (ret true) (getv 4))))
def m_lots_of : Fn := runB 5 b_lots_of
def b__law_roll : S → Res Fl := seqS (ifS (asB (op2 gtD (ixcM 0 (ret (.int 0))) (ret (.int 0)))) (seqS (asgS (op2 modD (callM intD (consA (ixcM 0 (ret (.int 0))) (ret []))) (getv 1)) (setv 3)) (seqS (setcS 0 (op2 fdivD (ixcM 0 (ret (.int 0))) (getv 1)) (ret (.int 0))) (retS (getv 3)))) (skipS)) (seqS (setcS 0 (op2 modD (callM intD (consA (op2 addD (op2 mulD (ixcM 0 (ret (.int 1))) (ret (.int 31051))) (ret (.int 8039))) (ret []))) (ret (.int 2147483399))) (ret (.int 1))) (seqS (asgS (op2 modD (callM intD (consA (op2 mulD (ixcM 0 (ret (.int 1))) (op2 addD (ixcM 0 (ret (.int 1))) (ret (.int 313)))) (ret []))) (ret (.int 2147483563))) (setv 2)) (retS (op2 modD (callM intD (consA (op2 fdivD (getv 2) (ret (.int 911))) (ret []))) (getv 1)))))
def m__law_roll : Fn := runB 4 b__law_roll
def b__law_subsets : S → Res Fl := seqS (asgS (lstM (consA (tupM (ret [])) (ret []))) (setv 1)) (seqS (forS (srcM (getv 0)) (setv 2) (asgS (op2 addD (getv 1) (lcM [3] (srcM (getv 1)) (setv 3) (ret true) (op2 addD (getv 3) (tupM (consA (getv 2) (ret [])))))) (setv 1))) (retS (getv 1)))
def m__law_subsets : Fn := runB 4 b__law_subsets
def b__law_whole : S → Res Fl := seqS (asgS (ret (.int 1)) (setv 1)) (seqS (whileL (asB (op2 neD (lcM [2, 3] (srcM (getv 0)) (unpack 2 (setCons (setv 2) (setCons (setv 3) (setNil)))) (asB (op2 neD (op2 modD (callM intD (consA (getv 1) (ret []))) (getv 2)) (ret (.int 0)))) (ret (.int 1))) (lstM (ret [])))) (asgS (op2 addD (getv 1) (ret (.int 1))) (setv 1)) fuel) (retS (getv 1)))
def m__law_whole : Fn := runB 4 b__law_whole
def b__law_is_there : S → Res Fl := retS (andV (op2 geD (getv 1) (op2 ixD (getv 0) (ret (.int 1)))) (op2 eqD (op2 modD (callM intD (consA (op2 subD (getv 1) (op2 ixD (getv 0) (ret (.int 1)))) (ret []))) (op2 ixD (getv 0) (ret (.int 0)))) (ret (.int 0))))
def m__law_is_there : Fn := runB 2 b__law_is_there
def b_fits_some : S → Res Fl := retS (andV (fnM m_is_tuple_of (consA (getv 1) (consA (ret (.int 0)) (consA (getv 0) (ret []))))) (andV (callM (allD) (consA (lcM [2] (srcM (getv 1)) (setv 2) (ret true) (fnM m_is_whole (consA (getv 2) (consA (ret (.int 0)) (consA (op2 subD (getv 0) (ret (.int 1))) (ret [])))))) (ret []))) (fnM m_is_rising (consA (getv 1) (ret [])))))
def m_fits_some : Fn := runB 3 b_fits_some
def b_fits_skater : S → Res Fl := retS (andV (fnM m_is_tuple_of (consA (getv 0) (consA (ret (.int 2)) (consA (ret (.int 2)) (ret []))))) (andV (fnM m_is_whole (consA (op2 ixD (getv 0) (ret (.int 0))) (consA (ret (.int 1)) (consA (ret (.int 60)) (ret []))))) (fnM m_is_whole (consA (op2 ixD (getv 0) (ret (.int 1))) (consA (ret (.int 0)) (consA (ret (.int 100)) (ret [])))))))
def m_fits_skater : Fn := runB 1 b_fits_skater
def b__law_some : S → Res Fl := retS (op2 ixD (getv 1) (fnM m__law_roll (consA (getv 0) (consA (callM (lenD) (consA (getv 1) (ret []))) (ret [])))))
def m__law_some : Fn := runB 2 b__law_some
def b_fits_skaters : S → Res Fl := retS (andV (fnM m_is_tuple_of (consA (getv 0) (consA (ret (.int 1)) (consA (ret (.int 5)) (ret []))))) (callM (allD) (consA (lcM [1] (srcM (getv 0)) (setv 1) (ret true) (fnM m_fits_skater (consA (getv 1) (ret [])))) (ret []))))
def m_fits_skaters : Fn := runB 2 b_fits_skaters
def b__law_skaters : S → Res Fl := seqS (par2 3 4 (consA (tupM (ret [])) (consA (fnM m__law_some (consA (getv 0) (consA (lstM (consA (ret (.int 1)) (consA (ret (.int 10)) (consA (ret (.int 101)) (ret []))))) (ret [])))) (ret [])))) (seqS (forS (srcA range1 (consA (op2 addD (ret (.int 1)) (fnM m__law_roll (consA (getv 0) (consA (getv 1) (ret []))))) (ret []))) (setv 5) (asgS (op2 addD (getv 3) (tupM (consA (tupM (consA (op2 addD (ret (.int 1)) (fnM m__law_roll (consA (getv 0) (consA (getv 2) (ret []))))) (consA (fnM m__law_roll (consA (getv 0) (consA (getv 4) (ret [])))) (ret [])))) (ret [])))) (setv 3))) (retS (getv 3)))
def m__law_skaters : Fn := runB 6 b__law_skaters
def b_need_skaters : S → Res Fl := ifS (notT (asB (fnM m_fits_skaters (consA (getv 0) (ret []))))) (badS) (skipS)
def m_need_skaters : Fn := runB 1 b_need_skaters
def b_need_time : S → Res Fl := seqS (exprS (fnM m_need_skaters (consA (getv 0) (ret [])))) (ifS (notT (asB (fnM m_is_whole (consA (getv 1) (consA (ret (.int 0)) (consA (ret (.int 1000000000000000000)) (ret []))))))) (badS) (skipS))
def m_need_time : Fn := runB 2 b_need_time
def b_together : S → Res Fl := seqS (exprS (fnM m_need_skaters (consA (getv 0) (ret [])))) (seqS (ifS (notT (asB (fnM m_fits_some (consA (callM (lenD) (consA (getv 0) (ret []))) (consA (getv 1) (ret [])))))) (badS) (skipS)) (seqS (asgS (fnM m_meeting_of (consA (lcM [3] (srcM (getv 1)) (setv 3) (ret true) (op2 ixD (getv 0) (getv 3))) (ret []))) (setv 2)) (retS (iteM (asB (op2 isnotD (getv 2) (ret .non))) (op2 ixD (getv 2) (ret (.int 0))) (ret .non)))))
def m_together : Fn := runB 4 b_together
def b_most_together : S → Res Fl := seqS (exprS (fnM m_need_skaters (consA (getv 0) (ret [])))) (seqS (asgS (lcM [3] (srcM (fnM m_lots_of (consA (callM (lenD) (consA (getv 0) (ret []))) (ret [])))) (setv 3) (asB (op2 isnotD (fnM m_meeting_of (consA (lcM [4] (srcM (getv 3)) (setv 4) (ret true) (op2 ixD (getv 0) (getv 4))) (ret []))) (ret .non))) (getv 3)) (setv 1)) (seqS (asgS (callM (minA) (consA (lcM [3] (srcM (getv 1)) (setv 3) (ret true) (tupM (consA (negM (callM (lenD) (consA (getv 3) (ret [])))) (consA (getv 3) (ret []))))) (ret []))) (setv 2)) (retS (tupM (consA (negM (op2 ixD (getv 2) (ret (.int 0)))) (consA (op2 ixD (getv 2) (ret (.int 1))) (ret [])))))))
def m_most_together : Fn := runB 5 b_most_together
def b_at_line : S → Res Fl := seqS (exprS (fnM m_need_time (consA (getv 0) (consA (getv 1) (ret []))))) (retS (callM tupleD (consA (lcM [2, 3] (srcA enumD (consA (getv 0) (ret []))) (unpack 2 (setCons (setv 2) (setCons (setv 3) (setNil)))) (asB (fnM m_is_at_line (consA (getv 3) (consA (getv 1) (ret []))))) (getv 2)) (ret []))))
def m_at_line : Fn := runB 4 b_at_line
def b_count_together : S → Res Fl := seqS (exprS (fnM m_need_skaters (consA (getv 0) (ret [])))) (seqS (ifS (notT (asB (fnM m_fits_some (consA (callM (lenD) (consA (getv 0) (ret []))) (consA (getv 1) (ret [])))))) (badS) (skipS)) (seqS (exprS (fnM m_need_time (consA (getv 0) (consA (getv 2) (ret []))))) (seqS (asgS (fnM m_meeting_of (consA (lcM [4] (srcM (getv 1)) (setv 4) (ret true) (op2 ixD (getv 0) (getv 4))) (ret []))) (setv 3)) (seqS (ifS (orT (asB (op2 isD (getv 3) (ret .non))) (asB (op2 leD (getv 2) (op2 ixD (getv 3) (ret (.int 0)))))) (retS (ret (.int 0))) (skipS)) (retS (op2 addD (op2 fdivD (op2 subD (op2 subD (getv 2) (op2 ixD (getv 3) (ret (.int 0)))) (ret (.int 1))) (op2 ixD (getv 3) (ret (.int 1)))) (ret (.int 1))))))))
def m_count_together : Fn := runB 5 b_count_together
def b__law_same (rec : Fn) : S → Res Fl := seqS (ifS (asB (isiM "tuple" (getv 1))) (seqS (ifS (orT (notT (asB (isiM "tuple" (getv 0)))) (asB (op2 neD (callM (lenD) (consA (getv 0) (ret []))) (callM (lenD) (consA (getv 1) (ret [])))))) (retS (ret (.bl false))) (skipS)) (retS (callM (allD) (consA (lcM [2] (srcA range1 (consA (callM (lenD) (consA (getv 1) (ret []))) (ret []))) (setv 2) (ret true) (fnM rec (consA (op2 ixD (getv 0) (getv 2)) (consA (op2 ixD (getv 1) (getv 2)) (ret []))))) (ret []))))) (skipS)) (seqS (ifS (asB (op2 isD (getv 1) (ret .non))) (retS (op2 isD (getv 0) (ret .non))) (skipS)) (seqS (ifS (asB (isiM "bool" (getv 1))) (retS (iteM (asB (getv 1)) (op2 isD (getv 0) (ret (.bl true))) (op2 isD (getv 0) (ret (.bl false))))) (skipS)) (seqS (ifS (asB (isiM "int" (getv 1))) (retS (andV (isiM "int" (getv 0)) (andV (notV (isiM "bool" (getv 0))) (op2 eqD (callM intD (consA (getv 0) (ret []))) (getv 1))))) (skipS)) (retS (andV (isiM "str" (getv 0)) (op2 eqD (callM strD (consA (getv 0) (ret []))) (getv 1)))))))
def m__law_same : Nat → Fn
  | 0 => fun _ _ => .bad
  | n + 1 => runB 3 (b__law_same (m__law_same n))
def b__law_right : S → Res Fl := seqS (asgS (fnM m__law_skaters (consA (getv 0) (consA (ret (.int 4)) (consA (fnM m__law_some (consA (getv 0) (consA (lstM (consA (ret (.int 6)) (consA (ret (.int 9)) (ret [])))) (ret [])))) (ret []))))) (setv 1)) (seqS (par2 2 3 (consA (fnM m__law_whole (consA (getv 1) (ret []))) (consA (callM (orD maxD maxA) (consA (lcM [11, 12] (srcM (getv 1)) (unpack 2 (setCons (setv 11) (setCons (setv 12) (setNil)))) (ret true) (getv 12)) (ret []))) (ret [])))) (seqS (asgS (fnM m__law_subsets (consA (lift1 listRgD (callM (lenD) (consA (getv 1) (ret [])))) (ret []))) (setv 4)) (seqS (asgS (lstM (ret [])) (setv 5)) (seqS (forS (srcM (getv 4)) (setv 6) (seqS (asgS (lstM (consA (ret (.int 0)) (ret []))) (setv 8)) (seqS (ifS (asB (op2 neD (getv 6) (tupM (ret [])))) (asgS (lcM [13] (srcA range1 (consA (op2 addD (getv 3) (getv 2)) (ret []))) (setv 13) (asB (op2 eqD (lcM [14] (srcM (getv 6)) (setv 14) (notT (asB (fnM m__law_is_there (consA (op2 ixD (getv 1) (getv 14)) (consA (getv 13) (ret [])))))) (getv 14)) (lstM (ret [])))) (getv 13)) (setv 8)) (skipS)) (seqS (asgS (op2 addD (getv 5) (iteM (asB (op2 neD (getv 8) (lstM (ret [])))) (lstM (consA (getv 6) (ret []))) (lstM (ret [])))) (setv 5)) (seqS (ifS (notT (asB (fnM (m__law_same 6) (consA (fnM m_together (consA (getv 1) (consA (getv 6) (ret [])))) (consA (iteM (asB (op2 neD (getv 8) (lstM (ret [])))) (op2 ixD (getv 8) (ret (.int 0))) (ret .non)) (ret [])))))) (retS (ret (.bl false))) (skipS)) (seqS (asgS (fnM m__law_roll (consA (getv 0) (consA (op2 addD (getv 3) (getv 2)) (ret [])))) (setv 9)) (seqS (asgS (iteM (asB (op2 neD (getv 6) (tupM (ret [])))) (callM (lenD) (consA (lcM [13] (srcM (getv 8)) (setv 13) (asB (op2 ltD (getv 13) (getv 9))) (getv 13)) (ret []))) (getv 9)) (setv 10)) (seqS (ifS (notT (asB (fnM (m__law_same 6) (consA (fnM m_count_together (consA (getv 1) (consA (getv 6) (consA (getv 9) (ret []))))) (consA (getv 10) (ret [])))))) (retS (ret (.bl false))) (skipS)) (seqS (ifS (andT (asB (op2 neD (getv 8) (lstM (ret [])))) (asB (op2 neD (tupM (consA (fnM m_count_together (consA (getv 1) (consA (getv 6) (consA (op2 ixD (getv 8) (ret (.int 0))) (ret []))))) (consA (fnM m_count_together (consA (getv 1) (consA (getv 6) (consA (op2 addD (op2 ixD (getv 8) (ret (.int 0))) (ret (.int 1))) (ret []))))) (ret [])))) (tupM (consA (ret (.int 0)) (consA (ret (.int 1)) (ret []))))))) (retS (ret (.bl false))) (skipS)) (ifS (andT (asB (op2 neD (getv 8) (lstM (ret [])))) (asB (op2 neD (lcM [14] (srcM (getv 6)) (setv 14) (asB (op2 notinD (getv 14) (fnM m_at_line (consA (getv 1) (consA (op2 ixD (getv 8) (ret (.int 0))) (ret [])))))) (getv 14)) (lstM (ret []))))) (retS (ret (.bl false))) (skipS))))))))))) (seqS (asgS (callM (minA) (consA (lcM [6] (srcM (getv 5)) (setv 6) (ret true) (tupM (consA (negM (callM (lenD) (consA (getv 6) (ret [])))) (consA (getv 6) (ret []))))) (ret []))) (setv 7)) (retS (fnM (m__law_same 6) (consA (fnM m_most_together (consA (getv 1) (ret []))) (consA (tupM (consA (negM (op2 ixD (getv 7) (ret (.int 0)))) (consA (op2 ixD (getv 7) (ret (.int 1))) (ret [])))) (ret []))))))))))
def m__law_right : Fn := runB 15 b__law_right
def b_law : S → Res Fl := seqS (forS (srcA range1 (consA (ret (.int 3)) (ret []))) (setv 2) (ifS (notT (asB (fnM m__law_right (consA (getv 1) (ret []))))) (retS (ret (.bl false))) (skipS))) (seqS (asgS (fnM m__law_some (consA (getv 1) (consA (lstM (consA (tupM (consA (ret (.int 2)) (consA (ret (.int 3)) (ret [])))) (consA (tupM (consA (ret (.int 5)) (consA (ret (.int 7)) (ret [])))) (consA (tupM (consA (ret (.int 8)) (consA (ret (.int 9)) (ret [])))) (consA (tupM (consA (ret (.int 11)) (consA (ret (.int 60)) (ret [])))) (consA (tupM (consA (ret (.int 59)) (consA (ret (.int 60)) (ret [])))) (ret []))))))) (ret [])))) (unpack 2 (setCons (setv 3) (setCons (setv 4) (setNil))))) (seqS (par3 5 6 7 (consA (fnM m__law_roll (consA (getv 1) (consA (ret (.int 101)) (ret [])))) (consA (fnM m__law_roll (consA (getv 1) (consA (ret (.int 101)) (ret [])))) (consA (fnM m__law_roll (consA (getv 1) (consA (op2 powD (ret (.int 10)) (ret (.int 12))) (ret [])))) (ret []))))) (seqS (asgS (tupM (consA (tupM (consA (getv 3) (consA (getv 5) (ret [])))) (consA (tupM (consA (getv 4) (consA (getv 6) (ret [])))) (ret [])))) (setv 8)) (seqS (asgS (fnM m_together (consA (getv 8) (consA (tupM (consA (ret (.int 0)) (consA (ret (.int 1)) (ret [])))) (ret [])))) (setv 9)) (seqS (ifS (orT (asB (op2 neD (op2 modD (callM intD (consA (op2 subD (getv 9) (getv 5)) (ret []))) (getv 3)) (ret (.int 0)))) (orT (asB (op2 neD (op2 modD (callM intD (consA (op2 subD (getv 9) (getv 6)) (ret []))) (getv 4)) (ret (.int 0)))) (notT (asB (chain2 leD ltD (callM (orD maxD maxA) (consA (getv 5) (consA (getv 6) (ret [])))) (getv 9) (op2 addD (callM (orD maxD maxA) (consA (getv 5) (consA (getv 6) (ret [])))) (op2 mulD (getv 3) (getv 4)))))))) (retS (ret (.bl false))) (skipS)) (seqS (asgS (tupM (consA (fnM m_count_together (consA (getv 8) (consA (tupM (consA (ret (.int 0)) (consA (ret (.int 1)) (ret [])))) (consA (op2 addD (getv 9) (op2 mulD (op2 mulD (getv 7) (getv 3)) (getv 4))) (ret []))))) (consA (fnM m_count_together (consA (getv 8) (consA (tupM (consA (ret (.int 0)) (consA (ret (.int 1)) (ret [])))) (consA (op2 addD (op2 addD (getv 9) (op2 mulD (op2 mulD (getv 7) (getv 3)) (getv 4))) (ret (.int 1))) (ret []))))) (consA (fnM m_most_together (consA (getv 8) (ret []))) (ret []))))) (setv 10)) (retS (andV (fnM (m__law_same 6) (consA (getv 10) (consA (tupM (consA (getv 7) (consA (op2 addD (getv 7) (ret (.int 1))) (consA (tupM (consA (ret (.int 2)) (consA (tupM (consA (ret (.int 0)) (consA (ret (.int 1)) (ret [])))) (ret [])))) (ret []))))) (ret [])))) (op2 isD (fnM m_together (consA (tupM (consA (tupM (consA (ret (.int 2)) (consA (ret (.int 0)) (ret [])))) (consA (tupM (consA (ret (.int 4)) (consA (ret (.int 1)) (ret [])))) (ret [])))) (consA (tupM (consA (ret (.int 0)) (consA (ret (.int 1)) (ret [])))) (ret [])))) (ret .non))))))))))
abbrev cX (ns : List Int) : Int := cupX 157 ns
abbrev cY (ns : List Int) : Int := cupY 401 4139 2077504919 233 ns
def start_law (x y : Int) : S := ⟨.un :: .val .cup :: List.replicate 9 .un, [.int x, .int y]⟩
/-- the law, in plain words -/
def Plain : Prop := ∀ ns : List Int, ns.length ≤ 63 → ∃ c, b_law (start_law (cX ns) (cY ns)) = .ok (.rt (.bl true) c)
end Lw

namespace Lw
open PySem PySem.Spec PyProof.Rows L2 PL
def top (i : Nat) : Stmt := PySem.Challenge.pw_icerink_k41_whole_skaters_at_the_line.main.body.getD i (.Pass ⟨0, 0, 0, 0⟩)
abbrev s__law_cup : Stmt := top 27
abbrev s_is_whole : Stmt := top 6
abbrev s_is_tuple_of : Stmt := top 7
abbrev s_is_rising : Stmt := top 8
abbrev s_is_at_line : Stmt := top 19
abbrev s_meeting_of : Stmt := top 20
abbrev s_lots_of : Stmt := top 25
abbrev s__law_roll : Stmt := top 28
abbrev s__law_subsets : Stmt := top 31
abbrev s__law_whole : Stmt := top 33
abbrev s__law_is_there : Stmt := top 34
abbrev s_fits_some : Stmt := top 9
abbrev s_fits_skater : Stmt := top 15
abbrev s__law_some : Stmt := top 29
abbrev s_fits_skaters : Stmt := top 16
abbrev s__law_skaters : Stmt := top 32
abbrev s_need_skaters : Stmt := top 17
abbrev s_need_time : Stmt := top 18
abbrev s_together : Stmt := top 22
abbrev s_most_together : Stmt := top 24
abbrev s_at_line : Stmt := top 21
abbrev s_count_together : Stmt := top 23
abbrev s__law_same : Stmt := top 30
abbrev s__law_right : Stmt := top 35
abbrev s_law : Stmt := top 36
abbrev N_is_whole : List Str := ["value", "low", "high"]
abbrev N_is_tuple_of : List Str := ["value", "low", "high"]
abbrev N_is_rising : List Str := ["value", "one", "other"]
abbrev N_fits_some : List Str := ["many", "value", "one"]
abbrev N_fits_skater : List Str := ["value"]
abbrev N_fits_skaters : List Str := ["value", "one"]
abbrev N_need_skaters : List Str := ["skaters"]
abbrev N_need_time : List Str := ["skaters", "time"]
abbrev N_is_at_line : List Str := ["skater", "time"]
abbrev N_meeting_of : List Str := ["rows", "first", "period", "lap", "late", "last", "wide", "good", "time"]
abbrev N_at_line : List Str := ["skaters", "time", "at", "own"]
abbrev N_together : List Str := ["skaters", "some", "found", "at"]
abbrev N_count_together : List Str := ["skaters", "some", "time", "found", "at"]
abbrev N_most_together : List Str := ["skaters", "good", "best", "some", "at"]
abbrev N_lots_of : List Str := ["many", "found", "at", "size", "some"]
abbrev N__law_cup : List Str := ["script", "cell"]
abbrev N__law_roll : List Str := ["cup", "many", "deep", "found"]
abbrev N__law_some : List Str := ["cup", "things"]
abbrev N__law_same : List Str := ["told", "due", "at"]
abbrev N__law_subsets : List Str := ["things", "found", "thing", "one"]
abbrev N__law_skaters : List Str := ["cup", "most", "lap", "found", "late", "skater"]
abbrev N__law_whole : List Str := ["skaters", "found", "lap", "late"]
abbrev N__law_is_there : List Str := ["skater", "time"]
abbrev N__law_right : List Str := ["cup", "skaters", "whole", "last", "lots", "good", "some", "best", "times", "until", "due", "lap", "late", "time", "at"]
abbrev N_law : List Str := ["script", "cup", "turn", "one", "other", "first", "second", "turns", "pair", "there", "told"]
structure Tx (K : PySem.W.Frag) (mg : Str → Option Value) : Prop where
  d__law_cup : DefF K mg "_law_cup" s__law_cup ["script"]
  d_is_whole : DefF K mg "is_whole" s_is_whole ["value", "low", "high"]
  d_is_tuple_of : DefF K mg "is_tuple_of" s_is_tuple_of ["value", "low", "high"]
  d_is_rising : DefF K mg "is_rising" s_is_rising ["value"]
  d_is_at_line : DefF K mg "is_at_line" s_is_at_line ["skater", "time"]
  d_meeting_of : DefF K mg "meeting_of" s_meeting_of ["rows"]
  d_lots_of : DefF K mg "lots_of" s_lots_of ["many"]
  d__law_roll : DefF K mg "_law_roll" s__law_roll ["cup", "many"]
  d__law_subsets : DefF K mg "_law_subsets" s__law_subsets ["things"]
  d__law_whole : DefF K mg "_law_whole" s__law_whole ["skaters"]
  d__law_is_there : DefF K mg "_law_is_there" s__law_is_there ["skater", "time"]
  d_fits_some : DefF K mg "fits_some" s_fits_some ["many", "value"]
  d_fits_skater : DefF K mg "fits_skater" s_fits_skater ["value"]
  d__law_some : DefF K mg "_law_some" s__law_some ["cup", "things"]
  d_fits_skaters : DefF K mg "fits_skaters" s_fits_skaters ["value"]
  d__law_skaters : DefF K mg "_law_skaters" s__law_skaters ["cup", "most", "lap"]
  d_need_skaters : DefF K mg "need_skaters" s_need_skaters ["skaters"]
  d_need_time : DefF K mg "need_time" s_need_time ["skaters", "time"]
  d_together : DefF K mg "together" s_together ["skaters", "some"]
  d_most_together : DefF K mg "most_together" s_most_together ["skaters"]
  d_at_line : DefF K mg "at_line" s_at_line ["skaters", "time"]
  d_count_together : DefF K mg "count_together" s_count_together ["skaters", "some", "time"]
  d__law_same : DefF K mg "_law_same" s__law_same ["told", "due"]
  d__law_right : DefF K mg "_law_right" s__law_right ["cup"]
  n_abs : mg "abs" = none
  n_all : mg "all" = none
  n_bool : mg "bool" = none
  n_enumerate : mg "enumerate" = none
  n_int : mg "int" = none
  n_isinstance : mg "isinstance" = none
  n_len : mg "len" = none
  n_list : mg "list" = none
  n_max : mg "max" = none
  n_min : mg "min" = none
  n_range : mg "range" = none
  n_sorted : mg "sorted" = none
  n_str : mg "str" = none
  n_tuple : mg "tuple" = none
  n_zip : mg "zip" = none
  g_FAR : ∃ t, mg "FAR" = some (.int 1000000000000000000 t)
  g_LAP : ∃ t, mg "LAP" = some (.int 60 t)
  g_LATE : ∃ t, mg "LATE" = some (.int 100 t)
  g_SKATERS : ∃ t, mg "SKATERS" = some (.int 5 t)
  i_gcd : mg "gcd" = some (.builtin "math.gcd")
theorem bb_abs : bootBuiltins "abs" = some (.builtin "abs") := by decide +kernel
theorem bb_all : bootBuiltins "all" = some (.builtin "all") := by decide +kernel
theorem bb_bool : bootBuiltins "bool" = some (.type "bool") := by decide +kernel
theorem bb_enumerate : bootBuiltins "enumerate" = some (.type "enumerate") := by decide +kernel
theorem bb_int : bootBuiltins "int" = some (.type "int") := by decide +kernel
theorem bb_isinstance : bootBuiltins "isinstance" = some (.builtin "isinstance") := by decide +kernel
theorem bb_len : bootBuiltins "len" = some (.builtin "len") := by decide +kernel
theorem bb_list : bootBuiltins "list" = some (.type "list") := by decide +kernel
theorem bb_max : bootBuiltins "max" = some (.builtin "max") := by decide +kernel
theorem bb_min : bootBuiltins "min" = some (.builtin "min") := by decide +kernel
theorem bb_range : bootBuiltins "range" = some (.type "range") := by decide +kernel
theorem bb_sorted : bootBuiltins "sorted" = some (.builtin "sorted") := by decide +kernel
theorem bb_str : bootBuiltins "str" = some (.type "str") := by decide +kernel
theorem bb_tuple : bootBuiltins "tuple" = some (.type "tuple") := by decide +kernel
theorem bb_zip : bootBuiltins "zip" = some (.type "zip") := by decide +kernel
section
variable {P : Program} {w : World} {K : PySem.W.Frag} {mg : Str → Option Value} {base : Heap}
theorem sc__law_cup : FnScope N__law_cup ["script"] (defScope s__law_cup) := ⟨rfl, rfl, rfl, by decide +kernel, rfl, by decide +kernel, by decide +kernel⟩
theorem sc_is_whole : FnScope N_is_whole ["value", "low", "high"] (defScope s_is_whole) := ⟨rfl, rfl, rfl, by decide +kernel, rfl, by decide +kernel, by decide +kernel⟩
theorem ok_is_whole (T : Tx K mg)  : FnK P w K mg base "is_whole" 3 1 m_is_whole := fnk T.d_is_whole sc_is_whole fun f ca cdv A outer s H E hr =>
  (bv_one (sv_ret (ev_and (ev_isi (ev_var 0) (by exact T.n_isinstance) (by exact T.n_int) bb_int) (ev_and (ev_not (ev_isi (ev_var 0) (by exact T.n_isinstance) (by exact T.n_bool) bb_bool)) (ev_one (ev_chain op_leD op_leD (ev_var 1) (ev_var 0) (ev_var 2)))))) : Bv _ _ _ b_is_whole)
theorem sc_is_tuple_of : FnScope N_is_tuple_of ["value", "low", "high"] (defScope s_is_tuple_of) := ⟨rfl, rfl, rfl, by decide +kernel, rfl, by decide +kernel, by decide +kernel⟩
theorem ok_is_tuple_of (T : Tx K mg)  : FnK P w K mg base "is_tuple_of" 3 1 m_is_tuple_of := fnk T.d_is_tuple_of sc_is_tuple_of fun f ca cdv A outer s H E hr =>
  (bv_one (sv_ret (ev_and (ev_isi (ev_var 0) (by exact T.n_isinstance) (by exact T.n_tuple) bb_tuple) (ev_one (ev_chain op_leD op_leD (ev_var 1) (ev_callB (call_lenD) (by exact T.n_len) bb_len (av_cons (ev_var 0) (av_nil))) (ev_var 2))))) : Bv _ _ _ b_is_tuple_of)
theorem sc_is_rising : FnScope N_is_rising ["value"] (defScope s_is_rising) := ⟨rfl, rfl, rfl, by decide +kernel, rfl, by decide +kernel, by decide +kernel⟩
theorem ok_is_rising (T : Tx K mg)  : FnK P w K mg base "is_rising" 1 1 m_is_rising := fnk T.d_is_rising sc_is_rising fun f ca cdv A outer s H E hr =>
  (bv_one (sv_ret (ev_callB (call_allD) (by exact T.n_all) bb_all (av_cons (ev_lc [("one", 1), ("other", 2)] (defScope s_is_rising) N_is_rising (iv_zip (av_cons (ev_var 0) (av_cons (ev_slc (ev_var 0) (ov_some (ev_int)) (ov_none)) (av_nil))) (by exact T.n_zip)) (gv_tup (gsv_cons (gv_name (i := 1)) (gsv_cons (gv_name (i := 2)) (gsv_nil))) 2) (tsv_nil) (ev_cmp op_ltD (ev_var 1) (ev_var 2))) (av_nil)))) : Bv _ _ _ b_is_rising)
theorem sc_is_at_line : FnScope N_is_at_line ["skater", "time"] (defScope s_is_at_line) := ⟨rfl, rfl, rfl, by decide +kernel, rfl, by decide +kernel, by decide +kernel⟩
theorem ok_is_at_line (T : Tx K mg)  : FnK P w K mg base "is_at_line" 2 1 m_is_at_line := fnk T.d_is_at_line sc_is_at_line fun f ca cdv A outer s H E hr =>
  (bv_one (sv_ret (ev_and (ev_cmp op_geD (ev_var 1) (ev_ix (ev_var 0) (ev_int))) (ev_one (ev_cmp eq_ok (ev_op op_modD (ev_op op_subD (ev_var 1) (ev_ix (ev_var 0) (ev_int))) (ev_ix (ev_var 0) (ev_int))) (ev_int))))) : Bv _ _ _ b_is_at_line)
theorem sc_meeting_of : FnScope N_meeting_of ["rows"] (defScope s_meeting_of) := ⟨rfl, rfl, rfl, by decide +kernel, rfl, by decide +kernel, by decide +kernel⟩
theorem ok_meeting_of (T : Tx K mg)  : FnK P w K mg base "meeting_of" 1 1 m_meeting_of := fnk T.d_meeting_of sc_meeting_of fun f ca cdv A outer s H E hr =>
  (bv_cons (sv_asg (ev_tup (av_cons (ev_int) (av_cons (ev_int) (av_nil)))) (gv_tup (gsv_cons (gv_name (i := 1)) (gsv_cons (gv_name (i := 2)) (gsv_nil))) 2)) (bv_cons (sv_for (iv_seq (ev_var 0)) (gv_tup (gsv_cons (gv_name (i := 3)) (gsv_cons (gv_name (i := 4)) (gsv_nil))) 2) (bv_cons (sv_set (ev_op op_fdivD (ev_op op_mulD (ev_var 2) (ev_var 3)) (ev_callG call_gcdD (by exact T.i_gcd) (av_cons (ev_var 2) (av_cons (ev_var 3) (av_nil)))))) (bv_cons (sv_setLc [("time", 8)] (defScope s_meeting_of) N_meeting_of (iv_range3 (av_cons (ev_var 1) (av_cons (ev_op op_addD (ev_var 1) (ev_var 6)) (av_cons (ev_var 2) (av_nil)))) (by exact T.n_range) rangeSize_nn) (gv_name (i := 8)) (tsv_one (tv_cmp eq_ok (ev_op op_modD (ev_op op_subD (ev_var 8) (ev_var 4)) (ev_var 3)) (ev_int))) (ev_var 8)) (bv_cons (sv_if (tv_cmp eq_ok (ev_var 7) (ev_lst (av_nil))) (bv_one (sv_ret (ev_non))) (bv_nil)) (bv_one (sv_par (av_cons (ev_ix (ev_var 7) (ev_int)) (av_cons (ev_var 6) (av_nil))))))))) (bv_cons (sv_set (ev_callB (call_orD call_maxD call_maxA) (by exact T.n_max) bb_max (av_cons (ev_op op_addD (ev_lc [("lap", 3), ("late", 4)] (defScope s_meeting_of) N_meeting_of (iv_seq (ev_var 0)) (gv_tup (gsv_cons (gv_name (i := 3)) (gsv_cons (gv_name (i := 4)) (gsv_nil))) 2) (tsv_nil) (ev_var 4)) (ev_lst (av_cons (ev_int) (av_nil)))) (av_nil)))) (bv_one (sv_ret (ev_tup (av_cons (ev_op op_addD (ev_var 1) (ev_op op_mulD (ev_op op_fdivD (ev_op op_subD (ev_op op_addD (ev_callB (call_orD call_maxD call_maxA) (by exact T.n_max) bb_max (av_cons (ev_int) (av_cons (ev_op op_subD (ev_var 5) (ev_var 1)) (av_nil)))) (ev_var 2)) (ev_int)) (ev_var 2)) (ev_var 2))) (av_cons (ev_var 2) (av_nil)))))))) : Bv _ _ _ b_meeting_of)
theorem sc_lots_of : FnScope N_lots_of ["many"] (defScope s_lots_of) := ⟨rfl, rfl, rfl, by decide +kernel, rfl, by decide +kernel, by decide +kernel⟩
theorem ok_lots_of (T : Tx K mg)  : FnK P w K mg base "lots_of" 1 1 m_lots_of := fnk T.d_lots_of sc_lots_of fun f ca cdv A outer s H E hr =>
  (bv_cons (sv_set (ev_lst (av_cons (ev_tup (av_nil)) (av_nil)))) (bv_cons (sv_for (iv_range1 (av_cons (ev_var 0) (av_nil)) (by exact T.n_range)) (gv_name (i := 2)) (bv_one (sv_set (ev_op op_addD (ev_var 1) (ev_lc [("some", 4)] (defScope s_lots_of) N_lots_of (iv_seq (ev_var 1)) (gv_name (i := 4)) (tsv_nil) (ev_op op_addD (ev_var 4) (ev_tup (av_cons (ev_var 2) (av_nil))))))))) (bv_one (sv_ret (ev_lc [("size", 3), ("some", 4)] (defScope s_lots_of) N_lots_of (iv_seq (ev_callB (call_orD call_sortedD call_sortedA) (by exact T.n_sorted) bb_sorted (av_cons (ev_lc [("some", 4)] (defScope s_lots_of) N_lots_of (iv_seq (ev_var 1)) (gv_name (i := 4)) (tsv_nil) (ev_tup (av_cons (ev_callB (call_lenD) (by exact T.n_len) bb_len (av_cons (ev_var 4) (av_nil))) (av_cons (ev_var 4) (av_nil))))) (av_nil)))) (gv_tup (gsv_cons (gv_name (i := 3)) (gsv_cons (gv_name (i := 4)) (gsv_nil))) 2) (tsv_nil) (ev_var 4))))) : Bv _ _ _ b_lots_of)
theorem sc__law_roll : FnScope N__law_roll ["cup", "many"] (defScope s__law_roll) := ⟨rfl, rfl, rfl, by decide +kernel, rfl, by decide +kernel, by decide +kernel⟩
theorem ok__law_roll (T : Tx K mg)  : FnK P w K mg base "_law_roll" 2 1 m__law_roll := fnk T.d__law_roll sc__law_roll fun f ca cdv A outer s H E hr =>
  (bv_cons (sv_if (tv_cmp op_gtD (ev_ixc 0 (ev_int)) (ev_int)) (bv_cons (sv_set (ev_op op_modD (ev_callTy call_intD (by exact T.n_int) bb_int (av_cons (ev_ixc 0 (ev_int)) (av_nil))) (ev_var 1))) (bv_cons (sv_setc 0 (ev_op op_fdivD (ev_ixc 0 (ev_int)) (ev_var 1)) (ev_int)) (bv_one (sv_ret (ev_var 3))))) (bv_nil)) (bv_cons (sv_setc 0 (ev_op op_modD (ev_callTy call_intD (by exact T.n_int) bb_int (av_cons (ev_op op_addD (ev_op op_mulD (ev_ixc 0 (ev_int)) (ev_int)) (ev_int)) (av_nil))) (ev_int)) (ev_int)) (bv_cons (sv_set (ev_op op_modD (ev_callTy call_intD (by exact T.n_int) bb_int (av_cons (ev_op op_mulD (ev_ixc 0 (ev_int)) (ev_op op_addD (ev_ixc 0 (ev_int)) (ev_int))) (av_nil))) (ev_int))) (bv_one (sv_ret (ev_op op_modD (ev_callTy call_intD (by exact T.n_int) bb_int (av_cons (ev_op op_fdivD (ev_var 2) (ev_int)) (av_nil))) (ev_var 1)))))) : Bv _ _ _ b__law_roll)
theorem sc__law_subsets : FnScope N__law_subsets ["things"] (defScope s__law_subsets) := ⟨rfl, rfl, rfl, by decide +kernel, rfl, by decide +kernel, by decide +kernel⟩
theorem ok__law_subsets (T : Tx K mg)  : FnK P w K mg base "_law_subsets" 1 1 m__law_subsets := fnk T.d__law_subsets sc__law_subsets fun f ca cdv A outer s H E hr =>
  (bv_cons (sv_set (ev_lst (av_cons (ev_tup (av_nil)) (av_nil)))) (bv_cons (sv_for (iv_seq (ev_var 0)) (gv_name (i := 2)) (bv_one (sv_set (ev_op op_addD (ev_var 1) (ev_lc [("one", 3)] (defScope s__law_subsets) N__law_subsets (iv_seq (ev_var 1)) (gv_name (i := 3)) (tsv_nil) (ev_op op_addD (ev_var 3) (ev_tup (av_cons (ev_var 2) (av_nil))))))))) (bv_one (sv_ret (ev_var 1)))) : Bv _ _ _ b__law_subsets)
theorem sc__law_whole : FnScope N__law_whole ["skaters"] (defScope s__law_whole) := ⟨rfl, rfl, rfl, by decide +kernel, rfl, by decide +kernel, by decide +kernel⟩
theorem ok__law_whole (T : Tx K mg)  : FnK P w K mg base "_law_whole" 1 1 m__law_whole := fnk T.d__law_whole sc__law_whole fun f ca cdv A outer s H E hr =>
  (bv_cons (sv_set (ev_int)) (bv_cons (sv_while fuel (tv_cmp ne_ok (ev_lc [("lap", 2), ("late", 3)] (defScope s__law_whole) N__law_whole (iv_seq (ev_var 0)) (gv_tup (gsv_cons (gv_name (i := 2)) (gsv_cons (gv_name (i := 3)) (gsv_nil))) 2) (tsv_one (tv_cmp ne_ok (ev_op op_modD (ev_callTy call_intD (by exact T.n_int) bb_int (av_cons (ev_var 1) (av_nil))) (ev_var 2)) (ev_int))) (ev_int)) (ev_lst (av_nil))) (bv_one (sv_set (ev_op op_addD (ev_var 1) (ev_int))))) (bv_one (sv_ret (ev_var 1)))) : Bv _ _ _ b__law_whole)
theorem sc__law_is_there : FnScope N__law_is_there ["skater", "time"] (defScope s__law_is_there) := ⟨rfl, rfl, rfl, by decide +kernel, rfl, by decide +kernel, by decide +kernel⟩
theorem ok__law_is_there (T : Tx K mg)  : FnK P w K mg base "_law_is_there" 2 1 m__law_is_there := fnk T.d__law_is_there sc__law_is_there fun f ca cdv A outer s H E hr =>
  (bv_one (sv_ret (ev_and (ev_cmp op_geD (ev_var 1) (ev_ix (ev_var 0) (ev_int))) (ev_one (ev_cmp eq_ok (ev_op op_modD (ev_callTy call_intD (by exact T.n_int) bb_int (av_cons (ev_op op_subD (ev_var 1) (ev_ix (ev_var 0) (ev_int))) (av_nil))) (ev_ix (ev_var 0) (ev_int))) (ev_int))))) : Bv _ _ _ b__law_is_there)
theorem sc_fits_some : FnScope N_fits_some ["many", "value"] (defScope s_fits_some) := ⟨rfl, rfl, rfl, by decide +kernel, rfl, by decide +kernel, by decide +kernel⟩
theorem ok_fits_some (T : Tx K mg) (F_is_whole : FnK P w K mg base "is_whole" 3 1 m_is_whole) (F_is_tuple_of : FnK P w K mg base "is_tuple_of" 3 1 m_is_tuple_of) (F_is_rising : FnK P w K mg base "is_rising" 1 1 m_is_rising) : FnK P w K mg base "fits_some" 2 2 m_fits_some := fnk T.d_fits_some sc_fits_some fun f ca cdv A outer s H E hr =>
  (bv_one (sv_ret (ev_and (ev_call F_is_tuple_of.fv (av_cons (ev_var 1) (av_cons (ev_int) (av_cons (ev_var 0) (av_nil))))) (ev_and (ev_callB (call_allD) (by exact T.n_all) bb_all (av_cons (ev_lc [("one", 2)] (defScope s_fits_some) N_fits_some (iv_seq (ev_var 1)) (gv_name (i := 2)) (tsv_nil) (ev_call F_is_whole.fv (av_cons (ev_var 2) (av_cons (ev_int) (av_cons (ev_op op_subD (ev_var 0) (ev_int)) (av_nil)))))) (av_nil))) (ev_one (ev_call F_is_rising.fv (av_cons (ev_var 1) (av_nil))))))) : Bv _ _ _ b_fits_some)
theorem sc_fits_skater : FnScope N_fits_skater ["value"] (defScope s_fits_skater) := ⟨rfl, rfl, rfl, by decide +kernel, rfl, by decide +kernel, by decide +kernel⟩
theorem ok_fits_skater (T : Tx K mg) (F_is_whole : FnK P w K mg base "is_whole" 3 1 m_is_whole) (F_is_tuple_of : FnK P w K mg base "is_tuple_of" 3 1 m_is_tuple_of) : FnK P w K mg base "fits_skater" 1 2 m_fits_skater := fnk T.d_fits_skater sc_fits_skater fun f ca cdv A outer s H E hr =>
  (bv_one (sv_ret (ev_and (ev_call F_is_tuple_of.fv (av_cons (ev_var 0) (av_cons (ev_int) (av_cons (ev_int) (av_nil))))) (ev_and (ev_call F_is_whole.fv (av_cons (ev_ix (ev_var 0) (ev_int)) (av_cons (ev_int) (av_cons (ev_gint (by exact T.g_LAP)) (av_nil))))) (ev_one (ev_call F_is_whole.fv (av_cons (ev_ix (ev_var 0) (ev_int)) (av_cons (ev_int) (av_cons (ev_gint (by exact T.g_LATE)) (av_nil))))))))) : Bv _ _ _ b_fits_skater)
theorem sc__law_some : FnScope N__law_some ["cup", "things"] (defScope s__law_some) := ⟨rfl, rfl, rfl, by decide +kernel, rfl, by decide +kernel, by decide +kernel⟩
theorem ok__law_some (T : Tx K mg) (F__law_roll : FnK P w K mg base "_law_roll" 2 1 m__law_roll) : FnK P w K mg base "_law_some" 2 2 m__law_some := fnk T.d__law_some sc__law_some fun f ca cdv A outer s H E hr =>
  (bv_one (sv_ret (ev_ix (ev_var 1) (ev_call F__law_roll.fv (av_cons (ev_var 0) (av_cons (ev_callB (call_lenD) (by exact T.n_len) bb_len (av_cons (ev_var 1) (av_nil))) (av_nil)))))) : Bv _ _ _ b__law_some)
theorem sc_fits_skaters : FnScope N_fits_skaters ["value"] (defScope s_fits_skaters) := ⟨rfl, rfl, rfl, by decide +kernel, rfl, by decide +kernel, by decide +kernel⟩
theorem ok_fits_skaters (T : Tx K mg) (F_is_tuple_of : FnK P w K mg base "is_tuple_of" 3 1 m_is_tuple_of) (F_fits_skater : FnK P w K mg base "fits_skater" 1 2 m_fits_skater) : FnK P w K mg base "fits_skaters" 1 3 m_fits_skaters := fnk T.d_fits_skaters sc_fits_skaters fun f ca cdv A outer s H E hr =>
  (bv_one (sv_ret (ev_and (ev_call F_is_tuple_of.fv (av_cons (ev_var 0) (av_cons (ev_int) (av_cons (ev_gint (by exact T.g_SKATERS)) (av_nil))))) (ev_one (ev_callB (call_allD) (by exact T.n_all) bb_all (av_cons (ev_lc [("one", 1)] (defScope s_fits_skaters) N_fits_skaters (iv_seq (ev_var 0)) (gv_name (i := 1)) (tsv_nil) (ev_call F_fits_skater.fv (av_cons (ev_var 1) (av_nil)))) (av_nil)))))) : Bv _ _ _ b_fits_skaters)
theorem sc__law_skaters : FnScope N__law_skaters ["cup", "most", "lap"] (defScope s__law_skaters) := ⟨rfl, rfl, rfl, by decide +kernel, rfl, by decide +kernel, by decide +kernel⟩
theorem ok__law_skaters (T : Tx K mg) (F__law_roll : FnK P w K mg base "_law_roll" 2 1 m__law_roll) (F__law_some : FnK P w K mg base "_law_some" 2 2 m__law_some) : FnK P w K mg base "_law_skaters" 3 3 m__law_skaters := fnk T.d__law_skaters sc__law_skaters fun f ca cdv A outer s H E hr =>
  (bv_cons (sv_par (av_cons (ev_tup (av_nil)) (av_cons (ev_call F__law_some.fv (av_cons (ev_var 0) (av_cons (ev_lst (av_cons (ev_int) (av_cons (ev_int) (av_cons (ev_int) (av_nil))))) (av_nil)))) (av_nil)))) (bv_cons (sv_for (iv_range1 (av_cons (ev_op op_addD (ev_int) (ev_call F__law_roll.fv (av_cons (ev_var 0) (av_cons (ev_var 1) (av_nil))))) (av_nil)) (by exact T.n_range)) (gv_name (i := 5)) (bv_one (sv_set (ev_op op_addD (ev_var 3) (ev_tup (av_cons (ev_tup (av_cons (ev_op op_addD (ev_int) (ev_call F__law_roll.fv (av_cons (ev_var 0) (av_cons (ev_var 2) (av_nil))))) (av_cons (ev_call F__law_roll.fv (av_cons (ev_var 0) (av_cons (ev_var 4) (av_nil)))) (av_nil)))) (av_nil))))))) (bv_one (sv_ret (ev_var 3)))) : Bv _ _ _ b__law_skaters)
theorem sc_need_skaters : FnScope N_need_skaters ["skaters"] (defScope s_need_skaters) := ⟨rfl, rfl, rfl, by decide +kernel, rfl, by decide +kernel, by decide +kernel⟩
theorem ok_need_skaters (T : Tx K mg) (F_fits_skaters : FnK P w K mg base "fits_skaters" 1 3 m_fits_skaters) : FnK P w K mg base "need_skaters" 1 4 m_need_skaters := fnk T.d_need_skaters sc_need_skaters fun f ca cdv A outer s H E hr =>
  (bv_one (sv_if (tv_not (tv_val (ev_call F_fits_skaters.fv (av_cons (ev_var 0) (av_nil))))) (bv_one (sv_never)) (bv_nil)) : Bv _ _ _ b_need_skaters)
theorem sc_need_time : FnScope N_need_time ["skaters", "time"] (defScope s_need_time) := ⟨rfl, rfl, rfl, by decide +kernel, rfl, by decide +kernel, by decide +kernel⟩
theorem ok_need_time (T : Tx K mg) (F_is_whole : FnK P w K mg base "is_whole" 3 1 m_is_whole) (F_need_skaters : FnK P w K mg base "need_skaters" 1 4 m_need_skaters) : FnK P w K mg base "need_time" 2 5 m_need_time := fnk T.d_need_time sc_need_time fun f ca cdv A outer s H E hr =>
  (bv_cons (sv_expr (ev_call F_need_skaters.fv (av_cons (ev_var 0) (av_nil)))) (bv_one (sv_if (tv_not (tv_val (ev_call F_is_whole.fv (av_cons (ev_var 1) (av_cons (ev_int) (av_cons (ev_gint (by exact T.g_FAR)) (av_nil))))))) (bv_one (sv_never)) (bv_nil))) : Bv _ _ _ b_need_time)
theorem sc_together : FnScope N_together ["skaters", "some"] (defScope s_together) := ⟨rfl, rfl, rfl, by decide +kernel, rfl, by decide +kernel, by decide +kernel⟩
theorem ok_together (T : Tx K mg) (F_meeting_of : FnK P w K mg base "meeting_of" 1 1 m_meeting_of) (F_fits_some : FnK P w K mg base "fits_some" 2 2 m_fits_some) (F_need_skaters : FnK P w K mg base "need_skaters" 1 4 m_need_skaters) : FnK P w K mg base "together" 2 5 m_together := fnk T.d_together sc_together fun f ca cdv A outer s H E hr =>
  (bv_cons (sv_expr (ev_call F_need_skaters.fv (av_cons (ev_var 0) (av_nil)))) (bv_cons (sv_if (tv_not (tv_val (ev_call F_fits_some.fv (av_cons (ev_callB (call_lenD) (by exact T.n_len) bb_len (av_cons (ev_var 0) (av_nil))) (av_cons (ev_var 1) (av_nil)))))) (bv_one (sv_never)) (bv_nil)) (bv_cons (sv_set (ev_call F_meeting_of.fv (av_cons (ev_lc [("at", 3)] (defScope s_together) N_together (iv_seq (ev_var 1)) (gv_name (i := 3)) (tsv_nil) (ev_ix (ev_var 0) (ev_var 3))) (av_nil)))) (bv_one (sv_ret (ev_if (tv_cmp op_isnotD (ev_var 2) (ev_non)) (ev_ix (ev_var 2) (ev_int)) (ev_non)))))) : Bv _ _ _ b_together)
theorem sc_most_together : FnScope N_most_together ["skaters"] (defScope s_most_together) := ⟨rfl, rfl, rfl, by decide +kernel, rfl, by decide +kernel, by decide +kernel⟩
theorem ok_most_together (T : Tx K mg) (F_meeting_of : FnK P w K mg base "meeting_of" 1 1 m_meeting_of) (F_lots_of : FnK P w K mg base "lots_of" 1 1 m_lots_of) (F_need_skaters : FnK P w K mg base "need_skaters" 1 4 m_need_skaters) : FnK P w K mg base "most_together" 1 5 m_most_together := fnk T.d_most_together sc_most_together fun f ca cdv A outer s H E hr =>
  (bv_cons (sv_expr (ev_call F_need_skaters.fv (av_cons (ev_var 0) (av_nil)))) (bv_cons (sv_setLc [("some", 3)] (defScope s_most_together) N_most_together (iv_seq (ev_call F_lots_of.fv (av_cons (ev_callB (call_lenD) (by exact T.n_len) bb_len (av_cons (ev_var 0) (av_nil))) (av_nil)))) (gv_name (i := 3)) (tsv_one (tv_cmp op_isnotD (ev_call F_meeting_of.fv (av_cons (ev_lcN [("at", 4)] (defScope s_most_together) N_most_together (iv_seq (ev_var 3)) (gv_name (i := 4)) (tsv_nil) (ev_ix (ev_var 0) (ev_var 4))) (av_nil))) (ev_non))) (ev_var 3)) (bv_cons (sv_set (ev_callB (call_minA) (by exact T.n_min) bb_min (av_cons (ev_lc [("some", 3)] (defScope s_most_together) N_most_together (iv_seq (ev_var 1)) (gv_name (i := 3)) (tsv_nil) (ev_tup (av_cons (ev_neg (ev_callB (call_lenD) (by exact T.n_len) bb_len (av_cons (ev_var 3) (av_nil)))) (av_cons (ev_var 3) (av_nil))))) (av_nil)))) (bv_one (sv_ret (ev_tup (av_cons (ev_neg (ev_ix (ev_var 2) (ev_int))) (av_cons (ev_ix (ev_var 2) (ev_int)) (av_nil)))))))) : Bv _ _ _ b_most_together)
theorem sc_at_line : FnScope N_at_line ["skaters", "time"] (defScope s_at_line) := ⟨rfl, rfl, rfl, by decide +kernel, rfl, by decide +kernel, by decide +kernel⟩
theorem ok_at_line (T : Tx K mg) (F_is_at_line : FnK P w K mg base "is_at_line" 2 1 m_is_at_line) (F_need_time : FnK P w K mg base "need_time" 2 5 m_need_time) : FnK P w K mg base "at_line" 2 6 m_at_line := fnk T.d_at_line sc_at_line fun f ca cdv A outer s H E hr =>
  (bv_cons (sv_expr (ev_call F_need_time.fv (av_cons (ev_var 0) (av_cons (ev_var 1) (av_nil))))) (bv_one (sv_ret (ev_callTy call_tupleD (by exact T.n_tuple) bb_tuple (av_cons (ev_lc [("at", 2), ("own", 3)] (defScope s_at_line) N_at_line (iv_enum (av_cons (ev_var 0) (av_nil)) (by exact T.n_enumerate)) (gv_tup (gsv_cons (gv_name (i := 2)) (gsv_cons (gv_name (i := 3)) (gsv_nil))) 2) (tsv_one (tv_val (ev_call F_is_at_line.fv (av_cons (ev_var 3) (av_cons (ev_var 1) (av_nil)))))) (ev_var 2)) (av_nil))))) : Bv _ _ _ b_at_line)
theorem sc_count_together : FnScope N_count_together ["skaters", "some", "time"] (defScope s_count_together) := ⟨rfl, rfl, rfl, by decide +kernel, rfl, by decide +kernel, by decide +kernel⟩
theorem ok_count_together (T : Tx K mg) (F_meeting_of : FnK P w K mg base "meeting_of" 1 1 m_meeting_of) (F_fits_some : FnK P w K mg base "fits_some" 2 2 m_fits_some) (F_need_skaters : FnK P w K mg base "need_skaters" 1 4 m_need_skaters) (F_need_time : FnK P w K mg base "need_time" 2 5 m_need_time) : FnK P w K mg base "count_together" 3 6 m_count_together := fnk T.d_count_together sc_count_together fun f ca cdv A outer s H E hr =>
  (bv_cons (sv_expr (ev_call F_need_skaters.fv (av_cons (ev_var 0) (av_nil)))) (bv_cons (sv_if (tv_not (tv_val (ev_call F_fits_some.fv (av_cons (ev_callB (call_lenD) (by exact T.n_len) bb_len (av_cons (ev_var 0) (av_nil))) (av_cons (ev_var 1) (av_nil)))))) (bv_one (sv_never)) (bv_nil)) (bv_cons (sv_expr (ev_call F_need_time.fv (av_cons (ev_var 0) (av_cons (ev_var 2) (av_nil))))) (bv_cons (sv_set (ev_call F_meeting_of.fv (av_cons (ev_lc [("at", 4)] (defScope s_count_together) N_count_together (iv_seq (ev_var 1)) (gv_name (i := 4)) (tsv_nil) (ev_ix (ev_var 0) (ev_var 4))) (av_nil)))) (bv_cons (sv_if (tv_w (wv_or (tv_cmp op_isD (ev_var 3) (ev_non)) (wv_or1 (tv_cmp op_leD (ev_var 2) (ev_ix (ev_var 3) (ev_int)))))) (bv_one (sv_ret (ev_int))) (bv_nil)) (bv_one (sv_ret (ev_op op_addD (ev_op op_fdivD (ev_op op_subD (ev_op op_subD (ev_var 2) (ev_ix (ev_var 3) (ev_int))) (ev_int)) (ev_ix (ev_var 3) (ev_int))) (ev_int)))))))) : Bv _ _ _ b_count_together)
theorem sc__law_same : FnScope N__law_same ["told", "due"] (defScope s__law_same) := ⟨rfl, rfl, rfl, by decide +kernel, rfl, by decide +kernel, by decide +kernel⟩
theorem ok__law_same (T : Tx K mg)  : ∀ n, FnK P w K mg base "_law_same" 2 (1 + n) (m__law_same n)
  | 0 => fnk0 T.d__law_same (by decide)
  | n + 1 => by
    have F_rec := ok__law_same T  n
    exact fnk T.d__law_same sc__law_same fun f ca cdv A outer s H E hr => (bv_cons (sv_if (tv_val (ev_isi (ev_var 1) (by exact T.n_isinstance) (by exact T.n_tuple) bb_tuple)) (bv_cons (sv_if (tv_w (wv_or (tv_not (tv_val (ev_isi (ev_var 0) (by exact T.n_isinstance) (by exact T.n_tuple) bb_tuple))) (wv_or1 (tv_cmp ne_ok (ev_callB (call_lenD) (by exact T.n_len) bb_len (av_cons (ev_var 0) (av_nil))) (ev_callB (call_lenD) (by exact T.n_len) bb_len (av_cons (ev_var 1) (av_nil))))))) (bv_one (sv_ret (ev_bl))) (bv_nil)) (bv_one (sv_ret (ev_callB (call_allD) (by exact T.n_all) bb_all (av_cons (ev_lc [("at", 2)] (defScope s__law_same) N__law_same (iv_range1 (av_cons (ev_callB (call_lenD) (by exact T.n_len) bb_len (av_cons (ev_var 1) (av_nil))) (av_nil)) (by exact T.n_range)) (gv_name (i := 2)) (tsv_nil) (ev_call (F_rec.fv (Nat.le_refl _)) (av_cons (ev_ix (ev_var 0) (ev_var 2)) (av_cons (ev_ix (ev_var 1) (ev_var 2)) (av_nil))))) (av_nil)))))) (bv_nil)) (bv_cons (sv_if (tv_cmp op_isD (ev_var 1) (ev_non)) (bv_one (sv_ret (ev_cmp op_isD (ev_var 0) (ev_non)))) (bv_nil)) (bv_cons (sv_if (tv_val (ev_isi (ev_var 1) (by exact T.n_isinstance) (by exact T.n_bool) bb_bool)) (bv_one (sv_ret (ev_if (tv_val (ev_var 1)) (ev_cmp op_isD (ev_var 0) (ev_bl)) (ev_cmp op_isD (ev_var 0) (ev_bl))))) (bv_nil)) (bv_cons (sv_if (tv_val (ev_isi (ev_var 1) (by exact T.n_isinstance) (by exact T.n_int) bb_int)) (bv_one (sv_ret (ev_and (ev_isi (ev_var 0) (by exact T.n_isinstance) (by exact T.n_int) bb_int) (ev_and (ev_not (ev_isi (ev_var 0) (by exact T.n_isinstance) (by exact T.n_bool) bb_bool)) (ev_one (ev_cmp eq_ok (ev_callTy call_intD (by exact T.n_int) bb_int (av_cons (ev_var 0) (av_nil))) (ev_var 1))))))) (bv_nil)) (bv_one (sv_ret (ev_and (ev_isi (ev_var 0) (by exact T.n_isinstance) (by exact T.n_str) bb_str) (ev_one (ev_cmp eq_ok (ev_callTy call_strD (by exact T.n_str) bb_str (av_cons (ev_var 0) (av_nil))) (ev_var 1))))))))) : Bv _ _ _ (b__law_same (m__law_same n)))
theorem sc__law_right : FnScope N__law_right ["cup"] (defScope s__law_right) := ⟨rfl, rfl, rfl, by decide +kernel, rfl, by decide +kernel, by decide +kernel⟩
theorem ok__law_right (T : Tx K mg) (F__law_roll : FnK P w K mg base "_law_roll" 2 1 m__law_roll) (F__law_subsets : FnK P w K mg base "_law_subsets" 1 1 m__law_subsets) (F__law_whole : FnK P w K mg base "_law_whole" 1 1 m__law_whole) (F__law_is_there : FnK P w K mg base "_law_is_there" 2 1 m__law_is_there) (F__law_some : FnK P w K mg base "_law_some" 2 2 m__law_some) (F__law_skaters : FnK P w K mg base "_law_skaters" 3 3 m__law_skaters) (F_together : FnK P w K mg base "together" 2 5 m_together) (F_most_together : FnK P w K mg base "most_together" 1 5 m_most_together) (F_at_line : FnK P w K mg base "at_line" 2 6 m_at_line) (F_count_together : FnK P w K mg base "count_together" 3 6 m_count_together) (F__law_same : FnK P w K mg base "_law_same" 2 7 (m__law_same 6)) : FnK P w K mg base "_law_right" 1 8 m__law_right := fnk T.d__law_right sc__law_right fun f ca cdv A outer s H E hr =>
  (bv_cons (sv_set (ev_call F__law_skaters.fv (av_cons (ev_var 0) (av_cons (ev_int) (av_cons (ev_call F__law_some.fv (av_cons (ev_var 0) (av_cons (ev_lst (av_cons (ev_int) (av_cons (ev_int) (av_nil)))) (av_nil)))) (av_nil)))))) (bv_cons (sv_par (av_cons (ev_call F__law_whole.fv (av_cons (ev_var 1) (av_nil))) (av_cons (ev_callB (call_orD call_maxD call_maxA) (by exact T.n_max) bb_max (av_cons (ev_lc [("lap", 11), ("late", 12)] (defScope s__law_right) N__law_right (iv_seq (ev_var 1)) (gv_tup (gsv_cons (gv_name (i := 11)) (gsv_cons (gv_name (i := 12)) (gsv_nil))) 2) (tsv_nil) (ev_var 12)) (av_nil))) (av_nil)))) (bv_cons (sv_set (ev_call F__law_subsets.fv (av_cons (ev_listRg1 (ev_callB (call_lenD) (by exact T.n_len) bb_len (av_cons (ev_var 1) (av_nil))) (by exact T.n_list) (by exact T.n_range)) (av_nil)))) (bv_cons (sv_set (ev_lst (av_nil))) (bv_cons (sv_for (iv_seq (ev_var 4)) (gv_name (i := 6)) (bv_cons (sv_set (ev_lst (av_cons (ev_int) (av_nil)))) (bv_cons (sv_if (tv_cmp ne_ok (ev_var 6) (ev_tup (av_nil))) (bv_one (sv_set (ev_lc [("time", 13)] (defScope s__law_right) N__law_right (iv_range1 (av_cons (ev_op op_addD (ev_var 3) (ev_var 2)) (av_nil)) (by exact T.n_range)) (gv_name (i := 13)) (tsv_one (tv_cmp eq_ok (ev_lcN [("at", 14)] (defScope s__law_right) N__law_right (iv_seq (ev_var 6)) (gv_name (i := 14)) (tsv_one (tv_not (tv_val (ev_call F__law_is_there.fv (av_cons (ev_ix (ev_var 1) (ev_var 14)) (av_cons (ev_var 13) (av_nil))))))) (ev_var 14)) (ev_lst (av_nil)))) (ev_var 13)))) (bv_nil)) (bv_cons (sv_set (ev_op op_addD (ev_var 5) (ev_if (tv_cmp ne_ok (ev_var 8) (ev_lst (av_nil))) (ev_lst (av_cons (ev_var 6) (av_nil))) (ev_lst (av_nil))))) (bv_cons (sv_if (tv_not (tv_val (ev_call F__law_same.fv (av_cons (ev_call F_together.fv (av_cons (ev_var 1) (av_cons (ev_var 6) (av_nil)))) (av_cons (ev_if (tv_cmp ne_ok (ev_var 8) (ev_lst (av_nil))) (ev_ix (ev_var 8) (ev_int)) (ev_non)) (av_nil)))))) (bv_one (sv_ret (ev_bl))) (bv_nil)) (bv_cons (sv_set (ev_call F__law_roll.fv (av_cons (ev_var 0) (av_cons (ev_op op_addD (ev_var 3) (ev_var 2)) (av_nil))))) (bv_cons (sv_set (ev_if (tv_cmp ne_ok (ev_var 6) (ev_tup (av_nil))) (ev_callB (call_lenD) (by exact T.n_len) bb_len (av_cons (ev_lc [("time", 13)] (defScope s__law_right) N__law_right (iv_seq (ev_var 8)) (gv_name (i := 13)) (tsv_one (tv_cmp op_ltD (ev_var 13) (ev_var 9))) (ev_var 13)) (av_nil))) (ev_var 9))) (bv_cons (sv_if (tv_not (tv_val (ev_call F__law_same.fv (av_cons (ev_call F_count_together.fv (av_cons (ev_var 1) (av_cons (ev_var 6) (av_cons (ev_var 9) (av_nil))))) (av_cons (ev_var 10) (av_nil)))))) (bv_one (sv_ret (ev_bl))) (bv_nil)) (bv_cons (sv_if (tv_w (wv_and (tv_cmp ne_ok (ev_var 8) (ev_lst (av_nil))) (wv_and1 (tv_cmp ne_ok (ev_tup (av_cons (ev_call F_count_together.fv (av_cons (ev_var 1) (av_cons (ev_var 6) (av_cons (ev_ix (ev_var 8) (ev_int)) (av_nil))))) (av_cons (ev_call F_count_together.fv (av_cons (ev_var 1) (av_cons (ev_var 6) (av_cons (ev_op op_addD (ev_ix (ev_var 8) (ev_int)) (ev_int)) (av_nil))))) (av_nil)))) (ev_tup (av_cons (ev_int) (av_cons (ev_int) (av_nil)))))))) (bv_one (sv_ret (ev_bl))) (bv_nil)) (bv_one (sv_if (tv_w (wv_and (tv_cmp ne_ok (ev_var 8) (ev_lst (av_nil))) (wv_and1 (tv_cmp ne_ok (ev_lc [("at", 14)] (defScope s__law_right) N__law_right (iv_seq (ev_var 6)) (gv_name (i := 14)) (tsv_one (tv_cmp notin_ok (ev_var 14) (ev_call F_at_line.fv (av_cons (ev_var 1) (av_cons (ev_ix (ev_var 8) (ev_int)) (av_nil)))) (by with_unfolding_all rfl))) (ev_var 14)) (ev_lst (av_nil)))))) (bv_one (sv_ret (ev_bl))) (bv_nil)))))))))))) (bv_cons (sv_set (ev_callB (call_minA) (by exact T.n_min) bb_min (av_cons (ev_lc [("some", 6)] (defScope s__law_right) N__law_right (iv_seq (ev_var 5)) (gv_name (i := 6)) (tsv_nil) (ev_tup (av_cons (ev_neg (ev_callB (call_lenD) (by exact T.n_len) bb_len (av_cons (ev_var 6) (av_nil)))) (av_cons (ev_var 6) (av_nil))))) (av_nil)))) (bv_one (sv_ret (ev_call F__law_same.fv (av_cons (ev_call F_most_together.fv (av_cons (ev_var 1) (av_nil))) (av_cons (ev_tup (av_cons (ev_neg (ev_ix (ev_var 7) (ev_int))) (av_cons (ev_ix (ev_var 7) (ev_int)) (av_nil)))) (av_nil))))))))))) : Bv _ _ _ b__law_right)
theorem sc_law : FnScope N_law ["script"] (defScope s_law) := ⟨rfl, rfl, rfl, by decide +kernel, rfl, by decide +kernel, by decide +kernel⟩
theorem rest_law (T : Tx K mg) (F__law_roll : FnK P w K mg base "_law_roll" 2 1 m__law_roll) (F__law_some : FnK P w K mg base "_law_some" 2 2 m__law_some) (F_together : FnK P w K mg base "together" 2 5 m_together) (F_most_together : FnK P w K mg base "most_together" 1 5 m_most_together) (F_count_together : FnK P w K mg base "count_together" 3 6 m_count_together) (F__law_same : FnK P w K mg base "_law_same" 2 7 (m__law_same 6)) (F__law_right : FnK P w K mg base "_law_right" 1 8 m__law_right) (f : Addr) (ca : Option Addr) (cdv : Value) (A : Around) (outer : List Env) (s : Shared) (H : Hp) (E : XK) (hr : Room 9 (A.deeper (envOfC "law" (defScope s_law) s.heap.objs.size f cdv))) : Bv (famB P w K mg base N_law "law" (defScope s_law) f cdv A outer s H E (XAof mg) 9 sc_law.nd hr) ca ((defBody s_law).drop 1) b_law :=
  bv_cons (sv_for (iv_range1 (av_cons (ev_int) (av_nil)) (by exact T.n_range)) (gv_name (i := 2)) (bv_one (sv_if (tv_not (tv_val (ev_call F__law_right.fv (av_cons (ev_var 1) (av_nil))))) (bv_one (sv_ret (ev_bl))) (bv_nil)))) (bv_cons (sv_asg (ev_call F__law_some.fv (av_cons (ev_var 1) (av_cons (ev_lst (av_cons (ev_tup (av_cons (ev_int) (av_cons (ev_int) (av_nil)))) (av_cons (ev_tup (av_cons (ev_int) (av_cons (ev_int) (av_nil)))) (av_cons (ev_tup (av_cons (ev_int) (av_cons (ev_int) (av_nil)))) (av_cons (ev_tup (av_cons (ev_int) (av_cons (ev_int) (av_nil)))) (av_cons (ev_tup (av_cons (ev_int) (av_cons (ev_int) (av_nil)))) (av_nil))))))) (av_nil)))) (gv_tup (gsv_cons (gv_name (i := 3)) (gsv_cons (gv_name (i := 4)) (gsv_nil))) 2)) (bv_cons (sv_par3 (av_cons (ev_call F__law_roll.fv (av_cons (ev_var 1) (av_cons (ev_int) (av_nil)))) (av_cons (ev_call F__law_roll.fv (av_cons (ev_var 1) (av_cons (ev_int) (av_nil)))) (av_cons (ev_call F__law_roll.fv (av_cons (ev_var 1) (av_cons (ev_op op_powD (ev_int) (ev_int)) (av_nil)))) (av_nil))))) (bv_cons (sv_set (ev_tup (av_cons (ev_tup (av_cons (ev_var 3) (av_cons (ev_var 5) (av_nil)))) (av_cons (ev_tup (av_cons (ev_var 4) (av_cons (ev_var 6) (av_nil)))) (av_nil))))) (bv_cons (sv_set (ev_call F_together.fv (av_cons (ev_var 8) (av_cons (ev_tup (av_cons (ev_int) (av_cons (ev_int) (av_nil)))) (av_nil))))) (bv_cons (sv_if (tv_w (wv_or (tv_cmp ne_ok (ev_op op_modD (ev_callTy call_intD (by exact T.n_int) bb_int (av_cons (ev_op op_subD (ev_var 9) (ev_var 5)) (av_nil))) (ev_var 3)) (ev_int)) (wv_or (tv_cmp ne_ok (ev_op op_modD (ev_callTy call_intD (by exact T.n_int) bb_int (av_cons (ev_op op_subD (ev_var 9) (ev_var 6)) (av_nil))) (ev_var 4)) (ev_int)) (wv_or1 (tv_not (tv_chain op_leD op_ltD (ev_callB (call_orD call_maxD call_maxA) (by exact T.n_max) bb_max (av_cons (ev_var 5) (av_cons (ev_var 6) (av_nil)))) (ev_var 9) (ev_op op_addD (ev_callB (call_orD call_maxD call_maxA) (by exact T.n_max) bb_max (av_cons (ev_var 5) (av_cons (ev_var 6) (av_nil)))) (ev_op op_mulD (ev_var 3) (ev_var 4))))))))) (bv_one (sv_ret (ev_bl))) (bv_nil)) (bv_cons (sv_set (ev_tup (av_cons (ev_call F_count_together.fv (av_cons (ev_var 8) (av_cons (ev_tup (av_cons (ev_int) (av_cons (ev_int) (av_nil)))) (av_cons (ev_op op_addD (ev_var 9) (ev_op op_mulD (ev_op op_mulD (ev_var 7) (ev_var 3)) (ev_var 4))) (av_nil))))) (av_cons (ev_call F_count_together.fv (av_cons (ev_var 8) (av_cons (ev_tup (av_cons (ev_int) (av_cons (ev_int) (av_nil)))) (av_cons (ev_op op_addD (ev_op op_addD (ev_var 9) (ev_op op_mulD (ev_op op_mulD (ev_var 7) (ev_var 3)) (ev_var 4))) (ev_int)) (av_nil))))) (av_cons (ev_call F_most_together.fv (av_cons (ev_var 8) (av_nil))) (av_nil)))))) (bv_one (sv_ret (ev_and (ev_call F__law_same.fv (av_cons (ev_var 10) (av_cons (ev_tup (av_cons (ev_var 7) (av_cons (ev_op op_addD (ev_var 7) (ev_int)) (av_cons (ev_tup (av_cons (ev_int) (av_cons (ev_tup (av_cons (ev_int) (av_cons (ev_int) (av_nil)))) (av_nil)))) (av_nil))))) (av_nil)))) (ev_one (ev_cmp op_isD (ev_call F_together.fv (av_cons (ev_tup (av_cons (ev_tup (av_cons (ev_int) (av_cons (ev_int) (av_nil)))) (av_cons (ev_tup (av_cons (ev_int) (av_cons (ev_int) (av_nil)))) (av_nil)))) (av_cons (ev_tup (av_cons (ev_int) (av_cons (ev_int) (av_nil)))) (av_nil)))) (ev_non))))))))))))
theorem cup_ok (T : Tx K mg) : ∃ (f : Addr) (fd : FuncData), FnOk P w K mg base (L2.CX P w) 1 f fd ["script"] (spCup K 157 401 4139 2077504919 233) ∧ mg "_law_cup" = some (.ref f) ∧ PySem.W.keepIn K (.ref f) = true ∧ Binds K fd ["script"] [] := by
  obtain ⟨f, fd, F, hm, b⟩ := T.d__law_cup.ex
  refine ⟨f, fd, F.okX sc__law_cup (fun vs H Q E h => ?_) (fun cdv A outer s H vs Q E hr h => ?_), hm, F.kp, b⟩
  · obtain ⟨ad, ns, rfl, _⟩ := h
    rfl
  · obtain ⟨ad, ns, rfl, hS, hl, k⟩ := h
    refine ⟨_, pss_cons (ps_set (i := 1) sc__law_cup.nd rfl (Or.inl rfl) (pe_callB call_abs rfl T.n_abs bb_abs (pa_cons (pe_ix ix_list (pe_op op_cat (pe_callTy call_list_of rfl T.n_list bb_list (pa_cons (pv 0) pa_nil)) (pe_lst (pa_cons pe_int pa_nil))) pe_int (fun _ _ => rfl)) pa_nil)))
      (pss_one (ps_ret (pe_lst (pa_cons (pe_ifExp (pt_cmpR op_ge (pv 1) (pe_op op_pow pe_int pe_int) (nomark _)) (pe_op op_fdiv (pv 1) pe_int) pe_int)
        (pa_cons (pe_op op_add (pe_op op_mod (pe_callTy call_int1 rfl T.n_int bb_int (pa_cons (pe_op op_add (pe_op op_mul (pv 1) pe_int) pe_int) pa_nil)) pe_int) pe_int) pa_nil))))), ?_⟩
    refine ⟨_, rfl, ad, _, rfl, .inl hS, fun l1 n1 => ⟨by show 1 ≤ sizeLine; decide, fun l2 n2 => ?_⟩⟩
    have ne : l1 ≠ l2 := fun z => by rw [← z, upd_same] at n2; cases n2
    refine ⟨l1, l2, _, _, rfl, rfl, by rw [upd_ne ne, upd_same], upd_same, by rw [List.length_map]; show ns.length + 1 ≤ _; rw [sizeLine_eq]; omega, fun l3 n3 => ?_⟩
    refine ⟨l3, _, _, _, rfl, rfl, SqL.of upd_same, head_at ns, _, rfl, ?_⟩
    have sm : Same H (upd (upd (upd H l1 (.lst (ns.map V.int))) l2 (.lst [V.int 0])) l3 (.lst (ns.map V.int ++ [V.int 0]))) := (same_upd n1).trans ((same_upd n2).trans (same_upd n3))
    have fin : ∀ x : Int, x = cupX 157 ns → ∀ (Hx : Hp), Same H Hx → ∀ p, Hx p = none → Q (.ref p) (upd Hx p (.lst [.int x, .int (cupY 401 4139 2077504919 233 ns)])) := fun x e Hx sx p np => by rw [e]; exact k p Hx sx np
    refine ⟨_, rfl, _, _, rfl, rfl, ⟨by decide, by decide, by decide⟩, _, _, rfl, rfl, _, rfl, ?_⟩
    refine ite2 (fun c => ?_) (fun c => ?_)
    · refine ⟨_, rfl, _, _, rfl, rfl, ⟨by decide, by decide⟩, _, rfl, _, _, rfl, rfl, .inr ⟨by decide, by decide⟩, _, _, rfl, rfl, .inl ⟨_, rfl, _, _, rfl, rfl, by show (0 : Int) < _; decide, _, _, rfl, rfl, by show 2 ≤ sizeLine; decide, ?_⟩⟩
      exact fin _ (by unfold cupX; rw [if_pos (show cell0 ns ≥ 10 ^ 18 from of_decide_eq_true c)]; rfl) _ sm
    · refine ⟨_, rfl, _, _, rfl, rfl, .inr ⟨by decide, by decide⟩, _, _, rfl, rfl, .inl ⟨_, rfl, _, _, rfl, rfl, by show (0 : Int) < _; decide, _, _, rfl, rfl, by show 2 ≤ sizeLine; decide, ?_⟩⟩
      exact fin _ (by unfold cupX; rw [if_neg (show ¬ cell0 ns ≥ 10 ^ 18 from fun z => c (decide_eq_true z))]) _ sm
theorem law_ok (T : Tx K mg) (F__law_roll : FnK P w K mg base "_law_roll" 2 1 m__law_roll) (F__law_some : FnK P w K mg base "_law_some" 2 2 m__law_some) (F_together : FnK P w K mg base "together" 2 5 m_together) (F_most_together : FnK P w K mg base "most_together" 1 5 m_most_together) (F_count_together : FnK P w K mg base "count_together" 3 6 m_count_together) (F__law_same : FnK P w K mg base "_law_same" 2 7 (m__law_same 6)) (F__law_right : FnK P w K mg base "_law_right" 1 8 m__law_right) (hp : Plain) {f : Addr} {fd : FuncData} (F : Fun K "law" "law" s_law f fd) : FnOk P w K mg base (L2.CX P w) 10 f fd ["script"] (spLaw K) := by
  refine F.okX sc_law (fun vs H Q E h => ?_) (fun cdv A outer s H vs Q E hr h => ?_)
  · obtain ⟨ad, ns, rfl, _⟩ := h
    rfl
  · obtain ⟨ad, ns, rfl, hS, hl, k⟩ := h
    obtain ⟨fc, fdc, Fc, hmc, kpc, bc⟩ := cup_ok (P := P) (w := w) (base := base) T
    have tk : Takes (cxOf (L2.CX P w) P w K mg base N_law "law" (defScope s_law) f cdv A outer s H E) (fun cls d _ H => E cls d H) := takes_of rfl rfl rfl rfl
    refine ⟨_, pss_cons (ps_set (i := 1) sc_law.nd rfl (by first | exact Or.inl rfl | exact Or.inr rfl) (pe_call Fc (hr.mono (by decide)) rfl hmc kpc bc .nil (passes_call tk fun _ _ _ _ h => h) (pa_cons (pv 0) pa_nil))) (pss_any (st := (defBody s_law).drop 1)), ?_⟩
    refine ⟨_, rfl, ad, ns, rfl, hS, hl, fun p H' sm np => ?_⟩
    obtain ⟨c, e⟩ := hp ns hl
    obtain ⟨t, h1, h2⟩ := rest_law T F__law_roll F__law_some F_together F_most_together F_count_together F__law_same F__law_right f (some p) cdv A outer s H E hr
    refine ⟨t, h1 (), h2 (fun _ => False) (cupW (some p)) _ _ (start_law (cX ns) (cY ns)) _ (srep_law upd_same) ?_⟩
    rw [e]
    exact fun W' v H'' _ rp _ => by rw [show v = .bl true from rp]; exact k H''
end
theorem all_ok (hp : Plain) {P : Program} {w : World} {K : PySem.W.Frag} {mg : Str → Option Value} (T : Tx K mg) (f : Addr) (fd : FuncData) (F : Fun K "law" "law" s_law f fd) (base : Heap) : FnOk P w K mg base (L2.CX P w) 10 f fd ["script"] (spLaw K) := by
  have F_is_whole := ok_is_whole (P := P) (w := w) (base := base) T 
  have F_is_tuple_of := ok_is_tuple_of (P := P) (w := w) (base := base) T 
  have F_is_rising := ok_is_rising (P := P) (w := w) (base := base) T 
  have F_is_at_line := ok_is_at_line (P := P) (w := w) (base := base) T 
  have F_meeting_of := ok_meeting_of (P := P) (w := w) (base := base) T 
  have F_lots_of := ok_lots_of (P := P) (w := w) (base := base) T 
  have F__law_roll := ok__law_roll (P := P) (w := w) (base := base) T 
  have F__law_subsets := ok__law_subsets (P := P) (w := w) (base := base) T 
  have F__law_whole := ok__law_whole (P := P) (w := w) (base := base) T 
  have F__law_is_there := ok__law_is_there (P := P) (w := w) (base := base) T 
  have F_fits_some := ok_fits_some (P := P) (w := w) (base := base) T F_is_whole F_is_tuple_of F_is_rising
  have F_fits_skater := ok_fits_skater (P := P) (w := w) (base := base) T F_is_whole F_is_tuple_of
  have F__law_some := ok__law_some (P := P) (w := w) (base := base) T F__law_roll
  have F_fits_skaters := ok_fits_skaters (P := P) (w := w) (base := base) T F_is_tuple_of F_fits_skater
  have F__law_skaters := ok__law_skaters (P := P) (w := w) (base := base) T F__law_roll F__law_some
  have F_need_skaters := ok_need_skaters (P := P) (w := w) (base := base) T F_fits_skaters
  have F_need_time := ok_need_time (P := P) (w := w) (base := base) T F_is_whole F_need_skaters
  have F_together := ok_together (P := P) (w := w) (base := base) T F_meeting_of F_fits_some F_need_skaters
  have F_most_together := ok_most_together (P := P) (w := w) (base := base) T F_meeting_of F_lots_of F_need_skaters
  have F_at_line := ok_at_line (P := P) (w := w) (base := base) T F_is_at_line F_need_time
  have F_count_together := ok_count_together (P := P) (w := w) (base := base) T F_meeting_of F_fits_some F_need_skaters F_need_time
  have F__law_same := ok__law_same (P := P) (w := w) (base := base) T  6
  have F__law_right := ok__law_right (P := P) (w := w) (base := base) T F__law_roll F__law_subsets F__law_whole F__law_is_there F__law_some F__law_skaters F_together F_most_together F_at_line F_count_together F__law_same
  exact law_ok (P := P) (w := w) (base := base) T F__law_roll F__law_some F_together F_most_together F_count_together F__law_same F__law_right hp F
end Lw

namespace Lw
open PySem PySem.Spec PyProof.Rows L2 PL
def Cup (c : List D) : Prop := ∃ x y : Int, c = [.int x, .int y]
theorem roll_ok {many : Int} {c : List D} (hc : Cup c) (h0 : 0 < many) (h1 : many < 18446744073709551616) : ∃ v c', m__law_roll [.cup, .int many] c = .ok (.int v, c') ∧ Cup c' ∧ 0 ≤ v ∧ v < many := by
  obtain ⟨x, y, rfl⟩ := hc
  by_cases hx : 0 < x
  · refine ⟨x % many, [.int (x / many), .int y], ?_, ⟨_, _, rfl⟩, Int.emod_nonneg _ (by omega), Int.emod_lt_of_pos _ h0⟩
    simp [m__law_roll, runB, b__law_roll, seqS_ap, ixcM, isCup, ixc, hx, h0, h1, setcS, L2.atI, ixN]
  · refine ⟨((y * 31051 + 8039) % 2147483399 * ((y * 31051 + 8039) % 2147483399 + 313)) % 2147483563 / 911 % many, [.int x, .int ((y * 31051 + 8039) % 2147483399)], ?_, ⟨_, _, rfl⟩, Int.emod_nonneg _ (by omega), Int.emod_lt_of_pos _ h0⟩
    have e1 := Int.emod_nonneg (y * 31051 + 8039) (show (2147483399 : Int) ≠ 0 by decide)
    have e2 := Int.emod_lt_of_pos (y * 31051 + 8039) (show (0 : Int) < 2147483399 by decide)
    have m1 : cMul y 31051 = true := by simp [cMul]
    generalize hz : (y * 31051 + 8039) % 2147483399 = z at *
    have m2 : cMul z (z + 313) = true := by simp [cMul]; left; omega
    simp [m__law_roll, runB, b__law_roll, seqS_ap, ixcM, isCup, ixc, hx, h0, h1, setcS, L2.atI, ixN, m1, hz, m2]
theorem some_ok {c : List D} {ds : List D} (hc : Cup c) (h0 : ds ≠ []) (h1 : ds.length < 18446744073709551616) : ∃ d c', m__law_some [.cup, .lst ds] c = .ok (d, c') ∧ Cup c' ∧ d ∈ ds := by
  have : 0 < ds.length := List.length_pos_iff.mpr h0
  obtain ⟨v, c', e, hc', v0, v1⟩ := roll_ok (many := ds.length) hc (by omega) (by omega)
  have hv : v.toNat < ds.length := by omega
  refine ⟨ds[v.toNat], c', ?_, hc', List.getElem_mem _⟩
  have q : L2.atI ds v = some ds[v.toNat] := atI_of v0 (List.getElem?_eq_getElem hv)
  simp [m__law_some, runB, b__law_some, e, q]
def skD (p : Int × Int) : D := .tup [.int p.1, .int p.2]
def sksD (l : List (Int × Int)) : D := .tup (l.map skD)
theorem skaters_ok {c : List D} {most lap : Int} (hc : Cup c) (h0 : 0 < most) (h1 : most < 1000) (h2 : 0 < lap) (h3 : lap < 1000) : Tells m__law_skaters [.cup, .int most, .int lap] c fun v c' => ∃ l, v = sksD l ∧ Cup c' ∧ 1 ≤ l.length ∧ (l.length : Int) ≤ most ∧ ∀ p ∈ l, 1 ≤ p.1 ∧ p.1 ≤ lap ∧ 0 ≤ p.2 ∧ p.2 ≤ 100 := by
  obtain ⟨d, c1, e1, hc1, hd⟩ := some_ok (ds := [.int 1, .int 10, .int 101]) hc (by decide) (by decide)
  obtain ⟨late, rfl, l0, l1⟩ : ∃ late : Int, d = .int late ∧ 0 < late ∧ late ≤ 101 := by
    simp at hd; rcases hd with rfl | rfl | rfl <;> exact ⟨_, rfl, by decide, by decide⟩
  obtain ⟨v, c2, e2, hc2, v0, v1⟩ := roll_ok (many := most) hc1 h0 (by omega)
  refine ok_run [.val .cup, .val (.int most), .val (.int lap), .un, .un, .un] ?_
  unfold b__law_skaters
  refine ok_seqE (by simp [par2, e1]; rfl) ?_
  refine ok_seqN _ (ok_for (fun k s => ∃ (c : List D) (x : Slot) (l : List (Int × Int)), s = ⟨[.val .cup, .val (.int most), .val (.int lap), .val (sksD l), .val (.int late), x], c⟩ ∧ Cup c ∧ l.length = k ∧ ∀ p ∈ l, 1 ≤ p.1 ∧ p.1 ≤ lap ∧ 0 ≤ p.2 ∧ p.2 ≤ 100) (by simp [e2]; rw [range1_int (by omega) (by omega)]; rfl) ⟨c2, .un, [], rfl, hc2, rfl, by simp⟩ ?_ fun s h => h) ?_
  · rintro k d s hd ⟨c, x, l, rfl, hc, hl, hp⟩
    obtain ⟨hk, rfl⟩ := upTo_get hd
    obtain ⟨u, c3, e3, hc3, u0, u1⟩ := roll_ok (many := lap) hc h2 (by omega)
    obtain ⟨w, c4, e4, hc4, w0, w1⟩ := roll_ok (many := late) hc3 l0 (by omega)
    have hs : l.length + 1 ≤ sizeLine := Nat.le_trans (show l.length + 1 ≤ 1000 by omega) (by decide)
    simp [e3, e4, sksD, addD, skD, hs]
    refine ⟨c4, .val (.int k), l ++ [(1 + u, w)], ⟨by simp [skD], rfl⟩, hc4, by simp; omega, ?_⟩
    intro p q hp'
    rcases List.mem_append.mp hp' with z | z
    · exact hp _ z
    · simp at z
      obtain ⟨rfl, rfl⟩ := z
      omega
  · rintro _ ⟨c, x, l, rfl, hc, hl, hp⟩
    simp at hl
    simp
    exact ⟨l, rfl, hc, by omega, by omega, by simpa using hp⟩

/-! values -/
theorem whole_int {v a b : Int} {c : List D} : m_is_whole [.int v, .int a, .int b] c = .ok (.bl (decide (a ≤ v) && decide (v ≤ b)), c) := by
  cases h : decide (a ≤ v) <;> simp [m_is_whole, runB, b_is_whole, chain2, h]
def notInt : D → Bool
  | .non => true
  | .bl _ => true
  | .str _ => true
  | .tup _ => true
  | .lst _ => true
  | _ => false
theorem whole_not {d : D} {a b : Int} {c : List D} (h : notInt d = true) : m_is_whole [d, .int a, .int b] c = .ok (.bl false, c) := by
  cases d <;> simp [notInt] at h <;> simp [m_is_whole, runB, b_is_whole]
theorem tuple_tup {ds : List D} {a b : Int} {c : List D} : m_is_tuple_of [.tup ds, .int a, .int b] c = .ok (.bl (decide (a ≤ ds.length) && decide ((ds.length : Int) ≤ b)), c) := by
  cases h : decide (a ≤ ds.length) <;> simp [m_is_tuple_of, runB, b_is_tuple_of, chain2, h]
def notTup : D → Bool
  | .non => true
  | .bl _ => true
  | .str _ => true
  | .int _ => true
  | .lst _ => true
  | _ => false
theorem tuple_not {d : D} {a b : Int} {c : List D} (h : notTup d = true) : m_is_tuple_of [d, .int a, .int b] c = .ok (.bl false, c) := by
  cases d <;> simp [notTup] at h <;> simp [m_is_tuple_of, runB, b_is_tuple_of]
/-- a good skater -/
def Sk (p : Int × Int) : Prop := 1 ≤ p.1 ∧ p.1 ≤ 60 ∧ 0 ≤ p.2 ∧ p.2 ≤ 100
structure Good (l : List (Int × Int)) : Prop where
  l1 : 1 ≤ l.length
  l5 : l.length ≤ 5
  ok : ∀ p ∈ l, Sk p
theorem skater_fits {p : Int × Int} {c : List D} (h : Sk p) : m_fits_skater [skD p] c = .ok (.bl true, c) := by
  obtain ⟨h1, h2, h3, h4⟩ := h
  simp [m_fits_skater, runB, b_fits_skater, skD, tuple_tup, whole_int, L2.atI, ixN, h1, h2, h3, h4]
theorem skaters_fit {l : List (Int × Int)} {c : List D} (h : Good l) : m_fits_skaters [sksD l] c = .ok (.bl true, c) := by
  have e : lcM [1] (srcM (getv 0)) (setv 1) (ret true) (fnM m_fits_skater (consA (getv 1) (ret []))) ⟨[.val (sksD l), .un], c⟩ = .ok (.lst ((((l.map skD).filter fun _ => true)).map fun _ => .bl true), c) := by
    refine lcM_pure (ds := l.map skD) (c' := c) (fun _ => true) (fun _ => .bl true) (by simp [sksD]) rfl (Nat.le_trans (show _ ≤ 1000 by simp; have := h.l5; omega) (by decide)) fun d hd => ?_
    obtain ⟨p, hp, rfl⟩ := List.mem_map.mp hd
    refine ⟨_, rfl, rfl, fun _ => ?_⟩
    simp [wipeE, skater_fits (h.ok p hp)]
  have e2 : (((l.map skD).filter fun _ => true)).map (fun _ => D.bl true) = (l.map fun p => D.bl ((fun _ => true) p)) := by rw [List.filter_eq_self.mpr fun _ _ => rfl, List.map_map]; rfl
  rw [e2] at e
  have h1 := h.l1
  have h5 := h.l5
  have : m_is_tuple_of [sksD l, .int 1, .int 5] c = .ok (.bl true, c) := by
    simp [sksD, tuple_tup]; omega
  simp only [m_fits_skaters, runB, b_fits_skaters, List.map, List.length, List.replicate, List.append, retS_ap, andV_ap]
  simp [this, e]
theorem need1 {l : List (Int × Int)} {c : List D} (h : Good l) : m_need_skaters [sksD l] c = .ok (.non, c) := by
  simp [m_need_skaters, runB, b_need_skaters, skaters_fit h]
theorem atS {l : List (Int × Int)} {i : Int} {p : Int × Int} (h0 : 0 ≤ i) (h : l[i.toNat]? = some p) : L2.atI (l.map skD) i = some (skD p) := atI_of h0 (by rw [List.getElem?_map, h]; rfl)
end Lw

namespace Lw
open PySem PySem.Spec PyProof.Rows L2 PL
def Meets (l : List (Int × Int)) (z : Int) : Prop := ∀ r ∈ l, (z - r.2) % r.1 = 0
def pInt (f : Int → Bool) : D → Bool
  | .int t => f t
  | _ => false
structure MI (l : List (Int × Int)) (first period : Int) (k : Nat) : Prop where
  f0 : 0 ≤ first
  f1 : first < period
  p1 : period ≤ 60 ^ k
  iff : ∀ z, Meets l z ↔ (z - first) % period = 0
theorem MI.zero : MI [] 0 1 0 := ⟨by decide, by decide, by decide, fun z => by simp [Meets, Int.emod_one]⟩
theorem meets_snoc {l : List (Int × Int)} {r : Int × Int} {z : Int} : Meets (l ++ [r]) z ↔ Meets l z ∧ (z - r.2) % r.1 = 0 := by
  unfold Meets
  constructor
  · exact fun h => ⟨fun q hq => h q (List.mem_append_left _ hq), h r (by simp)⟩
  · rintro ⟨h1, h2⟩ q hq
    rcases List.mem_append.mp hq with z | z
    · exact h1 q z
    · rw [List.mem_singleton.mp z]; exact h2
theorem pow60 {k : Nat} (h : k < 5) : (60 : Int) ^ k ≤ 12960000 := by
  have : k = 0 ∨ k = 1 ∨ k = 2 ∨ k = 3 ∨ k = 4 := by omega
  rcases this with rfl | rfl | rfl | rfl | rfl <;> decide
/-- one more skater -/
theorem MI.more {l : List (Int × Int)} {f p : Int} {k : Nat} {r : Int × Int} (h : MI l f p k) (hr : Sk r) {t : Int} (j : Nat) (hj : (j : Int) < r.1 / gcdI p r.1) (ht : t = f + j * p) (hm : (t - r.2) % r.1 = 0) : MI (l ++ [r]) t (p * r.1 / gcdI p r.1) (k + 1) := by
  have p0 : 0 < p := by have := h.f0; have := h.f1; omega
  have r0 : 0 < r.1 := by have := hr.1; omega
  obtain ⟨w1, w2, w3, w4⟩ := lcm_eq p0 r0
  have hjp : (j : Int) * p ≤ (r.1 / gcdI p r.1 - 1) * p := Int.mul_le_mul_of_nonneg_right (by omega) (by omega)
  have hjp0 : 0 ≤ (j : Int) * p := Int.mul_nonneg (by omega) (by omega)
  rw [Int.sub_mul] at hjp
  refine ⟨by have := h.f0; omega, ?_, ?_, fun z => ?_⟩
  · rw [w1, Int.mul_comm p]
    have := h.f1
    omega
  · rw [w1, Int.pow_succ]
    exact Int.mul_le_mul h.p1 (by have := hr.2.1; omega) (by omega) (by have := h.p1; omega)
  · rw [meets_snoc, h.iff]
    have tf : (t - f) % p = 0 := by rw [ht, show f + j * p - f = j * p by omega]; exact Int.mul_emod_left _ _
    constructor
    · rintro ⟨a, b⟩
      refine lcm_dvd p0 r0 ?_ ?_
      · rw [show z - t = (z - f) - (t - f) by omega, Int.sub_emod, a, tf]; rfl
      · rw [show z - t = (z - r.2) - (t - r.2) by omega, Int.sub_emod, b, hm]; rfl
    · intro a
      obtain ⟨q, e⟩ := mod0.mp a
      obtain ⟨q1, e1⟩ := mod0.mp tf
      obtain ⟨q2, e2⟩ := mod0.mp hm
      constructor
      · refine mod0.mpr ⟨q1 + r.1 / gcdI p r.1 * q, ?_⟩
        rw [Int.mul_add, ← Int.mul_assoc, ← w1]; omega
      · refine mod0.mpr ⟨q2 + p / gcdI p r.1 * q, ?_⟩
        rw [Int.mul_add, ← Int.mul_assoc, ← w2]; omega
/-- where some time is, one of so many is -/
theorem MI.find {l : List (Int × Int)} {f p : Int} {k : Nat} {r : Int × Int} (h : MI l f p k) (hr : Sk r) {z : Int} (hz : Meets (l ++ [r]) z) : ∃ j : Nat, (j : Int) < r.1 / gcdI p r.1 ∧ (f + j * p - r.2) % r.1 = 0 := by
  have p0 : 0 < p := by have := h.f0; have := h.f1; omega
  have r0 : 0 < r.1 := by have := hr.1; omega
  obtain ⟨w1, w2, w3, w4⟩ := lcm_eq p0 r0
  obtain ⟨h1, h2⟩ := meets_snoc.mp hz
  obtain ⟨q, e⟩ := mod0.mp ((h.iff z).mp h1)
  obtain ⟨q2, e2⟩ := mod0.mp h2
  have n0 := Int.emod_nonneg q (show r.1 / gcdI p r.1 ≠ 0 by omega)
  have n1 := Int.emod_lt_of_pos q w3
  have n2 := Int.mul_ediv_add_emod q (r.1 / gcdI p r.1)
  refine ⟨(q % (r.1 / gcdI p r.1)).toNat, by omega, mod0.mpr ⟨q2 - p / gcdI p r.1 * (q / (r.1 / gcdI p r.1)), ?_⟩⟩
  rw [Int.toNat_of_nonneg n0, Int.mul_sub, ← Int.mul_assoc, ← w2, w1, Int.mul_assoc]
  have : q % (r.1 / gcdI p r.1) = q - r.1 / gcdI p r.1 * (q / (r.1 / gcdI p r.1)) := by omega
  rw [this, Int.sub_mul, Int.mul_comm q p, Int.mul_comm _ p]
  omega
def notOwn : Slot → Bool
  | .own _ => false
  | _ => true
def mxI (l : List (Int × Int)) : Int := maxI (l.map (·.2) ++ [0])
theorem mxI_ok (l : List (Int × Int)) : 0 ≤ mxI l ∧ (∀ r ∈ l, r.2 ≤ mxI l) ∧ (mxI l = 0 ∨ ∃ r ∈ l, mxI l = r.2) := by
  unfold mxI
  cases e : l.map (·.2) ++ [0] with
  | nil => simp at e
  | cons n ns =>
    obtain ⟨h1, h2, h3⟩ := foldl_max ns n
    have hall : ∀ y ∈ l.map (·.2) ++ [(0 : Int)], y ≤ maxI (n :: ns) := by
      rw [e]
      intro y hy
      rcases List.mem_cons.mp hy with rfl | hy
      · exact h2
      · exact h3 y hy
    have hin : maxI (n :: ns) ∈ l.map (·.2) ++ [(0 : Int)] := by
      rw [e]
      rcases h1 with h1 | h1
      · exact List.mem_cons.mpr (.inl h1)
      · exact List.mem_cons.mpr (.inr h1)
    refine ⟨hall 0 (by simp), fun r hr => hall r.2 (List.mem_append_left _ (List.mem_map.mpr ⟨r, hr, rfl⟩)), ?_⟩
    rcases List.mem_append.mp hin with z | z
    · obtain ⟨r, hr, e⟩ := List.mem_map.mp z
      exact .inr ⟨r, hr, e.symm⟩
    · exact .inl (by simpa using z)
theorem maxD_lst {ns : List Int} (h : ns ≠ []) : maxD [.lst (ns.map D.int)] = some (.int (maxI ns)) := by
  show (intsOf _).bind _ = _
  rw [intsOf_map]
  simp [h]
/-- the first meeting, if any -/
def MeetR (l : List (Int × Int)) (v : D) : Prop := (v = .non ∧ ¬ ∃ z, Meets l z) ∨ ∃ a b : Int, v = .tup [.int a, .int b] ∧ Meets l a ∧ 0 ≤ a ∧ 0 < b ∧ b ≤ 777600000 ∧ (∀ z, Meets l z ↔ (z - a) % b = 0) ∧ (∀ r ∈ l, r.2 ≤ a) ∧ ∀ z, 0 ≤ z → Meets l z → (∀ r ∈ l, r.2 ≤ z) → a ≤ z
theorem meeting_ok {l : List (Int × Int)} {c : List D} (hl : l.length ≤ 5) (hs : ∀ r ∈ l, Sk r) : Tells m_meeting_of [.lst (l.map skD)] c fun v c' => c' = c ∧ MeetR l v := by
  refine ok_run [.val (.lst (l.map skD)), .un, .un, .un, .un, .un, .un, .un, .un] ?_
  unfold b_meeting_of
  refine ok_seqE (by simp; rfl) ?_
  refine ok_seqN _ (ok_forT (fun k s => ∃ (x3 x4 x6 x7 : Slot) (f p : Int), s = ⟨[.val (.lst (l.map skD)), .val (.int f), .val (.int p), x3, x4, .un, x6, x7, .un], c⟩ ∧ MI (l.take k) f p k ∧ notOwn x3 = true ∧ notOwn x4 = true) (by simp; rfl) ⟨.un, .un, .un, .un, 0, 1, rfl, MI.zero, rfl, rfl⟩ ?_ fun s h => h) ?_
  · rintro k d s hd ⟨x3, x4, x6, x7, f, p, rfl, hI, n3, n4⟩
    rw [List.getElem?_map] at hd
    cases hr : l[k]? with
    | none => rw [hr] at hd; cases hd
    | some r =>
    rw [hr] at hd
    cases hd
    have hk : k < l.length := (List.getElem?_eq_some_iff.mp hr).1
    have hsk := hs r (List.mem_of_getElem? hr)
    have ht : l.take (k + 1) = l.take k ++ [r] := by rw [List.take_succ, hr]; rfl
    have p0 : 0 < p := by have := hI.f0; have := hI.f1; omega
    have r0 : 0 < r.1 := by have := hsk.1; omega
    have pb : p ≤ 12960000 := Int.le_trans hI.p1 (pow60 (by omega))
    have g0 := gcd_pos (a := p) (b := r.1) p0
    have gp := gcd_le (a := p) (b := r.1) p0
    obtain ⟨w1, w2, w3, w4⟩ := lcm_eq p0 r0
    have hm : cMul p r.1 = true := by have := hsk.2.1; simp [cMul]; right; omega
    have hn : ((r.1 / gcdI p r.1).toNat : Int) = r.1 / gcdI p r.1 := by omega
    have hR : range3 [.int f, .int (f + p * r.1 / gcdI p r.1), .int p] = some (upStep f (r.1 / gcdI p r.1).toNat p) := by
      rw [w1, Int.mul_comm p, ← hn]
      exact range3_up (by have := hI.f0; omega) (by have := hI.f1; omega) p0 (by omega) (by omega) (by have := hsk.2.1; omega)
    have hG : ∀ y6 y7 : Slot, lcM [8] (srcA range3 (consA (getv 1) (consA (op2 addD (getv 1) (getv 6)) (consA (getv 2) (ret []))))) (setv 8) (asB (op2 eqD (op2 modD (op2 subD (getv 8) (getv 4)) (getv 3)) (ret (.int 0)))) (getv 8)
        ⟨[.val (.lst (l.map skD)), .val (.int f), .val (.int p), .val (.int r.1), .val (.int r.2), .un, .val (.int (p * r.1 / gcdI p r.1)), y7, .un], c⟩ = .ok (.lst (((upStep f (r.1 / gcdI p r.1).toNat p).filter (pInt fun t => decide ((t - r.2) % r.1 = 0))).map id), c) := fun y6 y7 => by
      refine lcM_pure (ds := upStep f (r.1 / gcdI p r.1).toNat p) (c' := c) _ _ (by simp [hR]) rfl (Nat.le_trans (show _ ≤ 1000 by rw [upStep_len]; have := hsk.2.1; omega) (by decide)) fun d hd => ?_
      obtain ⟨j, hj, rfl⟩ := mem_upStep.mp hd
      refine ⟨_, rfl, ?_, fun _ => ?_⟩
      · simp [wipeE, r0, pInt]
      · simp [wipeE]
    rw [List.map_id] at hG
    simp only [skD, PL.unpack, List.length, if_true, setCons_ap, setNil_ap, setv_ap, bind_ok, List.set, okr_ok]
    refine ok_seqE (by simp [hm, g0, show gcdI p r.1 < 18446744073709551616 by omega]; rfl) ?_
    refine ok_seqE (by rw [asgS_ap, hG .un]; simp; rfl) ?_
    have hok : dOk 60 (.lst ((upStep f (r.1 / gcdI p r.1).toNat p).filter (pInt fun t => decide ((t - r.2) % r.1 = 0)))) = true := dOk_lst fun d hd => by
      obtain ⟨j, _, rfl⟩ := mem_upStep.mp (List.mem_filter.mp hd).1
      simp
    cases hF : (upStep f (r.1 / gcdI p r.1).toNat p).filter (pInt fun t => decide ((t - r.2) % r.1 = 0)) with
    | nil =>
      rw [hF] at hok
      refine ok_seqN (fun _ => False) ?_ fun _ z => z.elim
      simp [eqD_nil hok]
      refine .inl ⟨rfl, fun ⟨z, hz⟩ => ?_⟩
      obtain ⟨j, j1, j2⟩ := hI.find hsk (z := z) (by rw [← ht]; exact fun q hq => hz q (List.mem_of_mem_take hq))
      have : D.int (f + j * p) ∈ (upStep f (r.1 / gcdI p r.1).toNat p).filter (pInt fun t => decide ((t - r.2) % r.1 = 0)) := List.mem_filter.mpr ⟨mem_upStep.mpr ⟨j, by omega, rfl⟩, by simp [pInt, j2]⟩
      rw [hF] at this
      cases this
    | cons d ds =>
      have hd : d ∈ (upStep f (r.1 / gcdI p r.1).toNat p).filter (pInt fun t => decide ((t - r.2) % r.1 = 0)) := by rw [hF]; exact List.mem_cons_self
      obtain ⟨h1, h2⟩ := List.mem_filter.mp hd
      obtain ⟨j, hj, rfl⟩ := mem_upStep.mp h1
      rw [hF] at hok
      refine ok_seqE (by simp [eqD_nil hok]; rfl) ?_
      simp [par2, L2.atI, ixN]
      refine ⟨.val (.int r.1), .val (.int r.2), _, _, f + j * p, p * r.1 / gcdI p r.1, ⟨rfl, rfl, rfl, rfl, rfl, rfl⟩, ?_, rfl, rfl⟩
      rw [ht]
      exact hI.more hsk j (by omega) rfl (by simpa [pInt] using h2)
  · rintro _ ⟨x3, x4, x6, x7, f, p, rfl, hI, n3, n4⟩
    rw [List.length_map, List.take_length] at hI
    have hO : noOwn [.val (.lst (l.map skD)), .val (.int f), .val (.int p), x3, x4, .un, x6, x7, .un] [3, 4] = true := by
      cases x3 <;> cases x4 <;> simp [notOwn] at n3 n4 <;> rfl
    have hL : lcM [3, 4] (srcM (getv 0)) (PL.unpack 2 (setCons (setv 3) (setCons (setv 4) (setNil)))) (ret true) (getv 4) ⟨[.val (.lst (l.map skD)), .val (.int f), .val (.int p), x3, x4, .un, x6, x7, .un], c⟩ = .ok (.lst ((l.map (·.2)).map D.int), c) := by
      have h := lcM_pure (vs := [3, 4]) (src := srcM (getv 0)) (tgt := PL.unpack 2 (setCons (setv 3) (setCons (setv 4) (setNil)))) (test := ret true) (elt := getv 4) (env := [.val (.lst (l.map skD)), .val (.int f), .val (.int p), x3, x4, .un, x6, x7, .un]) (c := c) (ds := l.map skD) (c' := c) (fun _ => true) (fun d => match d with | .tup [_, t] => t | _ => .non) (by simp) hO (Nat.le_trans (show _ ≤ 1000 by rw [List.length_map]; omega) (by decide)) fun d hd => by
        obtain ⟨r, hr, rfl⟩ := List.mem_map.mp hd
        exact ⟨⟨[.val (.lst (l.map skD)), .val (.int f), .val (.int p), .val (.int r.1), .val (.int r.2), .un, x6, x7, .un], c⟩, rfl, rfl, fun _ => rfl⟩
      rw [h, List.filter_eq_self.mpr fun _ _ => rfl, List.map_map, List.map_map]
      rfl
    have p0 : 0 < p := by have := hI.f0; have := hI.f1; omega
    obtain ⟨m0, m1, m2⟩ := mxI_ok l
    have hmx : maxD [.lst ((l.map (·.2)).map D.int ++ [.int 0])] = some (.int (mxI l)) := by
      have := maxD_lst (ns := l.map (·.2) ++ [0]) (by simp)
      rw [List.map_append] at this
      exact this
    have hsz : (l.map (·.2)).length + 1 ≤ sizeLine := Nat.le_trans (show _ ≤ 1000 by rw [List.length_map]; omega) (by decide)
    have hA : addD (.lst ((l.map (·.2)).map D.int)) (.lst [.int 0]) = some (.lst ((l.map (·.2)).map D.int ++ [.int 0])) := if_pos (by rw [List.length_map]; exact hsz)
    have hmx := orD_fst (g' := maxA) hmx
    generalize (l.map (·.2)).map D.int = ds at *
    have pb : p ≤ 777600000 := by
      have := hI.p1
      have hl' : l.length = 0 ∨ l.length = 1 ∨ l.length = 2 ∨ l.length = 3 ∨ l.length = 4 ∨ l.length = 5 := by omega
      rcases hl' with e | e | e | e | e | e <;> rw [e] at this <;> exact Int.le_trans this (by decide)
    refine ok_seqE (by simp [hL, hA, hmx]; rfl) ?_
    have hM : ∀ a, cMul a p = true := fun a => by simp [cMul]; right; omega
    simp only [retS_ap, tupM_ap, consA_ap, op2_ap, callM_ap, getv_0, getv_s, bind_ok, ret_ap, lift_some, subD_int, orD_fst maxD_2, addD_int, fdivD_int p0 (show p < 18446744073709551616 by omega), mulD_int (hM _), okr_ok, fin_rt]
    refine ⟨trivial, .inr ⟨_, _, rfl, ?_⟩⟩
    have f0 := hI.f0
    have f1 := hI.f1
    have hI := hI.iff
    generalize hX : (if mxI l - f > 0 then mxI l - f else 0) = x
    have x0 : 0 ≤ x ∧ mxI l - f ≤ x ∧ (x = 0 ∨ x = mxI l - f) := by
      subst hX
      split <;> omega
    have q1 := Int.mul_ediv_add_emod (x + p - 1) p
    have q2 := Int.emod_nonneg (x + p - 1) (show p ≠ 0 by omega)
    have q3 := Int.emod_lt_of_pos (x + p - 1) p0
    rw [Int.mul_comm] at q1
    refine ⟨(hI _).mpr ?_, ?_, ?_, ?_, ?_, fun r hr => ?_, fun z z0 zm zl => ?_⟩
    · rw [show f + (x + p - 1) / p * p - f = (x + p - 1) / p * p by omega]
      exact Int.mul_emod_left _ _
    · omega
    · exact p0
    · exact pb
    · intro z
      rw [hI z]
      generalize (x + p - 1) / p = j
      constructor
      · intro h
        obtain ⟨k, e⟩ := mod0.mp h
        exact mod0.mpr ⟨k - j, by rw [Int.mul_sub, Int.mul_comm p j]; omega⟩
      · intro h
        obtain ⟨k, e⟩ := mod0.mp h
        exact mod0.mpr ⟨k + j, by rw [Int.mul_add, Int.mul_comm p j]; omega⟩
    · have := m1 r hr
      omega
    · obtain ⟨k, ek⟩ := mod0.mp ((hI z).mp zm)
      have hz : mxI l ≤ z := by
        rcases m2 with e | ⟨r, hr, e⟩
        · omega
        · have := zl r hr; omega
      have hk0 : 0 ≤ k := by
        refine Int.not_lt.mp fun hk => ?_
        have : p * k ≤ p * (-1) := Int.mul_le_mul_of_nonneg_left (by omega) (by omega)
        omega
      have hk1 : (x + p - 1) / p ≤ k := by
        refine Int.not_lt.mp fun hk => ?_
        have h1 : (k + 1) * p ≤ (x + p - 1) / p * p := Int.mul_le_mul_of_nonneg_right (by omega) (by omega)
        rw [Int.add_mul, Int.mul_comm k p] at h1
        have h0 : 0 ≤ p * k := Int.mul_nonneg (by omega) hk0
        rcases x0.2.2 with e | e <;> omega
      have h2 : (x + p - 1) / p * p ≤ k * p := Int.mul_le_mul_of_nonneg_right hk1 (by omega)
      rw [Int.mul_comm k p] at h2
      omega
end Lw

namespace Lw
open PySem PySem.Spec PyProof.Rows L2 PL
def rises (ns : List Int) : Bool := (ns.zip (ns.drop 1)).all fun p => decide (p.1 < p.2)
theorem cut1 {ds : List D} : cutD ds (some 1) none = ds.drop 1 := by
  cases ds with
  | nil => rfl
  | cons d ds =>
    unfold PL.cutD
    have e1 : HT.sIx (d :: ds).length 0 (some 1) = 1 := by simp [HT.sIx]
    have e2 : HT.sIx (d :: ds).length (d :: ds).length none = (d :: ds).length := by simp [HT.sIx]
    rw [e1, e2]
    simp
theorem zip_ints {a b : List Int} : zip2 [intsT a, intsT b] = some ((a.zip b).map fun p => .tup [.int p.1, .int p.2]) := by
  show some (pairUp _ _) = _
  unfold pairUp
  rw [List.zip_map, List.map_map]
  rfl
theorem rising_ok {ns : List Int} {c : List D} (hl : ns.length ≤ 1000) : m_is_rising [intsT ns] c = .ok (.bl (rises ns), c) := by
  have hsl : (slcM (getv 0) (partM (ret (.int 1))) (noPart)) ⟨[.val (intsT ns), .un, .un], c⟩ = .ok (intsT (ns.drop 1), c) := by
    simp [slcM, partM, noPart, intsT, slcD, cut1, List.map_drop]
  have h := lcM_pure (vs := [1, 2]) (src := srcA zip2 (consA (getv 0) (consA (slcM (getv 0) (partM (ret (.int 1))) (noPart)) (ret [])))) (tgt := PL.unpack 2 (setCons (setv 1) (setCons (setv 2) (setNil)))) (test := ret true) (elt := op2 ltD (getv 1) (getv 2))
    (env := [.val (intsT ns), .un, .un]) (c := c) (c' := c) (ds := (ns.zip (ns.drop 1)).map fun p => .tup [.int p.1, .int p.2]) (fun _ => true) (fun d => match d with | .tup [.int a, .int b] => .bl (decide (a < b)) | _ => .non)
    (by simp [hsl, zip_ints]) rfl (Nat.le_trans (show _ ≤ 1000 by simp; omega) (by decide)) fun d hd => by
      obtain ⟨r, hr, rfl⟩ := List.mem_map.mp hd
      exact ⟨⟨[.val (intsT ns), .val (.int r.1), .val (.int r.2)], c⟩, rfl, rfl, fun _ => rfl⟩
  rw [List.filter_eq_self.mpr fun _ _ => rfl, List.map_map] at h
  have h2 : ((ns.zip (ns.drop 1)).map ((fun d => match d with | .tup [.int a, .int b] => D.bl (decide (a < b)) | _ => .non) ∘ fun p : Int × Int => D.tup [.int p.1, .int p.2])) = (ns.zip (ns.drop 1)).map fun p => D.bl ((fun p : Int × Int => decide (p.1 < p.2)) p) := rfl
  rw [h2] at h
  simp only [m_is_rising, runB, b_is_rising, List.map, List.length, List.replicate, retS_ap, callM_ap, consA_ap]
  show Res.bind _ _ = _
  rw [show (lcM [1, 2] (srcA zip2 (consA (getv 0) (consA (slcM (getv 0) (partM (ret (.int 1))) (noPart)) (ret [])))) (PL.unpack 2 (setCons (setv 1) (setCons (setv 2) (setNil)))) (ret true) (op2 ltD (getv 1) (getv 2))) ⟨[Slot.val (intsT ns)] ++ [.un, .un], c⟩ = _ from h]
  simp only [bind_ok, ret_ap, allD_map, lift_some]
  rfl
/-- some of the skaters, in rising order -/
structure Lot (n : Nat) (ns : List Int) : Prop where
  len : ns.length ≤ n
  inn : ∀ i ∈ ns, 0 ≤ i ∧ i < n
  ris : rises ns = true
theorem fits_some_ok {n : Nat} {ns : List Int} {c : List D} (h : Lot n ns) (hn : n ≤ 1000) : m_fits_some [.int n, intsT ns] c = .ok (.bl true, c) := by
  have hl := h.len
  have e1 : m_is_tuple_of [intsT ns, .int 0, .int n] c = .ok (.bl true, c) := by
    unfold intsT
    rw [tuple_tup, List.length_map]
    simp
    omega
  have e2 : lcM [2] (srcM (getv 1)) (setv 2) (ret true) (fnM m_is_whole (consA (getv 2) (consA (ret (.int 0)) (consA (op2 subD (getv 0) (ret (.int 1))) (ret []))))) ⟨[.val (.int n), .val (intsT ns), .un], c⟩ = .ok (.lst (ns.map fun i => D.bl ((fun _ => true) i)), c) := by
    have := lcM_pure (vs := [2]) (src := srcM (getv 1)) (tgt := setv 2) (test := ret true) (elt := fnM m_is_whole (consA (getv 2) (consA (ret (.int 0)) (consA (op2 subD (getv 0) (ret (.int 1))) (ret []))))) (env := [.val (.int n), .val (intsT ns), .un]) (c := c) (c' := c) (ds := ns.map D.int) (fun _ => true) (fun _ => .bl true) (by simp [intsT]) rfl (Nat.le_trans (show _ ≤ 1000 by simp; omega) (by decide)) fun d hd => by
      obtain ⟨i, hi, rfl⟩ := List.mem_map.mp hd
      have := h.inn i hi
      refine ⟨⟨[.val (.int n), .val (intsT ns), .val (.int i)], c⟩, rfl, rfl, fun _ => ?_⟩
      simp [whole_int]
      omega
    rw [List.filter_eq_self.mpr fun _ _ => rfl, List.map_map] at this
    exact this
  have e3 := rising_ok (ns := ns) (c := c) (by omega)
  rw [h.ris] at e3
  refine tells_eq (ok_run [.val (.int n), .val (intsT ns), .un] ?_)
  unfold b_fits_some
  have e4 : (ns.all fun _ => true) = true := List.all_eq_true.mpr fun _ _ => rfl
  simp [e1, e2, e3, e4]
theorem there_ok {p : Int × Int} {t : Int} {c : List D} (h : 0 < p.1) : m__law_is_there [skD p, .int t] c = .ok (.bl (decide (p.2 ≤ t) && decide ((t - p.2) % p.1 = 0)), c) := by
  cases e : decide (p.2 ≤ t) <;> simp [m__law_is_there, runB, b__law_is_there, skD, L2.atI, ixN, e, h]

theorem same_tup {c : List D} {rec : Fn} {ds : List D} (hl : ds.length ≤ 1000) (hr : ∀ d ∈ ds, rec [d, d] c = .ok (.bl true, c)) : runB 3 (b__law_same rec) [.tup ds, .tup ds] c = .ok (.bl true, c) := by
  refine tells_eq (ok_run [.val (.tup ds), .val (.tup ds), .un] ?_)
  unfold b__law_same
  refine ok_seqN (fun _ => False) ?_ fun _ z => z.elim
  have hs : srcA range1 (consA (callM lenD (consA (getv 1) (ret []))) (ret [])) ⟨[.val (.tup ds), .val (.tup ds), .un], c⟩ = .ok ((List.range ds.length).map (fun i => D.int (i : Nat)), c) := by
    simp only [srcA_ap, consA_ap, callM_ap, getv_s, getv_0, ret_ap, bind_ok, lenD_tup, lift_some]
    rw [range1_int (by omega) (by omega), Int.toNat_natCast]
    rfl
  have hl := lcM_all (vs := [2]) (src := srcA range1 (consA (callM lenD (consA (getv 1) (ret []))) (ret []))) (tgt := setv 2) (elt := fnM rec (consA (op2 ixD (getv 0) (getv 2)) (consA (op2 ixD (getv 1) (getv 2)) (ret []))))
    (env := [.val (.tup ds), .val (.tup ds), .un]) (c := c) (c' := c) (List.range ds.length) (fun i => D.int (i : Nat)) (fun _ => .bl true) hs rfl (by rw [List.length_range]; exact line1000 hl) fun i hi => by
      refine ⟨⟨[.val (.tup ds), .val (.tup ds), .val (.int (i : Nat))], c⟩, rfl, rfl, ?_⟩
      have hi := List.mem_range.mp hi
      have e := atI_nat hi
      have hs := hr ds[i] (List.getElem_mem hi)
      simp only [fnM_ap, consA_ap, op2_ap, getv_s, getv_0, bind_ok, ixD_tup, e, lift_some, ret_ap, hs]
  have he : (List.range ds.length).map (fun _ => D.bl true) = (List.range ds.length).map fun x => D.bl ((fun _ => true) x) := rfl
  rw [he] at hl
  have ha : ((List.range ds.length).all fun _ => true) = true := List.all_eq_true.mpr fun _ _ => rfl
  simp [seqS_ap, hl, ha]
def sameOk : Nat → D → Bool
  | 0, _ => false
  | n + 1, d => match d with
    | .non => true
    | .bl _ => true
    | .int _ => true
    | .tup ds => Nat.ble ds.length 1000 && ds.all (sameOk n)
    | _ => false
theorem same_refl {c : List D} (n : Nat) : ∀ d : D, sameOk n d = true → m__law_same n [d, d] c = .ok (.bl true, c) := by
  induction n with
  | zero => intro d h; cases h
  | succ n ih =>
    intro d h
    show runB 3 (b__law_same (m__law_same n)) [d, d] c = _
    generalize m__law_same n = rec at *
    cases d with
    | non => simp [runB, b__law_same, seqS_ap]
    | bl b => cases b <;> simp [runB, b__law_same, seqS_ap]
    | int i => simp [runB, b__law_same, seqS_ap]
    | str z => cases h
    | lst z => cases h
    | cup => cases h
    | ref z => cases h
    | tup ds =>
      unfold sameOk at h
      dsimp only at h
      rw [Bool.and_eq_true] at h
      exact same_tup (Nat.le_of_ble_eq_true h.1) fun d hd => ih d (List.all_eq_true.mp h.2 d hd)
/-! lots -/
def rowsOf (l : List (Int × Int)) (ns : List Int) : List (Int × Int) := ns.filterMap fun i => l[i.toNat]?
theorem rows_lc {l : List (Int × Int)} {ns : List Int} {c : List D} {env : List Slot} {a b v : Nat} (hn : ns.length ≤ 1000) (hi : ∀ i ∈ ns, 0 ≤ i ∧ i < l.length) (h1 : getv b ⟨env, c⟩ = .ok (intsT ns, c)) (h2 : noOwn env [v] = true)
    (h3 : ∀ d, getv a ⟨(wipeE env [v]).set v (.val d), c⟩ = .ok (sksD l, c)) (h4 : ∀ d, getv v ⟨(wipeE env [v]).set v (.val d), c⟩ = .ok (d, c)) :
    lcM [v] (srcM (getv b)) (setv v) (ret true) (op2 ixD (getv a) (getv v)) ⟨env, c⟩ = .ok (.lst ((rowsOf l ns).map skD), c) := by
  have := lcM_all (vs := [v]) (src := srcM (getv b)) (tgt := setv v) (elt := op2 ixD (getv a) (getv v)) (env := env) (c := c) (c' := c) ns D.int (fun i => skD (l[i.toNat]?.getD (0, 0))) (by simp [h1, intsT]) h2 (line1000 hn) fun i h => by
    have hi := hi i h
    have hg : l[i.toNat]? = some l[i.toNat] := List.getElem?_eq_getElem (by omega)
    have e : ixD (sksD l) (.int i) = some (skD l[i.toNat]) := atS hi.1 hg
    exact ⟨_, rfl, rfl, by simp [h3, h4, e, hg]⟩
  rw [this]
  congr 3
  clear this h1
  induction ns with
  | nil => rfl
  | cons i ns ih =>
    have h := hi i List.mem_cons_self
    have hg : l[i.toNat]? = some l[i.toNat] := List.getElem?_eq_getElem (by omega)
    unfold rowsOf at ih ⊢
    rw [List.map_cons, List.filterMap_cons, ih (by simp at hn; omega) fun j hj => hi j (List.mem_cons_of_mem _ hj), hg]
    simp [hg]
theorem rows_len (l : List (Int × Int)) (ns : List Int) : (rowsOf l ns).length ≤ ns.length := List.length_filterMap_le _ _
theorem rows_mem {l : List (Int × Int)} {ns : List Int} {r : Int × Int} (h : r ∈ rowsOf l ns) : ∃ i ∈ ns, l[i.toNat]? = some r := List.mem_filterMap.mp h
def MeetX (l : List (Int × Int)) (ns : List Int) (v : D) : Prop := MeetR (rowsOf l ns) v
theorem meet_lot {l : List (Int × Int)} {ns : List Int} {c : List D} (g : Good l) (h : Lot l.length ns) : Tells m_meeting_of [.lst ((rowsOf l ns).map skD)] c fun v c' => c' = c ∧ MeetX l ns v :=
  meeting_ok (Nat.le_trans (rows_len _ _) (Nat.le_trans h.len g.l5)) fun r hr => by
    obtain ⟨i, _, e⟩ := rows_mem hr
    exact g.ok r (List.mem_of_getElem? e)
theorem together_ok {l : List (Int × Int)} {ns : List Int} {c : List D} (g : Good l) (h : Lot l.length ns) : Tells m_together [sksD l, intsT ns] c fun v c' => c' = c ∧ ∃ v', MeetX l ns v' ∧ (v' = .non ∧ v = .non ∨ ∃ a b, v' = .tup [.int a, b] ∧ v = .int a) := by
  have h5 := g.l5
  have hl := h.len
  refine ok_run [.val (sksD l), .val (intsT ns), .un, .un] ?_
  unfold b_together
  refine ok_seqE (by simp [need1 g]; rfl) ?_
  have e1 : lenD [sksD l] = some (.int l.length) := by simp [sksD]
  refine ok_seqE (by simp [e1, fits_some_ok h (by omega)]; rfl) ?_
  have e2 := rows_lc (a := 0) (b := 1) (v := 3) (env := [.val (sksD l), .val (intsT ns), .un, .un]) (c := c) (by omega) h.inn rfl rfl (fun _ => rfl) (fun _ => rfl)
  obtain ⟨v, c', em, rfl, hm⟩ := meet_lot (c := c) g h
  refine ok_seqE (by simp [e2, em]; rfl) ?_
  rcases hm with ⟨rfl, hn⟩ | ⟨a, b, rfl, hn⟩
  · simp
    exact .inl ⟨rfl, hn⟩
  · simp [L2.atI, ixN]
    exact ⟨_, .inr ⟨a, b, rfl, hn⟩, _, rfl⟩
theorem need_time_ok {l : List (Int × Int)} {t : Int} {c : List D} (g : Good l) (h0 : 0 ≤ t) (h1 : t ≤ 1000000000000000000) : m_need_time [sksD l, .int t] c = .ok (.non, c) := by
  simp [m_need_time, runB, b_need_time, seqS_ap, need1 g, whole_int, h0, h1]
def cntI (a b t : Int) : Int := if t ≤ a then 0 else (t - a - 1) / b + 1
theorem count_ok {l : List (Int × Int)} {ns : List Int} {t : Int} {c : List D} (g : Good l) (h : Lot l.length ns) (h0 : 0 ≤ t) (h1 : t ≤ 1000000000000000000) : Tells m_count_together [sksD l, intsT ns, .int t] c fun v c' => c' = c ∧ ∃ v', MeetX l ns v' ∧ (v' = .non ∧ v = .int 0 ∨ ∃ a b, v' = .tup [.int a, .int b] ∧ v = .int (cntI a b t)) := by
  have h5 := g.l5
  have hl := h.len
  refine ok_run [.val (sksD l), .val (intsT ns), .val (.int t), .un, .un] ?_
  unfold b_count_together
  refine ok_seqE (by simp [need1 g]; rfl) ?_
  have e1 : lenD [sksD l] = some (.int l.length) := by simp [sksD]
  refine ok_seqE (by simp [e1, fits_some_ok h (by omega)]; rfl) ?_
  refine ok_seqE (by simp [need_time_ok g h0 h1]; rfl) ?_
  have e2 := rows_lc (a := 0) (b := 1) (v := 4) (env := [.val (sksD l), .val (intsT ns), .val (.int t), .un, .un]) (c := c) (by omega) h.inn rfl rfl (fun _ => rfl) (fun _ => rfl)
  obtain ⟨v, c', em, rfl, hm⟩ := meet_lot (c := c) g h
  refine ok_seqE (by simp [e2, em]; rfl) ?_
  rcases hm with ⟨rfl, hn⟩ | ⟨a, b, rfl, hn⟩
  · refine ok_seqN (fun _ => False) ?_ fun _ z => z.elim
    simp
    exact ⟨_, .inl ⟨rfl, hn⟩, .inl rfl⟩
  · by_cases ht : t ≤ a
    · refine ok_seqN (fun _ => False) ?_ fun _ z => z.elim
      simp [L2.atI, ixN, ht]
      exact ⟨_, .inr ⟨a, b, rfl, hn⟩, .inr ⟨a, b, rfl, by simp [cntI, ht]⟩⟩
    · refine ok_seqE (by simp [L2.atI, ixN, ht]; rfl) ?_
      obtain ⟨n1, n2, n3, n4, n5⟩ := hn
      simp [L2.atI, ixN, n3, show b < 18446744073709551616 by omega]
      exact ⟨_, .inr ⟨a, b, rfl, n1, n2, n3, n4, n5⟩, .inr ⟨a, b, rfl, by simp [cntI, ht]⟩⟩
end Lw

namespace Lw
open PySem PySem.Spec PyProof.Rows L2 PL
/-- all lots of the first k -/
def subs : Nat → List (List Int)
  | 0 => [[]]
  | k + 1 => subs k ++ (subs k).map (· ++ [(k : Int)])
theorem subs_len : ∀ k, (subs k).length = 2 ^ k
  | 0 => rfl
  | k + 1 => by unfold subs; rw [List.length_append, List.length_map, subs_len k, Nat.pow_succ]; omega
theorem subs_small {k : Nat} (h : k ≤ 5) : (subs k).length ≤ 32 := by
  rw [subs_len]
  exact Nat.pow_le_pow_right (by decide) h
theorem nil_subs : ∀ k, [] ∈ subs k
  | 0 => List.mem_singleton.mpr rfl
  | k + 1 => List.mem_append_left _ (nil_subs k)
theorem rises_snoc {a : Int} : ∀ {y : List Int}, rises y = true → (∀ i ∈ y, i < a) → rises (y ++ [a]) = true
  | [], _, _ => rfl
  | [x], _, h => by
    have := h x List.mem_cons_self
    simp [rises, this]
  | x :: z :: r, h, k => by
    have h1 : (decide (x < z) && rises (z :: r)) = true := h
    rw [Bool.and_eq_true] at h1
    have h2 := rises_snoc h1.2 fun i hi => k i (List.mem_cons_of_mem _ hi)
    show (decide (x < z) && rises (z :: r ++ [a])) = true
    rw [Bool.and_eq_true]
    exact ⟨h1.1, h2⟩
theorem subs_lot : ∀ {k : Nat} {x : List Int}, x ∈ subs k → Lot k x
  | 0, x, h => by rw [List.mem_singleton.mp h]; exact ⟨Nat.le_refl _, fun i hi => (by cases hi), rfl⟩
  | k + 1, x, h => by
    rcases List.mem_append.mp h with h | h
    · have g := subs_lot h
      exact ⟨Nat.le_succ_of_le g.len, fun i hi => by have := g.inn i hi; omega, g.ris⟩
    · obtain ⟨y, hy, rfl⟩ := List.mem_map.mp h
      have g := subs_lot hy
      refine ⟨by rw [List.length_append]; exact Nat.succ_le_succ g.len, fun i hi => ?_, rises_snoc g.ris fun i hi => (g.inn i hi).2⟩
      rcases List.mem_append.mp hi with hi | hi
      · have := g.inn i hi; omega
      · rw [List.mem_singleton.mp hi]; omega
/-- one turn of the making of lots -/
theorem grow_ok {k : Nat} {c : List D} {env : List Slot} {a v u : Nat} (hk : k ≤ 5) (h1 : getv a ⟨env, c⟩ = .ok (.lst ((subs k).map intsT), c)) (h2 : noOwn env [v] = true)
    (h3 : ∀ d, getv u ⟨(wipeE env [v]).set v (.val d), c⟩ = .ok (.int (k : Nat), c)) (h4 : ∀ d, getv v ⟨(wipeE env [v]).set v (.val d), c⟩ = .ok (d, c)) :
    op2 addD (getv a) (lcM [v] (srcM (getv a)) (setv v) (ret true) (op2 addD (getv v) (tupM (consA (getv u) (ret []))))) ⟨env, c⟩ = .ok (.lst ((subs (k + 1)).map intsT), c) := by
  have hs := subs_small hk
  have hl := lcM_all (vs := [v]) (src := srcM (getv a)) (tgt := setv v) (elt := op2 addD (getv v) (tupM (consA (getv u) (ret [])))) (env := env) (c := c) (c' := c) (subs k) intsT (fun x => intsT (x ++ [(k : Int)])) (by simp [h1]) h2 (line1000 (by omega)) fun x hx => by
    have g := (subs_lot hx).len
    have ha : addD (intsT x) (.tup [.int (k : Nat)]) = some (intsT (x ++ [(k : Int)])) := by
      unfold intsT
      rw [List.map_append]
      exact if_pos (by rw [List.length_map]; exact line1000 (show x.length + 1 ≤ 1000 by omega))
    exact ⟨_, rfl, rfl, by simp [h3, h4, ha]⟩
  have ha : addD (.lst ((subs k).map intsT)) (.lst ((subs k).map fun x => intsT (x ++ [(k : Int)]))) = some (.lst ((subs (k + 1)).map intsT)) := by
    rw [addL (xs := (subs k).map intsT) (ys := (subs k).map fun x => intsT (x ++ [(k : Int)])) (by rw [List.length_map, List.length_map]; omega)]
    show _ = some (D.lst ((subs k ++ (subs k).map (· ++ [(k : Int)])).map intsT))
    rw [List.map_append, List.map_map]
    rfl
  simp [h1, hl, ha]
theorem subsets_ok {n : Nat} {c : List D} (hn : n ≤ 5) : m__law_subsets [.lst (PL.upTo n)] c = .ok (.lst ((subs n).map intsT), c) := by
  refine tells_eq (ok_run [.val (.lst (PL.upTo n)), .un, .un, .un] ?_)
  unfold b__law_subsets
  refine ok_seqE (by simp; rfl) ?_
  refine ok_seqN _ (ok_for (ds := PL.upTo n) (c' := c) (fun k s => k ≤ n ∧ ∃ x2 : Slot, s = ⟨[.val (.lst (PL.upTo n)), .val (.lst ((subs k).map intsT)), x2, .un], c⟩) (by simp) ⟨Nat.zero_le _, .un, rfl⟩ ?_ fun s h => h) ?_
  · rintro k d s hd ⟨hk, x2, rfl⟩
    obtain ⟨hk, rfl⟩ := upTo_get hd
    simp only [setv_ap, List.set, okr_ok]
    have := grow_ok (k := k) (c := c) (a := 1) (v := 3) (u := 2) (env := [.val (.lst (PL.upTo n)), .val (.lst ((subs k).map intsT)), .val (.int (k : Nat)), .un]) (by omega) rfl rfl (fun _ => rfl) (fun _ => rfl)
    rw [asgS_ap, this]
    simp
    omega
  · rintro _ ⟨_, x2, rfl⟩
    rw [upTo_len]
    simp
def key (x : List Int) : D := keyT x.length x
def lots (n : Nat) : List (List Int) := (subs n).mergeSort fun a b => dLe (key a) (key b)
theorem mem_lots {n : Nat} {x : List Int} : x ∈ lots n ↔ x ∈ subs n := List.mem_mergeSort
theorem lots_len (n : Nat) : (lots n).length = (subs n).length := List.length_mergeSort _
theorem lots_of_ok {n : Nat} {c : List D} (hn : n ≤ 5) : m_lots_of [.int (n : Nat)] c = .ok (.lst ((lots n).map intsT), c) := by
  refine tells_eq (ok_run [.val (.int (n : Nat)), .un, .un, .un, .un] ?_)
  unfold b_lots_of
  refine ok_seqE (by simp; rfl) ?_
  refine ok_seqN _ (ok_for (ds := PL.upTo n) (c' := c) (fun k s => k ≤ n ∧ ∃ x2 : Slot, s = ⟨[.val (.int (n : Nat)), .val (.lst ((subs k).map intsT)), x2, .un, .un], c⟩) (by simp; rw [range1_int (by omega) (by omega)]; simp) ⟨Nat.zero_le _, .un, rfl⟩ ?_ fun s h => h) ?_
  · rintro k d s hd ⟨hk, x2, rfl⟩
    obtain ⟨hk, rfl⟩ := upTo_get hd
    simp only [setv_ap, List.set, okr_ok]
    have := grow_ok (k := k) (c := c) (a := 1) (v := 4) (u := 2) (env := [.val (.int (n : Nat)), .val (.lst ((subs k).map intsT)), .val (.int (k : Nat)), .un, .un]) (by omega) rfl rfl (fun _ => rfl) (fun _ => rfl)
    rw [asgS_ap, this]
    simp
    omega
  · rintro _ ⟨_, x2, rfl⟩
    rw [upTo_len]
    have hs := subs_small hn
    have h1 := lcM_all (vs := [4]) (src := srcM (getv 1)) (tgt := setv 4) (elt := tupM (consA (callM lenD (consA (getv 4) (ret []))) (consA (getv 4) (ret [])))) (env := [.val (.int (n : Nat)), .val (.lst ((subs n).map intsT)), x2, .un, .un]) (c := c) (c' := c) (subs n) intsT key (by simp) rfl (line1000 (by omega)) fun x hx => by
      exact ⟨_, rfl, rfl, by simp [wipeE, intsT, key, keyT]⟩
    have h2 : (subs n).map key = ((subs n).map fun x => ((x.length : Int), x)).map fun p => keyT p.1 p.2 := by rw [List.map_map]; rfl
    have h3 : (orD sortedD sortedA) [.lst ((subs n).map key)] = some (.lst ((lots n).map key)) := by
      have hnil : ∃ p r, ((subs n).map fun x => ((x.length : Int), x)) = p :: r := by
        cases e : (subs n).map fun x => ((x.length : Int), x) with
        | nil => have := nil_subs n; rw [List.map_eq_nil_iff.mp e] at this; cases this
        | cons p r => exact ⟨p, r, rfl⟩
      obtain ⟨p, r, hpr⟩ := hnil
      rw [orD_snd (by rw [h2, hpr]; rfl), h2, sorted_keys, ← h2]
      congr 2
      exact (List.map_mergeSort (r := fun a b => dLe (key a) (key b)) (s := dLe) (f := key) (l := subs n) fun a _ b _ => rfl).symm
    have h4 := lcM_all (vs := [3, 4]) (src := srcM (callM (orD sortedD sortedA) (consA (lcM [4] (srcM (getv 1)) (setv 4) (ret true) (tupM (consA (callM (lenD) (consA (getv 4) (ret []))) (consA (getv 4) (ret []))))) (ret [])))) (tgt := PL.unpack 2 (setCons (setv 3) (setCons (setv 4) (setNil)))) (elt := getv 4) (env := [.val (.int (n : Nat)), .val (.lst ((subs n).map intsT)), x2, .un, .un]) (c := c) (c' := c) (lots n) key intsT (by simp [h1, h3]) rfl (line1000 (by rw [lots_len]; omega)) fun x hx => by
      exact ⟨⟨[.val (.int (n : Nat)), .val (.lst ((subs n).map intsT)), x2, .val (.int x.length), .val (intsT x)], c⟩, rfl, rfl, rfl⟩
    rw [retS_ap, h4]
    simp
end Lw

namespace Lw
open PySem PySem.Spec PyProof.Rows L2 PL
open Classical in
/-- this lot meets -/
noncomputable def gd (l : List (Int × Int)) (x : List Int) : Bool := decide (∃ z, Meets (rowsOf l x) z)
theorem gd_meet {l : List (Int × Int)} {x : List Int} {v : D} (h : MeetX l x v) : isNon v = !gd l x := by
  unfold gd
  rcases h with ⟨rfl, hn⟩ | ⟨a, b, rfl, ha, _⟩
  · simp [hn]
  · have : ∃ z, Meets (rowsOf l x) z := ⟨a, ha⟩
    simp [this]
open Classical in
theorem gd_nil (l : List (Int × Int)) : gd l [] = true := by
  unfold gd
  exact decide_eq_true ⟨0, fun r hr => by cases hr⟩
structure Best (l : List (Int × Int)) (m : List Int) : Prop where
  mem : m ∈ subs l.length
  gd : gd l m = true
  least : ∀ y ∈ subs l.length, Lw.gd l y = true → dLt (keyT (-(y.length : Int)) y) (keyT (-(m.length : Int)) m) = false
theorem Best.uniq {l : List (Int × Int)} {m m' : List Int} (h : Best l m) (h' : Best l m') : m = m' := by
  have h1 := h.least m' h'.mem h'.gd
  have h2 := h'.least m h.mem h.gd
  rw [dLt_keyT] at h1 h2
  by_cases e : (m'.length : Int) = m.length
  · rw [if_pos (by omega)] at h1 h2
    exact ltL_total _ _ h2 h1
  · rw [if_neg (by omega), decide_eq_false_iff_not] at h1 h2
    omega
/-- the best of a list of good lots -/
theorem best_of {l : List (Int × Int)} {L : List (List Int)} (hL : ∀ x, x ∈ L ↔ x ∈ subs l.length ∧ gd l x = true) : ∃ m, Best l m ∧ minA [.lst (L.map fun x => keyT (-(x.length : Int)) x)] = some (keyT (-(m.length : Int)) m) := by
  cases e : L with
  | nil =>
    have := (hL []).mpr ⟨nil_subs _, gd_nil l⟩
    rw [e] at this; cases this
  | cons x r =>
    obtain ⟨q, hq, h1, h2⟩ := min_keys (p := (-(x.length : Int), x)) (l := r.map fun x => (-(x.length : Int), x))
    rw [← List.map_cons (f := fun x : List Int => (-(x.length : Int), x)), ← e] at hq h1 h2
    obtain ⟨m, hm, rfl⟩ := List.mem_map.mp hq
    obtain ⟨m1, m2⟩ := (hL m).mp hm
    refine ⟨m, ⟨m1, m2, fun y hy hg => h2 (-(y.length : Int), y) (List.mem_map.mpr ⟨y, (hL y).mpr ⟨hy, hg⟩, rfl⟩)⟩, ?_⟩
    rw [List.map_map] at h1
    rw [← e]
    exact h1
theorem most_ok {l : List (Int × Int)} {c : List D} (g : Good l) : Tells m_most_together [sksD l] c fun v c' => c' = c ∧ ∃ m, Best l m ∧ v = .tup [.int m.length, intsT m] := by
  have h5 := g.l5
  refine ok_run [.val (sksD l), .un, .un, .un, .un] ?_
  unfold b_most_together
  refine ok_seqE (by simp [need1 g]; rfl) ?_
  have e1 : lenD [sksD l] = some (.int l.length) := by simp [sksD]
  have hs := subs_small h5
  have h1 := lcM_map (vs := [3]) (src := srcM (fnM m_lots_of (consA (callM (lenD) (consA (getv 0) (ret []))) (ret [])))) (tgt := setv 3) (test := asB (op2 isnotD (fnM m_meeting_of (consA (lcM [4] (srcM (getv 3)) (setv 4) (ret true) (op2 ixD (getv 0) (getv 4))) (ret []))) (ret .non))) (elt := getv 3) (env := [.val (sksD l), .un, .un, .un, .un]) (c := c) (c' := c)
    (lots l.length) intsT (gd l) intsT (by simp [e1, lots_of_ok h5]) rfl (line1000 (by rw [lots_len]; omega)) fun x hx => by
      have hl := subs_lot (mem_lots.mp hx)
      have e2 := rows_lc (l := l) (a := 0) (b := 3) (v := 4) (env := [.val (sksD l), .un, .un, .val (intsT x), .un]) (c := c) (by have := hl.len; omega) hl.inn rfl rfl (fun _ => rfl) (fun _ => rfl)
      obtain ⟨v, c', em, rfl, hm⟩ := meet_lot (c := c) g hl
      refine ⟨⟨[.val (sksD l), .un, .un, .val (intsT x), .un], c'⟩, rfl, ?_, fun _ => rfl⟩
      simp [e2, em, gd_meet hm]
  refine ok_seqE (by rw [asgS_ap, h1]; simp; rfl) ?_
  obtain ⟨m, hb, hm⟩ := best_of (l := l) (L := (lots l.length).filter (gd l)) fun x => by rw [List.mem_filter, mem_lots]
  have h2 := lcM_all (vs := [3]) (src := srcM (getv 1)) (tgt := setv 3) (elt := tupM (consA (negM (callM (lenD) (consA (getv 3) (ret [])))) (consA (getv 3) (ret [])))) (env := [.val (sksD l), .val (.lst (((lots l.length).filter (gd l)).map intsT)), .un, .un, .un]) (c := c) (c' := c)
    ((lots l.length).filter (gd l)) intsT (fun x => keyT (-(x.length : Int)) x) (by simp) rfl (line1000 (Nat.le_trans (List.length_filter_le _ _) (by rw [lots_len]; omega))) fun x hx => by
      exact ⟨_, rfl, rfl, by simp [wipeE, intsT, keyT]⟩
  refine ok_seqE (by simp [h2, hm]; rfl) ?_
  simp [keyT, L2.atI, ixN]
  exact ⟨m, hb, rfl, rfl⟩
/-! a time at which all come round -/
def prodI : List (Int × Int) → Int
  | [] => 1
  | r :: l => r.1 * prodI l
theorem prodI_ok : ∀ {l : List (Int × Int)} {m : Int}, 0 < m → (∀ r ∈ l, 1 ≤ r.1 ∧ r.1 ≤ m) → 1 ≤ prodI l ∧ prodI l ≤ m ^ l.length ∧ ∀ r ∈ l, prodI l % r.1 = 0
  | [], _, _, _ => ⟨by decide, by show (1 : Int) ≤ _ ^ 0; rw [Int.pow_zero]; exact Int.le_refl _, fun r hr => by cases hr⟩
  | r :: l, m, m0, h => by
    obtain ⟨h1, h2, h3⟩ := prodI_ok m0 fun q hq => h q (List.mem_cons_of_mem _ hq)
    obtain ⟨r1, r2⟩ := h r List.mem_cons_self
    have hp : 0 < m ^ l.length := Int.lt_of_lt_of_le (by omega) h2
    refine ⟨?_, ?_, fun q hq => ?_⟩
    · have : 0 < r.1 * prodI l := Int.mul_pos (by omega) (by omega)
      exact this
    · show r.1 * prodI l ≤ m ^ (l.length + 1)
      rw [Int.pow_succ, Int.mul_comm]
      exact Int.mul_le_mul h2 r2 (by omega) (by omega)
    · rcases List.mem_cons.mp hq with rfl | hq
      · exact Int.mul_emod_right _ _
      · obtain ⟨k, e⟩ := mod0.mp (h3 q hq)
        exact mod0.mpr ⟨r.1 * k, by show r.1 * prodI l = _; rw [e, Int.mul_left_comm]⟩
theorem whole_ok {l : List (Int × Int)} {c : List D} (hl : l.length ≤ 4) (h : ∀ r ∈ l, 1 ≤ r.1 ∧ r.1 ≤ 9) : Tells m__law_whole [sksD l] c fun v c' => c' = c ∧ ∃ W : Int, v = .int W ∧ 1 ≤ W ∧ W ≤ 6561 ∧ ∀ r ∈ l, W % r.1 = 0 := by
  obtain ⟨p1, p2, p3⟩ := prodI_ok (l := l) (m := 9) (by decide) h
  have p4 : prodI l ≤ 6561 := Int.le_trans p2 (by
    have : l.length = 0 ∨ l.length = 1 ∨ l.length = 2 ∨ l.length = 3 ∨ l.length = 4 := by omega
    rcases this with e | e | e | e | e <;> rw [e] <;> decide)
  refine ok_run [.val (sksD l), .un, .un, .un] ?_
  unfold b__law_whole
  refine ok_seqE (s' := ⟨[.val (sksD l), .val (.int 1), .un, .un], c⟩) (by simp) ?_
  have hcond : ∀ x : Int, asB (op2 neD (lcM [2, 3] (srcM (getv 0)) (PL.unpack 2 (setCons (setv 2) (setCons (setv 3) (setNil)))) (asB (op2 neD (op2 modD (callM intD (consA (getv 1) (ret []))) (getv 2)) (ret (.int 0)))) (ret (.int 1))) (lstM (ret []))) ⟨[.val (sksD l), .val (.int x), .un, .un], c⟩ = .ok (!(l.filter fun r => !decide (x % r.1 = 0)).isEmpty, c) := fun x => by
    have hc := lcM_map (vs := [2, 3]) (src := srcM (getv 0)) (tgt := PL.unpack 2 (setCons (setv 2) (setCons (setv 3) (setNil)))) (test := asB (op2 neD (op2 modD (callM intD (consA (getv 1) (ret []))) (getv 2)) (ret (.int 0)))) (elt := ret (.int 1)) (env := [.val (sksD l), .val (.int x), .un, .un]) (c := c) (c' := c)
      l skD (fun r => !decide (x % r.1 = 0)) (fun _ => .int 1) (by simp [sksD]) rfl (line1000 (by omega)) fun r hr => by
        have := h r hr
        exact ⟨⟨[.val (sksD l), .val (.int x), .val (.int r.1), .val (.int r.2)], c⟩, rfl, by simp [show 0 < r.1 by omega], fun _ => rfl⟩
    have hn := neD_nil (ds := (l.filter fun r => !decide (x % r.1 = 0)).map fun _ => D.int 1) (dOk_lst fun d hd => by
      obtain ⟨_, _, rfl⟩ := List.mem_map.mp hd
      exact dOk_int)
    rw [asB_ap, op2_ap, hc]
    simp only [bind_ok, lstM_ap, ret_ap, hn, lift_some, List.isEmpty_map]
  obtain ⟨y, y1, y2, y3, y4⟩ := while_find (c := asB (op2 neD (lcM [2, 3] (srcM (getv 0)) (PL.unpack 2 (setCons (setv 2) (setCons (setv 3) (setNil)))) (asB (op2 neD (op2 modD (callM intD (consA (getv 1) (ret []))) (getv 2)) (ret (.int 0)))) (ret (.int 1))) (lstM (ret [])))) (body := asgS (op2 addD (getv 1) (ret (.int 1))) (setv 1))
    (fun x => ⟨[.val (sksD l), .val (.int x), .un, .un], c⟩) (fun x => !(l.filter fun r => !decide (x % r.1 = 0)).isEmpty) hcond (fun x _ => by simp) (prodI l - 1).toNat fuel 1 (by show _ < 1000000; omega) (by
      rw [show (1 : Int) + ((prodI l - 1).toNat : Nat) = prodI l by omega]
      rw [List.filter_eq_nil_iff.mpr fun r hr => by simp [p3 r hr]]
      rfl)
  refine ok_seqE y4 ?_
  simp
  refine ⟨y1, by omega, fun a b hr => ?_⟩
  have y3 : (!(l.filter fun r => !decide (y % r.1 = 0)).isEmpty) = false := y3
  rw [Bool.not_eq_false', List.isEmpty_iff] at y3
  have := List.filter_eq_nil_iff.mp y3 (a, b) hr
  simpa using this
/-! at the line -/
theorem is_at_ok {p : Int × Int} {t : Int} {c : List D} (h : 0 < p.1) : m_is_at_line [skD p, .int t] c = .ok (.bl (decide (p.2 ≤ t) && decide ((t - p.2) % p.1 = 0)), c) := by
  cases e : decide (p.2 ≤ t) <;> simp [m_is_at_line, runB, b_is_at_line, skD, L2.atI, ixN, e, h]
def thereB (p : Int × Int) (t : Int) : Bool := decide (p.2 ≤ t) && decide ((t - p.2) % p.1 = 0)
theorem at_line_ok {l : List (Int × Int)} {t : Int} {c : List D} (g : Good l) (h0 : 0 ≤ t) (h1 : t ≤ 1000000000000000000) : ∃ ats : List Int, m_at_line [sksD l, .int t] c = .ok (intsT ats, c) ∧ ∀ (i : Int) (p : Int × Int), 0 ≤ i → l[i.toNat]? = some p → thereB p t = true → i ∈ ats := by
  have h5 := g.l5
  have e1 : enumD [sksD l] = some (((List.range l.length).zip l).map fun q => D.tup [.int (q.1 : Nat), skD q.2]) := by
    show some ((PL.numbered (l.map skD)).map _) = _
    unfold PL.numbered
    rw [List.length_map, List.zip_map, List.map_map]
    rfl
  have hl := lcM_map (vs := [2, 3]) (src := srcA enumD (consA (getv 0) (ret []))) (tgt := PL.unpack 2 (setCons (setv 2) (setCons (setv 3) (setNil)))) (test := asB (fnM m_is_at_line (consA (getv 3) (consA (getv 1) (ret []))))) (elt := getv 2) (env := [.val (sksD l), .val (.int t), .un, .un]) (c := c) (c' := c)
    ((List.range l.length).zip l) (fun q => D.tup [.int (q.1 : Nat), skD q.2]) (fun q => thereB q.2 t) (fun q => .int (q.1 : Nat)) (by simp [e1]) rfl (line1000 (by rw [List.length_zip, List.length_range]; omega)) fun q hq => by
      have hm : q.2 ∈ l := (List.of_mem_zip hq).2
      have := (g.ok _ hm).1
      exact ⟨⟨[.val (sksD l), .val (.int t), .val (.int (q.1 : Nat)), .val (skD q.2)], c⟩, rfl, by simp [is_at_ok (show 0 < q.2.1 by omega), thereB], fun _ => rfl⟩
  refine ⟨(((List.range l.length).zip l).filter fun q => thereB q.2 t).map fun q => ((q.1 : Nat) : Int), ?_, fun i p hi hp ht => ?_⟩
  · refine tells_eq (ok_run [.val (sksD l), .val (.int t), .un, .un] ?_)
    unfold b_at_line
    refine ok_seqE (by simp [need_time_ok g h0 h1]; rfl) ?_
    rw [retS_ap, callM_ap, consA_ap, hl]
    simp [tupleD, intsT]
  · obtain ⟨b1, b2⟩ := List.getElem?_eq_some_iff.mp hp
    refine List.mem_map.mpr ⟨(i.toNat, p), List.mem_filter.mpr ⟨?_, ht⟩, by show ((i.toNat : Nat) : Int) = i; omega⟩
    refine List.mem_of_getElem? (i := i.toNat) ?_
    rw [List.getElem?_zip_eq_some]
    exact ⟨List.getElem?_range b1, hp⟩
end Lw

namespace Lw
open PySem PySem.Spec PyProof.Rows L2 PL
def oneB (l : List (Int × Int)) (t i : Int) : Bool := match l[i.toNat]? with
  | some p => thereB p t
  | none => true
def allB (l : List (Int × Int)) (x : List Int) (t : Int) : Bool := x.all (oneB l t)
theorem allB_iff {l : List (Int × Int)} {x : List Int} {t : Int} : allB l x t = true ↔ Meets (rowsOf l x) t ∧ ∀ r ∈ rowsOf l x, r.2 ≤ t := by
  unfold allB
  rw [List.all_eq_true]
  constructor
  · intro h
    have key : ∀ r ∈ rowsOf l x, r.2 ≤ t ∧ (t - r.2) % r.1 = 0 := fun r hr => by
      obtain ⟨i, hi, e⟩ := rows_mem hr
      have := h i hi
      unfold oneB at this
      rw [e] at this
      simpa [thereB] using this
    exact ⟨fun r hr => (key r hr).2, fun r hr => (key r hr).1⟩
  · rintro ⟨h1, h2⟩ i hi
    unfold oneB
    cases e : l[i.toNat]? with
    | none => rfl
    | some p =>
      have hm : p ∈ rowsOf l x := List.mem_filterMap.mpr ⟨i, hi, e⟩
      simp [thereB, h1 p hm, h2 p hm]
def timesL (l : List (Int × Int)) (x : List Int) (N : Nat) : List Nat := if x = [] then [0] else (List.range N).filter fun t => allB l x (t : Nat)
structure Whole (l : List (Int × Int)) (W last : Int) : Prop where
  w1 : 1 ≤ W
  w2 : W ≤ 6561
  div : ∀ r ∈ l, W % r.1 = 0
  l0 : 0 ≤ last
  l1 : last ≤ 100
  late : ∀ r ∈ l, r.2 ≤ last
inductive Turn (l : List (Int × Int)) (x : List Int) (N : Nat) : D → Prop where
  | bad : x ≠ [] → gd l x = false → timesL l x N = [] → Turn l x N .non
  | good (A : Nat) (b : Int) (r : List Nat) : gd l x = true → timesL l x N = A :: r → 0 < b → b ≤ 777600000 → A < N → (∀ i ∈ x, ∀ p, l[i.toNat]? = some p → thereB p A = true) → (x ≠ [] → ∀ u : Nat, u ≤ N → (((timesL l x N).filter fun t => decide (t < u)).length : Int) = cntI A b u) → (x = [] → ∀ u : Nat, cntI A b u = u) → Turn l x N (.tup [.int (A : Nat), .int b])
theorem turn_ok {l : List (Int × Int)} {x : List Int} {W last : Int} {v : D} (g : Good l) (w : Whole l W last) (h : Lot l.length x) (m : MeetX l x v) : Turn l x (last + W).toNat v := by
  have hsub : ∀ r ∈ rowsOf l x, r ∈ l := fun r hr => by
    obtain ⟨i, _, e⟩ := rows_mem hr
    exact List.mem_of_getElem? e
  have hg := gd_meet m
  have w1 := w.w1
  have l0 := w.l0
  rcases m with ⟨rfl, hn⟩ | ⟨a, b, rfl, ma, a0, b0, bb, hb, la, lm⟩
  · have hx : x ≠ [] := by
      rintro rfl
      exact hn ⟨0, fun r hr => by cases hr⟩
    refine .bad hx (by simpa using hg) ?_
    unfold timesL
    rw [if_neg hx]
    refine List.filter_eq_nil_iff.mpr fun t _ ht => hn ⟨_, (allB_iff.mp ht).1⟩
  · have hgd : gd l x = true := by simpa using hg
    obtain ⟨A, rfl⟩ : ∃ A : Nat, a = (A : Nat) := ⟨a.toNat, by omega⟩
    obtain ⟨B, rfl⟩ : ∃ B : Nat, b = (B : Nat) := ⟨b.toNat, by omega⟩
    -- a time within one whole
    have hA : (A : Int) < last + W := by
      have n0 := Int.emod_nonneg ((A : Int) - last) (show W ≠ 0 by omega)
      have n1 := Int.emod_lt_of_pos ((A : Int) - last) (show 0 < W by omega)
      have n2 := Int.mul_ediv_add_emod ((A : Int) - last) W
      have := lm (last + ((A : Int) - last) % W) (by omega) (fun r hr => by
        obtain ⟨k, e⟩ := mod0.mp (w.div r (hsub r hr))
        obtain ⟨q, e2⟩ := mod0.mp (ma r hr)
        refine mod0.mpr ⟨q - k * (((A : Int) - last) / W), ?_⟩
        have e3 : W * (((A : Int) - last) / W) = r.1 * (k * (((A : Int) - last) / W)) := by rw [← Int.mul_assoc, ← e]
        rw [Int.mul_sub]
        omega) (fun r hr => by have := w.late r (hsub r hr); omega)
      omega
    have hT : ∀ t : Nat, allB l x (t : Nat) = (decide (A ≤ t) && decide ((t - A) % B = 0)) := fun t => by
      rw [Bool.eq_iff_iff, allB_iff, Bool.and_eq_true, decide_eq_true_eq, decide_eq_true_eq]
      constructor
      · rintro ⟨h1, h2⟩
        have h3 := lm t (by omega) h1 h2
        have h4 := (hb t).mp h1
        refine ⟨by omega, ?_⟩
        have : (((t - A : Nat) : Int)) % (B : Nat) = 0 := by rw [show ((t - A : Nat) : Int) = (t : Int) - A by omega]; exact h4
        omega
      · rintro ⟨h1, h2⟩
        have h4 : ((t : Int) - A) % (B : Nat) = 0 := by rw [show (t : Int) - A = ((t - A : Nat) : Int) by omega]; omega
        exact ⟨(hb t).mpr h4, fun r hr => by have := la r hr; omega⟩
    have hth : ∀ i ∈ x, ∀ p, l[i.toNat]? = some p → thereB p (A : Nat) = true := fun i hi p hp => by
      have hm : p ∈ rowsOf l x := List.mem_filterMap.mpr ⟨i, hi, hp⟩
      have h1 := ma p hm
      have h2 := la p hm
      simp [thereB, h1, h2]
    by_cases hx : x = []
    · subst hx
      have A0 : A = 0 := by have := lm 0 (by omega) (fun r hr => by cases hr) (fun r hr => by cases hr); omega
      have B1 : B = 1 := by
        have := (hb ((A : Int) + 1)).mp (fun r hr => by cases hr)
        rw [show (A : Int) + 1 - A = 1 by omega] at this
        have h2 := Int.le_of_dvd (by decide) (Int.dvd_of_emod_eq_zero this)
        omega
      subst A0 B1
      refine .good 0 1 [] hgd (by simp [timesL]) (by decide) (by decide) (by omega) hth (fun z => absurd rfl z) fun _ u => ?_
      unfold cntI
      split
      · omega
      · omega
    · have hTL : timesL l x (last + W).toNat = (List.range (last + W).toNat).filter fun t => allB l x (t : Nat) := by unfold timesL; rw [if_neg hx]
      obtain ⟨r, hr⟩ := filter_head (N := (last + W).toNat) (a := A) (p := fun t => allB l x (t : Nat)) (by omega) (by rw [hT]; simp) (fun t ht => by
        have ht : allB l x (t : Nat) = true := ht
        rw [hT, Bool.and_eq_true, decide_eq_true_eq] at ht
        exact ht.1)
      refine .good A B r hgd (by rw [hTL, hr]) b0 bb (by omega) hth (fun _ u hu => ?_) fun z => absurd z hx
      have h1 := count_until (u := u) (p := fun t => allB l x (t : Nat)) ((last + W).toNat - u)
      rw [show u + ((last + W).toNat - u) = (last + W).toNat by omega] at h1
      rw [hTL, h1, count_step (by omega) hT u]
      unfold cntI
      by_cases hua : u ≤ A
      · rw [if_pos hua, if_pos (by omega)]; rfl
      · rw [if_neg hua, if_neg (by omega), show ((u : Nat) : Int) - (A : Nat) - 1 = ((u - A - 1 : Nat) : Int) by omega]
        push_cast
        rfl
theorem neT {x : List Int} : neD (intsT x) (.tup []) = some (.bl (!decide (x = []))) := by
  have h : dEq (intsT x) (.tup []) = decide (x = []) := eqv_ints x []
  show (if (dOk 60 (intsT x) && dOk 60 (.tup [])) = true then some (D.bl (!dEq (intsT x) (.tup []))) else none) = _
  rw [if_pos (by rw [dOk_intsT]; rfl), h]
def natD (t : Nat) : D := .int (t : Nat)
theorem times_dOk (T : List Nat) : dOk 60 (.lst (T.map natD)) = true := dOk_lst fun d hd => by
  obtain ⟨t, _, rfl⟩ := List.mem_map.mp hd
  exact dOk_int
theorem mem_ints {i : Int} {ats : List Int} (h : i ∈ ats) : notinD (.int i) (intsT ats) = some (.bl false) := by
  have hm : memD (.int i) (ats.map D.int) = true := List.any_eq_true.mpr ⟨.int i, List.mem_map.mpr ⟨i, h, rfl⟩, by rw [dEq_int]; exact decide_eq_true rfl⟩
  show (if (dOk 59 (.int i) && dOks 58 (ats.map D.int)) = true then some (D.bl (!memD (.int i) (ats.map D.int))) else none) = _
  rw [if_pos (by rw [dOk_int, Bool.true_and]; exact dOks_all fun d hd => by obtain ⟨j, _, rfl⟩ := List.mem_map.mp hd; exact dOk_int), hm]
  rfl
theorem subs_take {n k : Nat} {x : List Int} (h : (subs n)[k]? = some x) (p : List Int → Bool) : ((subs n).take (k + 1)).filter p = ((subs n).take k).filter p ++ if p x = true then [x] else [] := by
  rw [List.take_succ, h, List.filter_append]
  cases hp : p x <;> simp [hp]
end Lw

namespace Lw
open PySem PySem.Spec PyProof.Rows L2 PL
theorem sameOk_ints {n : Nat} {m : List Int} (h : m.length ≤ 1000) : sameOk (n + 2) (intsT m) = true := by
  unfold intsT sameOk
  dsimp only
  rw [List.length_map, Bool.and_eq_true]
  refine ⟨Nat.ble_eq_true_of_le h, List.all_eq_true.mpr fun d hd => ?_⟩
  obtain ⟨i, _, rfl⟩ := List.mem_map.mp hd
  rfl
theorem sameOk_key {n : Nat} {k : Int} {m : List Int} (h : m.length ≤ 1000) : sameOk (n + 3) (.tup [.int k, intsT m]) = true := by
  unfold sameOk
  simp only [List.all_cons, List.all_nil, sameOk_ints h]
  rfl
theorem right_ok {c : List D} (hc : Cup c) : Tells m__law_right [.cup] c fun v c' => v = .bl true ∧ Cup c' := by
  refine ok_run [.val .cup, .un, .un, .un, .un, .un, .un, .un, .un, .un, .un, .un, .un, .un, .un] ?_
  unfold b__law_right
  obtain ⟨d, c1, e1, hc1, hd⟩ := some_ok (ds := [.int 6, .int 9]) hc (by decide) (by decide)
  obtain ⟨lap, rfl, p0, p1⟩ : ∃ lap : Int, d = .int lap ∧ 0 < lap ∧ lap ≤ 9 := by
    simp at hd; rcases hd with rfl | rfl <;> exact ⟨_, rfl, by decide, by decide⟩
  obtain ⟨v, c2, e2, l, rfl, hc2, l1, l2, l3⟩ := skaters_ok (most := 4) (lap := lap) hc1 (by decide) (by decide) p0 (by omega)
  have g : Good l := ⟨l1, by omega, fun p hp => by have := l3 p hp; exact ⟨this.1, by omega, this.2.2⟩⟩
  refine ok_seqE (by simp [e1, e2]; rfl) ?_
  have e3 : lenD [sksD l] = some (.int l.length) := by simp [sksD]
  obtain ⟨v, c3, e4, rfl, W, rfl, w1, w2, w3⟩ := whole_ok (l := l) (c := c2) (by omega) fun r hr => by have := l3 r hr; omega
  -- the latest
  obtain ⟨last, hlast, m0, m1, m2⟩ : ∃ last : Int, orD PL.maxD maxA [.lst ((l.map (·.2)).map D.int)] = some (.int last) ∧ 0 ≤ last ∧ last ≤ 100 ∧ ∀ r ∈ l, r.2 ≤ last := by
    have hne : l.map (·.2) ≠ [] := by
      intro z
      have := List.map_eq_nil_iff.mp z
      rw [this] at l1
      exact absurd l1 (by decide)
    refine ⟨maxI (l.map (·.2)), orD_fst (maxD_lst hne), ?_, ?_, ?_⟩
    · obtain ⟨r, hr, e⟩ := List.mem_map.mp (maxI_mem hne)
      have := l3 r hr; omega
    · obtain ⟨r, hr, e⟩ := List.mem_map.mp (maxI_mem hne)
      have := l3 r hr; omega
    · intro r hr
      exact maxI_le _ (List.mem_map.mpr ⟨r, hr, rfl⟩)
  have w : Whole l W last := ⟨w1, w2, w3, m0, m1, m2⟩
  have hmx : lcM [11, 12] (srcM (getv 1)) (PL.unpack 2 (setCons (setv 11) (setCons (setv 12) (setNil)))) (ret true) (getv 12) ⟨[.val .cup, .val (sksD l), .un, .un, .un, .un, .un, .un, .un, .un, .un, .un, .un, .un, .un], c3⟩ = .ok (.lst ((l.map (·.2)).map D.int), c3) := by
    rw [List.map_map]
    refine lcM_all (c' := c3) l skD _ (by simp [sksD]) rfl (line1000 (by omega)) fun r hr => ?_
    exact ⟨⟨[.val .cup, .val (sksD l), .un, .un, .un, .un, .un, .un, .un, .un, .un, .val (.int r.1), .val (.int r.2), .un, .un], c3⟩, rfl, rfl, rfl⟩
  have hN : ((last + W).toNat : Int) = last + W := by omega
  refine ok_seqE (by simp [-List.map_map, par2, e4, hmx, hlast]; rfl) ?_
  refine ok_seqE (by simp [e3, listRg_int (n := l.length) (by omega), subsets_ok (n := l.length) (c := c3) (by omega)]; rfl) ?_
  refine ok_seqE (by simp; rfl) ?_
  refine ok_seqN _ (ok_for (ds := (subs l.length).map intsT) (c' := c3) (fun k s => ∃ (x6 x8 x9 x10 : Slot) (c : List D), s = ⟨[.val .cup, .val (sksD l), .val (.int W), .val (.int last), .val (.lst ((subs l.length).map intsT)), .val (.lst ((((subs l.length).take k).filter (gd l)).map intsT)), x6, .un, x8, x9, x10, .un, .un, .un, .un], c⟩ ∧ Cup c ∧ notOwn x6 = true) (by simp) ⟨.un, .un, .un, .un, c3, rfl, hc2, rfl⟩ ?_ fun s h => h) ?_
  · rintro k d s hd ⟨x6, x8, x9, x10, c, rfl, hc, n6⟩
    rw [List.getElem?_map] at hd
    obtain ⟨x, hx, rfl⟩ : ∃ x, (subs l.length)[k]? = some x ∧ d = intsT x := by
      cases e : (subs l.length)[k]? with
      | none => rw [e] at hd; cases hd
      | some x => rw [e] at hd; cases hd; exact ⟨x, rfl, rfl⟩
    have hlot := subs_lot (List.mem_of_getElem? hx)
    have hsm := subs_small (k := l.length) (by omega)
    have htl : (((subs l.length).take k).filter (gd l)).length ≤ 32 := Nat.le_trans (List.length_filter_le _ _) (by rw [List.length_take]; omega)
    simp only [setv_ap, List.set, okr_ok]
    refine ok_seqE (by simp; rfl) ?_
    -- the times
    refine ok_seqE (s' := ⟨[.val .cup, .val (sksD l), .val (.int W), .val (.int last), .val (.lst ((subs l.length).map intsT)), .val (.lst ((((subs l.length).take k).filter (gd l)).map intsT)), .val (intsT x), .un, .val (.lst ((timesL l x (last + W).toNat).map natD)), x9, x10, .un, .un, .un, .un], c⟩) (by
      by_cases hxe : x = []
      · simp [neT, hxe, timesL, natD]
      · have hat : ∀ t : Nat, asB (op2 eqD (lcM [14] (srcM (getv 6)) (setv 14) (notT (asB (fnM m__law_is_there (consA (op2 ixD (getv 1) (getv 14)) (consA (getv 13) (ret [])))))) (getv 14)) (lstM (ret [])))
            ⟨[.val .cup, .val (sksD l), .val (.int W), .val (.int last), .val (.lst ((subs l.length).map intsT)), .val (.lst ((((subs l.length).take k).filter (gd l)).map intsT)), .val (intsT x), .un, .val (.lst [.int 0]), x9, x10, .un, .un, .val (natD t), .un], c⟩ = .ok (allB l x (t : Nat), c) := fun t => by
          have h1 := lcM_map (vs := [14]) (src := srcM (getv 6)) (tgt := setv 14) (test := notT (asB (fnM m__law_is_there (consA (op2 ixD (getv 1) (getv 14)) (consA (getv 13) (ret [])))))) (elt := getv 14) (env := [.val .cup, .val (sksD l), .val (.int W), .val (.int last), .val (.lst ((subs l.length).map intsT)), .val (.lst ((((subs l.length).take k).filter (gd l)).map intsT)), .val (intsT x), .un, .val (.lst [.int 0]), x9, x10, .un, .un, .val (natD t), .un]) (c := c) (c' := c)
            x D.int (fun i => !oneB l (t : Nat) i) D.int (by simp [intsT]) rfl (line1000 (by have := hlot.len; omega)) fun i hi => by
              have hr := hlot.inn i hi
              have hgt : l[i.toNat]? = some l[i.toNat] := List.getElem?_eq_getElem (by omega)
              have e : ixD (sksD l) (.int i) = some (skD l[i.toNat]) := atS hr.1 hgt
              have hp := (g.ok _ (List.getElem_mem (show i.toNat < l.length by omega))).1
              refine ⟨_, rfl, ?_, fun _ => ?_⟩
              · simp [wipeE, e, natD, there_ok (show 0 < l[i.toNat].1 by omega), oneB, hgt, thereB]
              · simp [wipeE]
          have h2 := eqD_nil (ds := (x.filter fun i => !oneB l (t : Nat) i).map D.int) (dOk_lst fun d hd => by obtain ⟨j, _, rfl⟩ := List.mem_map.mp hd; exact dOk_int)
          rw [asB_ap, op2_ap, h1]
          simp only [bind_ok, lstM_ap, ret_ap, h2, lift_some, List.isEmpty_map]
          congr 2
          rw [Bool.eq_iff_iff, List.isEmpty_iff, List.filter_eq_nil_iff]
          unfold allB
          rw [List.all_eq_true]
          simp
        have h3 := lcM_map (vs := [13]) (src := srcA range1 (consA (op2 addD (getv 3) (getv 2)) (ret []))) (tgt := setv 13) (test := asB (op2 eqD (lcM [14] (srcM (getv 6)) (setv 14) (notT (asB (fnM m__law_is_there (consA (op2 ixD (getv 1) (getv 14)) (consA (getv 13) (ret [])))))) (getv 14)) (lstM (ret [])))) (elt := getv 13) (env := [.val .cup, .val (sksD l), .val (.int W), .val (.int last), .val (.lst ((subs l.length).map intsT)), .val (.lst ((((subs l.length).take k).filter (gd l)).map intsT)), .val (intsT x), .un, .val (.lst [.int 0]), x9, x10, .un, .un, .un, .un]) (c := c) (c' := c)
          (List.range (last + W).toNat) natD (fun t => allB l x (t : Nat)) natD (by simp; rw [range1_int (by omega) (by omega)]; rfl) rfl (line100k (by rw [List.length_range]; omega)) fun t _ => ⟨_, rfl, hat t, fun _ => rfl⟩
        simp [neT, hxe, h3, timesL]) ?_
    have hne := neD_nil (times_dOk (timesL l x (last + W).toNat))
    obtain ⟨v', cc, em, rfl, hmx⟩ := meet_lot (c := c) g hlot
    have ht := turn_ok g w hlot hmx
    -- the lots that are good so far
    have hgl : op2 addD (getv 5) (iteM (asB (op2 neD (getv 8) (lstM (ret [])))) (lstM (consA (getv 6) (ret []))) (lstM (ret []))) ⟨[.val .cup, .val (sksD l), .val (.int W), .val (.int last), .val (.lst ((subs l.length).map intsT)), .val (.lst ((((subs l.length).take k).filter (gd l)).map intsT)), .val (intsT x), .un, .val (.lst ((timesL l x (last + W).toNat).map natD)), x9, x10, .un, .un, .un, .un], cc⟩ = .ok (.lst ((((subs l.length).take (k + 1)).filter (gd l)).map intsT), cc) := by
      have hgd : (!((timesL l x (last + W).toNat).map natD).isEmpty) = gd l x := by
        cases ht with
        | bad hx hg hT => rw [hT, hg]; rfl
        | good A b r hg hT => rw [hT, hg]; rfl
      rw [hgd] at hne
      rw [subs_take hx]
      cases hb : gd l x with
      | true =>
        rw [hb] at hne
        have ha := addL (xs := (((subs l.length).take k).filter (gd l)).map intsT) (ys := [intsT x]) (by rw [List.length_map]; show _ + 1 ≤ _; omega)
        simp [-List.map_map, hne, ha]
      | false =>
        rw [hb] at hne
        have ha := addL (xs := (((subs l.length).take k).filter (gd l)).map intsT) (ys := []) (by rw [List.length_map]; show _ + 0 ≤ _; omega)
        simp [-List.map_map, hne, ha]
    refine ok_seqE (by rw [asgS_ap, hgl]; simp [-List.map_map]; rfl) ?_
    -- together
    obtain ⟨v1, c1', f1, rfl, v1', g1, g2⟩ := together_ok (c := cc) g hlot
    have tt1 := turn_ok g w hlot g1
    obtain ⟨u, c4, e5, hc4, u0, u1⟩ := roll_ok (many := last + W) hc (by omega) (by omega)
    obtain ⟨U, rfl⟩ : ∃ U : Nat, u = (U : Nat) := ⟨u.toNat, by omega⟩
    have sI : ∀ (c : List D) (i : Int), m__law_same 6 [.int i, .int i] c = .ok (.bl true, c) := fun c i => same_refl 6 _ rfl
    have sN : ∀ (c : List D), m__law_same 6 [.non, .non] c = .ok (.bl true, c) := fun c => same_refl 6 _ rfl
    -- how many before
    have hcl : ∀ (y : Slot), lcM [13] (srcM (getv 8)) (setv 13) (asB (op2 ltD (getv 13) (getv 9))) (getv 13) ⟨[.val .cup, .val (sksD l), .val (.int W), .val (.int last), .val (.lst ((subs l.length).map intsT)), .val (.lst ((((subs l.length).take (k + 1)).filter (gd l)).map intsT)), .val (intsT x), .un, .val (.lst ((timesL l x (last + W).toNat).map natD)), .val (.int (U : Nat)), y, .un, .un, .un, .un], c4⟩ = .ok (.lst (((timesL l x (last + W).toNat).filter fun t => decide (t < U)).map natD), c4) := fun y => by
      have hTl : (timesL l x (last + W).toNat).length ≤ 100000 := by
        unfold timesL
        split
        · decide
        · exact Nat.le_trans (List.length_filter_le _ _) (by rw [List.length_range]; omega)
      refine lcM_map (c' := c4) (timesL l x (last + W).toNat) natD (fun t => decide (t < U)) natD (by simp) rfl (line100k hTl) fun t _ => ⟨_, rfl, ?_, fun _ => ?_⟩
      · simp [wipeE, natD]
      · simp [wipeE]
    obtain ⟨v2, c2', f2, hcc, v2', g3, g4⟩ := count_ok (t := U) (c := c4) g hlot (by omega) (by omega)
    rw [hcc] at f2
    have tt2 := turn_ok g w hlot g3
    cases ht with
    | bad hxe hg hT =>
      obtain ⟨rfl, rfl⟩ : v1' = .non ∧ v1 = .non := by
        rcases g2 with h | ⟨a, b, rfl, _⟩
        · exact h
        · cases tt1 with
          | good _ _ _ hg' => rw [hg] at hg'; cases hg'
      obtain ⟨rfl, rfl⟩ : v2' = .non ∧ v2 = .int 0 := by
        rcases g4 with h | ⟨a, b, rfl, _⟩
        · exact h
        · cases tt2 with
          | good _ _ _ hg' => rw [hg] at hg'; cases hg'
      rw [hT] at hne hcl ⊢
      simp only [List.map_nil, List.filter_nil, List.isEmpty_nil, Bool.not_true] at hne hcl ⊢
      refine ok_seqE (by simp [-List.map_map, f1, hne, sN]; rfl) ?_
      refine ok_seqE (by simp [-List.map_map, e5]; rfl) ?_
      refine ok_seqE (by simp [-List.map_map, neT, hxe, hcl]; rfl) ?_
      refine ok_seqE (by simp [-List.map_map, f2, sI]; rfl) ?_
      refine ok_seqE (by simp [-List.map_map, hne]; rfl) ?_
      simp [-List.map_map, hne]
      exact ⟨_, _, _, _, _, ⟨⟨rfl, rfl, rfl, rfl⟩, rfl⟩, hc4, rfl⟩
    | good A b r hg hT b0 bb hA hth hcu hcn =>
      obtain rfl : v1 = .int (A : Nat) := by
        rcases g2 with ⟨rfl, _⟩ | ⟨a, b', rfl, rfl⟩
        · cases tt1 with
          | bad _ hg' => rw [hg] at hg'; cases hg'
        · cases tt1 with
          | good A' b1 r' _ hT' =>
            rw [hT] at hT'
            injection hT' with q1 q2
            rw [q1]
      -- its counts
      have hcount : ∀ (c : List D) (t : Nat), (t : Int) ≤ 1000000 → ∃ b' : Int, m_count_together [sksD l, intsT x, .int (t : Nat)] c = .ok (.int (cntI (A : Nat) b' (t : Nat)), c) ∧ 0 < b' ∧ (x ≠ [] → ∀ u : Nat, u ≤ (last + W).toNat → (((timesL l x (last + W).toNat).filter fun t => decide (t < u)).length : Int) = cntI A b' u) ∧ (x = [] → ∀ u : Nat, cntI A b' u = u) := fun c t htb => by
        obtain ⟨v3, c3', f3, rfl, v3', g5, g6⟩ := count_ok (t := t) (c := c) g hlot (by omega) (by omega)
        have tt3 := turn_ok g w hlot g5
        rcases g6 with ⟨rfl, _⟩ | ⟨a, b', rfl, rfl⟩
        · cases tt3 with
          | bad _ hg' => rw [hg] at hg'; cases hg'
        · cases tt3 with
          | good A' b1 r' _ hT' b1p _ _ _ k1 k2 =>
            rw [hT] at hT'
            injection hT' with q1 q2
            subst q1
            exact ⟨b', f3, b1p, k1, k2⟩
      obtain ⟨b1, f3, b1p, k1, k2⟩ := hcount c4 U (by omega)
      obtain ⟨b2, f4, b2p, _, _⟩ := hcount c4 A (by omega)
      obtain ⟨b3, f5, b3p, _, _⟩ := hcount c4 (A + 1) (by omega)
      have z0 : cntI (A : Nat) b2 (A : Nat) = 0 := by unfold cntI; rw [if_pos (Int.le_refl _)]
      have z1 : cntI (A : Nat) b3 ((A + 1 : Nat) : Int) = 1 := by
        unfold cntI
        rw [if_neg (by omega), show ((A + 1 : Nat) : Int) - (A : Nat) - 1 = 0 by omega, Int.zero_ediv]
        rfl
      rw [z0] at f4
      rw [z1] at f5
      obtain ⟨ats, f6, f7⟩ := at_line_ok (t := (A : Nat)) (c := c4) g (by omega) (by omega)
      have hq : ∀ (y9 y10 : Slot), lcM [14] (srcM (getv 6)) (setv 14) (asB (op2 notinD (getv 14) (fnM m_at_line (consA (getv 1) (consA (op2 ixD (getv 8) (ret (.int 0))) (ret [])))))) (getv 14) ⟨[.val .cup, .val (sksD l), .val (.int W), .val (.int last), .val (.lst ((subs l.length).map intsT)), .val (.lst ((((subs l.length).take (k + 1)).filter (gd l)).map intsT)), .val (intsT x), .un, .val (.lst (natD A :: r.map natD)), y9, y10, .un, .un, .un, .un], c4⟩ = .ok (.lst [], c4) := fun y9 y10 => by
        have := lcM_map (vs := [14]) (src := srcM (getv 6)) (tgt := setv 14) (test := asB (op2 notinD (getv 14) (fnM m_at_line (consA (getv 1) (consA (op2 ixD (getv 8) (ret (.int 0))) (ret [])))))) (elt := getv 14) (env := [.val .cup, .val (sksD l), .val (.int W), .val (.int last), .val (.lst ((subs l.length).map intsT)), .val (.lst ((((subs l.length).take (k + 1)).filter (gd l)).map intsT)), .val (intsT x), .un, .val (.lst (natD A :: r.map natD)), y9, y10, .un, .un, .un, .un]) (c := c4) (c' := c4)
          x D.int (fun _ => false) D.int (by simp [intsT]) rfl (line1000 (by have := hlot.len; omega)) fun i hi => by
            have hr := hlot.inn i hi
            have hgt : l[i.toNat]? = some l[i.toNat] := List.getElem?_eq_getElem (by omega)
            have hin := mem_ints (f7 i _ hr.1 hgt (hth i hi _ hgt))
            refine ⟨_, rfl, ?_, fun z => by cases z⟩
            simp [wipeE, L2.atI, ixN, natD, f6, hin]
        rw [this]
        simp
      have hne0 : neD (.lst []) (.lst []) = some (.bl false) := neD_nil (by rw [dOk]; rfl)
      have hpair : neD (.tup [.int 0, .int 1]) (.tup [.int 0, .int 1]) = some (.bl false) := by
        have h := eqv_ints [0, 1] [0, 1]
        show (if (dOk 60 (intsT [0, 1]) && dOk 60 (intsT [0, 1])) = true then some (D.bl (!PyData.eqv (toPy (intsT [0, 1])) (toPy (intsT [0, 1])))) else none) = _
        rw [if_pos (by rw [dOk_intsT]; rfl), h]
        rfl
      have hat0 : L2.atI (natD A :: r.map natD) 0 = some (natD A) := by simp [L2.atI, ixN]
      have hsA : ∀ c, m__law_same 6 [.int (A : Nat), natD A] c = .ok (.bl true, c) := fun c => sI c _
      have f4' : m_count_together [sksD l, intsT x, natD A] c4 = .ok (.int 0, c4) := f4
      have f5' : m_count_together [sksD l, intsT x, natD (A + 1)] c4 = .ok (.int 1, c4) := f5
      have hadd : addD (natD A) (.int 1) = some (natD (A + 1)) := rfl
      rw [hT] at hne hcl k1 ⊢
      simp only [List.map_cons, List.isEmpty_cons, Bool.not_false] at hne hcl ⊢
      refine ok_seqE (by simp [-List.map_map, f1, hne, hsA, hat0]; rfl) ?_
      refine ok_seqE (by simp [-List.map_map, e5]; rfl) ?_
      refine ok_seqE (s' := ⟨[.val .cup, .val (sksD l), .val (.int W), .val (.int last), .val (.lst ((subs l.length).map intsT)), .val (.lst ((((subs l.length).take (k + 1)).filter (gd l)).map intsT)), .val (intsT x), .un, .val (.lst (natD A :: r.map natD)), .val (.int (U : Nat)), .val (.int (cntI (A : Nat) b1 (U : Nat))), .un, .un, .un, .un], c4⟩) (by
        by_cases hxe : x = []
        · simp [-List.map_map, neT, hxe, k2 hxe]
        · have hk := k1 hxe U (by omega)
          simp [-List.map_map, -List.filter_cons, neT, hxe, hcl]
          exact hk) ?_
      refine ok_seqE (by simp [-List.map_map, f3, sI]; rfl) ?_
      refine ok_seqE (by simp [-List.map_map, hne, hat0, f4', hadd, f5', hpair]; rfl) ?_
      simp [-List.map_map, hne, hq, hne0]
      exact ⟨_, _, _, _, _, ⟨⟨rfl, rfl, rfl, rfl⟩, rfl⟩, hc4, rfl⟩
  · rintro _ ⟨x6, x8, x9, x10, c, rfl, hc, n6⟩
    have htk : (subs l.length).take ((subs l.length).map intsT).length = subs l.length := by rw [List.length_map, List.take_length]
    rw [htk]
    obtain ⟨m, hb, hm⟩ := best_of (l := l) (L := (subs l.length).filter (gd l)) fun x => List.mem_filter
    have hsm := subs_small (k := l.length) (by omega)
    have h2 := lcM_all (vs := [6]) (src := srcM (getv 5)) (tgt := setv 6) (elt := tupM (consA (negM (callM (lenD) (consA (getv 6) (ret [])))) (consA (getv 6) (ret [])))) (env := [.val .cup, .val (sksD l), .val (.int W), .val (.int last), .val (.lst ((subs l.length).map intsT)), .val (.lst (((subs l.length).filter (gd l)).map intsT)), x6, .un, x8, x9, x10, .un, .un, .un, .un]) (c := c) (c' := c)
      ((subs l.length).filter (gd l)) intsT (fun x => keyT (-(x.length : Int)) x) (by simp) (by cases x6 <;> first | rfl | cases n6) (line1000 (Nat.le_trans (List.length_filter_le _ _) (by omega))) fun x hx => by
        exact ⟨_, rfl, rfl, by simp [wipeE, intsT, keyT]⟩
    refine ok_seqE (by simp [-List.map_map, h2, hm]; rfl) ?_
    obtain ⟨v, c', em, rfl, m', hb', rfl⟩ := most_ok (c := c) g
    obtain rfl := hb.uniq hb'
    have hs : ∀ c, m__law_same 6 [.tup [.int m.length, intsT m], .tup [.int m.length, intsT m]] c = .ok (.bl true, c) := fun c => same_refl 6 _ (sameOk_key (by have := (subs_lot hb.mem).len; omega))
    simp [keyT, L2.atI, ixN, em, hs]
    exact hc
end Lw

namespace Lw
open PySem PySem.Spec PyProof.Rows L2 PL
/-- a pair whose laps share nothing -/
theorem pair_ok {p q a b : Int} {c : List D} (hp : 1 ≤ p ∧ p ≤ 60) (hq : 1 ≤ q ∧ q ≤ 60) (hg : gcdI p q = 1) (ha : 0 ≤ a ∧ a ≤ 100) (hb : 0 ≤ b ∧ b ≤ 100) :
    ∃ T : Int, (∀ c, m_together [sksD [(p, a), (q, b)], intsT [0, 1]] c = .ok (.int T, c)) ∧ (T - a) % p = 0 ∧ (T - b) % q = 0 ∧ a ≤ T ∧ b ≤ T ∧ T < (if b > a then b else a) + p * q ∧
      (∀ c t, 0 ≤ t → t ≤ 1000000000000000000 → m_count_together [sksD [(p, a), (q, b)], intsT [0, 1], .int t] c = .ok (.int (cntI T (p * q) t), c)) ∧
      ∀ c, m_most_together [sksD [(p, a), (q, b)]] c = .ok (.tup [.int 2, intsT [0, 1]], c) := by
  have g : Good [(p, a), (q, b)] := ⟨by simp, by simp, fun r hr => by simp at hr; unfold Sk; rcases hr with rfl | rfl <;> simp <;> omega⟩
  have hl : Lot [(p, a), (q, b)].length [0, 1] := ⟨by simp, fun i hi => by simp at hi; rcases hi with rfl | rfl <;> simp, by simp [rises]⟩
  have hrows : rowsOf [(p, a), (q, b)] [0, 1] = [(p, a), (q, b)] := by simp [rowsOf]
  have hpq : 0 < p * q := Int.mul_pos (by omega) (by omega)
  have hm : ∀ z, Meets [(p, a), (q, b)] z ↔ (z - a) % p = 0 ∧ (z - b) % q = 0 := fun z => by simp [Meets]
  obtain ⟨z, z1, z2⟩ := crt_some (a := p) (b := q) (s := a) (t := b) (by omega) (by omega) (by rw [hg]; exact Int.emod_one _)
  have hgd : gd [(p, a), (q, b)] [0, 1] = true := by
    obtain ⟨v, c', _, _, hmm⟩ := meet_lot (c := c) g hl
    have h := gd_meet hmm
    rcases hmm with ⟨rfl, hn⟩ | ⟨x, y, rfl, _⟩
    · exact absurd ⟨z, by rw [hrows]; exact (hm z).mpr ⟨z1, z2⟩⟩ hn
    · simpa using h
  -- what all its meetings are
  have key : ∀ v, MeetX [(p, a), (q, b)] [0, 1] v → ∃ T : Int, v = .tup [.int T, .int (p * q)] ∧ (T - a) % p = 0 ∧ (T - b) % q = 0 ∧ a ≤ T ∧ b ≤ T ∧ T < (if b > a then b else a) + p * q ∧ ∀ y, 0 ≤ y → (y - a) % p = 0 → (y - b) % q = 0 → a ≤ y → b ≤ y → T ≤ y := fun v h => by
    unfold MeetX at h
    rw [hrows] at h
    rcases h with ⟨rfl, hn⟩ | ⟨T, B, rfl, mT, T0, B0, _, hB, la, lm⟩
    · exact absurd ⟨z, (hm z).mpr ⟨z1, z2⟩⟩ hn
    · obtain ⟨t1, t2⟩ := (hm T).mp mT
      have l1 := la (p, a) (by simp)
      have l2 := la (q, b) (by simp)
      have lm' : ∀ y, 0 ≤ y → (y - a) % p = 0 → (y - b) % q = 0 → a ≤ y → b ≤ y → T ≤ y := fun y y0 y1 y2 y3 y4 => lm y y0 ((hm y).mpr ⟨y1, y2⟩) fun r hr => by simp at hr; rcases hr with rfl | rfl <;> assumption
      have hBe : B = p * q := by
        have d1 : B ∣ p * q := Int.dvd_of_emod_eq_zero (by
          have := (hB (T + p * q)).mp ((hm _).mpr ⟨?_, ?_⟩)
          · rw [show T + p * q - T = p * q by omega] at this; exact this
          · obtain ⟨k, e⟩ := mod0.mp t1
            exact mod0.mpr ⟨k + q, by rw [Int.mul_add]; omega⟩
          · obtain ⟨k, e⟩ := mod0.mp t2
            exact mod0.mpr ⟨k + p, by rw [Int.mul_add, Int.mul_comm q p]; omega⟩)
        have d2 : p * q ∣ B := by
          have h1 := (hm (T + B)).mp ((hB (T + B)).mpr (by rw [show T + B - T = B by omega]; exact Int.emod_self))
          have h2 : B % p = 0 := by
            obtain ⟨k, e⟩ := mod0.mp h1.1
            obtain ⟨k2, e2⟩ := mod0.mp t1
            exact mod0.mpr ⟨k - k2, by rw [Int.mul_sub]; omega⟩
          have h3 : B % q = 0 := by
            obtain ⟨k, e⟩ := mod0.mp h1.2
            obtain ⟨k2, e2⟩ := mod0.mp t2
            exact mod0.mpr ⟨k - k2, by rw [Int.mul_sub]; omega⟩
          have h4 := lcm_dvd (a := p) (b := q) (by omega) (by omega) h2 h3
          rw [hg, Int.ediv_one] at h4
          exact Int.dvd_of_emod_eq_zero h4
        exact Int.le_antisymm (Int.le_of_dvd hpq d1) (Int.le_of_dvd B0 d2)
      refine ⟨T, by rw [hBe], t1, t2, l1, l2, ?_, lm'⟩
      obtain ⟨y, y0, y1, y2, y3⟩ := crt_from (if b > a then b else a) (show 0 < p by omega) (show 0 < q by omega) z1 z2
      have hle : a ≤ y ∧ b ≤ y := by split at y0 <;> omega
      have := lm' y (by omega) y2 y3 hle.1 hle.2
      omega
  obtain ⟨v0, _, _, _, hx0⟩ := meet_lot (c := c) g hl
  obtain ⟨T, rfl, t1, t2, t3, t4, t5, t6⟩ := key v0 hx0
  have same : ∀ v, MeetX [(p, a), (q, b)] [0, 1] v → v = .tup [.int T, .int (p * q)] := fun v h => by
    obtain ⟨T', rfl, s1, s2, s3, s4, s5, s6⟩ := key v h
    have k1 := t6 T' (by omega) s1 s2 s3 s4
    have k2 := s6 T (by omega) t1 t2 t3 t4
    rw [show T' = T by omega]
  refine ⟨T, fun c => ?_, t1, t2, t3, t4, t5, fun c t h0 h1 => ?_, fun c => ?_⟩
  · obtain ⟨v, c', e, rfl, v', h1, h2⟩ := together_ok (c := c) g hl
    rw [same v' h1] at h2
    rcases h2 with ⟨h, _⟩ | ⟨x, y, h, rfl⟩
    · cases h
    · cases h; exact e
  · obtain ⟨v, c', e, rfl, v', h3, h4⟩ := count_ok (c := c) (t := t) g hl h0 h1
    rw [same v' h3] at h4
    rcases h4 with ⟨h, _⟩ | ⟨x, y, h, rfl⟩
    · cases h
    · cases h; exact e
  · obtain ⟨v, c', e, rfl, m, hb, rfl⟩ := most_ok (c := c) g
    have hmem : [0, 1] ∈ subs 2 := by decide
    have h1 := hb.least [0, 1] hmem hgd
    have hm2 : m ∈ subs 2 := hb.mem
    have : m = [] ∨ m = [0] ∨ m = [1] ∨ m = [0, 1] := by
      have : subs 2 = [[], [0], [1], [0, 1]] := by decide
      rw [this] at hm2
      simpa using hm2
    rw [dLt_keyT] at h1
    rcases this with rfl | rfl | rfl | rfl
    · simp at h1
    · simp at h1
    · simp at h1
    · exact e
theorem plain : Plain := fun ns _ => by
  have key : Okr (b_law (start_law (cX ns) (cY ns))) (Fin fun v _ => v = .bl true) := by
    unfold b_law start_law
    refine ok_seqN _ (ok_for (ds := PL.upTo 3) (c' := [.int (cX ns), .int (cY ns)]) (fun k s => ∃ (x2 : Slot) (c : List D), s = ⟨[.un, .val .cup, x2, .un, .un, .un, .un, .un, .un, .un, .un], c⟩ ∧ Cup c) (by simp) ⟨_, _, rfl, _, _, rfl⟩ ?_ fun s h => h) ?_
    · rintro k d s hd ⟨x2, c, rfl, hc⟩
      obtain ⟨v, c', e, rfl, hc'⟩ := right_ok hc
      simp [e]
      exact ⟨_, _, ⟨rfl, rfl⟩, hc'⟩
    · rintro _ ⟨x2, c, rfl, hc⟩
      obtain ⟨d, c1, e1, hc1, hd⟩ := some_ok (ds := [.tup [.int 2, .int 3], .tup [.int 5, .int 7], .tup [.int 8, .int 9], .tup [.int 11, .int 60], .tup [.int 59, .int 60]]) hc (by decide) (by decide)
      obtain ⟨p, q, rfl, hp, hq, hg⟩ : ∃ p q : Int, d = .tup [.int p, .int q] ∧ (1 ≤ p ∧ p ≤ 60) ∧ (1 ≤ q ∧ q ≤ 60) ∧ gcdI p q = 1 := by
        simp at hd
        rcases hd with rfl | rfl | rfl | rfl | rfl <;> exact ⟨_, _, rfl, by decide, by decide, by decide⟩
      obtain ⟨a, c2, e2, hc2, a0, a1⟩ := roll_ok (many := 101) hc1 (by decide) (by decide)
      obtain ⟨b, c3, e3, hc3, b0, b1⟩ := roll_ok (many := 101) hc2 (by decide) (by decide)
      obtain ⟨n, c4, e4, hc4, n0, n1⟩ := roll_ok (many := 1000000000000) hc3 (by decide) (by decide)
      have hpow : powD (.int 10) (.int 12) = some (.int 1000000000000) := by
        show (if cPow 10 12 = true then some (D.int (10 ^ (12 : Int).toNat)) else none) = _
        rw [if_pos (by decide +kernel)]
        rfl
      refine ok_seqE (by simp [e1, PL.unpack]; rfl) ?_
      refine ok_seqE (by simp [par3, e2, e3, hpow, e4]; rfl) ?_
      obtain ⟨T, k1, k2, k3, k4, k5, k6, k7, k8⟩ := pair_ok (c := c4) hp hq hg ⟨a0, by omega⟩ ⟨b0, by omega⟩
      have p0 : 0 < p := by omega
      have q0 : 0 < q := by omega
      have hpq : 0 < p * q := Int.mul_pos p0 q0
      have hpq2 : p * q ≤ 60 * 60 := Int.mul_le_mul hp.2 hq.2 (by omega) (by omega)
      refine ok_seqE (s' := ⟨[.un, .val .cup, x2, .val (.int p), .val (.int q), .val (.int a), .val (.int b), .val (.int n), .val (sksD [(p, a), (q, b)]), .un, .un], c4⟩) (by simp [sksD, skD]) ?_
      have k1' : m_together [sksD [(p, a), (q, b)], .tup [.int 0, .int 1]] c4 = .ok (.int T, c4) := k1 c4
      refine ok_seqE (by simp [k1']; rfl) ?_
      have hmx : orD PL.maxD maxA [.int a, .int b] = some (.int (if b > a then b else a)) := orD_fst rfl
      have m1 : cMul p q = true := by simp [cMul]; left; omega
      have m2 : cMul n p = true := by simp [cMul]; left; omega
      have m3 : cMul (n * p) q = true := by simp [cMul]; right; omega
      have hmle : (if b > a then b else a) ≤ T := by split <;> omega
      have hch : chain2 leD ltD (callM (orD maxD maxA) (consA (getv 5) (consA (getv 6) (ret [])))) (getv 9) (op2 addD (callM (orD maxD maxA) (consA (getv 5) (consA (getv 6) (ret [])))) (op2 mulD (getv 3) (getv 4)))
          ⟨[.un, .val .cup, x2, .val (.int p), .val (.int q), .val (.int a), .val (.int b), .val (.int n), .val (sksD [(p, a), (q, b)]), .val (.int T), .un], c4⟩ = .ok (.bl true, c4) := by
        have k6' : T < (if a < b then b else a) + p * q := k6
        have hmle' : (if a < b then b else a) ≤ T := hmle
        simp [chain2, hmx, m1, hmle', k6']
      refine ok_seqE (by simp [p0, q0, k2, k3, hch]; rfl) ?_
      have hbound : n * p * q ≤ 1000000000000 * 3600 := by
        rw [Int.mul_assoc]
        exact Int.mul_le_mul (by omega) (by omega) (by omega) (by omega)
      have hb0 : 0 ≤ n * p * q := by rw [Int.mul_assoc]; exact Int.mul_nonneg n0 (by omega)
      have hTb : T ≤ 100 + 3600 := by split at k6 <;> omega
      have c1 : m_count_together [sksD [(p, a), (q, b)], .tup [.int 0, .int 1], .int (T + n * p * q)] c4 = .ok (.int n, c4) := by
        have := k7 c4 (T + n * p * q) (by omega) (by omega)
        rw [show (intsT [0, 1]) = .tup [.int 0, .int 1] from rfl] at this
        rw [this]
        congr 3
        unfold cntI
        by_cases hn : n = 0
        · rw [hn, Int.zero_mul, Int.zero_mul, Int.add_zero, if_pos (Int.le_refl _)]
        · have : p * q ≤ n * (p * q) := by
            have := Int.mul_le_mul_of_nonneg_right (show 1 ≤ n by omega) (show 0 ≤ p * q by omega)
            rw [Int.one_mul] at this
            exact this
          rw [← Int.mul_assoc] at this
          rw [if_neg (by omega), show T + n * p * q - T - 1 = p * q * (n - 1) + (p * q - 1) by rw [Int.mul_sub, Int.mul_comm (p * q) n, ← Int.mul_assoc]; omega, Int.mul_add_ediv_left _ _ (by omega), Int.ediv_eq_zero_of_lt (by omega) (by omega)]
          omega
      have c2 : m_count_together [sksD [(p, a), (q, b)], .tup [.int 0, .int 1], .int (T + n * p * q + 1)] c4 = .ok (.int (n + 1), c4) := by
        have := k7 c4 (T + n * p * q + 1) (by omega) (by omega)
        rw [show (intsT [0, 1]) = .tup [.int 0, .int 1] from rfl] at this
        rw [this]
        congr 3
        unfold cntI
        rw [if_neg (by omega), show T + n * p * q + 1 - T - 1 = p * q * n by rw [Int.mul_comm (p * q) n, ← Int.mul_assoc]; omega, Int.mul_ediv_cancel_left _ (by omega)]
      have c3 := k8 c4
      rw [show (intsT [0, 1]) = .tup [.int 0, .int 1] from rfl] at c3
      refine ok_seqE (by simp [m2, m3, c1, c2, c3]; rfl) ?_
      have hs : m__law_same 6 [.tup [.int n, .int (n + 1), .tup [.int 2, .tup [.int 0, .int 1]]], .tup [.int n, .int (n + 1), .tup [.int 2, .tup [.int 0, .int 1]]]] c4 = .ok (.bl true, c4) := same_refl 6 _ rfl
      have hno : ∃ v, m_together [.tup [.tup [.int 2, .int 0], .tup [.int 4, .int 1]], .tup [.int 0, .int 1]] c4 = .ok (v, c4) ∧ isNon v = true := by
        have g : Good [(2, 0), (4, 1)] := ⟨by simp, by simp, fun r hr => by simp at hr; unfold Sk; rcases hr with rfl | rfl <;> simp⟩
        have hl : Lot [((2 : Int), (0 : Int)), (4, 1)].length [0, 1] := ⟨by simp, fun i hi => by simp at hi; rcases hi with rfl | rfl <;> simp, by simp [rises]⟩
        obtain ⟨v, c', e, rfl, v', h1, h2⟩ := together_ok (c := c4) g hl
        refine ⟨v, e, ?_⟩
        rcases h2 with ⟨_, rfl⟩ | ⟨x, y, rfl, rfl⟩
        · rfl
        · rcases h1 with ⟨h, _⟩ | ⟨x', y', _, mm, _⟩
          · cases h
          · have m1 := mm (2, 0) (by simp [rowsOf])
            have m2 := mm (4, 1) (by simp [rowsOf])
            simp only at m1 m2
            omega
      obtain ⟨v, hv, hv2⟩ := hno
      simp [hs, hv, hv2]
  obtain ⟨r, e, h⟩ := key
  cases r with
  | nx s => cases (show D.non = .bl true from h)
  | rt d c => cases (show d = .bl true from h); exact ⟨c, e⟩
  | bk s => exact h.elim
  | ct s => exact h.elim
end Lw

open PySem PySem.W PyProof.Rows
set_option maxHeartbeats 0 in
theorem PySem.Challenge.cw_icerink_k41_whole_skaters_at_the_line_holds : PySem.Challenge.rw_icerink_k41_whole_skaters_at_the_line.Holds := by
  w_on; o_law; k_head; (case hw => w_witness2)
  k_fill
  refine PL.walkX (l := PySem.Challenge.rw_icerink_k41_whole_skaters_at_the_line) (n := 63) (k := 10) rfl (by decide) rfl ⟨rfl, by decide, by decide⟩ (fun w h Y => PySem.W.kIn_of Y) ?F
  intro w mg fa h KX G hmg
  refine' PL.then_ (PL.mkDef (x := "_law_cup") (st := Lw.s__law_cup) (ps := ["script"]) KX G ?g0 ?l0 ?c0 ?k0 ?b0) ?nx0; (case g0 => k_is); (case l0 => k_is); (case c0 => k_is); (case k0 => k_is); (case b0 => exact fun _ _ _ _ _ _ us hl => match us, hl with | [_], _ => rfl)
  intro d__law_cup
  refine' PL.then_ (PL.mkDef (x := "is_whole") (st := Lw.s_is_whole) (ps := ["value", "low", "high"]) KX G ?g1 ?l1 ?c1 ?k1 ?b1) ?nx1; (case g1 => k_is); (case l1 => k_is); (case c1 => k_is); (case k1 => k_is); (case b1 => exact fun _ _ _ _ _ _ us hl => match us, hl with | [_, _, _], _ => rfl)
  intro d_is_whole
  refine' PL.then_ (PL.mkDef (x := "is_tuple_of") (st := Lw.s_is_tuple_of) (ps := ["value", "low", "high"]) KX G ?g2 ?l2 ?c2 ?k2 ?b2) ?nx2; (case g2 => k_is); (case l2 => k_is); (case c2 => k_is); (case k2 => k_is); (case b2 => exact fun _ _ _ _ _ _ us hl => match us, hl with | [_, _, _], _ => rfl)
  intro d_is_tuple_of
  refine' PL.then_ (PL.mkDef (x := "is_rising") (st := Lw.s_is_rising) (ps := ["value"]) KX G ?g3 ?l3 ?c3 ?k3 ?b3) ?nx3; (case g3 => k_is); (case l3 => k_is); (case c3 => k_is); (case k3 => k_is); (case b3 => exact fun _ _ _ _ _ _ us hl => match us, hl with | [_], _ => rfl)
  intro d_is_rising
  refine' PL.then_ (PL.mkDef (x := "is_at_line") (st := Lw.s_is_at_line) (ps := ["skater", "time"]) KX G ?g4 ?l4 ?c4 ?k4 ?b4) ?nx4; (case g4 => k_is); (case l4 => k_is); (case c4 => k_is); (case k4 => k_is); (case b4 => exact fun _ _ _ _ _ _ us hl => match us, hl with | [_, _], _ => rfl)
  intro d_is_at_line
  refine' PL.then_ (PL.mkDef (x := "meeting_of") (st := Lw.s_meeting_of) (ps := ["rows"]) KX G ?g5 ?l5 ?c5 ?k5 ?b5) ?nx5; (case g5 => k_is); (case l5 => k_is); (case c5 => k_is); (case k5 => k_is); (case b5 => exact fun _ _ _ _ _ _ us hl => match us, hl with | [_], _ => rfl)
  intro d_meeting_of
  refine' PL.then_ (PL.mkDef (x := "lots_of") (st := Lw.s_lots_of) (ps := ["many"]) KX G ?g6 ?l6 ?c6 ?k6 ?b6) ?nx6; (case g6 => k_is); (case l6 => k_is); (case c6 => k_is); (case k6 => k_is); (case b6 => exact fun _ _ _ _ _ _ us hl => match us, hl with | [_], _ => rfl)
  intro d_lots_of
  refine' PL.then_ (PL.mkDef (x := "_law_roll") (st := Lw.s__law_roll) (ps := ["cup", "many"]) KX G ?g7 ?l7 ?c7 ?k7 ?b7) ?nx7; (case g7 => k_is); (case l7 => k_is); (case c7 => k_is); (case k7 => k_is); (case b7 => exact fun _ _ _ _ _ _ us hl => match us, hl with | [_, _], _ => rfl)
  intro d__law_roll
  refine' PL.then_ (PL.mkDef (x := "_law_subsets") (st := Lw.s__law_subsets) (ps := ["things"]) KX G ?g8 ?l8 ?c8 ?k8 ?b8) ?nx8; (case g8 => k_is); (case l8 => k_is); (case c8 => k_is); (case k8 => k_is); (case b8 => exact fun _ _ _ _ _ _ us hl => match us, hl with | [_], _ => rfl)
  intro d__law_subsets
  refine' PL.then_ (PL.mkDef (x := "_law_whole") (st := Lw.s__law_whole) (ps := ["skaters"]) KX G ?g9 ?l9 ?c9 ?k9 ?b9) ?nx9; (case g9 => k_is); (case l9 => k_is); (case c9 => k_is); (case k9 => k_is); (case b9 => exact fun _ _ _ _ _ _ us hl => match us, hl with | [_], _ => rfl)
  intro d__law_whole
  refine' PL.then_ (PL.mkDef (x := "_law_is_there") (st := Lw.s__law_is_there) (ps := ["skater", "time"]) KX G ?g10 ?l10 ?c10 ?k10 ?b10) ?nx10; (case g10 => k_is); (case l10 => k_is); (case c10 => k_is); (case k10 => k_is); (case b10 => exact fun _ _ _ _ _ _ us hl => match us, hl with | [_, _], _ => rfl)
  intro d__law_is_there
  refine' PL.then_ (PL.mkDef (x := "fits_some") (st := Lw.s_fits_some) (ps := ["many", "value"]) KX G ?g11 ?l11 ?c11 ?k11 ?b11) ?nx11; (case g11 => k_is); (case l11 => k_is); (case c11 => k_is); (case k11 => k_is); (case b11 => exact fun _ _ _ _ _ _ us hl => match us, hl with | [_, _], _ => rfl)
  intro d_fits_some
  refine' PL.then_ (PL.mkDef (x := "fits_skater") (st := Lw.s_fits_skater) (ps := ["value"]) KX G ?g12 ?l12 ?c12 ?k12 ?b12) ?nx12; (case g12 => k_is); (case l12 => k_is); (case c12 => k_is); (case k12 => k_is); (case b12 => exact fun _ _ _ _ _ _ us hl => match us, hl with | [_], _ => rfl)
  intro d_fits_skater
  refine' PL.then_ (PL.mkDef (x := "_law_some") (st := Lw.s__law_some) (ps := ["cup", "things"]) KX G ?g13 ?l13 ?c13 ?k13 ?b13) ?nx13; (case g13 => k_is); (case l13 => k_is); (case c13 => k_is); (case k13 => k_is); (case b13 => exact fun _ _ _ _ _ _ us hl => match us, hl with | [_, _], _ => rfl)
  intro d__law_some
  refine' PL.then_ (PL.mkDef (x := "fits_skaters") (st := Lw.s_fits_skaters) (ps := ["value"]) KX G ?g14 ?l14 ?c14 ?k14 ?b14) ?nx14; (case g14 => k_is); (case l14 => k_is); (case c14 => k_is); (case k14 => k_is); (case b14 => exact fun _ _ _ _ _ _ us hl => match us, hl with | [_], _ => rfl)
  intro d_fits_skaters
  refine' PL.then_ (PL.mkDef (x := "_law_skaters") (st := Lw.s__law_skaters) (ps := ["cup", "most", "lap"]) KX G ?g15 ?l15 ?c15 ?k15 ?b15) ?nx15; (case g15 => k_is); (case l15 => k_is); (case c15 => k_is); (case k15 => k_is); (case b15 => exact fun _ _ _ _ _ _ us hl => match us, hl with | [_, _, _], _ => rfl)
  intro d__law_skaters
  refine' PL.then_ (PL.mkDef (x := "need_skaters") (st := Lw.s_need_skaters) (ps := ["skaters"]) KX G ?g16 ?l16 ?c16 ?k16 ?b16) ?nx16; (case g16 => k_is); (case l16 => k_is); (case c16 => k_is); (case k16 => k_is); (case b16 => exact fun _ _ _ _ _ _ us hl => match us, hl with | [_], _ => rfl)
  intro d_need_skaters
  refine' PL.then_ (PL.mkDef (x := "need_time") (st := Lw.s_need_time) (ps := ["skaters", "time"]) KX G ?g17 ?l17 ?c17 ?k17 ?b17) ?nx17; (case g17 => k_is); (case l17 => k_is); (case c17 => k_is); (case k17 => k_is); (case b17 => exact fun _ _ _ _ _ _ us hl => match us, hl with | [_, _], _ => rfl)
  intro d_need_time
  refine' PL.then_ (PL.mkDef (x := "together") (st := Lw.s_together) (ps := ["skaters", "some"]) KX G ?g18 ?l18 ?c18 ?k18 ?b18) ?nx18; (case g18 => k_is); (case l18 => k_is); (case c18 => k_is); (case k18 => k_is); (case b18 => exact fun _ _ _ _ _ _ us hl => match us, hl with | [_, _], _ => rfl)
  intro d_together
  refine' PL.then_ (PL.mkDef (x := "most_together") (st := Lw.s_most_together) (ps := ["skaters"]) KX G ?g19 ?l19 ?c19 ?k19 ?b19) ?nx19; (case g19 => k_is); (case l19 => k_is); (case c19 => k_is); (case k19 => k_is); (case b19 => exact fun _ _ _ _ _ _ us hl => match us, hl with | [_], _ => rfl)
  intro d_most_together
  refine' PL.then_ (PL.mkDef (x := "at_line") (st := Lw.s_at_line) (ps := ["skaters", "time"]) KX G ?g20 ?l20 ?c20 ?k20 ?b20) ?nx20; (case g20 => k_is); (case l20 => k_is); (case c20 => k_is); (case k20 => k_is); (case b20 => exact fun _ _ _ _ _ _ us hl => match us, hl with | [_, _], _ => rfl)
  intro d_at_line
  refine' PL.then_ (PL.mkDef (x := "count_together") (st := Lw.s_count_together) (ps := ["skaters", "some", "time"]) KX G ?g21 ?l21 ?c21 ?k21 ?b21) ?nx21; (case g21 => k_is); (case l21 => k_is); (case c21 => k_is); (case k21 => k_is); (case b21 => exact fun _ _ _ _ _ _ us hl => match us, hl with | [_, _, _], _ => rfl)
  intro d_count_together
  refine' PL.then_ (PL.mkDef (x := "_law_same") (st := Lw.s__law_same) (ps := ["told", "due"]) KX G ?g22 ?l22 ?c22 ?k22 ?b22) ?nx22; (case g22 => k_is); (case l22 => k_is); (case c22 => k_is); (case k22 => k_is); (case b22 => exact fun _ _ _ _ _ _ us hl => match us, hl with | [_, _], _ => rfl)
  intro d__law_same
  refine' PL.then_ (PL.mkDef (x := "_law_right") (st := Lw.s__law_right) (ps := ["cup"]) KX G ?g23 ?l23 ?c23 ?k23 ?b23) ?nx23; (case g23 => k_is); (case l23 => k_is); (case c23 => k_is); (case k23 => k_is); (case b23 => exact fun _ _ _ _ _ _ us hl => match us, hl with | [_], _ => rfl)
  intro d__law_right
  refine' PL.then_ (Lw.Tx.mk d__law_cup d_is_whole d_is_tuple_of d_is_rising d_is_at_line d_meeting_of d_lots_of d__law_roll d__law_subsets d__law_whole d__law_is_there d_fits_some d_fits_skater d__law_some d_fits_skaters d__law_skaters d_need_skaters d_need_time d_together d_most_together d_at_line d_count_together d__law_same d__law_right (PySem.W.mg_none_of KX G ?n0) (PySem.W.mg_none_of KX G ?n1) (PySem.W.mg_none_of KX G ?n2) (PySem.W.mg_none_of KX G ?n3) (PySem.W.mg_none_of KX G ?n4) (PySem.W.mg_none_of KX G ?n5) (PySem.W.mg_none_of KX G ?n6) (PySem.W.mg_none_of KX G ?n7) (PySem.W.mg_none_of KX G ?n8) (PySem.W.mg_none_of KX G ?n9) (PySem.W.mg_none_of KX G ?n10) (PySem.W.mg_none_of KX G ?n11) (PySem.W.mg_none_of KX G ?n12) (PySem.W.mg_none_of KX G ?n13) (PySem.W.mg_none_of KX G ?n14) (PL.mkInt KX G ?q0 ?r0) (PL.mkInt KX G ?q1 ?r1) (PL.mkInt KX G ?q2 ?r2) (PL.mkInt KX G ?q3 ?r3) (PySem.W.mg_of KX G ?i0)) ?nxT; (case n0 => k_is); (case n1 => k_is); (case n2 => k_is); (case n3 => k_is); (case n4 => k_is); (case n5 => k_is); (case n6 => k_is); (case n7 => k_is); (case n8 => k_is); (case n9 => k_is); (case n10 => k_is); (case n11 => k_is); (case n12 => k_is); (case n13 => k_is); (case n14 => k_is); (case q0 => k_is); (case r0 => first | rfl | decide); (case q1 => k_is); (case r1 => first | rfl | decide); (case q2 => k_is); (case r2 => first | rfl | decide); (case q3 => k_is); (case r3 => first | rfl | decide); (case i0 => k_is)
  intro T
  refine' PL.law_mk (st := Lw.s_law) KX G hmg ?gZ ?lZ ?cZ ?kZ ?bZ ?FZ; (case gZ => k_is); (case lZ => k_is); (case cZ => k_is); (case kZ => k_is); (case bZ => exact fun _ _ _ _ _ _ us hl => match us, hl with | [_], _ => rfl)
  case FZ => exact Lw.all_ok Lw.plain T
#print axioms PySem.Challenge.cw_icerink_k41_whole_skaters_at_the_line_holds

