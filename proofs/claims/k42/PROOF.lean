import PyProof.Rows.All
import Wide.All
import OpenK.AllK
import Wide.FinOn
import HandS.Base
import HandS.Call
import HandS.List
import HandS.Comp
import HandS.Ends
import HandS.Iter
import HandS.Words
import HandS.TupAny
import HandS.TupLe
import HandS.Style
import HandS.Wide
import HandS.Gcd
import HandS.IsInst
import HandS.Deep
import HandS.Conv
import HandS.Exc
import HandS.ExcOwn
import HandS.WordsExc
import HandS.Walk
import HandS.Zip
import HandS.Text
import HandS.SortInts
import KE.KStateDown
import HandS.Head0
import HandS.Head1
import HandS.Head2
import HandS.HeadEnd
import HandS.HeadHook1
import PySem.Challenge.RW_icerink_k42_whole_line_papers
set_option Elab.async false
set_option linter.all false
set_option maxRecDepth 100000
set_option maxHeartbeats 4000000
namespace PL
open PySem PySem.Spec PyProof.Rows L2
abbrev St := L2.St
/-! plain data -/
inductive D where
  | non | bl (b : Bool) | int (i : Int) | str (x : Str) | tup (ds : List D) | lst (ds : List D) | cup | ref (a : Addr)
/-- an error of the program's own: its class by name, what it holds -/
structure Exn where
  cls : Str
  arg : List D
inductive Res (α : Type) where
  | ok (a : α) | exc (x : Exn) (c : List D) | bad
inductive Slot where
  | un | val (d : D) | own (ds : List D)
structure S where
  env : List Slot
  cup : List D
inductive Fl where
  | nx (s : S) | rt (d : D) (c : List D) | bk (s : S) | ct (s : S)
/-- an expression's plain function: it reads the state, and may draw from the cup -/
abbrev M (α : Type) := S → Res (α × List D)
def wpr {α : Type} (r : Res α) (P : α → Prop) (N : Exn → List D → Prop) : Prop := match r with
  | .ok a => P a
  | .exc x c => N x c
  | .bad => False
def Res.bind {α β : Type} (r : Res α) (f : α → Res β) : Res β := match r with
  | .ok a => f a
  | .exc x c => .exc x c
  | .bad => .bad
def bindM {α β : Type} (f : M α) (g : α → M β) : M β := fun s => (f s).bind fun r => g r.1 ⟨s.env, r.2⟩
def ret {α : Type} (a : α) : M α := fun s => .ok (a, s.cup)
def lift {α : Type} (r : Option α) : M α := fun s => match r with
  | some a => .ok (a, s.cup)
  | none => .bad
theorem wpr_bind {α β : Type} {r : Res α} {f : α → Res β} {P : β → Prop} {N : Exn → List D → Prop} : wpr (r.bind f) P N ↔ wpr r (fun a => wpr (f a) P N) N := by
  cases r <;> exact Iff.rfl
theorem wpr_mono {α : Type} {r : Res α} {P P' : α → Prop} {N N' : Exn → List D → Prop} (h : wpr r P N) (h1 : ∀ a, P a → P' a) (h2 : ∀ x c, N x c → N' x c) : wpr r P' N' := by
  cases r with
  | ok a => exact h1 _ h
  | exc x c => exact h2 _ _ h
  | bad => exact h
/-! how plain data lies in the heap -/
section
variable (ca : Option Addr) (Mu : Addr → Prop) (H : Hp)
mutual
def Rep : D → V → Prop
  | .non, v => v = .non
  | .bl b, v => v = .bl b
  | .int i, v => v = .int i
  | .str x, v => v = .str x
  | .tup ds, v => ∃ a vs, v = .ref a ∧ H a = some (.tup vs) ∧ Reps ds vs
  | .lst ds, v => ∃ a vs, v = .ref a ∧ ¬ Mu a ∧ H a = some (.lst vs) ∧ Reps ds vs
  | .cup, v => ∃ a, v = .ref a ∧ ca = some a
  | .ref a, v => v = .ref a
def Reps : List D → List V → Prop
  | [], vs => vs = []
  | d :: ds, vs => ∃ v r, vs = v :: r ∧ Rep d v ∧ Reps ds r
end
end
/-- what stays: all but what may be written -/
def Ext (W : Addr → Prop) (H H' : Hp) : Prop := ∀ a o, H a = some o → ¬ W a → H' a = some o
def Lsts (W : Addr → Prop) (H : Hp) : Prop := ∀ a, W a → ∃ xs, H a = some (.lst xs)
theorem Ext.refl (W : Addr → Prop) (H : Hp) : Ext W H H := fun _ _ h _ => h
theorem Ext.trans {W : Addr → Prop} {H H1 H2 : Hp} (x : Ext W H H1) (y : Ext W H1 H2) : Ext W H H2 := fun a o h n => y a o (x a o h n) n
theorem Ext.same {W : Addr → Prop} {H H' : Hp} (x : Same H H') : Ext W H H' := fun a o h _ => x a o h
theorem Ext.upd {W : Addr → Prop} {H : Hp} {p : Addr} {o : HO} (h : H p = none) : Ext W H (upd H p o) := fun a u e _ => by rw [upd_ne (ne_of_none e h)]; exact e
theorem same_upd {H : Hp} {p : Addr} {o : HO} (h : H p = none) : Same H (upd H p o) := fun a u e => by rw [upd_ne (ne_of_none e h)]; exact e
section
variable {ca : Option Addr} {Mu Mu' W F : Addr → Prop} {H H' : Hp}
theorem Ext.rdT {W : Addr → Prop} {a : Addr} {vs : List V} (x : Ext W H H') (l : Lsts W H) (h : H a = some (.tup vs)) : H' a = some (.tup vs) := by
  have nW : ∀ o, H a = some o → (∀ xs, o ≠ .lst xs) → ¬ W a := fun o e n w => by
    obtain ⟨xs, q⟩ := l a w
    rw [e] at q
    exact n xs (Option.some.inj q)
  exact x _ _ h (nW _ h fun xs z => by cases z)
theorem Ext.rdL {W : Addr → Prop} {a : Addr} {vs : List V} (x : Ext W H H') (n : ¬ W a) (h : H a = some (.lst vs)) : H' a = some (.lst vs) := by
  exact x _ _ h n
/-- how the set of what may not be read as plain may change: what is new in it was no object then -/
def Grow (H : Hp) (Mu Mu' : Addr → Prop) : Prop := ∀ a, Mu' a → Mu a ∨ H a = none
mutual
theorem Rep.ext (x : Ext W H H') (l : Lsts W H) (hW : ∀ a, W a → Mu a) (g : Grow H Mu Mu') : ∀ (d : D) (v : V), Rep ca Mu H d v → Rep ca Mu' H' d v
  | .non, _, h => h
  | .bl _, _, h => h
  | .int _, _, h => h
  | .str _, _, h => h
  | .tup ds, v, h => by
    obtain ⟨a, vs, e, s, r⟩ := h
    exact ⟨a, vs, e, x.rdT l s, Reps.ext x l hW g ds vs r⟩
  | .lst ds, v, h => by
    obtain ⟨a, vs, e, n, s, r⟩ := h
    refine ⟨a, vs, e, fun z => ?_, x.rdL (fun z => n (hW _ z)) s, Reps.ext x l hW g ds vs r⟩
    rcases g a z with z | z
    · exact n z
    · rw [z] at s; cases s
  | .cup, _, h => h
  | .ref _, _, h => h
theorem Reps.ext (x : Ext W H H') (l : Lsts W H) (hW : ∀ a, W a → Mu a) (g : Grow H Mu Mu') : ∀ (ds : List D) (vs : List V), Reps ca Mu H ds vs → Reps ca Mu' H' ds vs
  | [], _, h => h
  | d :: ds, vs, h => by
    obtain ⟨v, r, e, h1, h2⟩ := h
    exact ⟨v, r, e, Rep.ext x l hW g d v h1, Reps.ext x l hW g ds r h2⟩
end
theorem Grow.refl : Grow H Mu Mu := fun _ h => .inl h
theorem Grow.sub (h : ∀ a, Mu' a → Mu a) : Grow H Mu Mu' := fun a q => .inl (h a q)
theorem Reps.length : ∀ {ds : List D} {vs : List V}, Reps ca Mu H ds vs → vs.length = ds.length
  | [], _, h => by rw [show _ = [] from h]; rfl
  | d :: ds, vs, h => by
    obtain ⟨v, r, e, _, h2⟩ := h
    rw [e, List.length_cons, List.length_cons, Reps.length h2]
theorem Reps.get : ∀ {ds : List D} {vs : List V} {i : Nat} {d : D}, Reps ca Mu H ds vs → ds[i]? = some d → ∃ v, vs[i]? = some v ∧ Rep ca Mu H d v
  | [], _, _, _, _, h => by simp at h
  | d :: ds, vs, 0, _, h, q => by
    obtain ⟨v, r, e, h1, _⟩ := h
    simp only [List.getElem?_cons_zero, Option.some.injEq] at q
    subst q
    exact ⟨v, by rw [e]; rfl, h1⟩
  | d :: ds, vs, i + 1, _, h, q => by
    obtain ⟨v, r, e, _, h2⟩ := h
    obtain ⟨u, a, b⟩ := Reps.get h2 (by simpa using q)
    exact ⟨u, by rw [e]; simpa using a, b⟩
theorem Reps.append : ∀ {ds es : List D} {vs us : List V}, Reps ca Mu H ds vs → Reps ca Mu H es us → Reps ca Mu H (ds ++ es) (vs ++ us)
  | [], _, _, _, h, q => by rw [show _ = [] from h]; exact q
  | d :: ds, es, vs, us, h, q => by
    obtain ⟨v, r, e, h1, h2⟩ := h
    exact ⟨v, r ++ us, by rw [e]; rfl, h1, Reps.append h2 q⟩
theorem Reps.nil : Reps ca Mu H [] [] := rfl
theorem Reps.cons {d : D} {ds : List D} {v : V} {vs : List V} (h : Rep ca Mu H d v) (q : Reps ca Mu H ds vs) : Reps ca Mu H (d :: ds) (v :: vs) := ⟨v, vs, rfl, h, q⟩
theorem Reps.inv : ∀ {d : D} {ds : List D} {vs : List V}, Reps ca Mu H (d :: ds) vs → ∃ v r, vs = v :: r ∧ Rep ca Mu H d v ∧ Reps ca Mu H ds r := fun h => h
theorem Reps.take : ∀ {ds : List D} {vs : List V} (n : Nat), Reps ca Mu H ds vs → Reps ca Mu H (ds.take n) (vs.take n)
  | _, _, 0, _ => by rw [List.take_zero, List.take_zero]; rfl
  | [], _, n + 1, h => by rw [show _ = [] from h]; rfl
  | d :: ds, vs, n + 1, h => by
    obtain ⟨v, r, e, h1, h2⟩ := h
    rw [e]
    exact ⟨v, r.take n, rfl, h1, Reps.take n h2⟩
theorem Reps.drop : ∀ {ds : List D} {vs : List V} (n : Nat), Reps ca Mu H ds vs → Reps ca Mu H (ds.drop n) (vs.drop n)
  | _, _, 0, h => h
  | [], _, n + 1, h => by rw [show _ = [] from h]; rfl
  | d :: ds, vs, n + 1, h => by
    obtain ⟨v, r, e, h1, h2⟩ := h
    rw [e]
    exact Reps.drop n h2
theorem Reps.set : ∀ {ds : List D} {vs : List V} {d : D} {v : V} (i : Nat), Reps ca Mu H ds vs → Rep ca Mu H d v → Reps ca Mu H (ds.set i d) (vs.set i v)
  | [], _, _, _, i, h, _ => by rw [show _ = [] from h]; cases i <;> rfl
  | d :: ds, vs, _, _, 0, h, q => by
    obtain ⟨v, r, e, h1, h2⟩ := h
    rw [e]
    exact ⟨_, r, rfl, q, h2⟩
  | d :: ds, vs, d', v', i + 1, h, q => by
    obtain ⟨v, r, e, h1, h2⟩ := h
    rw [e]
    exact ⟨v, r.set i v', rfl, h1, Reps.set i h2 q⟩
theorem Reps.reverse : ∀ {ds : List D} {vs : List V}, Reps ca Mu H ds vs → Reps ca Mu H ds.reverse vs.reverse
  | [], _, h => by rw [show _ = [] from h]; rfl
  | d :: ds, vs, h => by
    obtain ⟨v, r, e, h1, h2⟩ := h
    rw [e, List.reverse_cons, List.reverse_cons]
    exact Reps.append (Reps.reverse h2) ⟨v, [], rfl, h1, rfl⟩
theorem Reps.ints : ∀ {ns : List Int} {vs : List V}, Reps ca Mu H (ns.map D.int) vs → vs = ns.map V.int
  | [], _, h => h
  | n :: ns, vs, h => by
    obtain ⟨v, r, e, h1, h2⟩ := h
    rw [e, show v = V.int n from h1, Reps.ints h2]
    rfl
theorem Reps.ofInts : ∀ (ns : List Int), Reps ca Mu H (ns.map D.int) (ns.map V.int)
  | [] => rfl
  | n :: ns => ⟨V.int n, ns.map V.int, rfl, rfl, Reps.ofInts ns⟩
theorem Reps.bls : ∀ {ns : List Bool} {vs : List V}, Reps ca Mu H (ns.map D.bl) vs → vs = ns.map V.bl
  | [], _, h => h
  | n :: ns, vs, h => by
    obtain ⟨v, r, e, h1, h2⟩ := h
    rw [e, show v = V.bl n from h1, Reps.bls h2]
    rfl
theorem Reps.strs : ∀ {ns : List Str} {vs : List V}, Reps ca Mu H (ns.map D.str) vs → vs = ns.map V.str
  | [], _, h => h
  | n :: ns, vs, h => by
    obtain ⟨v, r, e, h1, h2⟩ := h
    rw [e, show v = V.str n from h1, Reps.strs h2]
    rfl
end
/-! the state -/
def or2 (F W : Addr → Prop) : Addr → Prop := fun a => F a ∨ W a
section
variable (ca : Option Addr)
def CupAt (F W : Addr → Prop) (H : Hp) (c : List D) : Prop := ∀ a, ca = some a → W a ∧ ∃ vs, H a = some (.lst vs) ∧ Reps ca (or2 F W) H c vs
structure SRep (F W : Addr → Prop) (H : Hp) (σ : St) (s : S) : Prop where
  len : σ.length = s.env.length
  slot : ∀ (i : Nat) (d : D), s.env[i]? = some (.val d) → ∃ v, σ[i]? = some (some v) ∧ Rep ca (or2 F W) H d v
  own : ∀ (i : Nat) (ds : List D), s.env[i]? = some (.own ds) → ∃ a vs, σ[i]? = some (some (.ref a)) ∧ W a ∧ ca ≠ some a ∧ H a = some (.lst vs) ∧ Reps ca (or2 F W) H ds vs
  inj : ∀ (i j : Nat) (ds es : List D) (a : Addr), s.env[i]? = some (.own ds) → s.env[j]? = some (.own es) → σ[i]? = some (some (.ref a)) → σ[j]? = some (some (.ref a)) → i = j
  cup : CupAt ca F W H s.cup
  wl : Lsts W H
  fl : ∀ a, F a → H a ≠ none
/-- what may be written grows by new objects alone -/
def Step (W : Addr → Prop) (H : Hp) (W' : Addr → Prop) (H' : Hp) : Prop := Ext W H H' ∧ ∀ a, W' a → W a ∨ H a = none
end
section
variable {ca : Option Addr} {F W W' W2 : Addr → Prop} {H H' H2 : Hp} {σ : St} {s : S}
theorem Step.refl : Step W H W H := ⟨Ext.refl _ _, fun _ h => .inl h⟩
theorem Step.trans (x : Step W H W' H') (y : Step W' H' W2 H2) : Step W H W2 H2 := by
  refine ⟨fun a o h n => y.1 a o (x.1 a o h n) fun z => ?_, fun a z => ?_⟩
  · rcases x.2 a z with q | q
    · exact n q
    · rw [h] at q; cases q
  · rcases y.2 a z with q | q
    · exact x.2 a q
    · cases e : H a with
      | none => exact .inr rfl
      | some o =>
        by_cases w : W a
        · exact .inl w
        · rw [x.1 a o e w] at q; cases q
theorem Step.ext (x : Ext W H H') : Step W H W H' := ⟨x, fun _ h => .inl h⟩
theorem SRep.rep (R : SRep ca F W H σ s) (x : Ext W H H') {d : D} {v : V} (h : Rep ca (or2 F W) H d v) : Rep ca (or2 F W) H' d v :=
  Rep.ext x R.wl (fun _ h => .inr h) Grow.refl d v h
theorem SRep.reps (R : SRep ca F W H σ s) (x : Ext W H H') {d : List D} {v : List V} (h : Reps ca (or2 F W) H d v) : Reps ca (or2 F W) H' d v :=
  Reps.ext x R.wl (fun _ h => .inr h) Grow.refl d v h
/-- nothing was written -/
theorem SRep.same (R : SRep ca F W H σ s) (x : Same H H') : SRep ca F W H' σ s where
  len := R.len
  slot := fun i d e => by
    obtain ⟨v, a, b⟩ := R.slot i d e
    exact ⟨v, a, R.rep (Ext.same x) b⟩
  own := fun i ds e => by
    obtain ⟨a, vs, h1, h2, h3, h4, h5⟩ := R.own i ds e
    exact ⟨a, vs, h1, h2, h3, x _ _ h4, R.reps (Ext.same x) h5⟩
  inj := R.inj
  cup := fun a e => by
    obtain ⟨w, vs, h, r⟩ := R.cup a e
    exact ⟨w, vs, x _ _ h, R.reps (Ext.same x) r⟩
  wl := fun a w => by
    obtain ⟨xs, h⟩ := R.wl a w
    exact ⟨xs, x _ _ h⟩
  fl := fun a f z => by
    cases e : H a with
    | none => exact R.fl a f e
    | some o => rw [x _ _ e] at z; cases z
theorem SRep.set (R : SRep ca F W H σ s) {i : Nat} {d : D} {v : V} (h : Rep ca (or2 F W) H d v) : SRep ca F W H (σ.set i (some v)) { s with env := s.env.set i (.val d) } where
  len := by
    show (σ.set i (some v)).length = (s.env.set i (.val d)).length
    rw [List.length_set, List.length_set]; exact R.len
  slot := fun j e q => by
    have q : (s.env.set i (.val d))[j]? = some (.val e) := q
    by_cases hj : i = j
    · subst hj
      have hl : i < s.env.length := by
        have := (List.getElem?_eq_some_iff.mp q).1
        rw [List.length_set] at this; exact this
      rw [List.getElem?_set_self hl] at q
      cases q
      exact ⟨v, by rw [List.getElem?_set_self (by rw [R.len]; exact hl)], h⟩
    · rw [List.getElem?_set_ne hj] at q
      rw [List.getElem?_set_ne hj]
      exact R.slot j e q
  own := fun j ds q => by
    have q : (s.env.set i (.val d))[j]? = some (.own ds) := q
    by_cases hj : i = j
    · subst hj
      have hl : i < s.env.length := by
        have := (List.getElem?_eq_some_iff.mp q).1
        rw [List.length_set] at this; exact this
      rw [List.getElem?_set_self hl] at q
      cases q
    · rw [List.getElem?_set_ne hj] at q
      rw [List.getElem?_set_ne hj]
      exact R.own j ds q
  inj := fun j k ds es a q1 q2 h1 h2 => by
    have q1 : (s.env.set i (.val d))[j]? = some (.own ds) := q1
    have q2 : (s.env.set i (.val d))[k]? = some (.own es) := q2
    have ne : ∀ {m : Nat} {fs : List D}, (s.env.set i (.val d))[m]? = some (.own fs) → i ≠ m := fun {m fs} q e => by
      subst e
      have hl : i < s.env.length := by
        have := (List.getElem?_eq_some_iff.mp q).1
        rw [List.length_set] at this; exact this
      rw [List.getElem?_set_self hl] at q
      cases q
    have n1 := ne q1
    have n2 := ne q2
    rw [List.getElem?_set_ne n1] at q1 h1
    rw [List.getElem?_set_ne n2] at q2 h2
    exact R.inj j k ds es a q1 q2 h1 h2
  cup := R.cup
  wl := R.wl
  fl := R.fl
end
end PL

namespace PL
open PySem PySem.Spec PyProof.Rows L2
/-! a family of contexts in which one text is read -/
structure Fam where
  J : Type
  X : J → Cx
  P : Program
  w : World
  K : PySem.W.Frag
  mg : Str → Option Value
  base : Heap
  CX : CXT
  N : List Str
  E : XK
  XA : Exn → Value → Option Addr → Hp → Prop
  k : Nat
  hP : ∀ j, (X j).prog = P
  hw : ∀ j, (X j).w = w
  hK : ∀ j, (X j).K = K
  hmg : ∀ j, (X j).mg = mg
  hB : ∀ j, (X j).base = base
  hN : ∀ j, (X j).N = N
  nd : N.Nodup
  calm : ∀ j, (X j).calm = true
  room : ∀ j, Room k (X j).A
  pass : ∀ j, Passes CX (X j) E
  own : ∀ j, PassesOwn (model (X j).prog (X j).w) (X j).A (X j).env (X j).xe
  nox : ∀ outer H s e s', CX outer H s E0 e s' → False
def ExcP (ca : Option Addr) (F W : Addr → Prop) (H : Hp) (XA : Exn → Value → Option Addr → Hp → Prop) (E : XK) (x : Exn) (c : List D) : Prop :=
  ∀ cls dx W' H', Step W H W' H' → CupAt ca F W' H' c → XA x cls dx H' → E cls dx H'
theorem ExcP.step {ca : Option Addr} {F W W1 : Addr → Prop} {H H1 : Hp} {XA : Exn → Value → Option Addr → Hp → Prop} {E : XK} {x : Exn} {c : List D} (h : ExcP ca F W H XA E x c) (st : Step W H W1 H1) : ExcP ca F W1 H1 XA E x c :=
  fun cls dx W' H' s q a => h cls dx W' H' (st.trans s) q a
def PostE (ca : Option Addr) (F W : Addr → Prop) (H : Hp) (σ : St) (env : List Slot) (Q : VK) (r : D × List D) : Prop :=
  ∀ v H', Ext W H H' → SRep ca F W H' σ ⟨env, r.2⟩ → Rep ca (or2 F W) H' r.1 v → Q v H'
def SemE (ca : Option Addr) (XA : Exn → Value → Option Addr → Hp → Prop) (E : XK) (t : TE) (f : M D) : Prop :=
  ∀ F W H σ s Q, SRep ca F W H σ s → wpr (f s) (PostE ca F W H σ s.env Q) (ExcP ca F W H XA E) → t σ H Q
def PostB (ca : Option Addr) (F W : Addr → Prop) (H : Hp) (σ : St) (env : List Slot) (Q : Bool → Hp → Prop) (r : Bool × List D) : Prop :=
  ∀ H', Ext W H H' → SRep ca F W H' σ ⟨env, r.2⟩ → Q r.1 H'
def SemT (ca : Option Addr) (XA : Exn → Value → Option Addr → Hp → Prop) (E : XK) (t : TT) (f : M Bool) : Prop :=
  ∀ F W H σ s Q, SRep ca F W H σ s → wpr (f s) (PostB ca F W H σ s.env Q) (ExcP ca F W H XA E) → t σ H Q
def PostA (ca : Option Addr) (F W : Addr → Prop) (H : Hp) (σ : St) (env : List Slot) (Q : List V → Hp → Prop) (r : List D × List D) : Prop :=
  ∀ vs H', Ext W H H' → SRep ca F W H' σ ⟨env, r.2⟩ → Reps ca (or2 F W) H' r.1 vs → Q vs H'
def SemA (ca : Option Addr) (XA : Exn → Value → Option Addr → Hp → Prop) (E : XK) (t : TA) (f : M (List D)) : Prop :=
  ∀ F W H σ s Q, SRep ca F W H σ s → wpr (f s) (PostA ca F W H σ s.env Q) (ExcP ca F W H XA E) → t σ H Q
/-- an expression, a test, arguments: a reading, and the plain function that it comes to -/
def Ev (𝓕 : Fam) (ca : Option Addr) (e : Expr) (f : M D) : Prop := ∃ t : TE, (∀ j, PE (𝓕.X j) e t) ∧ SemE ca 𝓕.XA 𝓕.E t f
def Tv (𝓕 : Fam) (ca : Option Addr) (e : Expr) (f : M Bool) : Prop := ∃ t : TT, (∀ j, PT (𝓕.X j) e t) ∧ SemT ca 𝓕.XA 𝓕.E t f
def Wv (𝓕 : Fam) (ca : Option Addr) (e : Expr) (f : M Bool) : Prop := ∃ t : TT, (∀ j, PW (𝓕.X j) e t) ∧ SemT ca 𝓕.XA 𝓕.E t f
def Av (𝓕 : Fam) (ca : Option Addr) (es : List Expr) (f : M (List D)) : Prop := ∃ t : TA, (∀ j, PA (𝓕.X j) es t) ∧ SemA ca 𝓕.XA 𝓕.E t f ∧ ∀ s ds c, f s = .ok (ds, c) → ds.length = es.length
section
variable {ca : Option Addr} {F W : Addr → Prop} {H H1 : Hp} {σ : St} {XA : Exn → Value → Option Addr → Hp → Prop} {E : XK}
theorem PostE.ext {env : List Slot} {Q : VK} {r : D × List D} (h : PostE ca F W H σ env Q r) (x : Ext W H H1) : PostE ca F W H1 σ env Q r := fun v H' y a b => h v H' (x.trans y) a b
theorem PostB.ext {env : List Slot} {Q : Bool → Hp → Prop} {r : Bool × List D} (h : PostB ca F W H σ env Q r) (x : Ext W H H1) : PostB ca F W H1 σ env Q r := fun H' y a => h H' (x.trans y) a
theorem PostA.ext {env : List Slot} {Q : List V → Hp → Prop} {r : List D × List D} (h : PostA ca F W H σ env Q r) (x : Ext W H H1) : PostA ca F W H1 σ env Q r := fun v H' y a b => h v H' (x.trans y) a b
theorem ExcP.ext {x : Exn} {c : List D} (h : ExcP ca F W H XA E x c) (y : Ext W H H1) : ExcP ca F W H1 XA E x c := h.step (.ext y)
end
/-- what may not be read as plain was laid -/
def Dom (Mu : Addr → Prop) (H : Hp) : Prop := ∀ a, Mu a → H a ≠ none
theorem SRep.dom {ca : Option Addr} {F W : Addr → Prop} {H : Hp} {σ : St} {s : S} (R : SRep ca F W H σ s) : Dom (or2 F W) H := fun a h => by
  rcases h with h | h
  · exact R.fl a h
  · obtain ⟨xs, e⟩ := R.wl a h
    rw [e]; exact fun z => by cases z
/-- the state read off -/
def getv (i : Nat) : M D := fun s => match s.env[i]? with
  | some (.val d) => .ok (d, s.cup)
  | _ => .bad
section
variable {𝓕 : Fam} {ca : Option Addr} {pos : Pos}
/-! names, constants -/
theorem ev_var (i : Nat) {x : Str} (hi : 𝓕.N[i]? = some x := by rfl) (hv : ∀ j, Vis (𝓕.X j).env.scope x := by intro _; first | exact Or.inl rfl | exact Or.inr (Or.inl rfl) | exact Or.inr (Or.inr rfl)) (hd : (x == ("__debug__" : Str)) = false := by decide)
    (hcd : (x == ("__classdict__" : Str)) = false := by decide) : Ev 𝓕 ca (.Name x pos) (getv i) := by
  refine ⟨tVar i, fun j => pe_var (by rw [𝓕.hN j]; exact hi) (hv j) hd hcd, fun F W H σ s Q R h => ?_⟩
  unfold getv at h
  cases e : s.env[i]? with
  | none => rw [e] at h; exact h.elim
  | some sl =>
    rw [e] at h
    cases sl with
    | val d =>
      obtain ⟨v, q, r⟩ := R.slot i d e
      exact ⟨v, q, h v H (Ext.refl _ _) R r⟩
    | un => exact h.elim
    | own ds => exact h.elim
theorem sem_c {XA : Exn → Value → Option Addr → Hp → Prop} {E : XK} {d : D} {v : V} (h : ∀ Mu H, Rep ca Mu H d v) : SemE ca XA E (tC v) (ret d) := fun F W H σ s Q R q => q v H (Ext.refl _ _) R (h _ _)
theorem ev_int {i : Int} {j : Nat} : Ev 𝓕 ca (.Constant (.int i) j pos) (ret (.int i)) := ⟨_, fun _ => pe_int, sem_c fun _ _ => rfl⟩
theorem ev_bl {b : Bool} {j : Nat} : Ev 𝓕 ca (.Constant (.bool b) j pos) (ret (.bl b)) := ⟨_, fun _ => pe_bl, sem_c fun _ _ => rfl⟩
theorem ev_non {j : Nat} : Ev 𝓕 ca (.Constant .none j pos) (ret .non) := ⟨_, fun _ => pe_non, sem_c fun _ _ => rfl⟩
theorem ev_str {x : Str} {j : Nat} : Ev 𝓕 ca (.Constant (.str x) j pos) (ret (.str x)) := ⟨_, fun _ => pe_str, sem_c fun _ _ => rfl⟩
/-- a module's int or text -/
theorem ev_gint {x : Str} {i : Int} (hm : ∃ t, 𝓕.mg x = some (.int i t)) (hg : ∀ j, Gl (𝓕.X j) x := by intro _; rfl) (hd : (x == ("__debug__" : Str)) = false := by decide) : Ev 𝓕 ca (.Name x pos) (ret (.int i)) := by
  obtain ⟨t, e⟩ := hm
  exact ⟨_, fun j => pe_glob (hg j) (by rw [𝓕.hmg j]; exact e) (show RelV (.int i) (.int i t) from ⟨t, rfl⟩) hd, sem_c fun _ _ => rfl⟩
theorem ev_gstr {x z : Str} (hm : ∃ t, 𝓕.mg x = some (.str z t)) (hg : ∀ j, Gl (𝓕.X j) x := by intro _; rfl) (hd : (x == ("__debug__" : Str)) = false := by decide) : Ev 𝓕 ca (.Name x pos) (ret (.str z)) := by
  obtain ⟨t, e⟩ := hm
  exact ⟨_, fun j => pe_glob (hg j) (by rw [𝓕.hmg j]; exact e) (show RelV (.str z) (.str z t) from ⟨t, rfl⟩) hd, sem_c fun _ _ => rfl⟩
/-! operations by values -/
def OpG (ca : Option Addr) (r : R2) (g : D → D → Option D) : Prop := ∀ Mu H dx dy vx vy d Q, Dom Mu H → Rep ca Mu H dx vx → Rep ca Mu H dy vy → g dx dy = some d → (∀ v H', Same H H' → Rep ca Mu H' d v → Q v H') → r vx vy H Q
def OpV (𝓕 : Fam) (ca : Option Addr) (f : Value → Value → Sem Value) (g : D → D → Option D) : Prop := ∃ r : R2, (∀ j, OpR (𝓕.X j) f r) ∧ OpG ca r g
def CallG (ca : Option Addr) (r : List V → Hp → VK → Prop) (g : List D → Option D) : Prop := ∀ Mu H ds vs d Q, Dom Mu H → Reps ca Mu H ds vs → g ds = some d → (∀ v H', Same H H' → Rep ca Mu H' d v → Q v H') → r vs H Q
def CallV (𝓕 : Fam) (ca : Option Addr) (f : Value) (g : List D → Option D) : Prop := ∃ r, (∀ j, CallR (𝓕.X j) f r) ∧ CallG ca r g
def op2 (g : D → D → Option D) (fa fb : M D) : M D := bindM fa fun x => bindM fb fun y => lift (g x y)
theorem wpr_lift {α : Type} {o : Option α} {s : S} {P : α × List D → Prop} {N : Exn → List D → Prop} (h : wpr (lift o s) P N) : ∃ a, o = some a ∧ P (a, s.cup) := by
  unfold lift at h
  cases o with
  | none => exact h.elim
  | some a => exact ⟨a, rfl, h⟩
theorem sem_op {XA : Exn → Value → Option Addr → Hp → Prop} {E : XK} {r : R2} {g : D → D → Option D} {ta tb : TE} {fa fb : M D} (hr : OpG ca r g) (ha : SemE ca XA E ta fa) (hb : SemE ca XA E tb fb) : SemE ca XA E (tOp r ta tb) (op2 g fa fb) := fun F W H σ s Q R q => by
  unfold op2 bindM at q
  refine ha F W H σ s _ R (wpr_mono (wpr_bind.mp q) (fun r1 h1 v1 H1 x1 R1 p1 => ?_) fun _ _ z => z)
  refine hb F W H1 σ ⟨s.env, r1.2⟩ _ R1 (wpr_mono (wpr_bind.mp h1) (fun r2 h2 v2 H2 x2 R2 p2 => ?_) fun _ _ z => z.ext x1)
  obtain ⟨d, e, h3⟩ := wpr_lift h2
  refine hr (or2 F W) H2 r1.1 r2.1 v1 v2 d Q R2.dom (R1.rep x2 p1) p2 e fun v H' sm rp => ?_
  exact h3 v H' ((x1.trans x2).trans (Ext.same sm)) (R2.same sm) rp
theorem ev_op {op : Operator} {g : D → D → Option D} {a b : Expr} {fa fb : M D} (ho : OpV 𝓕 ca (binaryOp op) g) (ha : Ev 𝓕 ca a fa) (hb : Ev 𝓕 ca b fb) : Ev 𝓕 ca (.BinOp a op b pos) (op2 g fa fb) := by
  obtain ⟨r, h1, h2⟩ := ho
  obtain ⟨ta, a1, a2⟩ := ha
  obtain ⟨tb, b1, b2⟩ := hb
  exact ⟨_, fun j => pe_op (h1 j) (a1 j) (b1 j), sem_op h2 a2 b2⟩
theorem ev_cmp {op : CmpOp} {g : D → D → Option D} {a b : Expr} {fa fb : M D} (ho : OpV 𝓕 ca (compareOp op) g) (ha : Ev 𝓕 ca a fa) (hb : Ev 𝓕 ca b fb) (hm : behindInMarks op b = false := by first | exact nomark _ | rfl) : Ev 𝓕 ca (.Compare a [op] [b] pos) (op2 g fa fb) := by
  obtain ⟨r, h1, h2⟩ := ho
  obtain ⟨ta, a1, a2⟩ := ha
  obtain ⟨tb, b1, b2⟩ := hb
  exact ⟨_, fun j => pe_cmpR (h1 j) (a1 j) (b1 j) hm, sem_op h2 a2 b2⟩
/-- a value that is a truth value, as a test -/
def asB (f : M D) : M Bool := bindM f fun d => match d with
  | .bl b => ret b
  | _ => fun _ => .bad
theorem asB_ok {F W : Addr → Prop} {H : Hp} {σ : St} {s : S} {f : M D} {P : Bool × List D → Prop} {N : Exn → List D → Prop} (h : wpr (asB f s) P N) : wpr (f s) (fun r => ∃ b, r.1 = .bl b ∧ P (b, r.2)) N := by
  unfold asB bindM at h
  refine wpr_mono (wpr_bind.mp h) (fun r q => ?_) fun _ _ z => z
  obtain ⟨d, s'⟩ := r
  cases d with
  | bl b => exact ⟨b, rfl, q⟩
  | _ => exact q.elim
theorem sem_asB {XA : Exn → Value → Option Addr → Hp → Prop} {E : XK} {t : TE} {f : M D} (h : SemE ca XA E t f) : SemT ca XA E (tTest t) (asB f) := fun F W H σ s Q R q => by
  refine h F W H σ s _ R (wpr_mono (asB_ok (F := F) (W := W) (H := H) (σ := σ) q) (fun r ⟨b, e, p⟩ v H1 x1 R1 r1 => ?_) fun _ _ z => z)
  rw [e] at r1
  exact ⟨b, r1, p H1 x1 R1⟩
theorem tv_cmp {op : CmpOp} {g : D → D → Option D} {a b : Expr} {fa fb : M D} (ho : OpV 𝓕 ca (compareOp op) g) (ha : Ev 𝓕 ca a fa) (hb : Ev 𝓕 ca b fb) (hm : behindInMarks op b = false := by first | exact nomark _ | rfl) : Tv 𝓕 ca (.Compare a [op] [b] pos) (asB (op2 g fa fb)) := by
  obtain ⟨r, h1, h2⟩ := ho
  obtain ⟨ta, a1, a2⟩ := ha
  obtain ⟨tb, b1, b2⟩ := hb
  exact ⟨_, fun j => pt_cmpR (h1 j) (a1 j) (b1 j) hm, sem_asB (sem_op h2 a2 b2)⟩
theorem tv_val {e : Expr} {f : M D} (h : Ev 𝓕 ca e f) (he : ∀ (env : Env) whole, isTrue e env whole = (do let v ← whole; standAt e.pos; holding [v] (truthy v)) := by intro _ _; rfl) : Tv 𝓕 ca e (asB f) := by
  obtain ⟨t, a1, a2⟩ := h
  exact ⟨_, fun j => pt_val (a1 j) (he _), sem_asB a2⟩
/-- a < b < c -/
def chain2 (g g' : D → D → Option D) (fa fb fc : M D) : M D := bindM fa fun x => bindM fb fun y => bindM (lift (g x y)) fun z => match z with
  | .bl true => bindM fc fun u => lift (g' y u)
  | .bl false => ret (.bl false)
  | _ => fun _ => .bad
theorem sem_chain {XA : Exn → Value → Option Addr → Hp → Prop} {E : XK} {r r' : R2} {g g' : D → D → Option D} {ta tb tc : TE} {fa fb fc : M D} (hr : OpG ca r g) (hr' : OpG ca r' g') (ha : SemE ca XA E ta fa) (hb : SemE ca XA E tb fb) (hc : SemE ca XA E tc fc) :
    SemE ca XA E (tChain r r' ta tb tc) (chain2 g g' fa fb fc) := fun F W H σ s Q R q => by
  unfold chain2 bindM at q
  refine ha F W H σ s _ R (wpr_mono (wpr_bind.mp q) (fun r1 h1 v1 H1 x1 R1 p1 => ?_) fun _ _ z => z)
  refine hb F W H1 σ ⟨s.env, r1.2⟩ _ R1 (wpr_mono (wpr_bind.mp h1) (fun r2 h2 v2 H2 x2 R2 p2 => ?_) fun _ _ z => z.ext x1)
  obtain ⟨d, e, h3⟩ := wpr_lift (wpr_bind.mp h2)
  refine hr (or2 F W) H2 r1.1 r2.1 v1 v2 d _ R2.dom (R1.rep x2 p1) p2 e fun v H3 sm rp => ?_
  have R3 := R2.same sm
  have x3 : Ext W H H3 := (x1.trans x2).trans (Ext.same sm)
  have p3 := R2.rep (Ext.same (W := W) sm) p2
  cases d with
  | bl b =>
    refine ⟨b, rp, ?_⟩
    cases b with
    | true =>
      rw [if_pos rfl]
      refine hc F W H3 σ ⟨s.env, r2.2⟩ _ R3 (wpr_mono (wpr_bind.mp h3) (fun r4 h4 v4 H4 x4 R4 p4 => ?_) fun _ _ z => z.ext x3)
      obtain ⟨d', e', h5⟩ := wpr_lift h4
      refine hr' (or2 F W) H4 r2.1 r4.1 v2 v4 d' Q R4.dom (R3.rep x4 p3) p4 e' fun v' H' sm' rp' => ?_
      exact h5 v' H' ((x3.trans x4).trans (Ext.same sm')) (R4.same sm') rp'
    | false =>
      rw [if_neg Bool.false_ne_true]
      exact h3 (.bl false) H3 x3 R3 rfl
  | _ => exact h3.elim
theorem ev_chain {op op' : CmpOp} {g g' : D → D → Option D} {a b c : Expr} {fa fb fc : M D} (ho : OpV 𝓕 ca (compareOp op) g) (ho' : OpV 𝓕 ca (compareOp op') g') (ha : Ev 𝓕 ca a fa) (hb : Ev 𝓕 ca b fb) (hc : Ev 𝓕 ca c fc) (hm : lastMarks [op, op'] [b, c] = false := by with_unfolding_all rfl) :
    Ev 𝓕 ca (.Compare a [op, op'] [b, c] pos) (chain2 g g' fa fb fc) := by
  obtain ⟨r, h1, h2⟩ := ho
  obtain ⟨r', h1', h2'⟩ := ho'
  obtain ⟨ta, a1, a2⟩ := ha
  obtain ⟨tb, b1, b2⟩ := hb
  obtain ⟨tc, c1, c2⟩ := hc
  exact ⟨_, fun j => pe_chain (h1 j) (h1' j) (a1 j) (b1 j) (c1 j) hm, sem_chain h2 h2' a2 b2 c2⟩
theorem tv_chain {op op' : CmpOp} {g g' : D → D → Option D} {a b c : Expr} {fa fb fc : M D} (ho : OpV 𝓕 ca (compareOp op) g) (ho' : OpV 𝓕 ca (compareOp op') g') (ha : Ev 𝓕 ca a fa) (hb : Ev 𝓕 ca b fb) (hc : Ev 𝓕 ca c fc) (hm : lastMarks [op, op'] [b, c] = false := by with_unfolding_all rfl) :
    Tv 𝓕 ca (.Compare a [op, op'] [b, c] pos) (asB (chain2 g g' fa fb fc)) := by
  obtain ⟨r, h1, h2⟩ := ho
  obtain ⟨r', h1', h2'⟩ := ho'
  obtain ⟨ta, a1, a2⟩ := ha
  obtain ⟨tb, b1, b2⟩ := hb
  obtain ⟨tc, c1, c2⟩ := hc
  exact ⟨_, fun j => pt_chain (h1 j) (h1' j) (a1 j) (b1 j) (c1 j) hm, sem_asB (sem_chain h2 h2' a2 b2 c2)⟩
/-! and, or, not as tests -/
def andT (fa fb : M Bool) : M Bool := bindM fa fun x => if x = true then fb else ret false
def orT (fa fb : M Bool) : M Bool := bindM fa fun x => if x = true then ret true else fb
def notT (fa : M Bool) : M Bool := bindM fa fun x => ret (!x)
theorem wv_and1 {a : Expr} {fa : M Bool} (ha : Tv 𝓕 ca a fa) : Wv 𝓕 ca (.BoolOp .And [a] pos) fa := by
  obtain ⟨ta, a1, a2⟩ := ha
  exact ⟨ta, fun j => pw_and1 (a1 j), a2⟩
theorem wv_or1 {a : Expr} {fa : M Bool} (ha : Tv 𝓕 ca a fa) : Wv 𝓕 ca (.BoolOp .Or [a] pos) fa := by
  obtain ⟨ta, a1, a2⟩ := ha
  exact ⟨ta, fun j => pw_or1 (a1 j), a2⟩
theorem sem_and {XA : Exn → Value → Option Addr → Hp → Prop} {E : XK} {ta tb : TT} {fa fb : M Bool} (ha : SemT ca XA E ta fa) (hb : SemT ca XA E tb fb) : SemT ca XA E (tAnd ta tb) (andT fa fb) := fun F W H σ s Q R q => by
  unfold andT bindM at q
  refine ha F W H σ s _ R (wpr_mono (wpr_bind.mp q) (fun r1 h1 H1 x1 R1 => ?_) fun _ _ z => z)
  obtain ⟨b, s1⟩ := r1
  cases b with
  | true =>
    simp only [if_true] at h1 ⊢
    exact hb F W H1 σ ⟨s.env, s1⟩ Q R1 (wpr_mono h1 (fun r h => h.ext x1) fun _ _ z => z.ext x1)
  | false =>
    simp only [Bool.false_eq_true, if_false] at h1 ⊢
    exact h1 H1 x1 R1
theorem sem_or {XA : Exn → Value → Option Addr → Hp → Prop} {E : XK} {ta tb : TT} {fa fb : M Bool} (ha : SemT ca XA E ta fa) (hb : SemT ca XA E tb fb) : SemT ca XA E (tOr ta tb) (orT fa fb) := fun F W H σ s Q R q => by
  unfold orT bindM at q
  refine ha F W H σ s _ R (wpr_mono (wpr_bind.mp q) (fun r1 h1 H1 x1 R1 => ?_) fun _ _ z => z)
  obtain ⟨b, s1⟩ := r1
  cases b with
  | false =>
    simp only [Bool.false_eq_true, if_false] at h1 ⊢
    exact hb F W H1 σ ⟨s.env, s1⟩ Q R1 (wpr_mono h1 (fun r h => h.ext x1) fun _ _ z => z.ext x1)
  | true =>
    simp only [if_true] at h1 ⊢
    exact h1 H1 x1 R1
theorem wv_and {a b : Expr} {rest : List Expr} {fa fb : M Bool} (ha : Tv 𝓕 ca a fa) (hb : Wv 𝓕 ca (.BoolOp .And (b :: rest) pos) fb) : Wv 𝓕 ca (.BoolOp .And (a :: b :: rest) pos) (andT fa fb) := by
  obtain ⟨ta, a1, a2⟩ := ha
  obtain ⟨tb, b1, b2⟩ := hb
  exact ⟨_, fun j => pw_and (a1 j) (b1 j), sem_and a2 b2⟩
theorem wv_or {a b : Expr} {rest : List Expr} {fa fb : M Bool} (ha : Tv 𝓕 ca a fa) (hb : Wv 𝓕 ca (.BoolOp .Or (b :: rest) pos) fb) : Wv 𝓕 ca (.BoolOp .Or (a :: b :: rest) pos) (orT fa fb) := by
  obtain ⟨ta, a1, a2⟩ := ha
  obtain ⟨tb, b1, b2⟩ := hb
  exact ⟨_, fun j => pw_or (a1 j) (b1 j), sem_or a2 b2⟩
theorem tv_w {e : Expr} {f : M Bool} (h : Wv 𝓕 ca e f) : Tv 𝓕 ca e f := by
  obtain ⟨t, a1, a2⟩ := h
  exact ⟨t, fun j => (a1 j).pt, a2⟩
theorem tv_not {e : Expr} {f : M Bool} (h : Tv 𝓕 ca e f) : Tv 𝓕 ca (.UnaryOp .Not e pos) (notT f) := by
  obtain ⟨t, a1, a2⟩ := h
  refine ⟨_, fun j => pt_not (a1 j), fun F W H σ s Q R q => ?_⟩
  unfold notT bindM at q
  exact a2 F W H σ s _ R (wpr_mono (wpr_bind.mp q) (fun r1 h1 H1 x1 R1 => h1 H1 x1 R1) fun _ _ z => z)
/-- one of two by a test -/
def iteM {α : Type} (c : M Bool) (fa fb : M α) : M α := bindM c fun x => if x = true then fa else fb
theorem sem_if {XA : Exn → Value → Option Addr → Hp → Prop} {E : XK} {tc : TT} {ta tb : TE} {fc : M Bool} {fa fb : M D} (hc : SemT ca XA E tc fc) (ha : SemE ca XA E ta fa) (hb : SemE ca XA E tb fb) : SemE ca XA E (tIf tc ta tb) (iteM fc fa fb) := fun F W H σ s Q R q => by
  unfold iteM bindM at q
  refine hc F W H σ s _ R (wpr_mono (wpr_bind.mp q) (fun r1 h1 H1 x1 R1 => ?_) fun _ _ z => z)
  obtain ⟨b, s1⟩ := r1
  cases b with
  | true =>
    simp only [if_true] at h1 ⊢
    exact ha F W H1 σ ⟨s.env, s1⟩ Q R1 (wpr_mono h1 (fun r h => h.ext x1) fun _ _ z => z.ext x1)
  | false =>
    simp only [Bool.false_eq_true, if_false] at h1 ⊢
    exact hb F W H1 σ ⟨s.env, s1⟩ Q R1 (wpr_mono h1 (fun r h => h.ext x1) fun _ _ z => z.ext x1)
theorem ev_if {c a b : Expr} {fc : M Bool} {fa fb : M D} (hc : Tv 𝓕 ca c fc) (ha : Ev 𝓕 ca a fa) (hb : Ev 𝓕 ca b fb) : Ev 𝓕 ca (.IfExp c a b pos) (iteM fc fa fb) := by
  obtain ⟨tc, c1, c2⟩ := hc
  obtain ⟨ta, a1, a2⟩ := ha
  obtain ⟨tb, b1, b2⟩ := hb
  exact ⟨_, fun j => pe_ifExp (c1 j) (a1 j) (b1 j), sem_if c2 a2 b2⟩
/-! arguments, displays -/
def consA (fa : M D) (fr : M (List D)) : M (List D) := bindM fa fun x => bindM fr fun xs => ret (x :: xs)
theorem av_nil : Av 𝓕 ca [] (ret []) := ⟨_, fun _ => pa_nil, fun F W H σ s Q R q => q [] H (Ext.refl _ _) R rfl, fun s ds s' e => by cases e; rfl⟩
theorem av_cons {e : Expr} {es : List Expr} {fa : M D} {fr : M (List D)} (ha : Ev 𝓕 ca e fa) (hr : Av 𝓕 ca es fr) (hs : ∀ j, starEach (e :: es) (𝓕.X j).env = (false, eval e (𝓕.X j).env) :: starEach es (𝓕.X j).env := by intro _; rfl) : Av 𝓕 ca (e :: es) (consA fa fr) := by
  obtain ⟨ta, a1, a2⟩ := ha
  obtain ⟨tb, b1, b2, b3⟩ := hr
  refine ⟨_, fun j => pa_cons (a1 j) (b1 j) (hs j), fun F W H σ s Q R q => ?_, fun s ds s' e => ?_⟩
  case refine_2 =>
    unfold consA bindM at e
    cases e1 : fa s with
    | ok r =>
      rw [e1] at e
      have e : ((fr ⟨s.env, r.2⟩).bind fun r2 => ret (r.1 :: r2.1) ⟨s.env, r2.2⟩) = .ok (ds, s') := e
      cases e2 : fr ⟨s.env, r.2⟩ with
      | ok r2 =>
        rw [e2] at e
        cases e
        rw [List.length_cons, List.length_cons, b3 _ _ _ e2]
      | exc _ _ => rw [e2] at e; cases e
      | bad => rw [e2] at e; cases e
    | exc _ _ => rw [e1] at e; cases e
    | bad => rw [e1] at e; cases e
  unfold consA bindM at q
  refine a2 F W H σ s _ R (wpr_mono (wpr_bind.mp q) (fun r1 h1 v1 H1 x1 R1 p1 => ?_) fun _ _ z => z)
  refine b2 F W H1 σ ⟨s.env, r1.2⟩ _ R1 (wpr_mono (wpr_bind.mp h1) (fun r2 h2 v2 H2 x2 R2 p2 => ?_) fun _ _ z => z.ext x1)
  exact h2 (v1 :: v2) H2 (x1.trans x2) R2 ⟨v1, v2, rfl, R1.rep x2 p1, p2⟩
def tupM (f : M (List D)) : M D := bindM f fun ds => ret (.tup ds)
def lstM (f : M (List D)) : M D := bindM f fun ds => ret (.lst ds)
theorem wpr_and {α : Type} {r : Res α} {P : α → Prop} {N : Exn → List D → Prop} {G : α → Prop} (h : wpr r P N) (g : ∀ a, r = .ok a → G a) : wpr r (fun a => P a ∧ G a) N := by
  cases r with
  | ok a => exact ⟨h, g a rfl⟩
  | exc x c => exact h
  | bad => exact h
theorem rep_newT {Mu : Addr → Prop} {H : Hp} {p : Addr} {ds : List D} {vs : List V} (h : Reps ca Mu H ds vs) (hp : H p = none) : Rep ca Mu (upd H p (.tup vs)) (.tup ds) (.ref p) :=
  ⟨p, vs, rfl, upd_same, Reps.ext (W := fun _ => False) (Ext.upd hp) (fun _ z => z.elim) (fun _ z => z.elim) Grow.refl ds vs h⟩
theorem rep_newL {Mu : Addr → Prop} {H : Hp} {p : Addr} {ds : List D} {vs : List V} (h : Reps ca Mu H ds vs) (hp : H p = none) (dm : Dom Mu H) : Rep ca Mu (upd H p (.lst vs)) (.lst ds) (.ref p) :=
  ⟨p, vs, rfl, fun z => dm p z hp, upd_same, Reps.ext (W := fun _ => False) (Ext.upd hp) (fun _ z => z.elim) (fun _ z => z.elim) Grow.refl ds vs h⟩
theorem ev_tup {es : List Expr} {f : M (List D)} {k : Nat} (h : Av 𝓕 ca es f) (hz : es.length ≤ sizeLine := by decide) : Ev 𝓕 ca (.Tuple es k pos) (tupM f) := by
  obtain ⟨t, a1, a2, a3⟩ := h
  refine ⟨_, fun j => pe_tup (a1 j), fun F W H σ s Q R q => ?_⟩
  unfold tupM bindM at q
  refine a2 F W H σ s _ R (wpr_mono (wpr_and (wpr_bind.mp q) fun r e => a3 s r.1 r.2 e) (fun r1 ⟨h1, hl⟩ vs H1 x1 R1 p1 => ?_) fun _ _ z => z)
  refine ⟨by rw [p1.length, hl]; exact hz, fun p np => ?_⟩
  exact h1 (.ref p) _ (x1.trans (Ext.upd np)) (R1.same (same_upd np)) (rep_newT p1 np)
theorem ev_lst {es : List Expr} {f : M (List D)} (h : Av 𝓕 ca es f) (hz : es.length ≤ sizeLine := by decide) : Ev 𝓕 ca (.List es pos) (lstM f) := by
  obtain ⟨t, a1, a2, a3⟩ := h
  refine ⟨_, fun j => pe_lst (a1 j), fun F W H σ s Q R q => ?_⟩
  unfold lstM bindM at q
  refine a2 F W H σ s _ R (wpr_mono (wpr_and (wpr_bind.mp q) fun r e => a3 s r.1 r.2 e) (fun r1 ⟨h1, hl⟩ vs H1 x1 R1 p1 => ?_) fun _ _ z => z)
  refine ⟨by rw [p1.length, hl]; exact hz, fun p np => ?_⟩
  exact h1 (.ref p) _ (x1.trans (Ext.upd np)) (R1.same (same_upd np)) (rep_newL p1 np R1.dom)
/-! calls of built-ins -/
def callM (g : List D → Option D) (f : M (List D)) : M D := bindM f fun ds => lift (g ds)
theorem sem_call {XA : Exn → Value → Option Addr → Hp → Prop} {E : XK} {r : List V → Hp → VK → Prop} {g : List D → Option D} {t : TA} {f : M (List D)} (hr : CallG ca r g) (ha : SemA ca XA E t f) : SemE ca XA E (tCB r t) (callM g f) := fun F W H σ s Q R q => by
  unfold callM bindM at q
  refine ha F W H σ s _ R (wpr_mono (wpr_bind.mp q) (fun r1 h1 vs H1 x1 R1 p1 => ?_) fun _ _ z => z)
  obtain ⟨d, e, h2⟩ := wpr_lift h1
  exact hr (or2 F W) H1 r1.1 vs d Q R1.dom p1 e fun v H' sm rp => h2 v H' (x1.trans (Ext.same sm)) (R1.same sm) rp
theorem ev_callB {x : Str} {id : String} {g : List D → Option D} {e : Expr} {es : List Expr} {f : M (List D)} {p : Pos} (hc : CallV 𝓕 ca (.builtin id) g) (hm : 𝓕.mg x = none) (hv : bootBuiltins x = some (.builtin id)) (ha : Av 𝓕 ca (e :: es) f) (hg : ∀ j, Gl (𝓕.X j) x := by intro _; rfl) (hn : x ≠ "__name__" := by decide) (hdb : (x == ("__debug__" : Str)) = false := by decide)
    (he : ∀ j, starEach (e :: es) (𝓕.X j).env = (false, eval e (𝓕.X j).env) :: starEach es (𝓕.X j).env := by intro _; rfl) (hpl : ∀ j, (backTo pos (starEach es (𝓕.X j).env)).any (·.1) = false := by intro _; rfl) : Ev 𝓕 ca (.Call (.Name x p) (e :: es) [] pos) (callM g f) := by
  obtain ⟨r, h1, h2⟩ := hc
  obtain ⟨t, a1, a2, _⟩ := ha
  exact ⟨_, fun j => pe_callB (h1 j) (hg j) (by rw [𝓕.hmg j]; exact hm) hv (a1 j) hn hdb (he j) (hpl j), sem_call h2 a2⟩
theorem ev_callTy {x : Str} {T : String} {g : List D → Option D} {e : Expr} {es : List Expr} {f : M (List D)} {p : Pos} (hc : CallV 𝓕 ca (.type T) g) (hm : 𝓕.mg x = none) (hv : bootBuiltins x = some (.type T)) (ha : Av 𝓕 ca (e :: es) f) (hg : ∀ j, Gl (𝓕.X j) x := by intro _; rfl) (hn : x ≠ "__name__" := by decide) (hdb : (x == ("__debug__" : Str)) = false := by decide)
    (he : ∀ j, starEach (e :: es) (𝓕.X j).env = (false, eval e (𝓕.X j).env) :: starEach es (𝓕.X j).env := by intro _; rfl) (hpl : ∀ j, (backTo pos (starEach es (𝓕.X j).env)).any (·.1) = false := by intro _; rfl) : Ev 𝓕 ca (.Call (.Name x p) (e :: es) [] pos) (callM g f) := by
  obtain ⟨r, h1, h2⟩ := hc
  obtain ⟨t, a1, a2, _⟩ := ha
  exact ⟨_, fun j => pe_callTy (h1 j) (hg j) (by rw [𝓕.hmg j]; exact hm) hv (a1 j) hn hdb (he j) (hpl j), sem_call h2 a2⟩
/-- a global that holds a built-in (gcd) -/
theorem ev_callG {x : Str} {id : String} {g : List D → Option D} {e : Expr} {es : List Expr} {f : M (List D)} {p : Pos} (hc : CallV 𝓕 ca (.builtin id) g) (hm : 𝓕.mg x = some (.builtin id)) (ha : Av 𝓕 ca (e :: es) f) (hg : ∀ j, Gl (𝓕.X j) x := by intro _; rfl) (hdb : (x == ("__debug__" : Str)) = false := by decide)
    (he : ∀ j, starEach (e :: es) (𝓕.X j).env = (false, eval e (𝓕.X j).env) :: starEach es (𝓕.X j).env := by intro _; rfl) (hpl : ∀ j, (backTo pos (starEach es (𝓕.X j).env)).any (·.1) = false := by intro _; rfl) : Ev 𝓕 ca (.Call (.Name x p) (e :: es) [] pos) (callM g f) := by
  obtain ⟨r, h1, h2⟩ := hc
  obtain ⟨t, a1, a2, _⟩ := ha
  exact ⟨_, fun j => pe_callBfun (h1 j) (hg j) (by rw [𝓕.hmg j]; exact hm) (a1 j) hdb (he j) (hpl j), sem_call h2 a2⟩
/-! calls of own defs -/
/-- a def as a plain function: of the arguments and of the cup's content -/
abbrev Fn := List D → List D → Res (D × List D)
def cupW (ca : Option Addr) : Addr → Prop := fun a => ca = some a
/-- the promise of a def that comes to m -/
def spOf (XA : Exn → Value → Option Addr → Hp → Prop) (n : Nat) (m : Fn) : Sp := fun vs H Q E => vs.length = n ∧ ∃ (ca : Option Addr) (F : Addr → Prop) (ds c : List D), Reps ca (or2 F (cupW ca)) H ds vs ∧ CupAt ca F (cupW ca) H c ∧ (∀ a, F a → H a ≠ none) ∧
  wpr (m ds c) (fun r => ∀ v H' W', Step (cupW ca) H W' H' → Rep ca (or2 F W') H' r.1 v → CupAt ca F W' H' r.2 → Q v H') (ExcP ca F (cupW ca) H XA E)
def fnM (m : Fn) (f : M (List D)) : M D := bindM f fun ds s => m ds s.cup
end
end PL

namespace PL
open PySem PySem.Spec PyProof.Rows L2
theorem or2_cup {ca : Option Addr} {F W : Addr → Prop} (hc : ∀ a, ca = some a → W a) (a : Addr) : or2 (fun b => F b ∨ (W b ∧ ¬ cupW ca b)) (cupW ca) a ↔ or2 F W a := by
  constructor
  · rintro ((h | h) | h)
    · exact .inl h
    · exact .inr h.1
    · exact .inr (hc a h)
  · rintro (h | h)
    · exact .inl (.inl h)
    · by_cases c : cupW ca a
      · exact .inr c
      · exact .inl (.inr ⟨h, c⟩)
theorem Reps.mu {ca : Option Addr} {Mu Mu' : Addr → Prop} {H : Hp} {ds : List D} {vs : List V} (h : Reps ca Mu H ds vs) (s : ∀ a, Mu' a → Mu a) : Reps ca Mu' H ds vs :=
  Reps.ext (W := fun _ => False) (Ext.refl _ _) (fun _ z => z.elim) (fun _ z => z.elim) (Grow.sub s) ds vs h
theorem Rep.mu {ca : Option Addr} {Mu Mu' : Addr → Prop} {H : Hp} {d : D} {v : V} (h : Rep ca Mu H d v) (s : ∀ a, Mu' a → Mu a) : Rep ca Mu' H d v :=
  Rep.ext (W := fun _ => False) (Ext.refl _ _) (fun _ z => z.elim) (fun _ z => z.elim) (Grow.sub s) d v h
/-- behind a call: the cup alone may have changed -/
theorem SRep.called {ca : Option Addr} {F W : Addr → Prop} {H H' : Hp} {σ : St} {s : S} {c : List D} (R : SRep ca F W H σ s) (x : Ext (cupW ca) H H') (q : CupAt ca F W H' c) : SRep ca F W H' σ { s with cup := c } := by
  have hW : ∀ a, cupW ca a → W a := fun a e => (R.cup a e).1
  have lc : Lsts (cupW ca) H := fun a e => R.wl a (hW a e)
  have xW : Ext W H H' := fun a o h n => x a o h fun z => n (hW a z)
  refine ⟨R.len, fun i d e => ?_, fun i ds e => ?_, R.inj, q, fun a w => ?_, fun a f z => ?_⟩
  · obtain ⟨v, a, b⟩ := R.slot i d e
    exact ⟨v, a, R.rep xW b⟩
  · obtain ⟨a, vs, h1, h2, h3, h4, h5⟩ := R.own i ds e
    exact ⟨a, vs, h1, h2, h3, x _ _ h4 h3, R.reps xW h5⟩
  · by_cases e : cupW ca a
    · obtain ⟨_, vs, h, _⟩ := q a e
      exact ⟨vs, h⟩
    · obtain ⟨xs, h⟩ := R.wl a w
      exact ⟨xs, x _ _ h e⟩
  · cases e : H a with
    | none => exact R.fl a f e
    | some o =>
      by_cases c : cupW ca a
      · obtain ⟨_, vs, h, _⟩ := q a c
        rw [h] at z; cases z
      · rw [x _ _ e c] at z; cases z
section
variable {𝓕 : Fam} {ca : Option Addr} {pos : Pos}
/-- the def of the text that the module's name x stands for comes to m -/
def FnV (𝓕 : Fam) (x : Str) (n : Nat) (m : Fn) : Prop := ∃ (f : Addr) (fd : FuncData) (ps : List Str) (k : Nat), FnOk 𝓕.P 𝓕.w 𝓕.K 𝓕.mg 𝓕.base 𝓕.CX k f fd ps (spOf 𝓕.XA n m) ∧ k ≤ 𝓕.k ∧ 𝓕.mg x = some (.ref f) ∧ PySem.W.keepIn 𝓕.K (.ref f) = true ∧ Binds 𝓕.K fd ps []
theorem sem_fn {XA : Exn → Value → Option Addr → Hp → Prop} {E : XK} {n : Nat} {m : Fn} {t : TA} {f : M (List D)} (ha : SemA ca XA E t f) (hl : ∀ s ds c, f s = .ok (ds, c) → ds.length = n) : SemE ca XA E (tCall (spOf XA n m) [] E t) (fnM m f) := fun F W H σ s Q R q => by
  unfold fnM bindM at q
  refine ha F W H σ s _ R (wpr_mono (wpr_and (wpr_bind.mp q) fun r e => hl s r.1 r.2 e) (fun r1 ⟨h1, hn⟩ vs H1 x1 R1 p1 => ?_) fun _ _ z => z)
  have hW : ∀ a, ca = some a → W a := fun a e => (R1.cup a e).1
  have lc : Lsts (cupW ca) H1 := fun a e => R1.wl a (hW a e)
  have iff := @or2_cup ca F W hW
  show spOf XA n m (vs ++ []) H1 Q E
  rw [List.append_nil]
  refine ⟨by rw [p1.length, hn], ca, fun b => F b ∨ (W b ∧ ¬ cupW ca b), r1.1, r1.2, p1.mu fun a z => (iff a).mp z, fun a e => ?_, fun a z => ?_, ?_⟩
  · obtain ⟨w, us, h, r⟩ := R1.cup a e
    exact ⟨e, us, h, r.mu fun a z => (iff a).mp z⟩
  · rcases z with z | z
    · exact R1.fl a z
    · obtain ⟨us, e⟩ := R1.wl a z.1
      rw [e]; exact fun z => by cases z
  have conv : ∀ {W' : Addr → Prop} {H' : Hp}, Step (cupW ca) H1 W' H' → (∀ a, ca = some a → W' a) → ∀ a, or2 F W a → or2 (fun b => F b ∨ (W b ∧ ¬ cupW ca b)) W' a := fun {W' H'} st hw a z => by
    rcases z with z | z
    · exact .inl (.inl z)
    · by_cases c : cupW ca a
      · exact .inr (hw a c)
      · exact .inl (.inr ⟨z, c⟩)
  cases e : m r1.1 r1.2 with
  | ok r =>
    have h1 : wpr (m r1.1 r1.2) (PostE ca F W H σ s.env Q) (ExcP ca F W H XA E) := h1
    rw [e] at h1
    intro v H' W' st rp cp
    have hw : ∀ a, ca = some a → W' a := fun a e => (cp a e).1
    have x2 : Ext W H1 H' := fun a o h n => st.1 a o h fun z => n (hW a z)
    have cv := conv st hw
    refine h1 v H' (x1.trans x2) (R1.called st.1 fun a e => ?_) (rp.mu cv)
    obtain ⟨_, us, h, r⟩ := cp a e
    exact ⟨hW a e, us, h, r.mu cv⟩
  | exc x c =>
    have h1 : wpr (m r1.1 r1.2) (PostE ca F W H σ s.env Q) (ExcP ca F W H XA E) := h1
    rw [e] at h1
    intro cls dx W' H' st cp xa
    have hw : ∀ a, ca = some a → W' a := fun a e => (cp a e).1
    have x2 : Ext W H1 H' := fun a o h n => st.1 a o h fun z => n (hW a z)
    refine h1 cls dx W H' (Step.ext (x1.trans x2)) (fun a e => ?_) xa
    obtain ⟨_, us, h, r⟩ := cp a e
    exact ⟨hW a e, us, h, r.mu (conv st hw)⟩
  | bad =>
    have h1 : wpr (m r1.1 r1.2) (PostE ca F W H σ s.env Q) (ExcP ca F W H XA E) := h1
    rw [e] at h1
    exact h1.elim
theorem ev_call {x : Str} {n : Nat} {m : Fn} {e : Expr} {es : List Expr} {f : M (List D)} {p : Pos} (hf : FnV 𝓕 x n m) (ha : Av 𝓕 ca (e :: es) f) (hn : (e :: es).length = n := by rfl) (hg : ∀ j, Gl (𝓕.X j) x := by intro _; rfl) (hdb : (x == ("__debug__" : Str)) = false := by decide)
    (he : ∀ j, starEach (e :: es) (𝓕.X j).env = (false, eval e (𝓕.X j).env) :: starEach es (𝓕.X j).env := by intro _; rfl) (hpl : ∀ j, (backTo pos (starEach es (𝓕.X j).env)).any (·.1) = false := by intro _; rfl) : Ev 𝓕 ca (.Call (.Name x p) (e :: es) [] pos) (fnM m f) := by
  obtain ⟨fa, fd, ps, k, F, hk, hm, kp, b⟩ := hf
  obtain ⟨t, a1, a2, a3⟩ := ha
  refine ⟨tCall (spOf 𝓕.XA n m) [] 𝓕.E t, fun j => ?_, sem_fn a2 fun s ds s' e => (a3 s ds s' e).trans hn⟩
  have hP := 𝓕.hP j
  have hw := 𝓕.hw j
  have hK := 𝓕.hK j
  have hmg := 𝓕.hmg j
  have hB := 𝓕.hB j
  exact pe_call (by rw [hP, hw, hK, hmg, hB]; exact F) ((𝓕.room j).mono hk) (hg j) (by rw [hmg]; exact hm) (by rw [hK]; exact kp) (by rw [hK]; exact b) .nil (𝓕.pass j) (a1 j) hdb (he j) (hpl j)
/-! statements -/
def PostS (ca : Option Addr) (F W : Addr → Prop) (H : Hp) (Dn : Ends) : Fl → Prop
  | .nx s' => ∀ W' H' σ', Step W H W' H' → SRep ca F W' H' σ' s' → Dn.nx σ' H'
  | .bk s' => ∀ W' H' σ', Step W H W' H' → SRep ca F W' H' σ' s' → Dn.bk σ' H'
  | .ct s' => ∀ W' H' σ', Step W H W' H' → SRep ca F W' H' σ' s' → Dn.ct σ' H'
  | .rt d c => ∀ W' v H', Step W H W' H' → Rep ca (or2 F W') H' d v → CupAt ca F W' H' c → Dn.rt v H'
def SemS (ca : Option Addr) (XA : Exn → Value → Option Addr → Hp → Prop) (E : XK) (t : TS) (f : S → Res Fl) : Prop :=
  ∀ F W H σ s (Dn : Ends), SRep ca F W H σ s → wpr (f s) (PostS ca F W H Dn) (ExcP ca F W H XA E) → t Dn σ H
def Sv (𝓕 : Fam) (ca : Option Addr) (st : Stmt) (f : S → Res Fl) : Prop := ∃ t : TS, (∀ j, PS (𝓕.X j) st t) ∧ SemS ca 𝓕.XA 𝓕.E t f
def Bv (𝓕 : Fam) (ca : Option Addr) (st : List Stmt) (f : S → Res Fl) : Prop := ∃ t : TS, (∀ j, PSs (𝓕.X j) st t) ∧ SemS ca 𝓕.XA 𝓕.E t f
theorem PostS.step {F W W1 : Addr → Prop} {H H1 : Hp} {Dn : Ends} {f : Fl} (h : PostS ca F W H Dn f) (st : Step W H W1 H1) : PostS ca F W1 H1 Dn f := by
  cases f with
  | nx s => exact fun W' H' σ' q r => h W' H' σ' (st.trans q) r
  | bk s => exact fun W' H' σ' q r => h W' H' σ' (st.trans q) r
  | ct s => exact fun W' H' σ' q r => h W' H' σ' (st.trans q) r
  | rt d c => exact fun W' v H' q r c' => h W' v H' (st.trans q) r c'
def seqS (f g : S → Res Fl) : S → Res Fl := fun s => (f s).bind fun r => match r with
  | .nx s' => g s'
  | r => .ok r
def skipS : S → Res Fl := fun s => .ok (.nx s)
theorem bv_nil : Bv 𝓕 ca [] skipS := ⟨_, fun _ => pss_nil, fun F W H σ s Dn R q => q W H σ Step.refl R⟩
theorem sem_seq {XA : Exn → Value → Option Addr → Hp → Prop} {E : XK} {t u : TS} {f g : S → Res Fl} (h1 : SemS ca XA E t f) (h2 : SemS ca XA E u g) : SemS ca XA E (tSeq t u) (seqS f g) := fun F W H σ s Dn R q => by
  unfold seqS at q
  refine h1 F W H σ s _ R (wpr_mono (wpr_bind.mp q) (fun r h => ?_) fun _ _ z => z)
  cases r with
  | nx s' => exact fun W' H' σ' st R' => h2 F W' H' σ' s' Dn R' (wpr_mono h (fun r z => z.step st) fun _ _ z => z.step st)
  | bk s' => exact fun W' H' σ' st R' => h W' H' σ' st R'
  | ct s' => exact fun W' H' σ' st R' => h W' H' σ' st R'
  | rt d c => exact fun W' v H' st R' c' => h W' v H' st R' c'
theorem bv_cons {st : Stmt} {rest : List Stmt} {f g : S → Res Fl} (h1 : Sv 𝓕 ca st f) (h2 : Bv 𝓕 ca rest g) : Bv 𝓕 ca (st :: rest) (seqS f g) := by
  obtain ⟨t, a1, a2⟩ := h1
  obtain ⟨u, b1, b2⟩ := h2
  exact ⟨_, fun j => pss_cons (a1 j) (b1 j), sem_seq a2 b2⟩
theorem bv_one {st : Stmt} {f : S → Res Fl} (h1 : Sv 𝓕 ca st f) : Bv 𝓕 ca [st] f := by
  obtain ⟨t, a1, a2⟩ := h1
  exact ⟨_, fun j => pss_one (a1 j), a2⟩
theorem sv_pass : Sv 𝓕 ca (.Pass pos) skipS := ⟨_, fun _ => ps_pass, fun F W H σ s Dn R q => q W H σ Step.refl R⟩
def breakS : S → Res Fl := fun s => .ok (.bk s)
theorem sv_break : Sv 𝓕 ca (.Break pos) breakS := ⟨_, fun _ => ps_break, fun F W H σ s Dn R q => q W H σ Step.refl R⟩
def retS (f : M D) : S → Res Fl := fun s => (f s).bind fun r => .ok (.rt r.1 r.2)
theorem sv_ret {e : Expr} {f : M D} (h : Ev 𝓕 ca e f) : Sv 𝓕 ca (.Return (some e) pos) (retS f) := by
  obtain ⟨t, a1, a2⟩ := h
  refine ⟨_, fun j => ps_ret (a1 j), fun F W H σ s Dn R q => ?_⟩
  unfold retS at q
  exact a2 F W H σ s _ R (wpr_mono (wpr_bind.mp q) (fun r h v H' x R' p => h W v H' (.ext x) p R'.cup) fun _ _ z => z)
theorem sv_retN : Sv 𝓕 ca (.Return none pos) (fun s => .ok (.rt .non s.cup)) := ⟨_, fun _ => ps_retN, fun F W H σ s Dn R q => q W .non H Step.refl rfl R.cup⟩
def exprS (f : M D) : S → Res Fl := fun s => (f s).bind fun r => .ok (.nx ⟨s.env, r.2⟩)
theorem sv_expr {e : Expr} {f : M D} (h : Ev 𝓕 ca e f) (hs : ∀ j, swapsWith e none pos.line (𝓕.X j).env = pure false := by intro _; rfl) : Sv 𝓕 ca (.Expr e pos) (exprS f) := by
  obtain ⟨t, a1, a2⟩ := h
  refine ⟨_, fun j => ps_expr (a1 j) (hs j), fun F W H σ s Dn R q => ?_⟩
  unfold exprS at q
  exact a2 F W H σ s _ R (wpr_mono (wpr_bind.mp q) (fun r h v H' x R' p => h W H' σ (.ext x) R') fun _ _ z => z)
def ifS (c : M Bool) (f g : S → Res Fl) : S → Res Fl := fun s => (c s).bind fun r => if r.1 = true then f ⟨s.env, r.2⟩ else g ⟨s.env, r.2⟩
theorem sv_if {c : Expr} {a b : List Stmt} {fc : M Bool} {fa fb : S → Res Fl} (hc : Tv 𝓕 ca c fc) (ha : Bv 𝓕 ca a fa) (hb : Bv 𝓕 ca b fb) : Sv 𝓕 ca (.If c a b pos) (ifS fc fa fb) := by
  obtain ⟨tc, c1, c2⟩ := hc
  obtain ⟨ta, a1, a2⟩ := ha
  obtain ⟨tb, b1, b2⟩ := hb
  refine ⟨_, fun j => ps_if (c1 j) (a1 j) (b1 j), fun F W H σ s Dn R q => ?_⟩
  unfold ifS at q
  refine c2 F W H σ s _ R (wpr_mono (wpr_bind.mp q) (fun r h H1 x1 R1 => ?_) fun _ _ z => z)
  obtain ⟨b, s1⟩ := r
  cases b with
  | true =>
    simp only [if_true] at h ⊢
    exact a2 F W H1 σ ⟨s.env, s1⟩ Dn R1 (wpr_mono h (fun r z => z.step (.ext x1)) fun _ _ z => z.ext x1)
  | false =>
    simp only [Bool.false_eq_true, if_false] at h ⊢
    exact b2 F W H1 σ ⟨s.env, s1⟩ Dn R1 (wpr_mono h (fun r z => z.step (.ext x1)) fun _ _ z => z.ext x1)
/-! targets -/
/-- a target: from a value and a state; T: the slots that it may change -/
def SemG (ca : Option Addr) (XA : Exn → Value → Option Addr → Hp → Prop) (E : XK) (T : List Nat) (g : TG) (f : D → S → Res S) : Prop :=
  ∀ F W H σ s v d Q, SRep ca F W H σ s → Rep ca (or2 F W) H d v → wpr (f d s) (fun s' => ∀ σ' H', Ext W H H' → SRep ca F W H' σ' s' → σ'.length = σ.length → (∀ i, i ∉ T → σ'[i]? = σ[i]?) → Q σ' H') (ExcP ca F W H XA E) → g v σ H Q
/-- the state's other slots stay -/
def Kp {α : Type} (T : List Nat) (f : α → S → Res S) : Prop := ∀ d s s', f d s = .ok s' → ∀ (i : Nat), i ∉ T → s'.env[i]? = s.env[i]?
def Gv (𝓕 : Fam) (ca : Option Addr) (e : Expr) (T : List Nat) (f : D → S → Res S) : Prop := ∃ g : TG, (∀ j, PG (𝓕.X j) e g) ∧ SemG ca 𝓕.XA 𝓕.E T g f ∧ Kp T f
def setv (i : Nat) (d : D) (s : S) : Res S := .ok { s with env := s.env.set i (.val d) }
theorem setv_ok {i : Nat} {d : D} {s : S} {P : S → Prop} {N : Exn → List D → Prop} (h : wpr (setv i d s) P N) : P { s with env := s.env.set i (.val d) } := h
theorem kp_setv (i : Nat) : Kp [i] (setv i) := fun d s s' e j hj => by
  cases e
  show (s.env.set i (.val d))[j]? = _
  rw [List.getElem?_set_ne]
  intro e
  exact hj (by simp [e])
theorem gv_name {i : Nat} {x : Str} (hi : 𝓕.N[i]? = some x := by rfl) (hx : ∀ j, Loc (𝓕.X j).env.scope x := by intro _; first | exact Or.inl rfl | exact Or.inr rfl) (hf : ∀ j, (𝓕.X j).fn x = true ∨ (𝓕.X j).env.scope.names.lookup x = some .local := by intro _; first | exact .inl rfl | exact .inr rfl) : Gv 𝓕 ca (.Name x pos) [i] (setv i) := by
  refine ⟨gName i, fun j => pg_name (by rw [𝓕.hN j]; exact 𝓕.nd) (by rw [𝓕.hN j]; exact hi) (hx j) (hf j), fun F W H σ s v d Q R p q => ?_, kp_setv i⟩
  exact setv_ok q (σ.set i (some v)) H (Ext.refl _ _) (R.set p) (by rw [List.length_set]) fun j hj => by
    rw [List.getElem?_set_ne]
    intro e
    exact hj (by simp [e])
/-- several targets -/
def SemGs (ca : Option Addr) (XA : Exn → Value → Option Addr → Hp → Prop) (E : XK) (T : List Nat) (g : TGs) (f : List D → S → Res S) : Prop :=
  ∀ F W H σ s vs ds Q, SRep ca F W H σ s → Reps ca (or2 F W) H ds vs → wpr (f ds s) (fun s' => ∀ σ' H', Ext W H H' → SRep ca F W H' σ' s' → σ'.length = σ.length → (∀ i, i ∉ T → σ'[i]? = σ[i]?) → Q σ' H') (ExcP ca F W H XA E) → g vs σ H Q
def Gsv (𝓕 : Fam) (ca : Option Addr) (es : List Expr) (T : List Nat) (f : List D → S → Res S) : Prop := ∃ g : TGs, (∀ j, PGs (𝓕.X j) es g) ∧ SemGs ca 𝓕.XA 𝓕.E T g f ∧ Kp T f
def setNil : List D → S → Res S := fun ds s => match ds with
  | [] => .ok s
  | _ => .bad
def setCons (f : D → S → Res S) (g : List D → S → Res S) : List D → S → Res S := fun ds s => match ds with
  | d :: r => (f d s).bind fun s' => g r s'
  | [] => .bad
theorem gsv_nil : Gsv 𝓕 ca [] [] setNil := by
  refine ⟨gNil, fun j => pgs_nil, fun F W H σ s vs ds Q R p q => ?_, fun ds s s' e i _ => by cases ds with
    | nil => cases e; rfl
    | cons d r => cases e⟩
  cases ds with
  | nil => exact ⟨p, q σ H (Ext.refl _ _) R rfl fun _ _ => rfl⟩
  | cons d r => exact q.elim
theorem gsv_cons {e : Expr} {es : List Expr} {T T' : List Nat} {f : D → S → Res S} {g : List D → S → Res S} (h1 : Gv 𝓕 ca e T f) (h2 : Gsv 𝓕 ca es T' g)
    (hs : ∀ j, (assignEach (e :: es) (𝓕.X j).env).map (·.2) = assign e (𝓕.X j).env :: (assignEach es (𝓕.X j).env).map (·.2) := by intro _; rfl) : Gsv 𝓕 ca (e :: es) (T ++ T') (setCons f g) := by
  obtain ⟨t, a1, a2, a3⟩ := h1
  obtain ⟨u, b1, b2, b3⟩ := h2
  refine ⟨_, fun j => pgs_cons (a1 j) (b1 j) (hs j), fun F W H σ s vs ds Q R p q => ?_, fun ds s s' e i hi => ?_⟩
  case refine_2 =>
    cases ds with
    | nil => cases e
    | cons d r =>
      have e : ((f d s).bind fun s' => g r s') = .ok s' := e
      cases e1 : f d s with
      | ok s1 =>
        rw [e1] at e
        exact (b3 r s1 s' e i fun z => hi (List.mem_append_right _ z)).trans (a3 d s s1 e1 i fun z => hi (List.mem_append_left _ z))
      | exc _ _ => rw [e1] at e; cases e
      | bad => rw [e1] at e; cases e
  cases ds with
  | nil => exact q.elim
  | cons d r =>
    obtain ⟨v, vr, e1, p1, p2⟩ := p
    refine ⟨v, vr, e1, ?_⟩
    have q : wpr ((f d s).bind fun s' => g r s') _ _ := q
    refine a2 F W H σ s v d _ R p1 (wpr_mono (wpr_bind.mp q) (fun s1 h σ1 H1 x1 R1 l1 k1 => ?_) fun _ _ z => z)
    refine b2 F W H1 σ1 s1 vr r _ R1 (R.reps x1 p2) (wpr_mono h (fun s2 h2 σ2 H2 x2 R2 l2 k2 => ?_) fun _ _ z => z.ext x1)
    exact h2 σ2 H2 (x1.trans x2) R2 (l2.trans l1) fun i hi => (k2 i fun z => hi (List.mem_append_right _ z)).trans (k1 i fun z => hi (List.mem_append_left _ z))
def unpack (n : Nat) (f : List D → S → Res S) : D → S → Res S := fun d s => match d with
  | .tup ds => if ds.length = n then f ds s else .bad
  | _ => .bad
theorem gv_tup {es : List Expr} {k : Nat} {T : List Nat} {f : List D → S → Res S} (h : Gsv 𝓕 ca es T f) (n : Nat) (hn : ∀ j, (assignEach es (𝓕.X j).env).length = n := by intro _; rfl) (hst : ∀ j, (assignEach es (𝓕.X j).env).findIdx? (·.1) = none := by intro _; rfl) :
    Gv 𝓕 ca (.Tuple es k pos) T (unpack n f) := by
  obtain ⟨t, a1, a2, a3⟩ := h
  refine ⟨gTup 𝓕.K n t, fun j => ?_, fun F W H σ s v d Q R p q => ?_, fun d s s' e i hi => ?_⟩
  case refine_3 =>
    unfold unpack at e
    cases d with
    | tup ds =>
      dsimp only at e
      by_cases hl : ds.length = n
      · rw [if_pos hl] at e
        exact a3 ds s s' e i hi
      · rw [if_neg hl] at e
        cases e
    | _ => cases e
  · have := pg_tup (pos := pos) (k := k) (n := n) (𝓕.calm j) (a1 j) (hn j) (hst j)
    rw [𝓕.hK j] at this
    exact this
  · unfold unpack at q
    cases d with
    | tup ds =>
      obtain ⟨a, vs, e, h1, h2⟩ := p
      dsimp only at q
      by_cases hl : ds.length = n
      · rw [if_pos hl] at q
        exact ⟨a, vs, e, SqT.of h1, by rw [h2.length, hl], a2 F W H σ s vs ds Q R h2 q⟩
      · rw [if_neg hl] at q
        exact q.elim
    | _ => exact q.elim
def asgS (f : M D) (g : D → S → Res S) : S → Res Fl := fun s => (f s).bind fun r => (g r.1 ⟨s.env, r.2⟩).bind fun s' => .ok (.nx s')
theorem sem_asg {XA : Exn → Value → Option Addr → Hp → Prop} {E : XK} {t : TE} {g : TG} {T : List Nat} {f : M D} {fg : D → S → Res S} (h1 : SemE ca XA E t f) (h2 : SemG ca XA E T g fg) : SemS ca XA E (tAsg t g) (asgS f fg) := fun F W H σ s Dn R q => by
  unfold asgS at q
  refine h1 F W H σ s _ R (wpr_mono (wpr_bind.mp q) (fun r h v H1 x1 R1 p => ?_) fun _ _ z => z)
  refine h2 F W H1 σ ⟨s.env, r.2⟩ v r.1 _ R1 p (wpr_mono (wpr_bind.mp h) (fun s2 h2 σ2 H2 x2 R2 _ _ => ?_) fun _ _ z => z.ext x1)
  exact h2 W H2 σ2 (.ext (x1.trans x2)) R2
theorem sv_set {i : Nat} {x : Str} {e : Expr} {f : M D} {pos' : Pos} (he : Ev 𝓕 ca e f) (hi : 𝓕.N[i]? = some x := by rfl) (hx : ∀ j, Loc (𝓕.X j).env.scope x := by intro _; first | exact Or.inl rfl | exact Or.inr rfl) (hf : ∀ j, (𝓕.X j).fn x = true ∨ (𝓕.X j).env.scope.names.lookup x = some .local := by intro _; first | exact .inl rfl | exact .inr rfl)
    (hs : ∀ j, swapsWith e (some (.Name x pos')) pos.line (𝓕.X j).env = pure false := by intro _; rfl) : Sv 𝓕 ca (.Assign [.Name x pos'] e pos) (asgS f (setv i)) := by
  obtain ⟨t, a1, a2⟩ := he
  obtain ⟨g, b1, b2, _⟩ := gv_name (𝓕 := 𝓕) (ca := ca) (pos := pos) hi hx hf
  refine ⟨_, fun j => ps_set (by rw [𝓕.hN j]; exact 𝓕.nd) (by rw [𝓕.hN j]; exact hi) (hx j) (a1 j) (hs j) (hf j), sem_asg (g := gName i) (T := [i]) a2 fun F W H σ s v d Q R p q => ?_⟩
  exact setv_ok q (σ.set i (some v)) H (Ext.refl _ _) (R.set p) (by rw [List.length_set]) fun j hj => by
    rw [List.getElem?_set_ne]
    intro e
    exact hj (by simp [e])
theorem sv_asg {tg e : Expr} {T : List Nat} {f : M D} {fg : D → S → Res S} (he : Ev 𝓕 ca e f) (hg : Gv 𝓕 ca tg T fg) (hs : ∀ j, swapsWithSole [tg] e pos.line (𝓕.X j).env = pure false := by intro _; rfl) (hw : ∀ j, swappedStores [tg] e (𝓕.X j).env = pure none := by intro _; rfl)
    (h1 : ∀ j, (assignEach [tg] (𝓕.X j).env).map (·.2) = [assign tg (𝓕.X j).env] := by intro _; rfl) : Sv 𝓕 ca (.Assign [tg] e pos) (asgS f fg) := by
  obtain ⟨t, a1, a2⟩ := he
  obtain ⟨g, b1, b2, _⟩ := hg
  exact ⟨_, fun j => ps_asg (a1 j) (b1 j) (hs j) (hw j) (h1 j), sem_asg a2 b2⟩
/-- a, b = x, y: stored from the right -/
def par2 (i j : Nat) (f : M (List D)) : S → Res Fl := fun s => (f s).bind fun r => match r.1 with
  | [x, y] => (setv i x ⟨s.env, r.2⟩).bind fun s1 => (setv j y s1).bind fun s2 => .ok (.nx s2)
  | _ => .bad
theorem sv_par {i j : Nat} {x y : Str} {a b : Expr} {f : M (List D)} {px py pt : Pos} {kt k2 pt2} (ha : Av 𝓕 ca [a, b] f) (hij : i ≠ j := by decide) (hi : 𝓕.N[i]? = some x := by rfl) (hj : 𝓕.N[j]? = some y := by rfl)
    (hx : ∀ j, (𝓕.X j).env.scope.names.lookup x = some .local := by intro _; rfl) (hy : ∀ j, (𝓕.X j).env.scope.names.lookup y = some .local := by intro _; rfl)
    (hw : ∀ j, swappedStores [.Tuple [.Name x px, .Name y py] kt pt] (.Tuple [a, b] k2 pt2) (𝓕.X j).env = pure (some [x, y]) := by intro _; rfl)
    (hs : ∀ j, swapsWithSole [.Tuple [.Name x px, .Name y py] kt pt] (.Tuple [a, b] k2 pt2) pos.line (𝓕.X j).env = pure false := by intro _; rfl) :
    Sv 𝓕 ca (.Assign [.Tuple [.Name x px, .Name y py] kt pt] (.Tuple [a, b] k2 pt2) pos) (par2 i j f) := by
  obtain ⟨t, a1, a2, _⟩ := ha
  refine ⟨_, fun m => ps_par (𝓕.calm m) (by rw [𝓕.hN m]; exact 𝓕.nd) (by rw [𝓕.hN m]; exact hi) (by rw [𝓕.hN m]; exact hj) hij (hx m) (hy m) (a1 m) (hw m) (hs m), fun F W H σ s Dn R q => ?_⟩
  unfold par2 at q
  refine a2 F W H σ s _ R (wpr_mono (wpr_bind.mp q) (fun r h vs H1 x1 R1 p => ?_) fun _ _ z => z)
  obtain ⟨ds, s1⟩ := r
  match ds, h, p with
  | [d, e], h, p =>
    obtain ⟨v, vr, e1, p1, w, wr, e2, p2, e3⟩ := p
    subst e1; subst e2
    have e3 : wr = [] := e3
    subst e3
    refine ⟨v, w, rfl, ?_⟩
    have h : wpr ((setv i d ⟨s.env, s1⟩).bind fun s1 => (setv j e s1).bind fun s2 => Res.ok (Fl.nx s2)) (PostS ca F W H Dn) (ExcP ca F W H 𝓕.XA 𝓕.E) := h
    have h := setv_ok (wpr_bind.mp (setv_ok (wpr_bind.mp h)))
    exact h W H1 _ (.ext x1) ((R1.set p1).set p2)
end
end PL

namespace PL
open PySem PySem.Spec PyProof.Rows L2
/-! what is walked -/
def ItOf (ca : Option Addr) (F W : Addr → Prop) (H1 : Hp) (J : It) (ds : List D) : Prop := ∀ Mu H2, Ext W H1 H2 → Grow H1 (or2 F W) Mu →
  (∀ (i : Nat) (d : D), ds[i]? = some d → J.go i H2 ∧ ∀ x H3, J.yld i H2 x H3 → Same H2 H3 ∧ Rep ca Mu H3 d x) ∧ J.stop ds.length H2
def SemI (ca : Option Addr) (XA : Exn → Value → Option Addr → Hp → Prop) (E : XK) (t : TI) (f : M (List D)) : Prop :=
  ∀ F W H σ s R, SRep ca F W H σ s → wpr (f s) (fun r => ∀ J H', Ext W H H' → SRep ca F W H' σ ⟨s.env, r.2⟩ → ItOf ca F W H' J r.1 → R J H') (ExcP ca F W H XA E) → t σ H R
def Iv (𝓕 : Fam) (ca : Option Addr) (tg e : Expr) (f : M (List D)) : Prop := ∃ t : TI, (∀ j, PI (𝓕.X j) tg e t) ∧ SemI ca 𝓕.XA 𝓕.E t f
theorem pi_or {X : Cx} {tg e : Expr} {t u : TI} (h : PI X tg e t) (h' : PI X tg e u) : PI X tg e (fun σ H R => t σ H R ∨ u σ H R) :=
  ⟨fun pins s σ H R I q => q.elim (h.run pins s σ H R I) (h'.run pins s σ H R I)⟩
/-- the items of what is walked in order -/
def signs (z : Str) : List D := z.cps.toList.map fun c => .str ⟨#[c]⟩
def itemsD : D → Option (List D)
  | .lst ds => some ds
  | .tup ds => some ds
  | .str z => some (signs z)
  | _ => none
def srcM (f : M D) : M (List D) := bindM f fun d => lift (itemsD d)
section
variable {ca : Option Addr} {F W : Addr → Prop} {H : Hp} {K : PySem.W.Frag}
theorem itOf_list {a : Addr} {ds : List D} (h : Rep ca (or2 F W) H (.lst ds) (.ref a)) (l : Lsts W H) : ItOf ca F W H (Itl K a) ds := fun Mu H2 x g => by
  obtain ⟨b, vs, e, n, q, r⟩ := h
  cases e
  have nW : ¬ W a := fun z => n (.inr z)
  have q2 := x _ _ q nW
  have r2 : Reps ca Mu H2 ds vs := Reps.ext x l (fun _ z => .inr z) g ds vs r
  refine ⟨fun i d hd => ?_, vs, SqL.of q2, by rw [r.length]; exact Nat.le_refl _⟩
  obtain ⟨v, hv, rv⟩ := r2.get hd
  refine ⟨⟨vs, v, SqL.of q2, hv⟩, fun y H3 hy => ?_⟩
  obtain ⟨e3, y3⟩ := hy
  subst e3
  have := y3 vs (SqL.of q2)
  rw [hv] at this
  cases this
  exact ⟨Same.refl _, rv⟩
theorem itOf_tup {a : Addr} {ds : List D} (h : Rep ca (or2 F W) H (.tup ds) (.ref a)) (l : Lsts W H) : ItOf ca F W H (Itt K a) ds := fun Mu H2 x g => by
  obtain ⟨b, vs, e, q, r⟩ := h
  cases e
  have q2 := x.rdT l q
  have r2 : Reps ca Mu H2 ds vs := Reps.ext x l (fun _ z => .inr z) g ds vs r
  refine ⟨fun i d hd => ?_, vs, SqT.of q2, by rw [r.length]; exact Nat.le_refl _⟩
  obtain ⟨v, hv, rv⟩ := r2.get hd
  refine ⟨⟨vs, v, SqT.of q2, hv⟩, fun y H3 hy => ?_⟩
  obtain ⟨e3, y3⟩ := hy
  subst e3
  have := y3 vs (SqT.of q2)
  rw [hv] at this
  cases this
  exact ⟨Same.refl _, rv⟩
theorem itOf_str {z : Str} : ItOf ca F W H (Its z) (signs z) := fun Mu H2 x g => by
  refine ⟨fun i d hd => ?_, by show z.cps.size ≤ _; unfold signs; rw [List.length_map, Array.length_toList]; exact Nat.le_refl _⟩
  unfold signs at hd
  rw [List.getElem?_map] at hd
  cases e : z.cps.toList[i]? with
  | none => rw [e] at hd; cases hd
  | some c =>
    rw [e] at hd
    cases hd
    have e2 : z.cps[i]? = some c := by rw [← e]; simp
    refine ⟨(Array.getElem?_eq_some_iff.mp e2).1, fun y H3 hy => ?_⟩
    obtain ⟨e3, c', e4, e5⟩ := hy
    rw [e2] at e4
    cases e4
    rw [e3]
    exact ⟨Same.refl _, e5⟩
theorem itOf_fn {J : It} {n : Nat} {f : Nat → Int} (w : Walk J n (fun _ => True) (YFn fun i => .int (f i))) : ItOf ca F W H J ((List.range n).map fun i => .int (f i)) := fun Mu H2 x g => by
  refine ⟨fun i d hd => ?_, by rw [List.length_map, List.length_range]; exact w.stops H2 trivial⟩
  rw [List.getElem?_map] at hd
  cases e : (List.range n)[i]? with
  | none => rw [e] at hd; cases hd
  | some k =>
    rw [e] at hd
    cases hd
    obtain ⟨h1, h2⟩ := List.getElem?_eq_some_iff.mp e
    rw [List.getElem_range] at h2
    subst h2
    rw [List.length_range] at h1
    refine ⟨w.goes i H2 h1 trivial, fun y H3 hy => ?_⟩
    obtain ⟨e3, e4⟩ := w.yields i H2 y H3 h1 trivial hy
    rw [e3]
    exact ⟨Same.refl _, e4⟩
/-- pairs that are made new at each turn -/
theorem itOf_pair {J : It} {n : Nat} {G : Hp → Prop} {xs ys : Nat → Option V} {ds : List (D × D)} (w : Walk J n G (YPair xs ys)) (hn : ds.length = n) (hG : ∀ H2, Ext W H H2 → G H2)
    (hr : ∀ Mu H2, Ext W H H2 → Grow H (or2 F W) Mu → ∀ (i : Nat) (d : D × D), ds[i]? = some d → ∀ x y, xs i = some x → ys i = some y → Rep ca Mu H2 d.1 x ∧ Rep ca Mu H2 d.2 y) : ItOf ca F W H J (ds.map fun d => .tup [d.1, d.2]) := fun Mu H2 x g => by
  refine ⟨fun i d hd => ?_, by rw [List.length_map, hn]; exact w.stops H2 (hG H2 x)⟩
  rw [List.getElem?_map] at hd
  cases e : ds[i]? with
  | none => rw [e] at hd; cases hd
  | some d2 =>
    rw [e] at hd
    cases hd
    have hi : i < n := by rw [← hn]; exact (List.getElem?_eq_some_iff.mp e).1
    refine ⟨w.goes i H2 hi (hG H2 x), fun y H3 hy => ?_⟩
    obtain ⟨T, u, v, e1, e2, e3, e4, e5⟩ := w.yields i H2 y H3 hi (hG H2 x) hy
    obtain ⟨r1, r2⟩ := hr Mu H2 x g i d2 e u v e4 e5
    rw [e3, e1]
    exact ⟨same_upd e2, rep_newT (⟨u, [v], rfl, r1, ⟨v, [], rfl, r2, rfl⟩⟩ : Reps ca Mu H2 [d2.1, d2.2] [u, v]) e2⟩
end
section
variable {𝓕 : Fam} {ca : Option Addr} {pos : Pos} {tg : Expr}
theorem iv_seq {e : Expr} {f : M D} (h : Ev 𝓕 ca e f) : Iv 𝓕 ca tg e (srcM f) := by
  obtain ⟨t, a1, a2⟩ := h
  refine ⟨fun σ H R => iList 𝓕.K t σ H R ∨ iTup 𝓕.K t σ H R ∨ iStr t σ H R, fun j => ?_, fun F W H σ s R SR q => ?_⟩
  · have h1 := pi_list (tg := tg) (a1 j)
    have h2 := pi_tup (tg := tg) (a1 j)
    rw [𝓕.hK j] at h1 h2
    exact pi_or h1 (pi_or h2 (pi_str (a1 j)))
  · unfold srcM bindM at q
    cases e : f s with
    | exc x c =>
      rw [e] at q
      exact .inl (a2 F W H σ s _ SR (by rw [e]; exact q))
    | bad => rw [e] at q; exact q.elim
    | ok r =>
      rw [e] at q
      have q : wpr (lift (itemsD r.1) ⟨s.env, r.2⟩) _ _ := q
      obtain ⟨ds, e1, q⟩ := wpr_lift q
      obtain ⟨d, c⟩ := r
      cases d with
      | lst es =>
        cases e1
        refine .inl (a2 F W H σ s _ SR ?_)
        rw [e]
        intro v H1 x1 R1 p
        have p' := p
        obtain ⟨a, vs, e2, n, e3, r3⟩ := p'
        subst e2
        exact ⟨a, rfl, ⟨vs, SqL.of e3⟩, q _ H1 x1 R1 (itOf_list p R1.wl)⟩
      | tup es =>
        cases e1
        refine .inr (.inl (a2 F W H σ s _ SR ?_))
        rw [e]
        intro v H1 x1 R1 p
        have p' := p
        obtain ⟨a, vs, e2, e3, r3⟩ := p'
        subst e2
        exact ⟨a, rfl, ⟨vs, SqT.of e3⟩, q _ H1 x1 R1 (itOf_tup p R1.wl)⟩
      | str z =>
        cases e1
        refine .inr (.inr (a2 F W H σ s _ SR ?_))
        rw [e]
        intro v H1 x1 R1 p
        exact ⟨z, p, q _ H1 x1 R1 itOf_str⟩
      | _ => cases e1
/-- range of so many, of two ends, by a step -/
def rangeL (lo : Int) (n : Nat) (c : Int) : List D := (List.range n).map fun i => .int (lo + (i : Nat) * c)
def fits62 (i : Int) : Bool := decide (-(2 ^ 62) ≤ i) && decide (i < 2 ^ 62)
def range1 : List D → Option (List D)
  | [.int j] => if fits62 j = true then some ((List.range j.toNat).map fun i => .int (0 + (i : Nat))) else none
  | _ => none
def range2 : List D → Option (List D)
  | [.int i, .int j] => if (fits62 i && fits62 j) = true then some ((List.range (j - i).toNat).map fun k => .int (i + (k : Nat))) else none
  | _ => none
def srcA (g : List D → Option (List D)) (f : M (List D)) : M (List D) := bindM f fun ds => lift (g ds)
theorem fits62_ok {i : Int} (h : fits62 i = true) : -(2 ^ 62) ≤ i ∧ i < 2 ^ 62 := by
  unfold fits62 at h
  rw [Bool.and_eq_true, decide_eq_true_eq, decide_eq_true_eq] at h
  exact h
theorem iv_range1 {a : Expr} {f : M (List D)} {p : Pos} (ha : Av 𝓕 ca [a] f) (hm : 𝓕.mg "range" = none) (hg : ∀ j, Gl (𝓕.X j) "range" := by intro _; rfl) (hs : ∀ j, starEach [a] (𝓕.X j).env = [(false, eval a (𝓕.X j).env)] := by intro _; rfl) : Iv 𝓕 ca tg (.Call (.Name "range" p) [a] [] pos) (srcA range1 f) := by
  obtain ⟨t, a1, a2, _⟩ := ha
  refine ⟨_, fun j => pi_range1 (hg j) (by rw [𝓕.hmg j]; exact hm) (a1 j) (hs j), fun F W H σ s R SR q => ?_⟩
  unfold srcA bindM at q
  refine a2 F W H σ s _ SR (wpr_mono (wpr_bind.mp q) (fun r h vs H1 x1 R1 p => ?_) fun _ _ z => z)
  obtain ⟨es, e1, h2⟩ := wpr_lift h
  obtain ⟨ds, c⟩ := r
  dsimp only at e1 p h2
  unfold range1 at e1
  split at e1
  · rename_i j
    split at e1
    · rename_i hf
      cases e1
      obtain ⟨b1, b2⟩ := fits62_ok hf
      obtain ⟨v, r, e2, e3, e4⟩ := p
      subst e2
      have e3 : v = .int j := e3
      have e4 : r = [] := e4
      subst e3; subst e4
      exact ⟨j, rfl, b1, b2, h2 _ H1 x1 R1 (itOf_fn walk_range)⟩
    · cases e1
  · cases e1
theorem iv_range2 {a b : Expr} {f : M (List D)} {p : Pos} (ha : Av 𝓕 ca [a, b] f) (hm : 𝓕.mg "range" = none) (hg : ∀ j, Gl (𝓕.X j) "range" := by intro _; rfl) (hs : ∀ j, starEach [a, b] (𝓕.X j).env = [(false, eval a (𝓕.X j).env), (false, eval b (𝓕.X j).env)] := by intro _; rfl)
    (hs2 : ∀ j, starEach [b] (𝓕.X j).env = [(false, eval b (𝓕.X j).env)] := by intro _; rfl) : Iv 𝓕 ca tg (.Call (.Name "range" p) [a, b] [] pos) (srcA range2 f) := by
  obtain ⟨t, a1, a2, _⟩ := ha
  refine ⟨_, fun j => pi_range2 (hg j) (by rw [𝓕.hmg j]; exact hm) (a1 j) (hs j) (hs2 j), fun F W H σ s R SR q => ?_⟩
  unfold srcA bindM at q
  refine a2 F W H σ s _ SR (wpr_mono (wpr_bind.mp q) (fun r h vs H1 x1 R1 p => ?_) fun _ _ z => z)
  obtain ⟨es, e1, h2⟩ := wpr_lift h
  obtain ⟨ds, c⟩ := r
  dsimp only at e1 p h2
  unfold range2 at e1
  split at e1
  · rename_i i j
    split at e1
    · rename_i hf
      cases e1
      rw [Bool.and_eq_true] at hf
      obtain ⟨b1, b2⟩ := fits62_ok hf.1
      obtain ⟨b3, b4⟩ := fits62_ok hf.2
      obtain ⟨v, r, e2, e3, w, r', e4, e5, e6⟩ := p
      subst e2; subst e4
      have e3 : v = .int i := e3
      have e5 : w = .int j := e5
      have e6 : r' = [] := e6
      subst e3; subst e5; subst e6
      exact ⟨i, j, rfl, ⟨b1, b2, b3, b4⟩, h2 _ H1 x1 R1 (itOf_fn walk_range)⟩
    · cases e1
  · cases e1
def range3 : List D → Option (List D)
  | [.int i, .int j, .int c] => if (decide (c ≠ 0) && decide (c.natAbs < 1073741824) && Builtin.Range.small i j c) = true then some ((List.range (Builtin.Range.rangeSize i j c).toNat).map fun k => .int (i + (k : Nat) * c)) else none
  | _ => none
theorem iv_range3 {a b c : Expr} {f : M (List D)} {p : Pos} (ha : Av 𝓕 ca [a, b, c] f) (hm : 𝓕.mg "range" = none) (hz : ∀ i j k, 0 ≤ Builtin.Range.rangeSize i j k) (hg : ∀ j, Gl (𝓕.X j) "range" := by intro _; rfl)
    (hs : ∀ j, starEach [a, b, c] (𝓕.X j).env = (false, eval a (𝓕.X j).env) :: starEach [b, c] (𝓕.X j).env := by intro _; rfl) (hs2 : ∀ j, (backTo pos (starEach [b, c] (𝓕.X j).env)).any (·.1) = false := by intro _; rfl) : Iv 𝓕 ca tg (.Call (.Name "range" p) [a, b, c] [] pos) (srcA range3 f) := by
  obtain ⟨t, a1, a2, _⟩ := ha
  refine ⟨_, fun j => pi_range3 (hg j) (by rw [𝓕.hmg j]; exact hm) (a1 j) (hs j) (hs2 j), fun F W H σ s R SR q => ?_⟩
  unfold srcA bindM at q
  refine a2 F W H σ s _ SR (wpr_mono (wpr_bind.mp q) (fun r h vs H1 x1 R1 p => ?_) fun _ _ z => z)
  obtain ⟨es, e1, h2⟩ := wpr_lift h
  obtain ⟨ds, c'⟩ := r
  dsimp only at e1 p h2
  unfold range3 at e1
  split at e1
  · rename_i i j k
    split at e1
    · rename_i hf
      cases e1
      rw [Bool.and_eq_true, Bool.and_eq_true, decide_eq_true_eq, decide_eq_true_eq] at hf
      obtain ⟨v, r, e2, e3, w, r', e4, e5, u, r2, e7, e8, e6⟩ := p
      subst e2; subst e4; subst e7
      have e3 : v = .int i := e3
      have e5 : w = .int j := e5
      have e8 : u = .int k := e8
      have e6 : r2 = [] := e6
      subst e3; subst e5; subst e6; subst e8
      refine ⟨i, j, k, (Builtin.Range.rangeSize i j k).toNat, rfl, ⟨hf.1.1, hf.1.2, hf.2, ?_⟩, h2 _ H1 x1 R1 (itOf_fn walk_rangeC)⟩
      exact (Int.toNat_of_nonneg (hz i j k)).symm
    · cases e1
  · cases e1
/-- zip of two lists, of two tuples -/
def pairUp (xs ys : List D) : List D := (xs.zip ys).map fun d => .tup [d.1, d.2]
def zip2 : List D → Option (List D)
  | [.lst xs, .lst ys] => some (pairUp xs ys)
  | [.tup xs, .tup ys] => some (pairUp xs ys)
  | _ => none
theorem zip_get {xs ys : List D} {i : Nat} {d : D × D} (h : (xs.zip ys)[i]? = some d) : xs[i]? = some d.1 ∧ ys[i]? = some d.2 := by
  obtain ⟨h1, h2⟩ := List.getElem?_eq_some_iff.mp h
  rw [List.getElem_zip] at h2
  rw [List.length_zip] at h1
  subst h2
  exact ⟨List.getElem?_eq_getElem (by omega), List.getElem?_eq_getElem (by omega)⟩
theorem iv_zip {a b : Expr} {f : M (List D)} {p tpos : Pos} {elts : List Expr} {kk : Nat} (ha : Av 𝓕 ca [a, b] f) (hm : 𝓕.mg "zip" = none) (hg : ∀ j, Gl (𝓕.X j) "zip" := by intro _; rfl)
    (hs : ∀ j, starEach [a, b] (𝓕.X j).env = [(false, eval a (𝓕.X j).env), (false, eval b (𝓕.X j).env)] := by intro _; rfl) (hs2 : ∀ j, starEach [b] (𝓕.X j).env = [(false, eval b (𝓕.X j).env)] := by intro _; rfl) : Iv 𝓕 ca (.Tuple elts kk tpos) (.Call (.Name "zip" p) [a, b] [] pos) (srcA zip2 f) := by
  obtain ⟨t, a1, a2, _⟩ := ha
  refine ⟨RZ.iZipA 𝓕.K t, fun j => ?_, fun F W H σ s R SR q => ?_⟩
  · have h := RZ.pi_zipA (elts := elts) (kk := kk) (tpos := tpos) (p := p) (pos := pos) (hg j) (by rw [𝓕.hmg j]; exact hm) (a1 j) (by rw [hs j, hs2 j]) (by rw [hs2 j]; rfl)
    rw [𝓕.hK j] at h
    exact h
  unfold srcA bindM at q
  refine a2 F W H σ s _ SR (wpr_mono (wpr_bind.mp q) (fun r h vs H1 x1 R1 p => ?_) fun _ _ z => z)
  obtain ⟨es, e1, h2⟩ := wpr_lift h
  obtain ⟨ds, c⟩ := r
  dsimp only at e1 p h2
  unfold zip2 at e1
  split at e1
  · rename_i xs ys
    cases e1
    obtain ⟨v, r, e2, e3, w, r', e4, e5, e6⟩ := p
    subst e2; subst e4
    have e6 : r' = [] := e6
    subst e6
    obtain ⟨a, us, q1, q2, q3, q4⟩ := e3
    obtain ⟨b, ws, q5, q6, q7, q8⟩ := e5
    subst q1; subst q5
    refine ⟨a, b, us, ws, rfl, .inl ⟨SqL.of q3, SqL.of q7, h2 _ H1 x1 R1 ?_⟩⟩
    refine itOf_pair (ds := xs.zip ys) (walk_zip (xs := us) (ys := ws) rfl) (by rw [List.length_zip, q4.length, q8.length]) (fun H2 x => ⟨SqL.of (x _ _ q3 fun z => q2 (.inr z)), SqL.of (x _ _ q7 fun z => q6 (.inr z))⟩) fun Mu H2 x g i d hd y z hy hz => ?_
    obtain ⟨k1, k2⟩ := zip_get hd
    obtain ⟨v1, m1, m2⟩ := (Reps.ext x R1.wl (fun _ z => .inr z) g xs us q4).get k1
    obtain ⟨v2, m3, m4⟩ := (Reps.ext x R1.wl (fun _ z => .inr z) g ys ws q8).get k2
    rw [m1] at hy; rw [m3] at hz
    cases hy; cases hz
    exact ⟨m2, m4⟩
  · rename_i xs ys
    cases e1
    obtain ⟨v, r, e2, e3, w, r', e4, e5, e6⟩ := p
    subst e2; subst e4
    have e6 : r' = [] := e6
    subst e6
    obtain ⟨a, us, q1, q3, q4⟩ := e3
    obtain ⟨b, ws, q5, q7, q8⟩ := e5
    subst q1; subst q5
    refine ⟨a, b, us, ws, rfl, .inr ⟨SqT.of q3, SqT.of q7, h2 _ H1 x1 R1 ?_⟩⟩
    have wk : Walk (RZ.ItzT 𝓕.K a b) (min us.length ws.length) (fun H => SqT 𝓕.K H a us ∧ SqT 𝓕.K H b ws) (YPair (fun i => us[i]?) (fun i => ws[i]?)) := by
      refine ⟨fun i _ hi q => ?_, fun _ q => ⟨us, ws, q.1, q.2, by omega⟩, fun i H v H' _ q y => ?_⟩
      · have g1 : i < us.length := by omega
        have g2 : i < ws.length := by omega
        exact ⟨us, ws, us[i], ws[i], q.1, q.2, List.getElem?_eq_getElem g1, List.getElem?_eq_getElem g2⟩
      · obtain ⟨T, x, z, n1, n2, n3, n4, n5⟩ := y
        exact ⟨T, x, z, n1, n2, n3, n4 us q.1, n5 ws q.2⟩
    refine itOf_pair (ds := xs.zip ys) wk (by rw [List.length_zip, q4.length, q8.length]) (fun H2 x => ⟨SqT.of (x.rdT R1.wl q3), SqT.of (x.rdT R1.wl q7)⟩) fun Mu H2 x g i d hd y z hy hz => ?_
    obtain ⟨k1, k2⟩ := zip_get hd
    obtain ⟨v1, m1, m2⟩ := (Reps.ext x R1.wl (fun _ z => .inr z) g xs us q4).get k1
    obtain ⟨v2, m3, m4⟩ := (Reps.ext x R1.wl (fun _ z => .inr z) g ys ws q8).get k2
    rw [m1] at hy; rw [m3] at hz
    cases hy; cases hz
    exact ⟨m2, m4⟩
  · cases e1
end
end PL

namespace PL
open PySem PySem.Spec PyProof.Rows L2
/-! loops -/
def forL (tgt : D → S → Res S) (body : S → Res Fl) : List D → S → Res Fl
  | [], s => .ok (.nx s)
  | d :: ds, s => (tgt d s).bind fun s1 => (body s1).bind fun r => match r with
    | .nx s2 => forL tgt body ds s2
    | .ct s2 => forL tgt body ds s2
    | .bk s2 => .ok (.nx s2)
    | .rt d c => .ok (.rt d c)
def forS (src : M (List D)) (tgt : D → S → Res S) (body : S → Res Fl) : S → Res Fl := fun s => (src s).bind fun r => forL tgt body r.1 ⟨s.env, r.2⟩
def whileL (c : M Bool) (body : S → Res Fl) : Nat → S → Res Fl
  | 0, _ => .bad
  | n + 1, s => (c s).bind fun r => if r.1 = true then (body ⟨s.env, r.2⟩).bind fun r => (match r with
    | .nx s2 => whileL c body n s2
    | .ct s2 => whileL c body n s2
    | .bk s2 => .ok (.nx s2)
    | .rt d c => .ok (.rt d c)) else .ok (.nx ⟨s.env, r.2⟩)
theorem grow_of {F W W1 W' : Addr → Prop} {H H1 H' : Hp} (x : Step W H W1 H1) (y : Step W1 H1 W' H') : Grow H1 (or2 F W1) (or2 F W') := fun a z => by
  rcases z with z | z
  · exact .inl (.inl z)
  · rcases y.2 a z with q | q
    · exact .inl (.inr q)
    · exact .inr q
section
variable {𝓕 : Fam} {ca : Option Addr} {pos : Pos}
theorem sem_for {XA : Exn → Value → Option Addr → Hp → Prop} {E : XK} {T : List Nat} {wi : TI} {g : TG} {tb : TS} {src : M (List D)} {tgt : D → S → Res S} {body : S → Res Fl} (hi : SemI ca XA E wi src) (hg : SemG ca XA E T g tgt) (hb : SemS ca XA E tb body) :
    SemS ca XA E (tFor wi g tb) (forS src tgt body) := fun F W H σ s Dn R q => by
  unfold forS at q
  refine hi F W H σ s _ R (wpr_mono (wpr_bind.mp q) (fun r h J H1 x1 R1 it => ?_) fun _ _ z => z)
  obtain ⟨ds, c⟩ := r
  dsimp only at h R1 it
  refine ⟨fun i m σ' H' => m + i = ds.length ∧ ∃ W' s', Step W H1 W' H' ∧ SRep ca F W' H' σ' s' ∧ wpr (forL tgt body (ds.drop i) s') (PostS ca F W H Dn) (ExcP ca F W H XA E), ⟨ds.length, by omega, W, _, Step.refl, R1, by rw [List.drop_zero]; exact h⟩, ?_⟩
  rintro i m σ' H' ⟨hm, W', s', st, R', h'⟩
  have st0 : Step W H W' H' := (Step.ext x1).trans st
  have it' := it (or2 F W') H' st.1 (grow_of Step.refl st)
  cases e : ds.drop i with
  | nil =>
    have hl : i = ds.length := by
      have := List.drop_eq_nil_iff.mp e
      omega
    rw [e] at h'
    subst hl
    exact .inl ⟨it'.2, h' W' H' σ' st0 R'⟩
  | cons d rest =>
    have hd : ds[i]? = some d := by
      have : (ds.drop i)[0]? = some d := by rw [e]; rfl
      rw [List.getElem?_drop, Nat.add_zero] at this
      exact this
    have hr : ds.drop (i + 1) = rest := by
      have : (ds.drop i).drop 1 = rest := by rw [e]; rfl
      rw [List.drop_drop] at this
      exact this
    have hi : i < ds.length := (List.getElem?_eq_some_iff.mp hd).1
    rw [e] at h'
    obtain ⟨go, yl⟩ := it'.1 i d hd
    refine .inr ⟨go, fun σ2 H2 => ∃ W2 s2, Step W H1 W2 H2 ∧ SRep ca F W2 H2 σ2 s2 ∧ wpr (forL tgt body rest s2) (PostS ca F W H Dn) (ExcP ca F W H XA E), ?_, fun x H3 hy => ?_⟩
    · rintro σ2 H2 ⟨W2, s2, a, b, c⟩
      exact ⟨m - 1, by omega, by omega, W2, s2, a, b, by rw [hr]; exact c⟩
    · obtain ⟨sm, rp⟩ := yl x H3 hy
      have R3 := R'.same sm
      have h'' : wpr ((tgt d s').bind fun s1 => (body s1).bind fun r => match r with
        | .nx s2 => forL tgt body rest s2
        | .ct s2 => forL tgt body rest s2
        | .bk s2 => .ok (.nx s2)
        | .rt d c => .ok (.rt d c)) (PostS ca F W H Dn) (ExcP ca F W H XA E) := h'
      have s3 : Step W H W' H3 := st0.trans (Step.ext (Ext.same sm))
      refine hg F W' H3 σ' s' x d _ R3 rp (wpr_mono (wpr_bind.mp h'') (fun s4 h4 σ4 H4 x4 R4 _ _ => ?_) fun _ _ z => z.step s3)
      have s5 : Step W H W' H4 := s3.trans (Step.ext x4)
      have s6 : Step W H1 W' H4 := st.trans ((Step.ext (Ext.same sm)).trans (Step.ext x4))
      refine hb F W' H4 σ4 s4 _ R4 (wpr_mono (wpr_bind.mp h4) (fun r hr => ?_) fun _ _ z => z.step s5)
      cases r with
      | nx s2 => exact fun W2 H2 σ2 y R2 => ⟨W2, s2, s6.trans y, R2, hr⟩
      | ct s2 => exact fun W2 H2 σ2 y R2 => ⟨W2, s2, s6.trans y, R2, hr⟩
      | bk s2 => exact fun W2 H2 σ2 y R2 => hr W2 H2 σ2 (s5.trans y) R2
      | rt d c => exact fun W2 v H2 y rp cp => hr W2 v H2 (s5.trans y) rp cp
theorem sv_for {tg iter : Expr} {b : List Stmt} {T : List Nat} {src : M (List D)} {tgt : D → S → Res S} {body : S → Res Fl} (hi : Iv 𝓕 ca tg iter src) (hg : Gv 𝓕 ca tg T tgt) (hb : Bv 𝓕 ca b body) (hs : ∀ j x, foldedSetIterable iter (𝓕.X j).env x = pure x := by intro _ _; rfl) :
    Sv 𝓕 ca (.For tg iter b [] pos) (forS src tgt body) := by
  obtain ⟨wi, i1, i2⟩ := hi
  obtain ⟨g, g1, g2, _⟩ := hg
  obtain ⟨tb, b1, b2⟩ := hb
  exact ⟨_, fun j => ps_for (𝓕.own j) (𝓕.calm j) (i1 j) (g1 j) (b1 j) (hs j), sem_for i2 g2 b2⟩
theorem sem_while {XA : Exn → Value → Option Addr → Hp → Prop} {E : XK} {tc : TT} {tb : TS} {c : M Bool} {body : S → Res Fl} (hc : SemT ca XA E tc c) (hb : SemS ca XA E tb body) (n : Nat) : SemS ca XA E (tWhile tc tb) (whileL c body n) := fun F W H σ s Dn R q => by
  refine ⟨fun m σ' H' => ∃ W' s', Step W H W' H' ∧ SRep ca F W' H' σ' s' ∧ wpr (whileL c body m s') (PostS ca F W H Dn) (ExcP ca F W H XA E), ⟨n, W, s, Step.refl, R, q⟩, ?_⟩
  rintro m σ' H' ⟨W', s', st, R', h⟩
  cases m with
  | zero => exact h.elim
  | succ m =>
    have h : wpr ((c s').bind fun r => if r.1 = true then (body ⟨s'.env, r.2⟩).bind fun r => (match r with
      | .nx s2 => whileL c body m s2
      | .ct s2 => whileL c body m s2
      | .bk s2 => .ok (.nx s2)
      | .rt d c => .ok (.rt d c)) else .ok (.nx ⟨s'.env, r.2⟩)) (PostS ca F W H Dn) (ExcP ca F W H XA E) := h
    refine hc F W' H' σ' s' _ R' (wpr_mono (wpr_bind.mp h) (fun r h2 H2 x2 R2 => ?_) fun _ _ z => z.step st)
    obtain ⟨b, c2⟩ := r
    cases b with
    | true =>
      simp only [if_true] at h2 ⊢
      have s2 : Step W H W' H2 := st.trans (Step.ext x2)
      refine ⟨fun σ3 H3 => ∃ W3 s3, Step W H W3 H3 ∧ SRep ca F W3 H3 σ3 s3 ∧ wpr (whileL c body m s3) (PostS ca F W H Dn) (ExcP ca F W H XA E), fun σ3 H3 z => ⟨m, Nat.lt_succ_self m, z⟩, ?_⟩
      refine hb F W' H2 σ' ⟨s'.env, c2⟩ _ R2 (wpr_mono (wpr_bind.mp h2) (fun r hr => ?_) fun _ _ z => z.step s2)
      cases r with
      | nx s3 => exact fun W3 H3 σ3 y R3 => ⟨W3, s3, s2.trans y, R3, hr⟩
      | ct s3 => exact fun W3 H3 σ3 y R3 => ⟨W3, s3, s2.trans y, R3, hr⟩
      | bk s3 => exact fun W3 H3 σ3 y R3 => hr W3 H3 σ3 (s2.trans y) R3
      | rt d c => exact fun W3 v H3 y rp cp => hr W3 v H3 (s2.trans y) rp cp
    | false =>
      simp only [Bool.false_eq_true, if_false] at h2 ⊢
      exact h2 W' H2 σ' (st.trans (Step.ext x2)) R2
theorem sv_while {c : Expr} {b : List Stmt} {fc : M Bool} {body : S → Res Fl} (n : Nat) (hc : Tv 𝓕 ca c fc) (hb : Bv 𝓕 ca b body) : Sv 𝓕 ca (.While c b [] pos) (whileL fc body n) := by
  obtain ⟨tc, c1, c2⟩ := hc
  obtain ⟨tb, b1, b2⟩ := hb
  exact ⟨_, fun j => ps_while (𝓕.own j) (c1 j) (b1 j), sem_while c2 b2 n⟩
/-! comprehensions -/
/-- no error may leave here -/
def Res.nox {α : Type} : Res α → Res α
  | .ok a => .ok a
  | .exc _ _ => .bad
  | .bad => .bad
theorem nox_ok {α : Type} {r : Res α} {P : α → Prop} {N N' : Exn → List D → Prop} (h : wpr r.nox P N) : wpr r P N' := by
  cases r with
  | ok a => exact h
  | exc x c => exact h.elim
  | bad => exact h
def wipeE (env : List Slot) : List Nat → List Slot
  | [] => env
  | v :: vs => (wipeE env vs).set v .un
def noOwn (env : List Slot) (vs : List Nat) : Bool := vs.all fun i => match env[i]? with
  | some (.own _) => false
  | _ => true
def lcL (vs : List Nat) (tgt : D → S → Res S) (test : M Bool) (elt : M D) : List D → S → List D → Res (D × List D)
  | [], s, acc => .ok (.lst acc, s.cup)
  | d :: ds, s, acc => (tgt d ⟨wipeE s.env vs, s.cup⟩).nox.bind fun s1 => (test s1).nox.bind fun r => if r.1 = true then (elt ⟨s1.env, r.2⟩).nox.bind fun r2 => lcL vs tgt test elt ds ⟨s.env, r2.2⟩ (acc ++ [r2.1]) else lcL vs tgt test elt ds ⟨s.env, r.2⟩ acc
def lcM (vs : List Nat) (src : M (List D)) (tgt : D → S → Res S) (test : M Bool) (elt : M D) : M D := bindM src fun ds s => if noOwn s.env vs = true ∧ ds.length ≤ sizeLine then lcL vs tgt test elt ds s [] else .bad
theorem wipeE_length (env : List Slot) : ∀ vs : List Nat, (wipeE env vs).length = env.length
  | [] => rfl
  | v :: vs => by unfold wipeE; rw [List.length_set, wipeE_length env vs]
theorem wipeE_get {env : List Slot} {i : Nat} {x : Slot} (hx : x ≠ .un) : ∀ {vs : List Nat}, (wipeE env vs)[i]? = some x → env[i]? = some x ∧ i ∉ vs
  | [], h => ⟨h, by simp⟩
  | v :: vs, h => by
    unfold wipeE at h
    by_cases hv : v = i
    · subst hv
      have hl : v < (wipeE env vs).length := by
        have := (List.getElem?_eq_some_iff.mp h).1
        rw [List.length_set] at this
        exact this
      rw [List.getElem?_set_self hl] at h
      exact absurd (Option.some.inj h).symm hx
    · rw [List.getElem?_set_ne hv] at h
      obtain ⟨a, b⟩ := wipeE_get hx h
      exact ⟨a, fun z => (List.mem_cons.mp z).elim (fun q => hv q.symm) b⟩
theorem wipeE_out {env : List Slot} {i : Nat} : ∀ {vs : List Nat}, i ∉ vs → (wipeE env vs)[i]? = env[i]?
  | [], _ => rfl
  | v :: vs, h => by
    have h1 : v ≠ i := fun e => h (by rw [e]; exact List.mem_cons_self)
    unfold wipeE
    rw [List.getElem?_set_ne h1]
    exact wipeE_out fun z => h (List.mem_cons_of_mem _ z)
theorem SRep.wiped {F W : Addr → Prop} {H : Hp} {σ : St} {s : S} (R : SRep ca F W H σ s) (vs : List Nat) : SRep ca F W H (wipe σ vs) ⟨wipeE s.env vs, s.cup⟩ where
  len := by rw [wipe_length, R.len]; exact (wipeE_length s.env vs).symm
  slot := fun i d e => by
    obtain ⟨a, b⟩ := wipeE_get (by intro z; cases z) e
    obtain ⟨v, p, q⟩ := R.slot i d a
    exact ⟨v, by rw [wipe_out b]; exact p, q⟩
  own := fun i ds e => by
    obtain ⟨a, b⟩ := wipeE_get (by intro z; cases z) e
    obtain ⟨x, vs', p, q⟩ := R.own i ds a
    exact ⟨x, vs', by rw [wipe_out b]; exact p, q⟩
  inj := fun i j ds es a e1 e2 h1 h2 => by
    obtain ⟨a1, b1⟩ := wipeE_get (by intro z; cases z) e1
    obtain ⟨a2, b2⟩ := wipeE_get (by intro z; cases z) e2
    rw [wipe_out b1] at h1
    rw [wipe_out b2] at h2
    exact R.inj i j ds es a a1 a2 h1 h2
  cup := R.cup
  wl := R.wl
  fl := R.fl
/-- behind a turn the slots ahead of it stand again -/
theorem SRep.back {F W : Addr → Prop} {H H' : Hp} {σ σ1 : St} {s s1 : S} {c : List D} (R : SRep ca F W H σ s) (x : Ext W H H') (R1 : SRep ca F W H' σ1 ⟨s1.env, c⟩) (ho : ∀ (i : Nat) (ds : List D), s.env[i]? = some (.own ds) → s1.env[i]? = some (.own ds) ∧ σ1[i]? = σ[i]?) : SRep ca F W H' σ ⟨s.env, c⟩ where
  len := R.len
  slot := fun i d e => by
    obtain ⟨v, p, q⟩ := R.slot i d e
    exact ⟨v, p, R.rep x q⟩
  own := fun i ds e => by
    obtain ⟨a, b⟩ := ho i ds e
    obtain ⟨y, vs, p, q⟩ := R1.own i ds a
    exact ⟨y, vs, by rw [← b]; exact p, q⟩
  inj := R.inj
  cup := R1.cup
  wl := R1.wl
  fl := R1.fl
theorem SRep.moreF {F F' W : Addr → Prop} {H H' : Hp} {σ : St} {s : S} (R : SRep ca F W H σ s) (x : Same H H') (g : ∀ a, F' a → F a ∨ H a = none) (f : ∀ a, F' a → H' a ≠ none) : SRep ca F' W H' σ s := by
  have gw : Grow H (or2 F W) (or2 F' W) := fun a z => by
    rcases z with z | z
    · rcases g a z with q | q
      · exact .inl (.inl q)
      · exact .inr q
    · exact .inl (.inr z)
  have cv : ∀ {ds : List D} {vs : List V}, Reps ca (or2 F W) H ds vs → Reps ca (or2 F' W) H' ds vs := fun {ds vs} r => Reps.ext (W := fun _ => False) (Ext.same x) (fun _ z => z.elim) (fun _ z => z.elim) gw ds vs r
  refine ⟨R.len, fun i d e => ?_, fun i ds e => ?_, R.inj, fun a e => ?_, (R.same x).wl, f⟩
  · obtain ⟨v, p, q⟩ := R.slot i d e
    exact ⟨v, p, Rep.ext (W := fun _ => False) (Ext.same x) (fun _ z => z.elim) (fun _ z => z.elim) gw d v q⟩
  · obtain ⟨a, vs, h1, h2, h3, h4, h5⟩ := R.own i ds e
    exact ⟨a, vs, h1, h2, h3, x _ _ h4, cv h5⟩
  · obtain ⟨w, vs, h, r⟩ := R.cup a e
    exact ⟨w, vs, x _ _ h, cv r⟩
/-- a list of someone else's is written -/
theorem SRep.writeF {F W : Addr → Prop} {H : Hp} {σ : St} {s : S} {p : Addr} {xs ys : List V} (R : SRep ca F W H σ s) (hp : F p) (nw : ¬ W p) (h : H p = some (.lst xs)) : SRep ca F W (upd H p (.lst ys)) σ s := by
  have x : Ext (fun a => a = p) H (upd H p (.lst ys)) := fun a o e n => by rw [upd_ne n]; exact e
  have l : Lsts (fun a => a = p) H := fun a e => ⟨xs, by rw [e]; exact h⟩
  have cv : ∀ {ds : List D} {vs : List V}, Reps ca (or2 F W) H ds vs → Reps ca (or2 F W) (upd H p (.lst ys)) ds vs := fun {ds vs} r => Reps.ext x l (fun a z => by rw [show a = p from z]; exact .inl hp) Grow.refl ds vs r
  have ne : ∀ a, W a → a ≠ p := fun a w e => nw (by rw [← e]; exact w)
  refine ⟨R.len, fun i d e => ?_, fun i ds e => ?_, R.inj, fun a e => ?_, fun a w => ?_, fun a f => ?_⟩
  · obtain ⟨v, q, r⟩ := R.slot i d e
    exact ⟨v, q, Rep.ext x l (fun a z => by rw [show a = p from z]; exact .inl hp) Grow.refl d v r⟩
  · obtain ⟨a, vs, h1, h2, h3, h4, h5⟩ := R.own i ds e
    exact ⟨a, vs, h1, h2, h3, by rw [upd_ne (ne a h2)]; exact h4, cv h5⟩
  · obtain ⟨w, vs, q, r⟩ := R.cup a e
    exact ⟨w, vs, by rw [upd_ne (ne a w)]; exact q, cv r⟩
  · obtain ⟨zs, q⟩ := R.wl a w
    exact ⟨zs, by rw [upd_ne (ne a w)]; exact q⟩
  · by_cases e : a = p
    · rw [e, upd_same]; exact fun z => by cases z
    · rw [upd_ne e]; exact R.fl a f
end
end PL

namespace PL
open PySem PySem.Spec PyProof.Rows L2
/-- a comprehension's block, in all contexts of a family -/
def Fam.blk (𝓕 : Fam) (scope : Scope) : Fam where
  J := 𝓕.J × Shared × Hp × Addr × List (Str × Addr) × List Addr
  X := fun j => (𝓕.X j.1).blk j.2.1 j.2.2.1 scope (compEnvC scope j.2.2.2.2.1 j.2.2.2.1 (𝓕.X j.1).env) j.2.2.2.2.2
  P := 𝓕.P
  w := 𝓕.w
  K := 𝓕.K
  mg := 𝓕.mg
  base := 𝓕.base
  CX := 𝓕.CX
  N := 𝓕.N
  E := E0
  XA := 𝓕.XA
  k := 𝓕.k
  hP := fun j => 𝓕.hP j.1
  hw := fun j => 𝓕.hw j.1
  hK := fun j => 𝓕.hK j.1
  hmg := fun j => 𝓕.hmg j.1
  hB := fun j => 𝓕.hB j.1
  hN := fun j => 𝓕.hN j.1
  nd := 𝓕.nd
  calm := fun j => 𝓕.calm j.1
  room := fun j => 𝓕.room j.1
  pass := fun j pins σ H s e s' I h => 𝓕.nox _ _ _ _ _ h
  own := fun j => PassesOwn.never
  nox := 𝓕.nox
theorem nox_get {α : Type} {r : Res α} {a : α} (h : r.nox = .ok a) : r = .ok a := by
  cases r with
  | ok b => exact h
  | exc x c => cases h
  | bad => cases h
def Tsv (𝓕 : Fam) (ca : Option Addr) (es : List Expr) (f : M Bool) : Prop := ∃ t : TT, (∀ j, PTs (𝓕.X j) es t) ∧ SemT ca 𝓕.XA 𝓕.E t f
section
variable {𝓕 : Fam} {ca : Option Addr} {pos : Pos}
theorem tsv_nil : Tsv 𝓕 ca [] (ret true) := ⟨_, fun _ => pts_nil, fun F W H σ s Q R q => q H (Ext.refl _ _) R⟩
theorem tsv_one {c : Expr} {f : M Bool} (h : Tv 𝓕 ca c f) : Tsv 𝓕 ca [c] f := by
  obtain ⟨t, a1, a2⟩ := h
  exact ⟨t, fun j => pts_one (a1 j), a2⟩
theorem sem_lc {XA : Exn → Value → Option Addr → Hp → Prop} {E : XK} {T vs : List Nat} {wi : TI} {g : TG} {tt : TT} {te : TE} {src : M (List D)} {tgt : D → S → Res S} {test : M Bool} {elt : M D}
    (hi : SemI ca XA E wi src) (hg : SemG ca XA E0 T g tgt) (ht : SemT ca XA E0 tt test) (he : SemE ca XA E0 te elt) (kp : Kp T tgt) (hT : ∀ i ∈ T, i ∈ vs) : SemE ca XA E (tLc wi g tt te vs) (lcM vs src tgt test elt) := fun F W H σ s Q R q => by
  unfold lcM bindM at q
  refine hi F W H σ s _ R (wpr_mono (wpr_bind.mp q) (fun r h J H1 x1 R1 it => ?_) fun _ _ z => z)
  obtain ⟨ds, c0⟩ := r
  dsimp only at h R1 it
  by_cases hc : noOwn s.env vs = true ∧ ds.length ≤ sizeLine
  · rw [if_pos hc] at h
    obtain ⟨hno, hsz⟩ := hc
    intro p hp
    -- the new list's address is someone else's while the block runs
    have nWp : ¬ W p := fun w => by
      obtain ⟨xs, e⟩ := R1.wl p w
      rw [hp] at e; cases e
    have R2 : SRep ca (fun a => F a ∨ a = p) W (upd H1 p (.lst [])) σ ⟨s.env, c0⟩ := R1.moreF (same_upd hp) (fun a z => by
      rcases z with z | z
      · exact .inl z
      · exact .inr (by rw [z]; exact hp)) fun a z => by
      by_cases e : a = p
      · rw [e, upd_same]; exact fun z => by cases z
      · rw [upd_ne e]
        rcases z with z | z
        · exact R1.fl a z
        · exact absurd z e
    refine ⟨fun i m H' => m + i = ds.length ∧ ∃ c acc vacc, H' p = some (.lst vacc) ∧ Reps ca (or2 (fun a => F a ∨ a = p) W) H' acc vacc ∧ acc.length ≤ i ∧ Ext W H1 H' ∧ SRep ca (fun a => F a ∨ a = p) W H' σ ⟨s.env, c⟩ ∧ wpr (lcL vs tgt test elt (ds.drop i) ⟨s.env, c⟩ acc) (PostE ca F W H σ s.env Q) (ExcP ca F W H XA E),
      ⟨ds.length, by omega, c0, [], [], upd_same, rfl, Nat.le_refl _, Ext.upd hp, R2, by rw [List.drop_zero]; exact h⟩, ?_⟩
    rintro i m H' ⟨hm, c, acc, vacc, hv, hr, hl, xx, R3, hw⟩
    have gw : Grow H1 (or2 F W) (or2 (fun a => F a ∨ a = p) W) := fun a z => by
      rcases z with (z | z) | z
      · exact .inl (.inl z)
      · exact .inr (by rw [z]; exact hp)
      · exact .inl (.inr z)
    have it' := it (or2 (fun a => F a ∨ a = p) W) H' xx gw
    cases e : ds.drop i with
    | nil =>
      have hle : i = ds.length := by
        have := List.drop_eq_nil_iff.mp e
        omega
      rw [e] at hw
      subst hle
      refine .inl ⟨it'.2, ?_⟩
      refine hw (.ref p) H' (x1.trans xx) ?_ ?_
      · exact R3.moreF (Same.refl _) (fun a z => .inl (.inl z)) fun a z => R3.fl a (.inl z)
      · refine ⟨p, vacc, rfl, fun z => ?_, hv, hr.mu fun a z => ?_⟩
        · rcases z with z | z
          · exact R1.fl p z hp
          · exact nWp z
        · rcases z with z | z
          · exact .inl (.inl z)
          · exact .inr z
    | cons d rest =>
      have hd : ds[i]? = some d := by
        have : (ds.drop i)[0]? = some d := by rw [e]; rfl
        rw [List.getElem?_drop, Nat.add_zero] at this
        exact this
      have hrest : ds.drop (i + 1) = rest := by
        have : (ds.drop i).drop 1 = rest := by rw [e]; rfl
        rw [List.drop_drop] at this
        exact this
      have hi : i < ds.length := (List.getElem?_eq_some_iff.mp hd).1
      rw [e] at hw
      obtain ⟨go, yl⟩ := it'.1 i d hd
      refine .inr ⟨go, fun H2 => ∃ c acc vacc, H2 p = some (.lst vacc) ∧ Reps ca (or2 (fun a => F a ∨ a = p) W) H2 acc vacc ∧ acc.length ≤ i + 1 ∧ Ext W H1 H2 ∧ SRep ca (fun a => F a ∨ a = p) W H2 σ ⟨s.env, c⟩ ∧ wpr (lcL vs tgt test elt rest ⟨s.env, c⟩ acc) (PostE ca F W H σ s.env Q) (ExcP ca F W H XA E), ?_, fun x H3 hy => ?_⟩
      · rintro H2 ⟨c, acc, vacc, z⟩
        refine ⟨m - 1, by omega, by omega, c, acc, vacc, ?_⟩
        rw [hrest]; exact z
      · obtain ⟨sm, rp⟩ := yl x H3 hy
        have R4 := R3.same sm
        have hw' : wpr ((tgt d ⟨wipeE s.env vs, c⟩).nox.bind fun s1 => (test s1).nox.bind fun r => if r.1 = true then (elt ⟨s1.env, r.2⟩).nox.bind fun r2 => lcL vs tgt test elt rest ⟨s.env, r2.2⟩ (acc ++ [r2.1]) else lcL vs tgt test elt rest ⟨s.env, r.2⟩ acc) (PostE ca F W H σ s.env Q) (ExcP ca F W H XA E) := hw
        refine hg (fun a => F a ∨ a = p) W H3 (wipe σ vs) _ x d _ (R4.wiped vs) rp (nox_ok (wpr_mono (wpr_and (wpr_bind.mp hw') fun s4 e4 => nox_get e4) (fun s4 ⟨h4, e4⟩ σ4 H4 x4 R5 l5 k5 => ?_) fun _ _ z => z))
        have ke := kp d _ s4 e4
        have wp : wipe σ4 vs = wipe σ vs := by
          refine List.ext_getElem? fun i => ?_
          by_cases hi : i ∈ vs
          · have both : ∀ (τ : St), i < τ.length → (wipe τ vs)[i]? = some none := fun τ hτ => by
              cases e : (wipe τ vs)[i]? with
              | none =>
                have := List.getElem?_eq_none_iff.mp e
                rw [wipe_length] at this
                omega
              | some o =>
                cases o with
                | none => rfl
                | some y => exact absurd hi (wipe_some e).2
            have l6 : σ4.length = σ.length := by rw [l5, wipe_length]
            by_cases hlen : i < σ.length
            · rw [both σ hlen, both σ4 (by rw [l6]; exact hlen)]
            · rw [List.getElem?_eq_none_iff.mpr (by rw [wipe_length, l6]; omega), List.getElem?_eq_none_iff.mpr (by rw [wipe_length]; omega)]
          · rw [wipe_out hi, wipe_out hi, k5 i fun z => hi (hT i z), wipe_out hi]
        refine ⟨wp, ?_⟩
        -- what stands behind the turn
        have bk : ∀ {H5 : Hp} {c5 : List D}, Ext W H4 H5 → SRep ca (fun a => F a ∨ a = p) W H5 σ4 ⟨s4.env, c5⟩ → SRep ca (fun a => F a ∨ a = p) W H5 σ ⟨s.env, c5⟩ := fun {H5 c5} x5 R6 => by
          refine SRep.back (s := ⟨s.env, c⟩) (σ1 := σ4) (s1 := s4) R4 (x4.trans x5) R6 fun i es ei => ?_
          have hi : i ∉ vs := fun z => by
            have := List.all_eq_true.mp hno i z
            rw [show s.env[i]? = some (.own es) from ei] at this
            cases this
          have q1 : σ4[i]? = σ[i]? := by rw [k5 i fun z => hi (hT i z), wipe_out hi]
          refine ⟨?_, q1⟩
          rw [ke i fun z => hi (hT i z)]
          exact (wipeE_out hi).trans ei
        refine ht (fun a => F a ∨ a = p) W H4 σ4 s4 _ R5 (nox_ok (wpr_mono (wpr_bind.mp h4) (fun r5 h5 H5 x5 R6 => ?_) fun _ _ z => z))
        have vp : ∀ {H6 : Hp}, Ext W H' H6 → H6 p = some (.lst vacc) := fun {H6} y => y p _ hv nWp
        have vr : ∀ {H6 : Hp}, Ext W H' H6 → Reps ca (or2 (fun a => F a ∨ a = p) W) H6 acc vacc := fun {H6} y => R3.reps y hr
        have y5 : Ext W H' H5 := ((Ext.same sm).trans x4).trans x5
        obtain ⟨b, c5⟩ := r5
        cases b with
        | true =>
          simp only [if_true] at h5 ⊢
          refine he (fun a => F a ∨ a = p) W H5 σ4 ⟨s4.env, c5⟩ _ R6 (nox_ok (wpr_mono (wpr_bind.mp h5) (fun r6 h6 v6 H6 x6 R7 p6 => ?_) fun _ _ z => z))
          have y6 := y5.trans x6
          refine ⟨vacc, vp y6, ?_, ?_⟩
          · rw [hr.length]; omega
          · have R8 := bk (x5.trans x6) R7
            have wr := R8.writeF (ys := vacc ++ [v6]) (.inr rfl) nWp (vp y6)
            have cvt : ∀ {es : List D} {us : List V}, Reps ca (or2 (fun a => F a ∨ a = p) W) H6 es us → Reps ca (or2 (fun a => F a ∨ a = p) W) (upd H6 p (.lst (vacc ++ [v6]))) es us := fun {es us} z =>
              Reps.ext (W := fun a => a = p) (fun a o e n => by rw [upd_ne n]; exact e) (fun a e => ⟨vacc, by rw [show a = p from e]; exact vp y6⟩) (fun a z => by rw [show a = p from z]; exact .inl (.inr rfl)) Grow.refl es us z
            refine ⟨r6.2, acc ++ [r6.1], vacc ++ [v6], upd_same, cvt ((vr y6).append ⟨v6, [], rfl, p6, rfl⟩), by rw [List.length_append]; show _ + 1 ≤ _; omega, fun a o e n => ?_, wr, h6⟩
            by_cases ea : a = p
            · rw [ea, hp] at e; cases e
            · rw [upd_ne ea]
              exact (xx.trans y6) a o e n
        | false =>
          simp only [Bool.false_eq_true, if_false] at h5 ⊢
          exact ⟨c5, acc, vacc, vp y5, vr y5, by omega, xx.trans y5, bk x5 R6, h5⟩
  · rw [if_neg hc] at h
    exact h.elim
theorem ev_lc {elt iter tg : Expr} {ifs : List Expr} {scope : Scope} (own : List (Str × Nat)) (sc : Scope) (N : List Str) {T : List Nat} {src : M (List D)} {tgt : D → S → Res S} {test : M Bool} {fe : M D}
    (hi : Iv 𝓕 ca tg iter src) (hg : Gv (𝓕.blk scope) ca tg T tgt) (ht : Tsv (𝓕.blk scope) ca ifs test) (he : Ev (𝓕.blk scope) ca elt fe)
    (ok : blkC N sc scope own = true := by decide +kernel) (hsc : ∀ j, (𝓕.X j).env.scope = sc := by intro _; rfl) (hN : 𝓕.N = N := by rfl) (hT : ∀ i ∈ T, i ∈ own.map (·.2) := by decide) (hs : ∀ j x, foldedSetIterable iter (𝓕.X j).env x = pure x := by intro _ _; rfl) :
    Ev 𝓕 ca (.ListComp elt [⟨tg, iter, ifs, 0⟩] scope pos) (lcM (own.map (·.2)) src tgt test fe) := by
  obtain ⟨wi, i1, i2⟩ := hi
  obtain ⟨g, g1, g2, g3⟩ := hg
  obtain ⟨tt, t1, t2⟩ := ht
  obtain ⟨te, e1, e2⟩ := he
  refine ⟨tLc wi g tt te (own.map (·.2)), fun j => ?_, sem_lc i2 g2 t2 e2 g3 hT⟩
  exact pe_lc (𝓕.calm j) (by rw [𝓕.hN j]; exact 𝓕.nd) (i1 j) (by rw [hsc j, 𝓕.hN j, hN]; exact blkOk_by ok) (fun s H C cl fp => g1 ⟨j, s, H, C, cl, fp⟩) (fun s H C cl fp => t1 ⟨j, s, H, C, cl, fp⟩) (fun s H C cl fp => e1 ⟨j, s, H, C, cl, fp⟩) (hs j)
theorem sv_setLc {i : Nat} {y : Str} {py spos : Pos} {elt iter tg : Expr} {ifs : List Expr} {scope : Scope} (own : List (Str × Nat)) (sc : Scope) (N : List Str) {T : List Nat} {src : M (List D)} {tgt : D → S → Res S} {test : M Bool} {fe : M D}
    (hi : Iv 𝓕 ca tg iter src) (hg : Gv (𝓕.blk scope) ca tg T tgt) (ht : Tsv (𝓕.blk scope) ca ifs test) (he : Ev (𝓕.blk scope) ca elt fe)
    (hy : 𝓕.N[i]? = some y := by rfl) (hyl : ∀ j, (𝓕.X j).env.scope.names.lookup y = some .local := by intro _; rfl) (hsw : ∀ j, swapsWith (.ListComp elt [⟨tg, iter, ifs, 0⟩] scope pos) (some (.Name y py)) spos.line (𝓕.X j).env = pure true := by intro _; exact sw_true rfl rfl rfl (by decide +kernel))
    (ok : blkC N sc scope own = true := by decide +kernel) (hsc : ∀ j, (𝓕.X j).env.scope = sc := by intro _; rfl) (hN : 𝓕.N = N := by rfl) (hT : ∀ i ∈ T, i ∈ own.map (·.2) := by decide) (hs : ∀ j x, foldedSetIterable iter (𝓕.X j).env x = pure x := by intro _ _; rfl) :
    Sv 𝓕 ca (.Assign [.Name y py] (.ListComp elt [⟨tg, iter, ifs, 0⟩] scope pos) spos) (asgS (lcM (own.map (·.2)) src tgt test fe) (setv i)) := by
  obtain ⟨wi, i1, i2⟩ := hi
  obtain ⟨g, g1, g2, g3⟩ := hg
  obtain ⟨tt, t1, t2⟩ := ht
  obtain ⟨te, e1, e2⟩ := he
  refine ⟨tAsg (tLc wi g tt te (own.map (·.2))) (gName i), fun j => ?_, sem_asg (T := [i]) (sem_lc i2 g2 t2 e2 g3 hT) fun F W H σ s v d Q R p q => ?_⟩
  · exact ps_setLc (𝓕.calm j) (by rw [𝓕.hN j]; exact 𝓕.nd) (by rw [𝓕.hN j]; exact hy) (hyl j) (hsw j) (i1 j) (by rw [hsc j, 𝓕.hN j, hN]; exact blkOk_by ok) (fun s H C cl fp => g1 ⟨j, s, H, C, cl, fp⟩) (fun s H C cl fp => t1 ⟨j, s, H, C, cl, fp⟩) (fun s H C cl fp => e1 ⟨j, s, H, C, cl, fp⟩) (hs j)
  · exact setv_ok q (σ.set i (some v)) H (Ext.refl _ _) (R.set p) (by rw [List.length_set]) fun j hj => by
      rw [List.getElem?_set_ne]
      intro e
      exact hj (by simp [e])
/-! the cup -/
def ixc (fi : M D) : M D := bindM fi fun i s => match i with
  | .int k => lift (atI s.cup k) s
  | _ => .bad
theorem ixN_len {α β : Type} {xs : List α} {ys : List β} (h : xs.length = ys.length) (k : Int) : ixN xs.length k = ixN ys.length k := by rw [h]
theorem Reps.atI {Mu : Addr → Prop} {H : Hp} {ds : List D} {vs : List V} {k : Int} {d : D} (h : Reps ca Mu H ds vs) (q : L2.atI ds k = some d) : ∃ v, L2.atI vs k = some v ∧ Rep ca Mu H d v := by
  unfold L2.atI at q ⊢
  rw [h.length]
  cases e : ixN ds.length k with
  | none => rw [e] at q; cases q
  | some j =>
    rw [e] at q
    exact h.get (show ds[j]? = some d from q)
def isCup (i : Nat) (s : S) : Bool := match s.env[i]? with
  | some (.val .cup) => true
  | _ => false
/-- cup[k], the cup at slot i -/
def ixcM (i : Nat) (fi : M D) : M D := fun s => if isCup i s = true then ixc fi s else .bad
theorem ev_ixc (i : Nat) {x : Str} {b : Expr} {fb : M D} {p : Pos} (hb : Ev 𝓕 ca b fb) (hi : 𝓕.N[i]? = some x := by rfl) (hv : ∀ j, Vis (𝓕.X j).env.scope x := by intro _; first | exact Or.inl rfl | exact Or.inr (Or.inl rfl) | exact Or.inr (Or.inr rfl)) (hs : PlainIx b := by intro _ _; rfl)
    (hd : (x == ("__debug__" : Str)) = false := by decide) (hcd : (x == ("__classdict__" : Str)) = false := by decide) : Ev 𝓕 ca (.Subscript (.Name x p) b pos) (ixcM i fb) := by
  obtain ⟨tb, b1, b2⟩ := hb
  refine ⟨tOp (rIxL 𝓕.K) (tVar i) tb, fun j => ?_, fun F W H σ s Q R q => ?_⟩
  · have h := pe_ix (pos := pos) (ix_list (X := 𝓕.X j)) (pe_var (pos := p) (by rw [𝓕.hN j]; exact hi) (hv j) hd hcd) (b1 j) hs
    rw [𝓕.hK j] at h
    exact h
  · unfold ixcM at q
    by_cases hc : isCup i s = true
    · rw [if_pos hc] at q
      have e : s.env[i]? = some (.val .cup) := by
        unfold isCup at hc
        split at hc
        · assumption
        · cases hc
      obtain ⟨v, h1, h2⟩ := R.slot i _ e
      obtain ⟨a, e1, e2⟩ := h2
      subst e1
      refine ⟨.ref a, h1, ?_⟩
      unfold ixc bindM at q
      refine b2 F W H σ s _ R (wpr_mono (wpr_bind.mp q) (fun r h v1 H1 x1 R1 p1 => ?_) fun _ _ z => z)
      obtain ⟨d, c⟩ := r
      cases d with
      | int k =>
        obtain ⟨d2, e3, h3⟩ := wpr_lift (s := ⟨s.env, c⟩) (show wpr (lift (atI c k) ⟨s.env, c⟩) _ _ from h)
        obtain ⟨w, vs, e4, r4⟩ := R1.cup a e2
        obtain ⟨v2, e5, r5⟩ := r4.atI e3
        exact ⟨a, vs, k, v2, rfl, p1, SqL.of e4, e5, h3 v2 H1 x1 R1 r5⟩
      | _ => exact h.elim
    · rw [if_neg hc] at q
      exact q.elim
theorem Reps.setI {Mu : Addr → Prop} {H : Hp} {ds : List D} {vs : List V} {d : D} {v : V} (i : Nat) (h : Reps ca Mu H ds vs) (q : Rep ca Mu H d v) : Reps ca Mu H (ds.set i d) (vs.set i v) := Reps.set i h q
/-- cup[k] = e -/
def setcS (i : Nat) (fe fi : M D) : S → Res Fl := fun s => if isCup i s = true then (fe s).bind fun r => (fi ⟨s.env, r.2⟩).bind fun q => match q.1 with
  | .int k => (match ixN q.2.length k with
    | some j => .ok (.nx ⟨s.env, q.2.set j r.1⟩)
    | none => .bad)
  | _ => .bad else .bad
end
/-- what is written is the cup's own list -/
theorem SRep.cupSet {ca : Option Addr} {F W : Addr → Prop} {H : Hp} {σ : St} {s : S} {a : Addr} {ds : List D} {vs : List V} (R : SRep ca F W H σ s) (hc : ca = some a) (r : Reps ca (or2 F W) H ds vs) : SRep ca F W (upd H a (.lst vs)) σ ⟨s.env, ds⟩ ∧ Ext W H (upd H a (.lst vs)) := by
  obtain ⟨w, us, e, _⟩ := R.cup a hc
  have x : Ext W H (upd H a (.lst vs)) := fun b o q n => by
    rw [upd_ne]
    · exact q
    · intro z; exact n (by rw [z]; exact w)
  refine ⟨⟨R.len, fun i d e => ?_, fun i es q => ?_, R.inj, fun b q => ?_, fun b q => ?_, fun b f => ?_⟩, x⟩
  · obtain ⟨v, p, q⟩ := R.slot i d e
    exact ⟨v, p, R.rep x q⟩
  · obtain ⟨b, ws, h1, h2, h3, h4, h5⟩ := R.own i es q
    have ne : b ≠ a := fun z => h3 (by rw [z]; exact hc)
    exact ⟨b, ws, h1, h2, h3, by rw [upd_ne ne]; exact h4, R.reps x h5⟩
  · rw [hc] at q
    cases q
    exact ⟨w, vs, upd_same, R.reps x r⟩
  · by_cases z : b = a
    · exact ⟨vs, by rw [z, upd_same]⟩
    · obtain ⟨xs, h⟩ := R.wl b q
      exact ⟨xs, by rw [upd_ne z]; exact h⟩
  · by_cases z : b = a
    · rw [z, upd_same]; exact fun y => by cases y
    · rw [upd_ne z]; exact R.fl b f
section
variable {𝓕 : Fam} {ca : Option Addr} {pos : Pos}
theorem sv_setc (i : Nat) {x : Str} {b e : Expr} {fb fe : M D} {p p2 : Pos} (he : Ev 𝓕 ca e fe) (hb : Ev 𝓕 ca b fb) (hi : 𝓕.N[i]? = some x := by rfl) (hv : ∀ j, Vis (𝓕.X j).env.scope x := by intro _; first | exact Or.inl rfl | exact Or.inr (Or.inl rfl) | exact Or.inr (Or.inr rfl))
    (hd : (x == ("__debug__" : Str)) = false := by decide) (hcd : (x == ("__classdict__" : Str)) = false := by decide)
    (hs : ∀ j, swapsWithSole [.Subscript (.Name x p) b p2] e pos.line (𝓕.X j).env = pure false := by intro _; rfl) (hw : ∀ j, swappedStores [.Subscript (.Name x p) b p2] e (𝓕.X j).env = pure none := by intro _; rfl)
    (h1 : ∀ j, (assignEach [.Subscript (.Name x p) b p2] (𝓕.X j).env).map (·.2) = [assign (.Subscript (.Name x p) b p2) (𝓕.X j).env] := by intro _; rfl)
    (ha : ∀ j v, assign (.Subscript (.Name x p) b p2) (𝓕.X j).env v = (do
      let ov ← holding [v] (eval (.Name x p) (𝓕.X j).env)
      let iv ← holding [v, ov] (eval b (𝓕.X j).env)
      standAt p2
      holding [v, ov, iv] (setItem ov iv v)
      release [v, ov, iv] []) := by intro _ _; rfl) : Sv 𝓕 ca (.Assign [.Subscript (.Name x p) b p2] e pos) (setcS i fe fb) := by
  obtain ⟨te, e1, e2⟩ := he
  obtain ⟨tb, b1, b2⟩ := hb
  refine ⟨tAsg te (gSub (tVar i) tb rSetL), fun j => ps_asg (e1 j) (pg_sub (pe_var (pos := p) (by rw [𝓕.hN j]; exact hi) (hv j) hd hcd) (b1 j) set_list (ha j)) (hs j) (hw j) (h1 j), fun F W H σ s Dn R q => ?_⟩
  unfold setcS at q
  by_cases hc : isCup i s = true
  · rw [if_pos hc] at q
    have e : s.env[i]? = some (.val .cup) := by
      unfold isCup at hc
      split at hc
      · assumption
      · cases hc
    refine e2 F W H σ s _ R (wpr_mono (wpr_bind.mp q) (fun r h v H1 x1 R1 p1 => ?_) fun _ _ z => z)
    obtain ⟨v0, g1, g2⟩ := R1.slot i _ e
    obtain ⟨a, e3, e4⟩ := g2
    subst e3
    refine ⟨.ref a, g1, ?_⟩
    refine b2 F W H1 σ ⟨s.env, r.2⟩ _ R1 (wpr_mono (wpr_bind.mp h) (fun r2 h2 v2 H2 x2 R2 p2 => ?_) fun _ _ z => z.ext x1)
    obtain ⟨d2, c2⟩ := r2
    cases d2 with
    | int k =>
      dsimp only at h2 R2
      cases ek : ixN c2.length k with
      | none => rw [ek] at h2; exact h2.elim
      | some m =>
        rw [ek] at h2
        obtain ⟨w, vs, e5, r5⟩ := R2.cup a e4
        have r6 := r5.set m (R1.rep x2 p1)
        obtain ⟨R3, x3⟩ := R2.cupSet e4 r6
        refine ⟨a, vs, k, m, rfl, p2, e5, by rw [r5.length]; exact ek, ?_⟩
        exact h2 W _ σ (.ext ((x1.trans x2).trans x3)) R3
    | _ => exact h2.elim
  · rw [if_neg hc] at q
    exact q.elim
/-! subscripts -/
def ixD : D → D → Option D
  | .lst ds, .int i => atI ds i
  | .tup ds, .int i => atI ds i
  | .str z, .int i => if z.length ≤ sizeLine then (atI z.cps.toList i).map fun c => .str ⟨#[c]⟩ else none
  | _, _ => none
theorem ix_g (K : PySem.W.Frag) : OpG ca (rIx K) ixD := fun Mu H dx dy vx vy d Q dm rx ry e k => by
  unfold ixD at e
  split at e
  · obtain ⟨a, vs, e1, _, e2, e3⟩ := rx
    obtain ⟨v, h1, h2⟩ := e3.atI e
    exact .inl ⟨a, vs, _, v, e1, ry, SqL.of e2, h1, k v H (Same.refl _) h2⟩
  · obtain ⟨a, vs, e1, e2, e3⟩ := rx
    obtain ⟨v, h1, h2⟩ := e3.atI e
    exact .inr (.inl ⟨a, vs, _, v, e1, ry, SqT.of e2, h1, k v H (Same.refl _) h2⟩)
  · rename_i z i
    split at e
    · rename_i hz
      cases q : atI z.cps.toList i with
      | none => rw [q] at e; cases e
      | some c =>
        rw [q] at e
        cases e
        exact .inr (.inr ⟨z, i, c, rx, ry, hz, q, k _ H (Same.refl _) rfl⟩)
    · cases e
  · cases e
theorem ev_ix {a b : Expr} {fa fb : M D} (ha : Ev 𝓕 ca a fa) (hb : Ev 𝓕 ca b fb) (hs : PlainIx b := by intro _ _; rfl) : Ev 𝓕 ca (.Subscript a b pos) (op2 ixD fa fb) := by
  obtain ⟨ta, a1, a2⟩ := ha
  obtain ⟨tb, b1, b2⟩ := hb
  refine ⟨tOp (rIx 𝓕.K) ta tb, fun j => ?_, sem_op (ix_g 𝓕.K) a2 b2⟩
  have h := pe_ix (pos := pos) (ix_seq (X := 𝓕.X j)) (a1 j) (b1 j) hs
  rw [𝓕.hK j] at h
  exact h
/-! a def's body -/
def famB (P : Program) (w : World) (K : PySem.W.Frag) (mg : Str → Option Value) (base : Heap) (N : List Str) (qual : Str) (scope : Scope) (f : Addr) (cdv : Value) (A : Around) (outer : List Env) (s : Shared) (H : Hp) (E : XK) (XA : Exn → Value → Option Addr → Hp → Prop) (k : Nat) (nd : N.Nodup) (hr : Room k (A.deeper (envOfC qual scope s.heap.objs.size f cdv))) : Fam where
  J := Unit
  X := fun _ => cxOf (L2.CX P w) P w K mg base N qual scope f cdv A outer s H E
  P := P
  w := w
  K := K
  mg := mg
  base := base
  CX := L2.CX P w
  N := N
  E := E
  XA := XA
  k := k
  hP := fun _ => rfl
  hw := fun _ => rfl
  hK := fun _ => rfl
  hmg := fun _ => rfl
  hB := fun _ => rfl
  hN := fun _ => rfl
  nd := nd
  calm := fun _ => rfl
  room := fun _ => hr
  pass := fun _ => passes_call (X := cxOf (L2.CX P w) P w K mg base N qual scope f cdv A outer s H E) (takes_of rfl rfl rfl rfl) (fun _ _ _ _ h => h)
  own := fun _ => passes_of rfl
  nox := fun outer H s e s' h => by
    obtain ⟨_, _, _, _, _, _, _, _, _, _, _, _, z⟩ := h
    exact z
def runB (n : Nat) (fb : S → Res Fl) : Fn := fun ds c => (fb ⟨ds.map .val ++ List.replicate (n - ds.length) .un, c⟩).bind fun r => match r with
  | .nx s => .ok (.non, s.cup)
  | .rt d c => .ok (d, c)
  | _ => .bad
theorem srep_start {F : Addr → Prop} {H : Hp} {ds : List D} {vs : List V} {c : List D} {N : List Str} (h : Reps ca (or2 F (cupW ca)) H ds vs) (hC : CupAt ca F (cupW ca) H c) (hF : ∀ a, F a → H a ≠ none) :
    SRep ca F (cupW ca) H (start N vs) ⟨ds.map .val ++ List.replicate (N.length - ds.length) .un, c⟩ where
  len := by
    show (vs.map some ++ List.replicate (N.length - vs.length) none).length = (ds.map Slot.val ++ List.replicate (N.length - ds.length) Slot.un).length
    rw [List.length_append, List.length_append, List.length_map, List.length_map, List.length_replicate, List.length_replicate, h.length]
  slot := fun i d e => by
    have e : (ds.map Slot.val ++ List.replicate (N.length - ds.length) Slot.un)[i]? = some (.val d) := e
    by_cases hi : i < ds.length
    · rw [List.getElem?_append_left (by rw [List.length_map]; exact hi), List.getElem?_map] at e
      cases q : ds[i]? with
      | none => rw [q] at e; cases e
      | some d' =>
        rw [q] at e
        cases e
        obtain ⟨v, h1, h2⟩ := h.get q
        refine ⟨v, ?_, h2⟩
        show (vs.map some ++ List.replicate (N.length - vs.length) none)[i]? = _
        rw [List.getElem?_append_left (by rw [List.length_map, h.length]; exact hi), List.getElem?_map, h1]
        rfl
    · rw [List.getElem?_append_right (by rw [List.length_map]; omega), List.getElem?_replicate] at e
      split at e <;> cases e
  own := fun i es e => by
    have e : (ds.map Slot.val ++ List.replicate (N.length - ds.length) Slot.un)[i]? = some (.own es) := e
    by_cases hi : i < ds.length
    · rw [List.getElem?_append_left (by rw [List.length_map]; exact hi), List.getElem?_map] at e
      cases q : ds[i]? with
      | none => rw [q] at e; cases e
      | some d' => rw [q] at e; cases e
    · rw [List.getElem?_append_right (by rw [List.length_map]; omega), List.getElem?_replicate] at e
      split at e <;> cases e
  inj := fun i j es fs a e _ _ _ => by
    have e : (ds.map Slot.val ++ List.replicate (N.length - ds.length) Slot.un)[i]? = some (.own es) := e
    by_cases hi : i < ds.length
    · rw [List.getElem?_append_left (by rw [List.length_map]; exact hi), List.getElem?_map] at e
      cases q : ds[i]? with
      | none => rw [q] at e; cases e
      | some d' => rw [q] at e; cases e
    · rw [List.getElem?_append_right (by rw [List.length_map]; omega), List.getElem?_replicate] at e
      split at e <;> cases e
  cup := hC
  wl := fun a e => by
    obtain ⟨_, vs, q, _⟩ := hC a e
    exact ⟨vs, q⟩
  fl := hF
/-- THE RULE for a def -/
theorem fn_mk {P : Program} {w : World} {K : PySem.W.Frag} {mg : Str → Option Value} {base : Heap} {XA : Exn → Value → Option Addr → Hp → Prop} {x qual : Str} {st : Stmt} {f : Addr} {fd : FuncData} {N ps : List Str} {k : Nat} {fb : S → Res Fl} (F : Fun K x qual st f fd) (Sc : FnScope N ps (defScope st))
    (hb : ∀ (ca : Option Addr) (cdv : Value) (A : Around) (outer : List Env) (s : Shared) (H : Hp) (E : XK) (hr : Room k (A.deeper (envOfC qual (defScope st) s.heap.objs.size f cdv))), Bv (famB P w K mg base N qual (defScope st) f cdv A outer s H E XA k Sc.nd hr) ca (defBody st) fb) :
    FnOk P w K mg base (L2.CX P w) (k + 1) f fd ps (spOf XA ps.length (runB N.length fb)) := by
  refine F.okX Sc (fun vs H Q E h => h.1) fun cdv A outer s H vs Q E hr h => ?_
  obtain ⟨hl, ca, Fo, ds, c, hR, hC, hF, hw⟩ := h
  obtain ⟨t, h1, h2⟩ := hb ca cdv A outer s H E hr
  refine ⟨t, h1 (), h2 Fo (cupW ca) H (start N vs) _ _ (srep_start hR hC hF) ?_⟩
  unfold runB at hw
  refine wpr_mono (wpr_bind.mp hw) (fun r h => ?_) fun _ _ z => z
  cases r with
  | nx s' => exact fun W' H' σ' st R => h .non H' W' st rfl R.cup
  | rt d c => exact fun W' v H' st rp cp => h v H' W' st rp cp
  | bk s' => exact h.elim
  | ct s' => exact h.elim
end
end PL

namespace PL
open PySem PySem.Spec PyProof.Rows L2
section
variable {𝓕 : Fam} {ca : Option Addr} {pos : Pos}
/-! data as the library's own -/
mutual
def toPy : D → PyData
  | .non => .none
  | .bl b => .bool b
  | .int i => .int i
  | .str x => .str x
  | .tup ds => .tuple (toPys ds)
  | .lst ds => .list (toPys ds)
  | .cup => .none
  | .ref _ => .none
def toPys : List D → List PyData
  | [] => []
  | d :: ds => toPy d :: toPys ds
end
mutual
/-- it holds data alone, its texts of plain signs, at most so deep -/
def dOk : Nat → D → Bool
  | _, .non => true
  | _, .bl _ => true
  | _, .int _ => true
  | _, .str x => PyData.strOk x
  | n, .tup ds => (match n with
    | 0 => false
    | m + 1 => dOks m ds)
  | n, .lst ds => (match n with
    | 0 => false
    | m + 1 => dOks m ds)
  | _, .cup => false
  | _, .ref _ => false
def dOks : Nat → List D → Bool
  | _, [] => true
  | n, d :: ds => dOk n d && dOks n ds
end
mutual
theorem dOk_py : ∀ (n : Nat) (d : D), dOk n d = true → (toPy d).canLay0 = true ∧ (toPy d).depth ≤ n
  | _, .non, _ => by simp [toPy, PyData.canLay0, PyData.depth]
  | _, .bl _, _ => by simp [toPy, PyData.canLay0, PyData.depth]
  | _, .int _, _ => by simp [toPy, PyData.canLay0, PyData.depth]
  | _, .str x, h => by
    have h : PyData.strOk x = true := by rw [dOk] at h; exact h
    simp [toPy, PyData.canLay0, PyData.depth, h]
  | 0, .tup ds, h => by rw [dOk] at h; cases h
  | 0, .lst ds, h => by rw [dOk] at h; cases h
  | n + 1, .tup ds, h => by
    rw [dOk] at h
    obtain ⟨a, b⟩ := dOks_py n ds h
    rw [toPy, PyData.canLay0, PyData.depth]
    exact ⟨a, by omega⟩
  | n + 1, .lst ds, h => by
    rw [dOk] at h
    obtain ⟨a, b⟩ := dOks_py n ds h
    rw [toPy, PyData.canLay0, PyData.depth]
    exact ⟨a, by omega⟩
  | _, .cup, h => by rw [dOk] at h; cases h
  | _, .ref _, h => by rw [dOk] at h; cases h
theorem dOks_py : ∀ (n : Nat) (ds : List D), dOks n ds = true → PyData.canLayAll0 (toPys ds) = true ∧ PyData.depthAll (toPys ds) ≤ n
  | n, [], _ => by simp [toPys, PyData.canLayAll0, PyData.depthAll]
  | n, d :: ds, h => by
    rw [dOks, Bool.and_eq_true] at h
    obtain ⟨a, b⟩ := dOk_py n d h.1
    obtain ⟨c, e⟩ := dOks_py n ds h.2
    rw [toPys, PyData.canLayAll0, PyData.depthAll, a, c]
    exact ⟨rfl, by omega⟩
end
theorem dOk_shaped {d : D} (h : dOk 60 d = true) : SeqAt.shaped (toPy d) = true := by
  obtain ⟨a, b⟩ := dOk_py 60 d h
  unfold SeqAt.shaped
  rw [a, decide_eq_true (show (toPy d).depth ≤ 64 by omega)]
  rfl
mutual
theorem rep_dp {K : PySem.W.Frag} {Mu : Addr → Prop} {H : Hp} : ∀ (n : Nat) (d : D) (v : V), dOk n d = true → Rep ca Mu H d v → Dp K H v (toPy d)
  | _, .non, _, _, h => by rw [show _ = V.non from h, toPy]; exact .non
  | _, .bl b, _, _, h => by rw [show _ = V.bl b from h, toPy]; exact .bl b
  | _, .int i, _, _, h => by rw [show _ = V.int i from h, toPy]; exact .int i
  | _, .str x, _, _, h => by rw [show _ = V.str x from h, toPy]; exact .str x
  | 0, .tup ds, _, k, _ => by rw [dOk] at k; cases k
  | 0, .lst ds, _, k, _ => by rw [dOk] at k; cases k
  | n + 1, .tup ds, v, k, h => by
    rw [dOk] at k
    obtain ⟨a, vs, e, q, r⟩ := h
    rw [e, toPy]
    exact .tup (SqT.of q) (reps_dp n ds vs k r)
  | n + 1, .lst ds, v, k, h => by
    rw [dOk] at k
    obtain ⟨a, vs, e, _, q, r⟩ := h
    rw [e, toPy]
    exact .lst (SqL.of q) (reps_dp n ds vs k r)
  | _, .cup, _, k, _ => by rw [dOk] at k; cases k
  | _, .ref _, _, k, _ => by rw [dOk] at k; cases k
theorem reps_dp {K : PySem.W.Frag} {Mu : Addr → Prop} {H : Hp} : ∀ (n : Nat) (ds : List D) (vs : List V), dOks n ds = true → Reps ca Mu H ds vs → DpAll K H vs (toPys ds)
  | n, [], _, _, h => by rw [show _ = [] from h, toPys]; exact .nil
  | n, d :: ds, vs, k, h => by
    rw [dOks, Bool.and_eq_true] at k
    obtain ⟨v, r, e, h1, h2⟩ := h
    rw [e, toPys]
    exact .cons (rep_dp n d v k.1 h1) (reps_dp n ds r k.2 h2)
end
/-! operators -/
def addD : D → D → Option D
  | .int i, .int j => some (.int (i + j))
  | .str a, .str b => if a.length + b.length ≤ sizeLine then some (.str (a ++ b)) else none
  | .tup xs, .tup ys => if xs.length + ys.length ≤ sizeLine then some (.tup (xs ++ ys)) else none
  | .lst xs, .lst ys => if xs.length + ys.length ≤ sizeLine then some (.lst (xs ++ ys)) else none
  | _, _ => none
theorem op_addD : OpV 𝓕 ca (binaryOp .Add) addD := by
  refine ⟨fun x y H Q => rI0 (fun i j => .int (i + j)) x y H Q ∨ (∃ i j, x = .str i ∧ y = .str j ∧ i.length + j.length ≤ sizeLine ∧ Q (.str (i ++ j)) H) ∨ rCatA 𝓕.K x y H Q ∨ rCat x y H Q, fun j => ?_, fun Mu H dx dy vx vy d Q dm rx ry e k => ?_⟩
  · have h := op_catA (X := 𝓕.X j)
    rw [𝓕.hK j] at h
    exact op_add.or (op_add_str.or (h.or op_cat))
  · unfold addD at e
    split at e
    · cases e
      exact .inl ⟨_, _, rx, ry, k _ H (Same.refl _) rfl⟩
    · split at e
      · cases e
        exact .inr (.inl ⟨_, _, rx, ry, by assumption, k _ H (Same.refl _) rfl⟩)
      · cases e
    · split at e
      · rename_i hz
        cases e
        obtain ⟨a, us, e1, q1, r1⟩ := id rx
        obtain ⟨b, ws, e2, q2, r2⟩ := id ry
        refine .inr (.inr (.inl ⟨a, b, us, ws, e1, e2, SqT.of q1, SqT.of q2, by rw [r1.length, r2.length]; exact hz, fun z => ?_, fun z z2 => ?_, fun z z2 p hp => ?_⟩))
        · subst z
          have : _ = [] := List.length_eq_zero_iff.mp r1.length.symm
          subst this
          exact k _ H (Same.refl _) (by rw [e2] at ry; exact ry)
        · subst z2
          have : _ = [] := List.length_eq_zero_iff.mp r2.length.symm
          subst this
          rw [List.append_nil] at k
          exact k _ H (Same.refl _) (by rw [e1] at rx; exact rx)
        · exact k _ _ (same_upd hp) (rep_newT (r1.append r2) hp)
      · cases e
    · split at e
      · rename_i hz
        cases e
        obtain ⟨a, us, e1, _, q1, r1⟩ := id rx
        obtain ⟨b, ws, e2, _, q2, r2⟩ := id ry
        exact .inr (.inr (.inr ⟨a, b, us, ws, e1, e2, q1, q2, by rw [r1.length, r2.length]; exact hz, fun p hp => k _ _ (same_upd hp) (rep_newL (r1.append r2) hp dm)⟩))
      · cases e
    · cases e
def int2 (C : Int → Int → Bool) (g : Int → Int → D) : D → D → Option D
  | .int i, .int j => if C i j = true then some (g i j) else none
  | _, _ => none
theorem op_int2 {f : Value → Value → Sem Value} {C : Int → Int → Prop} {Cb : Int → Int → Bool} {g : Int → Int → Int} (h : ∀ j, OpR (𝓕.X j) f (rI C fun i j => .int (g i j))) (hc : ∀ i j, Cb i j = true → C i j) : OpV 𝓕 ca f (int2 Cb fun i j => .int (g i j)) := by
  refine ⟨_, h, fun Mu H dx dy vx vy d Q dm rx ry e k => ?_⟩
  unfold int2 at e
  split at e
  · split at e
    · rename_i hh
      cases e
      exact ⟨_, _, rx, ry, hc _ _ hh, k _ H (Same.refl _) rfl⟩
    · cases e
  · cases e
def int0 (g : Int → Int → D) : D → D → Option D
  | .int i, .int j => some (g i j)
  | _, _ => none
theorem op_int0 {f : Value → Value → Sem Value} {g : Int → Int → V} {g' : Int → Int → D} (h : ∀ j, OpR (𝓕.X j) f (rI0 g)) (hg : ∀ i j Mu H, Rep ca Mu H (g' i j) (g i j)) : OpV 𝓕 ca f (int0 g') := by
  refine ⟨_, h, fun Mu H dx dy vx vy d Q dm rx ry e k => ?_⟩
  unfold int0 at e
  split at e
  · cases e
    exact ⟨_, _, rx, ry, k _ H (Same.refl _) (hg _ _ _ _)⟩
  · cases e
abbrev subD : D → D → Option D := int0 fun i j => .int (i - j)
theorem op_subD : OpV 𝓕 ca (binaryOp .Sub) subD := op_int0 (fun _ => op_sub) fun _ _ _ _ => rfl
def cMul (i j : Int) : Bool := (decide (-(2 ^ 64) < i) && decide (i < 2 ^ 64)) || (decide (-(2 ^ 64) < j) && decide (j < 2 ^ 64))
abbrev mulD : D → D → Option D := int2 cMul fun i j => .int (i * j)
theorem op_mulD : OpV 𝓕 ca (binaryOp .Mult) mulD := op_int2 (fun _ => op_mul) fun i j h => by
  unfold cMul at h
  rw [Bool.or_eq_true, Bool.and_eq_true, Bool.and_eq_true, decide_eq_true_eq, decide_eq_true_eq, decide_eq_true_eq, decide_eq_true_eq] at h
  exact h
def cDiv (_ j : Int) : Bool := decide (0 < j) && decide (j < 2 ^ 64)
abbrev fdivD : D → D → Option D := int2 cDiv fun i j => .int (i / j)
theorem op_fdivD : OpV 𝓕 ca (binaryOp .FloorDiv) fdivD := op_int2 (fun _ => op_fdivW) fun i j h => by
  unfold cDiv at h
  rw [Bool.and_eq_true, decide_eq_true_eq, decide_eq_true_eq] at h
  exact wide_div (b := 64) h.1 (by omega) (by decide) (by decide)
def cMod (_ j : Int) : Bool := decide (0 < j)
abbrev modD : D → D → Option D := int2 cMod fun i j => .int (i % j)
theorem op_modD : OpV 𝓕 ca (binaryOp .Mod) modD := op_int2 (fun _ => op_mod) fun i j h => of_decide_eq_true h
def cPow (i j : Int) : Bool := decide (0 ≤ j) && decide (j ≤ 1000000) && decide (i.natAbs < 2 ^ 64)
abbrev powD : D → D → Option D := int2 cPow fun i j => .int (i ^ j.toNat)
theorem op_powD : OpV 𝓕 ca (binaryOp .Pow) powD := op_int2 (fun _ => op_pow) fun i j h => by
  unfold cPow at h
  rw [Bool.and_eq_true, Bool.and_eq_true, decide_eq_true_eq, decide_eq_true_eq, decide_eq_true_eq] at h
  exact ⟨h.1.1, h.1.2, h.2⟩
abbrev ltD : D → D → Option D := int0 fun i j => .bl (decide (i < j))
abbrev leD : D → D → Option D := int0 fun i j => .bl (decide (i ≤ j))
abbrev gtD : D → D → Option D := int0 fun i j => .bl (decide (j < i))
abbrev geD : D → D → Option D := int0 fun i j => .bl (decide (j ≤ i))
theorem op_ltD : OpV 𝓕 ca (compareOp .Lt) ltD := op_int0 (fun _ => op_lt) fun _ _ _ _ => rfl
theorem op_leD : OpV 𝓕 ca (compareOp .LtE) leD := op_int0 (fun _ => op_le) fun _ _ _ _ => rfl
theorem op_gtD : OpV 𝓕 ca (compareOp .Gt) gtD := op_int0 (fun _ => op_gt) fun _ _ _ _ => rfl
theorem op_geD : OpV 𝓕 ca (compareOp .GtE) geD := op_int0 (fun _ => op_ge) fun _ _ _ _ => rfl
/-- equal, as Python says it -/
def dEq (d e : D) : Bool := PyData.eqv (toPy d) (toPy e)
def eqD : D → D → Option D
  | .int i, .int j => some (.bl (decide (i = j)))
  | .str x, .str y => some (.bl (decide (x = y)))
  | .bl x, .bl y => some (.bl (decide (x = y)))
  | d, e => if (dOk 60 d && dOk 60 e) = true then some (.bl (dEq d e)) else none
def neD : D → D → Option D
  | .int i, .int j => some (.bl (!decide (i = j)))
  | .str x, .str y => some (.bl (!decide (x = y)))
  | .bl x, .bl y => some (.bl (!decide (x = y)))
  | d, e => if (dOk 60 d && dOk 60 e) = true then some (.bl (!dEq d e)) else none
theorem dec_v {a b : V} {c : Prop} [Decidable c] (h : a = b ↔ c) : decide (a = b) = decide c := by
  by_cases z : c
  · rw [decide_eq_true z, decide_eq_true (h.mpr z)]
  · rw [decide_eq_false z, decide_eq_false fun q => z (h.mp q)]
theorem op_eqDD (hk : ∀ j, (𝓕.X j).A.units + 64 < cLine) : OpV 𝓕 ca (compareOp .Eq) eqD := by
  refine ⟨fun x y H Q => rEq x y H Q ∨ rEqD 𝓕.K x y H Q, fun j => ?_, fun Mu H dx dy vx vy d Q dm rx ry e k => ?_⟩
  · have h := op_eqD (X := 𝓕.X j) (hk j)
    rw [𝓕.hK j] at h
    exact op_eq.or h
  · unfold eqD at e
    split at e
    · cases e
      rw [show vx = _ from rx, show vy = _ from ry]
      refine .inl ⟨rfl, ?_⟩
      rw [dec_v (c := _ = _) ⟨fun z => V.int.inj z, fun z => by rw [z]⟩]
      exact k _ H (Same.refl _) rfl
    · cases e
      rw [show vx = _ from rx, show vy = _ from ry]
      refine .inl ⟨rfl, ?_⟩
      rw [dec_v (c := _ = _) ⟨fun z => V.str.inj z, fun z => by rw [z]⟩]
      exact k _ H (Same.refl _) rfl
    · cases e
      rw [show vx = _ from rx, show vy = _ from ry]
      refine .inl ⟨rfl, ?_⟩
      rw [dec_v (c := _ = _) ⟨fun z => V.bl.inj z, fun z => by rw [z]⟩]
      exact k _ H (Same.refl _) rfl
    · split at e
      · rename_i hh
        rw [Bool.and_eq_true] at hh
        cases e
        exact .inr ⟨_, _, rep_dp 60 _ _ hh.1 rx, rep_dp 60 _ _ hh.2 ry, dOk_shaped hh.1, dOk_shaped hh.2, k _ H (Same.refl _) rfl⟩
      · cases e
theorem op_neDD (hk : ∀ j, (𝓕.X j).A.units + 64 < cLine) : OpV 𝓕 ca (compareOp .NotEq) neD := by
  refine ⟨fun x y H Q => rNe x y H Q ∨ rNeD 𝓕.K x y H Q, fun j => ?_, fun Mu H dx dy vx vy d Q dm rx ry e k => ?_⟩
  · have h := op_neD (X := 𝓕.X j) (hk j)
    rw [𝓕.hK j] at h
    exact op_ne.or h
  · unfold neD at e
    split at e
    · cases e
      rw [show vx = _ from rx, show vy = _ from ry]
      refine .inl ⟨rfl, ?_⟩
      rw [dec_v (c := _ = _) ⟨fun z => V.int.inj z, fun z => by rw [z]⟩]
      exact k _ H (Same.refl _) rfl
    · cases e
      rw [show vx = _ from rx, show vy = _ from ry]
      refine .inl ⟨rfl, ?_⟩
      rw [dec_v (c := _ = _) ⟨fun z => V.str.inj z, fun z => by rw [z]⟩]
      exact k _ H (Same.refl _) rfl
    · cases e
      rw [show vx = _ from rx, show vy = _ from ry]
      refine .inl ⟨rfl, ?_⟩
      rw [dec_v (c := _ = _) ⟨fun z => V.bl.inj z, fun z => by rw [z]⟩]
      exact k _ H (Same.refl _) rfl
    · split at e
      · rename_i hh
        rw [Bool.and_eq_true] at hh
        cases e
        exact .inr ⟨_, _, rep_dp 60 _ _ hh.1 rx, rep_dp 60 _ _ hh.2 ry, dOk_shaped hh.1, dOk_shaped hh.2, k _ H (Same.refl _) rfl⟩
      · cases e
theorem eq_ok : OpV 𝓕 ca (compareOp .Eq) eqD := op_eqDD fun j => (𝓕.room j).units
theorem ne_ok : OpV 𝓕 ca (compareOp .NotEq) neD := op_neDD fun j => (𝓕.room j).units
/-- is, of None or of truth values -/
def isNon : D → Bool
  | .non => true
  | _ => false
def isD : D → D → Option D
  | .bl x, .bl y => some (.bl (decide (x = y)))
  | d, .non => some (.bl (isNon d))
  | _, _ => none
def isnotD : D → D → Option D
  | .bl x, .bl y => some (.bl (!decide (x = y)))
  | d, .non => some (.bl (!isNon d))
  | _, _ => none
theorem isNon_rep {Mu : Addr → Prop} {H : Hp} {d : D} {v : V} (h : Rep ca Mu H d v) : decide (v = .non) = isNon d := by
  cases d with
  | non => rw [show v = .non from h]; rfl
  | bl b => rw [show v = .bl b from h]; rfl
  | int i => rw [show v = .int i from h]; rfl
  | str x => rw [show v = .str x from h]; rfl
  | tup ds => obtain ⟨a, vs, e, _⟩ := h; rw [e]; rfl
  | lst ds => obtain ⟨a, vs, e, _⟩ := h; rw [e]; rfl
  | cup => obtain ⟨a, e, _⟩ := h; rw [e]; rfl
  | ref a => rw [show v = .ref a from h]; rfl
theorem op_isD : OpV 𝓕 ca (compareOp .Is) isD := by
  refine ⟨_, fun j => op_isN.or op_isBl, fun Mu H dx dy vx vy d Q dm rx ry e k => ?_⟩
  unfold isD at e
  split at e
  · cases e
    exact .inr ⟨_, _, rx, ry, k _ H (Same.refl _) rfl⟩
  · cases e
    refine .inl ⟨ry, ?_⟩
    rw [isNon_rep rx]
    exact k _ H (Same.refl _) rfl
  · cases e
theorem op_isnotD : OpV 𝓕 ca (compareOp .IsNot) isnotD := by
  refine ⟨_, fun j => op_notN.or op_notBl, fun Mu H dx dy vx vy d Q dm rx ry e k => ?_⟩
  unfold isnotD at e
  split at e
  · cases e
    exact .inr ⟨_, _, rx, ry, k _ H (Same.refl _) rfl⟩
  · cases e
    refine .inl ⟨ry, ?_⟩
    rw [isNon_rep rx]
    exact k _ H (Same.refl _) rfl
  · cases e
/-- -x -/
def negM (f : M D) : M D := bindM f fun d => match d with
  | .int i => ret (.int (-i))
  | _ => fun _ => .bad
theorem ev_neg {a : Expr} {fa : M D} (ha : Ev 𝓕 ca a fa) : Ev 𝓕 ca (.UnaryOp .USub a pos) (negM fa) := by
  obtain ⟨t, a1, a2⟩ := ha
  refine ⟨_, fun j => pe_un un_neg (a1 j), fun F W H σ s Q R q => ?_⟩
  unfold negM bindM at q
  refine a2 F W H σ s _ R (wpr_mono (wpr_bind.mp q) (fun r h v H1 x1 R1 p => ?_) fun _ _ z => z)
  obtain ⟨d, c⟩ := r
  cases d with
  | int i => exact ⟨i, p, h (.int (-i)) H1 x1 R1 rfl⟩
  | _ => exact h.elim
/-! built-ins -/
theorem reps1 {Mu : Addr → Prop} {H : Hp} {d : D} {vs : List V} (h : Reps ca Mu H [d] vs) : ∃ v, vs = [v] ∧ Rep ca Mu H d v := by
  obtain ⟨v, r, e, h1, h2⟩ := h
  have h2 : r = [] := h2
  subst h2
  exact ⟨v, e, h1⟩
theorem reps2 {Mu : Addr → Prop} {H : Hp} {d e : D} {vs : List V} (h : Reps ca Mu H [d, e] vs) : ∃ v u, vs = [v, u] ∧ Rep ca Mu H d v ∧ Rep ca Mu H e u := by
  obtain ⟨v, r, e1, h1, h2⟩ := h
  obtain ⟨u, e2, h3⟩ := reps1 h2
  exact ⟨v, u, by rw [e1, e2], h1, h3⟩
def lenD : List D → Option D
  | [.lst ds] => some (.int ds.length)
  | [.tup ds] => some (.int ds.length)
  | [.str z] => if z.length ≤ sizeLine then some (.int z.length) else none
  | _ => none
theorem call_lenD : CallV 𝓕 ca (.builtin "len") lenD := by
  refine ⟨fun xs H Q => (∃ p ys, xs = [.ref p] ∧ (SqL 𝓕.K H p ys ∨ SqT 𝓕.K H p ys) ∧ Q (.int ys.length) H) ∨ (∃ z, xs = [.str z] ∧ z.length ≤ sizeLine ∧ Q (.int z.length) H), fun j => ?_, fun Mu H ds vs d Q dm r e k => ?_⟩
  · have h := call_len_seq (X := 𝓕.X j)
    rw [𝓕.hK j] at h
    exact h.or call_len_str
  · unfold lenD at e
    split at e
    · cases e
      obtain ⟨v, e1, a, us, e2, _, q, r2⟩ := reps1 r
      subst e1; subst e2
      refine .inl ⟨a, us, rfl, .inl (SqL.of q), ?_⟩
      rw [r2.length]
      exact k _ H (Same.refl _) rfl
    · cases e
      obtain ⟨v, e1, a, us, e2, q, r2⟩ := reps1 r
      subst e1; subst e2
      refine .inl ⟨a, us, rfl, .inr (SqT.of q), ?_⟩
      rw [r2.length]
      exact k _ H (Same.refl _) rfl
    · split at e
      · rename_i hz
        cases e
        obtain ⟨v, e1, e2⟩ := reps1 r
        exact .inr ⟨_, by rw [e1, show v = _ from e2], hz, k _ H (Same.refl _) rfl⟩
      · cases e
    · cases e
def absD : List D → Option D
  | [.int i] => some (.int (if i < 0 then -i else i))
  | _ => none
theorem call_absD : CallV 𝓕 ca (.builtin "abs") absD := by
  refine ⟨_, fun j => call_abs, fun Mu H ds vs d Q dm r e k => ?_⟩
  unfold absD at e
  split at e
  · cases e
    obtain ⟨v, e1, e2⟩ := reps1 r
    exact ⟨_, by rw [e1, show v = _ from e2], k _ H (Same.refl _) rfl⟩
  · cases e
/-- the ints of a list of ints -/
def intsOf : List D → Option (List Int)
  | [] => some []
  | .int i :: ds => (intsOf ds).map (i :: ·)
  | _ => none
theorem intsOf_ok : ∀ {ds : List D} {ns : List Int}, intsOf ds = some ns → ds = ns.map D.int
  | [], _, h => by cases h; rfl
  | .int i :: ds, ns, h => by
    unfold intsOf at h
    cases e : intsOf ds with
    | none => rw [e] at h; cases h
    | some ms =>
      rw [e] at h
      cases h
      rw [intsOf_ok e]
      rfl
  | .non :: _, _, h => by cases h
  | .bl _ :: _, _, h => by cases h
  | .str _ :: _, _, h => by cases h
  | .tup _ :: _, _, h => by cases h
  | .lst _ :: _, _, h => by cases h
  | .cup :: _, _, h => by cases h
  | .ref _ :: _, _, h => by cases h
@[simp] theorem intsOf_map : ∀ ns : List Int, intsOf (ns.map D.int) = some ns
  | [] => rfl
  | n :: ns => by
    show (intsOf (ns.map D.int)).map (n :: ·) = _
    rw [intsOf_map ns]
    rfl
def maxI : List Int → Int
  | [] => 0
  | n :: ns => ns.foldl (fun a b => if b > a then b else a) n
theorem foldl_max : ∀ (ns : List Int) (n : Int), let m := ns.foldl (fun a b => if b > a then b else a) n
    (m = n ∨ m ∈ ns) ∧ n ≤ m ∧ ∀ y ∈ ns, y ≤ m
  | [], n => ⟨.inl rfl, Int.le_refl _, fun _ h => by cases h⟩
  | b :: ns, n => by
    obtain ⟨h1, h2, h3⟩ := foldl_max ns (if b > n then b else n)
    show (ns.foldl (fun a b => if b > a then b else a) (if b > n then b else n) = n ∨ ns.foldl (fun a b => if b > a then b else a) (if b > n then b else n) ∈ b :: ns) ∧ _
    refine ⟨?_, ?_, fun y hy => ?_⟩
    · rcases h1 with h1 | h1
      · rw [h1]
        split
        · exact .inr (List.mem_cons_self)
        · exact .inl rfl
      · exact .inr (List.mem_cons_of_mem _ h1)
    · show n ≤ ns.foldl _ (if b > n then b else n)
      refine Int.le_trans ?_ h2
      split <;> omega
    · show y ≤ ns.foldl _ (if b > n then b else n)
      rcases List.mem_cons.mp hy with e | hy
      · refine Int.le_trans ?_ h2
        rw [e]
        split <;> omega
      · exact h3 y hy
theorem maxI_mem {ns : List Int} (h : ns ≠ []) : maxI ns ∈ ns := by
  cases ns with
  | nil => exact absurd rfl h
  | cons n ns =>
    rcases (foldl_max ns n).1 with e | e
    · show ns.foldl _ n ∈ _
      rw [e]; exact List.mem_cons_self
    · exact List.mem_cons_of_mem _ e
theorem maxI_le {ns : List Int} : ∀ y ∈ ns, y ≤ maxI ns := fun y hy => by
  cases ns with
  | nil => cases hy
  | cons n ns =>
    rcases List.mem_cons.mp hy with e | hy
    · rw [e]; exact (foldl_max ns n).2.1
    · exact (foldl_max ns n).2.2 y hy
def maxD : List D → Option D
  | [.int i, .int j] => some (.int (if j > i then j else i))
  | [.lst ds] => (intsOf ds).bind fun ns => if ns = [] then none else some (.int (maxI ns))
  | _ => none
theorem call_maxD : CallV 𝓕 ca (.builtin "max") maxD := by
  refine ⟨fun xs H Q => (∃ i j, xs = [.int i, .int j] ∧ Q (.int (if j > i then j else i)) H) ∨ rMax 𝓕.K xs H Q, fun j => ?_, fun Mu H ds vs d Q dm r e k => ?_⟩
  · have h := cr_max (X := 𝓕.X j) (𝓕.calm j)
    rw [𝓕.hK j] at h
    exact (call_max2 (𝓕.calm j)).or h
  · unfold maxD at e
    split at e
    · cases e
      obtain ⟨v, u, e1, e2, e3⟩ := reps2 r
      exact .inl ⟨_, _, by rw [e1, show v = _ from e2, show u = _ from e3], k _ H (Same.refl _) rfl⟩
    · rename_i es
      cases q : intsOf es with
      | none => rw [q] at e; cases e
      | some ns =>
        rw [q] at e
        have e : (if ns = [] then none else some (D.int (maxI ns))) = some d := e
        split at e
        · cases e
        · rename_i hn
          cases e
          have := intsOf_ok q
          subst this
          obtain ⟨v, e1, a, us, e2, _, q2, r2⟩ := reps1 r
          have r3 := r2.ints
          subst e1; subst e2; subst r3
          refine .inr ⟨a, ns, rfl, SqL.of q2, List.length_pos_iff.mpr hn, fun m hm hle => ?_⟩
          have : m = maxI ns := Int.le_antisymm (maxI_le m hm) (hle _ (maxI_mem hn))
          rw [this]
          exact k _ H (Same.refl _) rfl
    · cases e
def blsOf : List D → Option (List Bool)
  | [] => some []
  | .bl i :: ds => (blsOf ds).map (i :: ·)
  | _ => none
theorem blsOf_ok : ∀ {ds : List D} {ns : List Bool}, blsOf ds = some ns → ds = ns.map D.bl
  | [], _, h => by cases h; rfl
  | .bl i :: ds, ns, h => by
    unfold blsOf at h
    cases e : blsOf ds with
    | none => rw [e] at h; cases h
    | some ms =>
      rw [e] at h
      cases h
      rw [blsOf_ok e]
      rfl
  | .non :: _, _, h => by cases h
  | .int _ :: _, _, h => by cases h
  | .str _ :: _, _, h => by cases h
  | .tup _ :: _, _, h => by cases h
  | .lst _ :: _, _, h => by cases h
  | .cup :: _, _, h => by cases h
  | .ref _ :: _, _, h => by cases h
@[simp] theorem blsOf_map : ∀ ns : List Bool, blsOf (ns.map D.bl) = some ns
  | [] => rfl
  | n :: ns => by
    show (blsOf (ns.map D.bl)).map (n :: ·) = _
    rw [blsOf_map ns]
    rfl
def allD : List D → Option D
  | [.lst ds] => (blsOf ds).map fun bs => .bl (bs.all id)
  | _ => none
def anyD : List D → Option D
  | [.lst ds] => (blsOf ds).map fun bs => .bl (bs.any id)
  | _ => none
theorem call_allD : CallV 𝓕 ca (.builtin "all") allD := by
  refine ⟨rAll 𝓕.K, fun j => ?_, fun Mu H ds vs d Q dm r e k => ?_⟩
  · have h := cr_all (X := 𝓕.X j) (𝓕.calm j)
    rw [𝓕.hK j] at h
    exact h
  · unfold allD at e
    split at e
    · rename_i es
      cases q : blsOf es with
      | none => rw [q] at e; cases e
      | some ns =>
        rw [q] at e
        cases e
        have := blsOf_ok q
        subst this
        obtain ⟨v, e1, a, us, e2, _, q2, r2⟩ := reps1 r
        have r3 := r2.bls
        subst e1; subst e2; subst r3
        exact ⟨a, ns, rfl, SqL.of q2, k _ H (Same.refl _) rfl⟩
    · cases e
theorem call_anyD : CallV 𝓕 ca (.builtin "any") anyD := by
  refine ⟨rAny 𝓕.K, fun j => ?_, fun Mu H ds vs d Q dm r e k => ?_⟩
  · have h := cr_any (X := 𝓕.X j) (𝓕.calm j)
    rw [𝓕.hK j] at h
    exact h
  · unfold anyD at e
    split at e
    · rename_i es
      cases q : blsOf es with
      | none => rw [q] at e; cases e
      | some ns =>
        rw [q] at e
        cases e
        have := blsOf_ok q
        subst this
        obtain ⟨v, e1, a, us, e2, _, q2, r2⟩ := reps1 r
        have r3 := r2.bls
        subst e1; subst e2; subst r3
        exact ⟨a, ns, rfl, SqL.of q2, k _ H (Same.refl _) rfl⟩
    · cases e
def listD : List D → Option D
  | [.lst ds] => some (.lst ds)
  | [.tup ds] => some (.lst ds)
  | _ => none
theorem call_listD : CallV 𝓕 ca (.type "list") listD := by
  refine ⟨fun xs H Q => ∃ p ys, xs = [.ref p] ∧ (SqL 𝓕.K H p ys ∨ SqT 𝓕.K H p ys) ∧ ∀ l, H l = none → Q (.ref l) (upd H l (.lst ys)), fun j => ?_, fun Mu H ds vs d Q dm r e k => ?_⟩
  · have h := call_list_of (X := 𝓕.X j)
    rw [𝓕.hK j] at h
    exact h
  · unfold listD at e
    split at e
    · cases e
      obtain ⟨v, e1, a, us, e2, _, q, r2⟩ := reps1 r
      subst e1; subst e2
      exact ⟨a, us, rfl, .inl (SqL.of q), fun l hl => k _ _ (same_upd hl) (rep_newL r2 hl dm)⟩
    · cases e
      obtain ⟨v, e1, a, us, e2, q, r2⟩ := reps1 r
      subst e1; subst e2
      exact ⟨a, us, rfl, .inr (SqT.of q), fun l hl => k _ _ (same_upd hl) (rep_newL r2 hl dm)⟩
    · cases e
def tupleD : List D → Option D
  | [.lst ds] => some (.tup ds)
  | [.tup ds] => some (.tup ds)
  | _ => none
theorem call_tupleD : CallV 𝓕 ca (.type "tuple") tupleD := by
  refine ⟨fun xs H Q => ∃ p ys, xs = [.ref p] ∧ ((SqL 𝓕.K H p ys ∧ ∀ l, H l = none → Q (.ref l) (upd H l (.tup ys))) ∨ (SqT 𝓕.K H p ys ∧ Q (.ref p) H)), fun j => ?_, fun Mu H ds vs d Q dm r e k => ?_⟩
  · have h := call_tuple_of (X := 𝓕.X j)
    rw [𝓕.hK j] at h
    exact h
  · unfold tupleD at e
    split at e
    · cases e
      obtain ⟨v, e1, a, us, e2, _, q, r2⟩ := reps1 r
      subst e1; subst e2
      exact ⟨a, us, rfl, .inl ⟨SqL.of q, fun l hl => k _ _ (same_upd hl) (rep_newT r2 hl)⟩⟩
    · cases e
      obtain ⟨v, e1, r1⟩ := reps1 r
      obtain ⟨a, us, e2, q, r2⟩ := id r1
      subst e1; subst e2
      exact ⟨a, us, rfl, .inr ⟨SqT.of q, k _ H (Same.refl _) r1⟩⟩
    · cases e
def intD : List D → Option D
  | [.int i] => some (.int i)
  | [.bl b] => some (.int (if b then 1 else 0))
  | _ => none
theorem call_intD : CallV 𝓕 ca (.type "int") intD := by
  refine ⟨_, fun j => call_int1, fun Mu H ds vs d Q dm r e k => ?_⟩
  unfold intD at e
  split at e
  · cases e
    obtain ⟨v, e1, e2⟩ := reps1 r
    exact .inl ⟨_, by rw [e1, show v = _ from e2], k _ H (Same.refl _) rfl⟩
  · cases e
    obtain ⟨v, e1, e2⟩ := reps1 r
    exact .inr ⟨_, by rw [e1, show v = _ from e2], k _ H (Same.refl _) rfl⟩
  · cases e
def gcdD : List D → Option D
  | [.int i, .int j] => some (.int ((Nat.gcd i.natAbs j.natAbs : Nat) : Int))
  | _ => none
theorem call_gcdD : CallV 𝓕 ca (.builtin "math.gcd") gcdD := by
  refine ⟨_, fun j => cr_gcd, fun Mu H ds vs d Q dm r e k => ?_⟩
  unfold gcdD at e
  split at e
  · cases e
    obtain ⟨v, u, e1, e2, e3⟩ := reps2 r
    exact ⟨_, _, by rw [e1, show v = _ from e2, show u = _ from e3], k _ H (Same.refl _) rfl⟩
  · cases e
def sumI (ns : List Int) : Int := ns.sum
def sumD : List D → Option D
  | [.lst ds] => (intsOf ds).map fun ns => .int ns.sum
  | _ => none
theorem call_sumD : CallV 𝓕 ca (.builtin "sum") sumD := by
  refine ⟨rSum 𝓕.K, fun j => ?_, fun Mu H ds vs d Q dm r e k => ?_⟩
  · have h := cr_sum (X := 𝓕.X j) (𝓕.calm j)
    rw [𝓕.hK j] at h
    exact h
  · unfold sumD at e
    split at e
    · rename_i es
      cases q : intsOf es with
      | none => rw [q] at e; cases e
      | some ns =>
        rw [q] at e
        cases e
        have := intsOf_ok q
        subst this
        obtain ⟨v, e1, a, us, e2, _, q2, r2⟩ := reps1 r
        have r3 := r2.ints
        subst e1; subst e2; subst r3
        exact ⟨a, ns, rfl, SqL.of q2, k _ H (Same.refl _) rfl⟩
    · cases e
/-- sorted, of ints -/
def sortI (ns : List Int) : List Int := ns.mergeSort fun a b => decide (a ≤ b)
theorem sort_unique : ∀ {l m : List Int}, l.Perm m → l.Pairwise (· ≤ ·) → m.Pairwise (· ≤ ·) → l = m
  | [], m, p, _, _ => by rw [List.Perm.nil_eq p]
  | a :: l, [], p, _, _ => by have := p.length_eq; simp at this
  | a :: l, b :: m, p, hl, hm => by
    have h1 : a ≤ b := by
      rcases List.mem_cons.mp (p.mem_iff.mpr List.mem_cons_self) with e | e
      · omega
      · exact (List.pairwise_cons.mp hl).1 b e
    have h2 : b ≤ a := by
      rcases List.mem_cons.mp (p.mem_iff.mp List.mem_cons_self) with e | e
      · omega
      · exact (List.pairwise_cons.mp hm).1 a e
    have e : a = b := Int.le_antisymm h1 h2
    subst e
    rw [sort_unique (List.Perm.cons_inv p) (List.pairwise_cons.mp hl).2 (List.pairwise_cons.mp hm).2]
theorem sortI_pairwise (ns : List Int) : (sortI ns).Pairwise (· ≤ ·) := by
  have h := List.pairwise_mergeSort (le := fun (a b : Int) => decide (a ≤ b)) (fun a b c h1 h2 => by
    rw [decide_eq_true_eq] at h1 h2 ⊢; omega) (fun a b => by
    rw [Bool.or_eq_true, decide_eq_true_eq, decide_eq_true_eq]; omega) ns
  exact h.imp fun z => of_decide_eq_true z
theorem sortI_perm (ns : List Int) : (sortI ns).Perm ns := List.mergeSort_perm ns _
def sortedD : List D → Option D
  | [.lst ds] => (intsOf ds).map fun ns => .lst ((sortI ns).map D.int)
  | _ => none
theorem call_sortedD : CallV 𝓕 ca (.builtin "sorted") sortedD := by
  refine ⟨rSortedI 𝓕.K, fun j => ?_, fun Mu H ds vs d Q dm r e k => ?_⟩
  · have h := cr_sortedI (X := 𝓕.X j)
    rw [𝓕.hK j] at h
    exact h
  · unfold sortedD at e
    split at e
    · rename_i es
      cases q : intsOf es with
      | none => rw [q] at e; cases e
      | some ns =>
        rw [q] at e
        cases e
        have := intsOf_ok q
        subst this
        obtain ⟨v, e1, a, us, e2, _, q2, r2⟩ := reps1 r
        have r3 := r2.ints
        subst e1; subst e2; subst r3
        refine ⟨a, ns, rfl, SqL.of q2, fun ns' p h1 h2 hp => ?_⟩
        have : ns' = sortI ns := sort_unique (h1.trans (sortI_perm ns).symm) h2 (sortI_pairwise ns)
        rw [this]
        exact k _ _ (same_upd hp) (rep_newL (Reps.ofInts _) hp dm)
    · cases e
/-! isinstance of a built-in type -/
def tyOf : D → Option String
  | .non => some "NoneType"
  | .bl _ => some "bool"
  | .int _ => some "int"
  | .str _ => some "str"
  | .tup _ => some "tuple"
  | .lst _ => some "list"
  | _ => none
def isiM (T : String) (f : M D) : M D := bindM f fun d => match tyOf d with
  | some t => (match kitB t T with
    | some b => ret (.bl b)
    | none => fun _ => .bad)
  | none => fun _ => .bad
theorem ev_isi {T : String} {x : Str} {e : Expr} {f : M D} {p p2 : Pos} (he : Ev 𝓕 ca e f) (hm : 𝓕.mg "isinstance" = none) (hmT : 𝓕.mg x = none) (hvT : bootBuiltins x = some (.type T)) (hg : ∀ j, Gl (𝓕.X j) "isinstance" := by intro _; rfl) (hgT : ∀ j, Gl (𝓕.X j) x := by intro _; rfl)
    (hn : x ≠ "__name__" := by decide) (hdb : (x == ("__debug__" : Str)) = false := by decide) (hs2 : ∀ j, starEach [.Name x p2] (𝓕.X j).env = (false, eval (.Name x p2) (𝓕.X j).env) :: starEach [] (𝓕.X j).env := by intro _; rfl)
    (hs : ∀ j, starEach [e, .Name x p2] (𝓕.X j).env = (false, eval e (𝓕.X j).env) :: starEach [.Name x p2] (𝓕.X j).env := by intro _; rfl) (hpl : ∀ j, (backTo pos (starEach [.Name x p2] (𝓕.X j).env)).any (·.1) = false := by intro _; rfl) :
    Ev 𝓕 ca (.Call (.Name "isinstance" p) [e, .Name x p2] [] pos) (isiM T f) := by
  obtain ⟨t, a1, a2⟩ := he
  refine ⟨tCB (rIsi 𝓕.K) (tCons t (tCons (tC (.ty T)) tNil)), fun j => ?_, fun F W H σ s Q R q => ?_⟩
  · have h := call_isi (X := 𝓕.X j)
    rw [𝓕.hK j] at h
    exact pe_callB h (hg j) (by rw [𝓕.hmg j]; exact hm) (by decide +kernel) (pa_cons (a1 j) (pa_cons (pe_bltn (v := .ty T) (hgT j) (by rw [𝓕.hmg j]; exact hmT) hvT rfl hn hdb) pa_nil (hs2 j)) (hs j)) (by decide) (by decide) (hs j) (hpl j)
  · unfold isiM bindM at q
    refine a2 F W H σ s _ R (wpr_mono (wpr_bind.mp q) (fun r h v H1 x1 R1 p => ?_) fun _ _ z => z)
    obtain ⟨d, c⟩ := r
    have fin : ∀ ty : String, tyOf d = some ty → TyX 𝓕.K H1 v (.type ty) → ∃ (x c : V) (t u : Value) (b : Bool), [v, V.ty T] = [x, c] ∧ ClsV c u ∧ TyX 𝓕.K H1 x t ∧ PySem.W.kitOne 𝓕.K t u = some b ∧ Q (.bl b) H1 := fun ty e1 tx => by
      dsimp only at h
      rw [e1] at h
      dsimp only at h
      cases e2 : kitB ty T with
      | none => rw [e2] at h; exact h.elim
      | some b =>
        rw [e2] at h
        exact ⟨v, .ty T, .type ty, .type T, b, rfl, .ty T, tx, kit_ty e2, h (.bl b) H1 x1 R1 rfl⟩
    cases d with
    | non => rw [show v = _ from p] at fin ⊢; exact fin _ rfl (.base .non)
    | bl b => rw [show v = _ from p] at fin ⊢; exact fin _ rfl (.base (.bl b))
    | int i => rw [show v = _ from p] at fin ⊢; exact fin _ rfl (.base (.int i))
    | str z => rw [show v = _ from p] at fin ⊢; exact fin _ rfl (.base (.str z))
    | tup ds =>
      obtain ⟨a, vs, e1, e2, _⟩ := p
      rw [e1] at fin ⊢
      exact fin _ rfl (.base (.tup e2))
    | lst ds =>
      obtain ⟨a, vs, e1, _, e2, _⟩ := p
      rw [e1] at fin ⊢
      exact fin _ rfl (.base (.lst e2))
    | cup => exact h.elim
    | ref a => exact h.elim
end
end PL

namespace PL
open PySem PySem.Spec PyProof.Rows L2
section
variable {𝓕 : Fam} {ca : Option Addr} {pos : Pos}
/-! and, or, not as values -/
def andV (fa fb : M D) : M D := bindM fa fun x => match x with
  | .bl true => fb
  | .bl false => ret (.bl false)
  | _ => fun _ => .bad
def orV (fa fb : M D) : M D := bindM fa fun x => match x with
  | .bl true => ret (.bl true)
  | .bl false => fb
  | _ => fun _ => .bad
def notV (fa : M D) : M D := bindM fa fun x => match x with
  | .bl b => ret (.bl (!b))
  | _ => fun _ => .bad
theorem ev_one {op} {a : Expr} {fa : M D} (ha : Ev 𝓕 ca a fa) : Ev 𝓕 ca (.BoolOp op [a] pos) fa := by
  obtain ⟨t, a1, a2⟩ := ha
  exact ⟨t, fun j => pe_one (a1 j), a2⟩
theorem ev_and {a b : Expr} {rest : List Expr} {fa fb : M D} (ha : Ev 𝓕 ca a fa) (hb : Ev 𝓕 ca (.BoolOp .And (b :: rest) pos) fb) : Ev 𝓕 ca (.BoolOp .And (a :: b :: rest) pos) (andV fa fb) := by
  obtain ⟨ta, a1, a2⟩ := ha
  obtain ⟨tb, b1, b2⟩ := hb
  refine ⟨_, fun j => pe_and (a1 j) (b1 j), fun F W H σ s Q R q => ?_⟩
  unfold andV bindM at q
  refine a2 F W H σ s _ R (wpr_mono (wpr_bind.mp q) (fun r h v H1 x1 R1 p => ?_) fun _ _ z => z)
  obtain ⟨d, c⟩ := r
  cases d with
  | bl b =>
    refine ⟨b, p, ?_⟩
    cases b with
    | true =>
      rw [if_pos rfl]
      exact b2 F W H1 σ ⟨s.env, c⟩ Q R1 (wpr_mono h (fun r z => z.ext x1) fun _ _ z => z.ext x1)
    | false =>
      rw [if_neg Bool.false_ne_true]
      exact h (.bl false) H1 x1 R1 rfl
  | _ => exact h.elim
theorem ev_or {a b : Expr} {rest : List Expr} {fa fb : M D} (ha : Ev 𝓕 ca a fa) (hb : Ev 𝓕 ca (.BoolOp .Or (b :: rest) pos) fb) : Ev 𝓕 ca (.BoolOp .Or (a :: b :: rest) pos) (orV fa fb) := by
  obtain ⟨ta, a1, a2⟩ := ha
  obtain ⟨tb, b1, b2⟩ := hb
  refine ⟨_, fun j => pe_or (a1 j) (b1 j), fun F W H σ s Q R q => ?_⟩
  unfold orV bindM at q
  refine a2 F W H σ s _ R (wpr_mono (wpr_bind.mp q) (fun r h v H1 x1 R1 p => ?_) fun _ _ z => z)
  obtain ⟨d, c⟩ := r
  cases d with
  | bl b =>
    refine ⟨b, p, ?_⟩
    cases b with
    | false =>
      rw [if_neg Bool.false_ne_true]
      exact b2 F W H1 σ ⟨s.env, c⟩ Q R1 (wpr_mono h (fun r z => z.ext x1) fun _ _ z => z.ext x1)
    | true =>
      rw [if_pos rfl]
      exact h (.bl true) H1 x1 R1 rfl
  | _ => exact h.elim
theorem ev_not {a : Expr} {fa : M D} (ha : Ev 𝓕 ca a fa) : Ev 𝓕 ca (.UnaryOp .Not a pos) (notV fa) := by
  obtain ⟨ta, a1, a2⟩ := ha
  refine ⟨_, fun j => pe_not (a1 j), fun F W H σ s Q R q => ?_⟩
  unfold notV bindM at q
  refine a2 F W H σ s _ R (wpr_mono (wpr_bind.mp q) (fun r h v H1 x1 R1 p => ?_) fun _ _ z => z)
  obtain ⟨d, c⟩ := r
  cases d with
  | bl b => exact ⟨b, p, h (.bl (!b)) H1 x1 R1 rfl⟩
  | _ => exact h.elim
/-! slices -/
abbrev OM := S → Res (Option Int × List D)
def SemO (ca : Option Addr) (XA : Exn → Value → Option Addr → Hp → Prop) (E : XK) (t : TO) (f : OM) : Prop :=
  ∀ F W H σ s Q, SRep ca F W H σ s → wpr (f s) (fun r => ∀ H', Ext W H H' → SRep ca F W H' σ ⟨s.env, r.2⟩ → Q r.1 H') (ExcP ca F W H XA E) → t σ H Q
def Ov (𝓕 : Fam) (ca : Option Addr) (e : Option Expr) (f : OM) : Prop := ∃ t : TO, (∀ j, PO (𝓕.X j) e t) ∧ SemO ca 𝓕.XA 𝓕.E t f
def partM (f : M D) : OM := fun s => (f s).bind fun r => match r.1 with
  | .int i => .ok (some i, r.2)
  | _ => .bad
def noPart : OM := fun s => .ok (none, s.cup)
theorem ov_none : Ov 𝓕 ca none noPart := ⟨_, fun _ => po_none, fun F W H σ s Q R q => q H (Ext.refl _ _) R⟩
theorem ov_some {e : Expr} {f : M D} (h : Ev 𝓕 ca e f) : Ov 𝓕 ca (some e) (partM f) := by
  obtain ⟨t, a1, a2⟩ := h
  refine ⟨_, fun j => po_some (a1 j), fun F W H σ s Q R q => ?_⟩
  unfold partM at q
  refine a2 F W H σ s _ R (wpr_mono (wpr_bind.mp q) (fun r h v H1 x1 R1 p => ?_) fun _ _ z => z)
  obtain ⟨d, c⟩ := r
  cases d with
  | int i => exact ⟨i, p, h H1 x1 R1⟩
  | _ => exact h.elim
def cutD (ds : List D) (lo hi : Option Int) : List D := (ds.drop (HT.sIx ds.length 0 lo)).take (HT.sIx ds.length ds.length hi - HT.sIx ds.length 0 lo)
def slcD (d : D) (lo hi : Option Int) : Option D := match d with
  | .lst ds => some (.lst (cutD ds lo hi))
  | .tup ds => some (.tup (cutD ds lo hi))
  | .str z => if z.length ≤ sizeLine then some (.str (cutS z lo hi)) else none
  | _ => none
def slcM (f : M D) (lo hi : OM) : M D := fun s => (f s).bind fun r => (lo ⟨s.env, r.2⟩).bind fun l => (hi ⟨s.env, l.2⟩).bind fun h => match slcD r.1 l.1 h.1 with
  | some d => .ok (d, h.2)
  | none => .bad
theorem reps_cut {Mu : Addr → Prop} {H : Hp} {ds : List D} {vs : List V} {lo hi : Option Int} (h : Reps ca Mu H ds vs) : Reps ca Mu H (cutD ds lo hi) (cutV vs lo hi) := by
  unfold cutD cutV
  rw [h.length]
  exact (h.drop _).take _
theorem ev_slc {e : Expr} {lo hi : Option Expr} {f : M D} {fl fh : OM} {p2 : Pos} (he : Ev 𝓕 ca e f) (hl : Ov 𝓕 ca lo fl) (hh : Ov 𝓕 ca hi fh) : Ev 𝓕 ca (.Subscript e (.Slice lo hi none p2) pos) (slcM f fl fh) := by
  obtain ⟨te, e1, e2⟩ := he
  obtain ⟨tl, l1, l2⟩ := hl
  obtain ⟨th, h1, h2⟩ := hh
  refine ⟨tSl (fun x lo hi H Q => rSlL 𝓕.K x lo hi H Q ∨ rSlA 𝓕.K x lo hi H Q ∨ rSlS x lo hi H Q) te tl th, fun j => ?_, fun F W H σ s Q R q => ?_⟩
  · have a := sl_list (X := 𝓕.X j)
    have b := sl_tupA (X := 𝓕.X j)
    rw [𝓕.hK j] at a b
    exact pe_slice (a.or (b.or sl_str)) (e1 j) (l1 j) (h1 j)
  · unfold slcM at q
    refine e2 F W H σ s _ R (wpr_mono (wpr_bind.mp q) (fun r1 g1 v1 H1 x1 R1 p1 => ?_) fun _ _ z => z)
    refine l2 F W H1 σ ⟨s.env, r1.2⟩ _ R1 (wpr_mono (wpr_bind.mp g1) (fun r2 g2 H2 x2 R2 => ?_) fun _ _ z => z.ext x1)
    refine h2 F W H2 σ ⟨s.env, r2.2⟩ _ R2 (wpr_mono (wpr_bind.mp g2) (fun r3 g3 H3 x3 R3 => ?_) fun _ _ z => z.ext (x1.trans x2))
    obtain ⟨d, c⟩ := r1
    dsimp only at g3 p1
    have p3 := R2.rep x3 (R1.rep x2 p1)
    have xx := (x1.trans x2).trans x3
    cases d with
    | lst ds =>
      obtain ⟨a, vs, e, n, q1, q2⟩ := p3
      refine .inl ⟨a, vs, e, SqL.of q1, fun p hp => ?_⟩
      exact g3 _ _ (xx.trans (Ext.upd hp)) (R3.same (same_upd hp)) (rep_newL (reps_cut q2) hp R3.dom)
    | tup ds =>
      obtain ⟨a, vs, e, q1, q2⟩ := p3
      refine .inr (.inl ⟨a, vs, e, SqT.of q1, fun z => ?_, fun _ p hp => ?_⟩)
      · have ee : cutD ds r2.1 r3.1 = ds := by
          unfold cutD
          rw [q2.length] at z
          rw [z.1, z.2, List.drop_zero, Nat.sub_zero, List.take_length]
        have g4 : PostE ca F W H σ s.env Q (.tup (cutD ds r2.1 r3.1), r3.2) := g3
        rw [ee] at g4
        exact g4 _ H3 xx R3 ⟨a, vs, rfl, q1, q2⟩
      · exact g3 _ _ (xx.trans (Ext.upd hp)) (R3.same (same_upd hp)) (rep_newT (reps_cut q2) hp)
    | str z =>
      refine .inr (.inr ⟨z, p3, ?_⟩)
      unfold slcD at g3
      dsimp only at g3
      split at g3
      · rename_i d2 e2
        split at e2
        · rename_i hz
          cases e2
          exact ⟨hz, g3 _ H3 xx R3 rfl⟩
        · cases e2
      · exact g3.elim
    | _ => exact g3.elim
/-! three names at once -/
def par3 (i j l : Nat) (f : M (List D)) : S → Res Fl := fun s => (f s).bind fun r => match r.1 with
  | [x, y, z] => .ok (.nx ⟨((s.env.set i (.val x)).set j (.val y)).set l (.val z), r.2⟩)
  | _ => .bad
theorem sv_par3 {i j l : Nat} {x y z : Str} {a b c : Expr} {f : M (List D)} {px py pz pt : Pos} {kt k2 pt2} (ha : Av 𝓕 ca [a, b, c] f) (hij : i ≠ j := by decide) (hil : i ≠ l := by decide) (hjl : j ≠ l := by decide) (hi : 𝓕.N[i]? = some x := by rfl) (hj : 𝓕.N[j]? = some y := by rfl) (hl : 𝓕.N[l]? = some z := by rfl)
    (hx : ∀ j, (𝓕.X j).env.scope.names.lookup x = some .local := by intro _; rfl) (hy : ∀ j, (𝓕.X j).env.scope.names.lookup y = some .local := by intro _; rfl) (hz : ∀ j, (𝓕.X j).env.scope.names.lookup z = some .local := by intro _; rfl)
    (hw : ∀ j, swappedStores [.Tuple [.Name x px, .Name y py, .Name z pz] kt pt] (.Tuple [a, b, c] k2 pt2) (𝓕.X j).env = pure (some [x, y, z]) := by intro _; rfl)
    (hs : ∀ j, swapsWithSole [.Tuple [.Name x px, .Name y py, .Name z pz] kt pt] (.Tuple [a, b, c] k2 pt2) pos.line (𝓕.X j).env = pure false := by intro _; rfl) :
    Sv 𝓕 ca (.Assign [.Tuple [.Name x px, .Name y py, .Name z pz] kt pt] (.Tuple [a, b, c] k2 pt2) pos) (par3 i j l f) := by
  obtain ⟨t, a1, a2, _⟩ := ha
  refine ⟨_, fun m => ps_par3 (𝓕.calm m) (by rw [𝓕.hN m]; exact 𝓕.nd) (by rw [𝓕.hN m]; exact hi) (by rw [𝓕.hN m]; exact hj) (by rw [𝓕.hN m]; exact hl) hij hil hjl (hx m) (hy m) (hz m) (a1 m) (hw m) (hs m), fun F W H σ s Dn R q => ?_⟩
  unfold par3 at q
  refine a2 F W H σ s _ R (wpr_mono (wpr_bind.mp q) (fun r h vs H1 x1 R1 p => ?_) fun _ _ z => z)
  obtain ⟨ds, s1⟩ := r
  match ds, h, p with
  | [d, e, g], h, p =>
    obtain ⟨v, vr, e1, p1, w, wr, e2, p2, u, ur, e3, p3, e4⟩ := p
    subst e1; subst e2; subst e3
    have e4 : ur = [] := e4
    subst e4
    exact ⟨v, w, u, rfl, h W H1 _ (.ext x1) (((R1.set p1).set p2).set p3)⟩
/-! what is never reached -/
def badS : S → Res Fl := fun _ => .bad
theorem sv_never {st : Stmt} : Sv 𝓕 ca st badS := ⟨_, fun _ => ps_never, fun _ _ _ _ _ _ _ q => q.elim⟩
/-- raise of an own class without fields -/
def XAof (mg : Str → Option Value) : Exn → Value → Option Addr → Hp → Prop := fun x cls dx H => ∃ C, mg x.cls = some (.ref C) ∧ cls = .ref C ∧ (match x.arg with
  | [] => True
  | [d] => ∃ a i, dx = some a ∧ d = .int i ∧ H a = some (.xd [("sign", .int i)])
  | _ => False)
end
/-! the law's end -/
/-- the module's facts of a def -/
structure FnK (P : Program) (w : World) (K : PySem.W.Frag) (mg : Str → Option Value) (base : Heap) (x : Str) (n k : Nat) (m : Fn) : Prop where
  ex : ∃ (f : Addr) (fd : FuncData) (ps : List Str), FnOk P w K mg base (L2.CX P w) k f fd ps (spOf (XAof mg) n m) ∧ mg x = some (.ref f) ∧ PySem.W.keepIn K (.ref f) = true ∧ Binds K fd ps []
theorem FnK.fv {P : Program} {w : World} {K : PySem.W.Frag} {mg : Str → Option Value} {base : Heap} {x : Str} {n k : Nat} {m : Fn} (h : FnK P w K mg base x n k m) {𝓕 : Fam} (hk : k ≤ 𝓕.k := by exact Nat.le_of_ble_eq_true rfl) (h1 : 𝓕.P = P := by rfl) (h2 : 𝓕.w = w := by rfl) (h3 : 𝓕.K = K := by rfl) (h4 : 𝓕.mg = mg := by rfl) (h5 : 𝓕.base = base := by rfl) (h6 : 𝓕.CX = L2.CX P w := by rfl) (h7 : 𝓕.XA = XAof mg := by rfl) : FnV 𝓕 x n m := by
  obtain ⟨f, fd, ps, a, b, c, d⟩ := h.ex
  refine ⟨f, fd, ps, k, ?_, hk, by rw [h4]; exact b, by rw [h3]; exact c, by rw [h3]; exact d⟩
  rw [h1, h2, h3, h4, h5, h6, h7]
  exact a
/-- a def of the text, by its head's facts -/
structure DefF (K : PySem.W.Frag) (mg : Str → Option Value) (x : Str) (st : Stmt) (ps : List Str) : Prop where
  ex : ∃ (f : Addr) (fd : FuncData), Fun K x x st f fd ∧ mg x = some (.ref f) ∧ Binds K fd ps []
theorem fnk {P : Program} {w : World} {K : PySem.W.Frag} {mg : Str → Option Value} {base : Heap} {x : Str} {st : Stmt} {N ps : List Str} {k : Nat} {fb : S → Res Fl} (h : DefF K mg x st ps) (Sc : FnScope N ps (defScope st))
    (hb : ∀ (f : Addr) (ca : Option Addr) (cdv : Value) (A : Around) (outer : List Env) (s : Shared) (H : Hp) (E : XK) (hr : Room k (A.deeper (envOfC x (defScope st) s.heap.objs.size f cdv))), Bv (famB P w K mg base N x (defScope st) f cdv A outer s H E (XAof mg) k Sc.nd hr) ca (defBody st) fb) :
    FnK P w K mg base x ps.length (k + 1) (runB N.length fb) := by
  obtain ⟨f, fd, F, hm, b⟩ := h.ex
  exact ⟨f, fd, ps, fn_mk F Sc (hb f), hm, F.kp, b⟩
/-- nothing is promised -/
theorem fnk0 {P : Program} {w : World} {K : PySem.W.Frag} {mg : Str → Option Value} {base : Heap} {x : Str} {st : Stmt} {ps : List Str} {n k : Nat} (h : DefF K mg x st ps) (hn : n = ps.length) : FnK P w K mg base x n k (fun _ _ => .bad) := by
  obtain ⟨f, fd, F, hm, b⟩ := h.ex
  refine ⟨f, fd, ps, ⟨fun vs H Q E q => by rw [q.1, hn], fun A outer s H args us vs Q E hr he hb hv hs => ?_⟩, hm, F.kp, b⟩
  obtain ⟨_, _, _, _, _, _, _, _, z⟩ := hs
  exact z.elim
section
variable {𝓕 : Fam} {ca : Option Addr} {pos : Pos}
def strD : List D → Option D
  | [.int i] => if i.natAbs.log2 < 1920 then some (.str (toString i)) else none
  | _ => none
theorem call_strD : CallV 𝓕 ca (.type "str") strD := by
  refine ⟨_, fun j => call_str_int, fun Mu H ds vs d Q dm r e k => ?_⟩
  unfold strD at e
  split at e
  · split at e
    · rename_i hz
      cases e
      obtain ⟨v, e1, e2⟩ := reps1 r
      exact ⟨_, by rw [e1, show v = _ from e2], hz, k _ H (Same.refl _) rfl⟩
    · cases e
  · cases e
theorem rangeSize_nn (i j k : Int) : 0 ≤ Builtin.Range.rangeSize i j k := by
  unfold Builtin.Range.rangeSize
  split
  · split
    · have := Int.ediv_nonneg (show 0 ≤ j - i - 1 by omega) (show 0 ≤ k by omega)
      omega
    · omega
  · split
    · have := Int.ediv_nonneg (show 0 ≤ i - j - 1 by omega) (show 0 ≤ -k by omega)
      omega
    · omega
end
end PL

namespace PL
open PySem PySem.Spec PyProof.Rows L2
/-! the head's facts: defs, names that are free, ints, texts, and built-ins that the top has brought in -/
abbrev Bl := Str × String
def blOk (K : PySem.W.Frag) (p : Bl) : Bool := He.eqO (PySem.W.nsIn K mainGlobals p.1) (some (some (.builtin p.2)))
abbrev AlP : Type := Bool × He.Al
def obsP (fa : List He.Fa) (fn : List He.FnD) (bl : List Bl) (K : PySem.W.Frag) : AlP := (bl.all fun p => blOk K p, He.obsE fa fn K)
def valP (fn : List He.FnD) : AlP := (true, He.valE fn)
def SaysP (fa : List He.Fa) (fn : List He.FnD) (bl : List Bl) (K : PySem.W.Frag) : Prop := obsP fa fn bl K = valP fn
def obsPG (n : Nat) (fa : List He.Fa) (fn : List He.FnD) (bl : List Bl) (g : Addr → Option Obj) : AlP := obsP fa fn bl (He.frG g (He.asG g n))
def hookP (n : Nat) (fa : List He.Fa) (fn : List He.FnD) (bl : List Bl) : PySem.W.Hook where
  α := AlP
  obs := fun s => obsPG n fa fn bl s.heap.get?
  val := fun _ => valP fn
  says := fun _ h => ∃ K : PySem.W.Frag, K.In h ∧ SaysP fa fn bl K
  of := fun _ _ e => ⟨_, He.frG_in, e⟩
  keeps := fun _ _ _ ⟨K, a, c⟩ k => ⟨K, PySem.W.Frag.In.keeps a k, c⟩
theorem obsPG_eq {n : Nat} {fa : List He.Fa} {fn : List He.FnD} {bl : List Bl} {g : Addr → Option Obj} {s : Shared} (h : ∀ a, g a = s.heap.get? a) : obsPG n fa fn bl g = (hookP n fa fn bl).obs s := by
  have e : g = s.heap.get? := funext h
  rw [e] <;> rfl
section
variable {fa : List He.Fa} {fn : List He.FnD} {bl : List Bl} {K : PySem.W.Frag} {h : Heap} {mg : Str → Option Value}
theorem SaysP.e (c : SaysP fa fn bl K) : He.SaysE fa fn K := congrArg (fun z : AlP => z.2) c
theorem SaysP.blt (c : SaysP fa fn bl K) (X : K.In h) (G : h.Ns mainGlobals mg) (i : Nat) {p : Bl} (e : bl[i]? = some p := by rfl) : mg p.1 = some (.builtin p.2) := by
  have c1 : (bl.all fun p => blOk K p) = true := congrArg (fun z : AlP => z.1) c
  exact PySem.W.mg_of X G (He.eqO_ok (List.all_eq_true.mp c1 p (List.mem_of_getElem? e)))
def fnD (x : Str) (st : Stmt) : He.FnD := ⟨(x, none), x, x, defArgs st, defBody st, defScope st⟩
theorem SaysP.defF (c : SaysP fa fn bl K) (X : K.In h) (G : h.Ns mainGlobals mg) {x : Str} {st : Stmt} {ps : List Str} (i j m : Nat) (e1 : fn[i]? = some (fnD x st) := by rfl) (e2 : fa[j]? = some (.glo x) := by rfl) (e3 : fa[m]? = some (.keep x) := by rfl)
    (hb : ∀ (kV doc pm : Value) (an : Option Addr) (cdv ct : Value) (us : List Value), us.length = ps.length → bindArgs (PySem.W.fnOf x x (defArgs st) (defBody st) (defScope st) .none kV doc pm an cdv ct) ⟨us, []⟩ = pure (ps.zip us)) : DefF K mg x st ps := by
  obtain ⟨oc, od, osl, kV, doc, pm, an, cdv, ct, l, q⟩ := c.e.def_ i e1
  have k := He.keep_ok (c.e.fact m e3)
  have g := He.glo_ok X G (c.e.fact j e2)
  have F := fun_mk (st := st) (x := x) (qual := x) l q k
  exact ⟨_, _, F, g, F.binds hb⟩
end
/-! the cup of a law -/
/-- the first cell -/
def cell0 (ns : List Int) : Int := if ns.headD 0 < 0 then -(ns.headD 0) else ns.headD 0
def cupX (a : Int) (ns : List Int) : Int := if cell0 ns ≥ 10 ^ 18 then cell0 ns / a else 0
def cupY (b c m d : Int) (ns : List Int) : Int := (cell0 ns * b + c) % m + d
def spCup (K : PySem.W.Frag) (a b c m d : Int) : Sp := fun vs H Q _ => ∃ (ad : Addr) (ns : List Int), vs = [.ref ad] ∧ SqL K H ad (ns.map V.int) ∧ ns.length ≤ 63 ∧
  ∀ (p : Addr) (H' : Hp), Same H H' → H' p = none → Q (.ref p) (upd H' p (.lst [.int (cupX a ns), .int (cupY b c m d ns)]))
theorem head_at (ns : List Int) : atI (ns.map V.int ++ [V.int 0]) 0 = some (V.int (ns.headD 0)) := by
  cases ns with
  | nil => rfl
  | cons n ns => exact atI_nat (j := 0) rfl
/-- the state behind the cup's making -/
theorem srep_law {H : Hp} {p a : Addr} {x y : Int} {n : Nat} (h : H p = some (.lst [.int x, .int y])) :
    SRep (some p) (fun _ => False) (cupW (some p)) H (some (.ref a) :: some (.ref p) :: List.replicate n none) ⟨.un :: .val .cup :: List.replicate n .un, [.int x, .int y]⟩ where
  len := by simp
  slot := fun i d e => by
    match i, e with
    | 0, e => cases e
    | 1, e =>
      cases e
      exact ⟨.ref p, rfl, p, rfl, rfl⟩
    | i + 2, e =>
      have e : (List.replicate n Slot.un)[i]? = some (.val d) := e
      rw [List.getElem?_replicate] at e
      split at e <;> cases e
  own := fun i es e => by
    match i, e with
    | 0, e => cases e
    | 1, e => cases e
    | i + 2, e =>
      have e : (List.replicate n Slot.un)[i]? = some (.own es) := e
      rw [List.getElem?_replicate] at e
      split at e <;> cases e
  inj := fun i j es fs b e _ _ _ => by
    match i, e with
    | 0, e => cases e
    | 1, e => cases e
    | i + 2, e =>
      have e : (List.replicate n Slot.un)[i]? = some (.own es) := e
      rw [List.getElem?_replicate] at e
      split at e <;> cases e
  cup := fun b e => by
    cases e
    exact ⟨rfl, _, h, ⟨V.int x, [V.int y], rfl, rfl, V.int y, [], rfl, rfl, rfl⟩⟩
  wl := fun b e => by
    cases (show some p = some b from e)
    exact ⟨_, h⟩
  fl := fun _ z => z.elim
theorem pss_any {X : Cx} {st : List Stmt} : PSs X st (fun Dn σ H => ∃ t, PSs X st t ∧ t Dn σ H) := ⟨fun pins s σ H Dn I h => by
  obtain ⟨t, a, b⟩ := h
  exact a.run pins s σ H Dn I b⟩
def spLaw (K : PySem.W.Frag) : Sp := fun vs H Q _ => ∃ (a : Addr) (ns : List Int), vs = [.ref a] ∧ SqL K H a (ns.map V.int) ∧ ns.length ≤ 63 ∧ ∀ H', Q (.bl true) H'
end PL

namespace PL
open PySem PySem.Spec PyProof.Rows L2
/-! the end: from the head's facts to the walk of a law -/
theorem walkX {l : PySem.W.OpenLaw} {n k : Nat} {q : Program} {loose : List Str} {XP : (Str → Option Value) → Heap → Prop} {YP : World → Heap → Prop} {d : DefRec} {K : Params → PySem.W.Frag}
    (hn : l.most = some n) (hn2 : n ≤ 63) (hdf : d.params.defaults = []) (hr : Room k callerA)
    (hY : ∀ (w : World) (h : Heap), YP w h → (K w.params).In h)
    (F : ∀ (w : World) (mg : Str → Option Value) (fa : Addr) (h : Heap), (K w.params).In h → h.Ns mainGlobals mg → mg d.name = some (.ref fa) →
      ∃ fd : FuncData, (∀ (s : Shared) (u : Value), BindsTo s fd ⟨[u], []⟩ [("script", u)]) ∧
        ∀ base : Heap, FnOk l.prog w (K w.params) mg base (L2.CX l.prog w) k fa fd ["script"] (spLaw (K w.params))) :
    PySem.W.WalkO q loose XP YP l.row.toRowW d [] (fun f vs => PySem.call f vs) := by
  refine L2.walk_of (x := "script") (K := K) (CX := fun w => L2.CX l.prog w) (sp := fun w => spLaw (K w.params)) hn (Nat.le_trans hn2 (by decide)) hdf hr hY (fun w mg fa h a b c => ?_) (fun w H a ns hl _ hS => ⟨a, ns, rfl, hS, Nat.le_trans hl hn2, fun _ => rfl⟩) (fun w H s e s' z => ?_)
  · obtain ⟨fd, h1, h2⟩ := F w mg fa h a b c
    exact ⟨fd, h1, fun base _ _ => h2 base⟩
  · obtain ⟨_, _, _, _, _, _, _, _, _, _, _, _, z⟩ := z
    exact z
theorem then_ {A B : Prop} (a : A) (f : A → B) : B := f a
section
variable {K : PySem.W.Frag} {h : Heap} {mg : Str → Option Value}
theorem mkDef (X : K.In h) (G : h.Ns mainGlobals mg) {x : Str} {st : Stmt} {ps : List Str} {f : Addr} {oc : Value} {od an : Option Addr} {osl : Array (Option Value)} {kV doc pm cdv ct : Value}
    (g : PySem.W.nsIn K mainGlobals x = some (some (.ref f)))
    (l : K.lookup f = some ⟨oc, od, .func (PySem.W.fnOf x x (defArgs st) (defBody st) (defScope st) .none kV doc pm an cdv ct), osl⟩)
    (c : PySem.W.codeIn K cdv x = true) (k : PySem.W.keepIn K (.ref f) = true)
    (hb : ∀ (kV doc pm : Value) (an : Option Addr) (cdv ct : Value) (us : List Value), us.length = ps.length → bindArgs (PySem.W.fnOf x x (defArgs st) (defBody st) (defScope st) .none kV doc pm an cdv ct) ⟨us, []⟩ = pure (ps.zip us)) : DefF K mg x st ps :=
  ⟨⟨_, _, fun_mk l c k, PySem.W.mg_of X G g, (fun_mk l c k).binds hb⟩⟩
theorem mkInt (X : K.In h) (G : h.Ns mainGlobals mg) {x : Str} {n m : Int} {t : Tok} (e : PySem.W.nsIn K mainGlobals x = some (some (.int n t))) (q : n = m) : ∃ t, mg x = some (.int m t) := ⟨t, by rw [PySem.W.mg_of X G e, q]⟩
theorem mkStr (X : K.In h) (G : h.Ns mainGlobals mg) {x : Str} {n m : Str} {t : Tok} (e : PySem.W.nsIn K mainGlobals x = some (some (.str n t))) (q : n = m) : ∃ t, mg x = some (.str m t) := ⟨t, by rw [PySem.W.mg_of X G e, q]⟩
end
/-- the law's def: the one that the head has made -/
theorem law_mk {P : Program} {w : World} {K : PySem.W.Frag} {h : Heap} {mg : Str → Option Value} {fa : Addr} {st : Stmt} {k : Nat} (X : K.In h) (G : h.Ns mainGlobals mg) (hm : mg "law" = some (.ref fa))
    {f : Addr} {oc : Value} {od an : Option Addr} {osl : Array (Option Value)} {kV doc pm cdv ct : Value}
    (g : PySem.W.nsIn K mainGlobals "law" = some (some (.ref f)))
    (l : K.lookup f = some ⟨oc, od, .func (PySem.W.fnOf "law" "law" (defArgs st) (defBody st) (defScope st) .none kV doc pm an cdv ct), osl⟩)
    (c : PySem.W.codeIn K cdv "law" = true) (k' : PySem.W.keepIn K (.ref f) = true)
    (hb : ∀ (kV doc pm : Value) (an : Option Addr) (cdv ct : Value) (us : List Value), us.length = 1 → bindArgs (PySem.W.fnOf "law" "law" (defArgs st) (defBody st) (defScope st) .none kV doc pm an cdv ct) ⟨us, []⟩ = pure ((["script"] : List Str).zip us))
    (F : ∀ (f : Addr) (fd : FuncData), Fun K "law" "law" st f fd → ∀ base, FnOk P w K mg base (L2.CX P w) k f fd ["script"] (spLaw K)) :
    ∃ fd : FuncData, (∀ (s : Shared) (u : Value), BindsTo s fd ⟨[u], []⟩ [("script", u)]) ∧ ∀ base : Heap, FnOk P w K mg base (L2.CX P w) k fa fd ["script"] (spLaw K) := by
  have e := hm.symm.trans (PySem.W.mg_of X G g)
  cases e
  exact ⟨_, fun s u => .of_eq (hb _ _ _ _ _ _ [u] rfl), fun base => F _ _ (fun_mk l c k') base⟩
end PL

namespace PL
open PySem PySem.Spec PyProof.Rows L2
/-! plain functions, evaluated -/
section
variable {α β : Type} {s : S} {env : List Slot} {c : List D}
@[simp] theorem bind_ok {a : α} {f : α → Res β} : (Res.ok a).bind f = f a := rfl
@[simp] theorem nox_ok' {a : α} : (Res.ok a).nox = .ok a := rfl
@[simp] theorem bindM_ap {f : M α} {g : α → M β} : bindM f g s = (f s).bind fun r => g r.1 ⟨s.env, r.2⟩ := rfl
@[simp] theorem ret_ap {a : α} : ret a s = .ok (a, s.cup) := rfl
@[simp] theorem lift_some {a : α} : lift (some a) s = .ok (a, s.cup) := rfl
@[simp] theorem getv_0 {d : D} {r : List Slot} : getv 0 ⟨.val d :: r, c⟩ = .ok (d, c) := rfl
@[simp] theorem getv_s {i : Nat} {x : Slot} {r : List Slot} : getv (i + 1) ⟨x :: r, c⟩ = getv i ⟨r, c⟩ := rfl
@[simp] theorem op2_ap {g : D → D → Option D} {fa fb : M D} : op2 g fa fb s = (fa s).bind fun r => (fb ⟨s.env, r.2⟩).bind fun q => lift (g r.1 q.1) ⟨s.env, q.2⟩ := rfl
@[simp] theorem asB_ap {f : M D} : asB f s = (f s).bind fun r => (match r.1 with | .bl b => ret b | _ => fun _ => .bad : M Bool) ⟨s.env, r.2⟩ := rfl
theorem asB_e {f : M D} {b : Bool} {c' : List D} (h : f s = .ok (.bl b, c')) : asB f s = .ok (b, c') := by rw [asB_ap, h]; rfl
@[simp] theorem andT_ap {fa fb : M Bool} : andT fa fb s = (fa s).bind fun r => if r.1 = true then fb ⟨s.env, r.2⟩ else .ok (false, r.2) := by
  show (fa s).bind _ = _
  congr 1; funext r; show (if r.1 = true then fb else ret false) _ = _; split <;> rfl
@[simp] theorem orT_ap {fa fb : M Bool} : orT fa fb s = (fa s).bind fun r => if r.1 = true then .ok (true, r.2) else fb ⟨s.env, r.2⟩ := by
  show (fa s).bind _ = _
  congr 1; funext r; show (if r.1 = true then ret true else fb) _ = _; split <;> rfl
@[simp] theorem notT_ap {fa : M Bool} : notT fa s = (fa s).bind fun r => .ok (!r.1, r.2) := rfl
@[simp] theorem iteM_ap {b : M Bool} {fa fb : M α} : iteM b fa fb s = (b s).bind fun r => if r.1 = true then fa ⟨s.env, r.2⟩ else fb ⟨s.env, r.2⟩ := by
  show (b s).bind _ = _
  congr 1; funext r; show (if r.1 = true then fa else fb) _ = _; split <;> rfl
@[simp] theorem consA_ap {fa : M D} {fr : M (List D)} : consA fa fr s = (fa s).bind fun r => (fr ⟨s.env, r.2⟩).bind fun q => .ok (r.1 :: q.1, q.2) := rfl
@[simp] theorem tupM_ap {f : M (List D)} : tupM f s = (f s).bind fun r => .ok (.tup r.1, r.2) := rfl
@[simp] theorem lstM_ap {f : M (List D)} : lstM f s = (f s).bind fun r => .ok (.lst r.1, r.2) := rfl
@[simp] theorem callM_ap {g : List D → Option D} {f : M (List D)} : callM g f s = (f s).bind fun r => lift (g r.1) ⟨s.env, r.2⟩ := rfl
@[simp] theorem fnM_ap {m : Fn} {f : M (List D)} : fnM m f s = (f s).bind fun r => m r.1 r.2 := rfl
theorem seqS_ap {f g : S → Res Fl} : seqS f g s = (f s).bind fun r => (match r with | .nx s' => g s' | r => .ok r) := by
  show (f s).bind _ = _
  congr 1
@[simp] theorem skipS_ap : skipS s = .ok (.nx s) := rfl
@[simp] theorem retS_ap {f : M D} : retS f s = (f s).bind fun r => .ok (.rt r.1 r.2) := rfl
@[simp] theorem exprS_ap {f : M D} : exprS f s = (f s).bind fun r => .ok (.nx ⟨s.env, r.2⟩) := rfl
@[simp] theorem ifS_ap {b : M Bool} {f g : S → Res Fl} : ifS b f g s = (b s).bind fun r => if r.1 = true then f ⟨s.env, r.2⟩ else g ⟨s.env, r.2⟩ := rfl
@[simp] theorem setv_ap {i : Nat} {d : D} : setv i d s = .ok { s with env := s.env.set i (.val d) } := rfl
@[simp] theorem setNil_ap : setNil [] s = .ok s := rfl
@[simp] theorem setCons_ap {f : D → S → Res S} {g : List D → S → Res S} {d : D} {ds : List D} : setCons f g (d :: ds) s = (f d s).bind fun s1 => g ds s1 := rfl
@[simp] theorem asgS_ap {f : M D} {g : D → S → Res S} : asgS f g s = (f s).bind fun r => (g r.1 ⟨s.env, r.2⟩).bind fun s' => .ok (.nx s') := rfl
@[simp] theorem srcM_ap {f : M D} : srcM f s = (f s).bind fun r => lift (itemsD r.1) ⟨s.env, r.2⟩ := rfl
@[simp] theorem srcA_ap {g : List D → Option (List D)} {f : M (List D)} : srcA g f s = (f s).bind fun r => lift (g r.1) ⟨s.env, r.2⟩ := rfl
@[simp] theorem items_lst {ds : List D} : itemsD (.lst ds) = some ds := rfl
@[simp] theorem items_tup {ds : List D} : itemsD (.tup ds) = some ds := rfl
theorem forS_ap {src : M (List D)} {tgt : D → S → Res S} {body : S → Res Fl} : forS src tgt body s = (src s).bind fun r => forL tgt body r.1 ⟨s.env, r.2⟩ := rfl
theorem lcM_ap {vs : List Nat} {src : M (List D)} {tgt : D → S → Res S} {test : M Bool} {elt : M D} : lcM vs src tgt test elt s = (src s).bind fun r => if noOwn s.env vs = true ∧ r.1.length ≤ sizeLine then lcL vs tgt test elt r.1 ⟨s.env, r.2⟩ [] else .bad := rfl
@[simp] theorem andV_ap {fa fb : M D} : andV fa fb s = (fa s).bind fun r => (match r.1 with | .bl true => fb | .bl false => ret (.bl false) | _ => fun _ => .bad : M D) ⟨s.env, r.2⟩ := rfl
@[simp] theorem orV_ap {fa fb : M D} : orV fa fb s = (fa s).bind fun r => (match r.1 with | .bl true => ret (.bl true) | .bl false => fb | _ => fun _ => .bad : M D) ⟨s.env, r.2⟩ := rfl
@[simp] theorem notV_ap {fa : M D} : notV fa s = (fa s).bind fun r => (match r.1 with | .bl b => ret (.bl (!b)) | _ => fun _ => .bad : M D) ⟨s.env, r.2⟩ := rfl
@[simp] theorem negM_ap {fa : M D} : negM fa s = (fa s).bind fun r => (match r.1 with | .int i => ret (.int (-i)) | _ => fun _ => .bad : M D) ⟨s.env, r.2⟩ := rfl
@[simp] theorem addD_int {i j : Int} : addD (.int i) (.int j) = some (.int (i + j)) := rfl
@[simp] theorem subD_int {i j : Int} : subD (.int i) (.int j) = some (.int (i - j)) := rfl
@[simp] theorem mulD_int {i j : Int} (h : cMul i j = true) : mulD (.int i) (.int j) = some (.int (i * j)) := if_pos h
@[simp] theorem fdivD_int {i j : Int} (h : 0 < j) (h' : j < 18446744073709551616) : fdivD (.int i) (.int j) = some (.int (i / j)) := if_pos (by unfold cDiv; rw [Bool.and_eq_true, decide_eq_true_eq, decide_eq_true_eq]; exact ⟨h, h'⟩)
@[simp] theorem modD_int {i j : Int} (h : 0 < j) : modD (.int i) (.int j) = some (.int (i % j)) := if_pos (by unfold cMod; exact decide_eq_true h)
@[simp] theorem ltD_int {i j : Int} : ltD (.int i) (.int j) = some (.bl (decide (i < j))) := rfl
@[simp] theorem leD_int {i j : Int} : leD (.int i) (.int j) = some (.bl (decide (i ≤ j))) := rfl
@[simp] theorem gtD_int {i j : Int} : gtD (.int i) (.int j) = some (.bl (decide (j < i))) := rfl
@[simp] theorem geD_int {i j : Int} : geD (.int i) (.int j) = some (.bl (decide (j ≤ i))) := rfl
@[simp] theorem eqD_int {i j : Int} : eqD (.int i) (.int j) = some (.bl (decide (i = j))) := rfl
@[simp] theorem neD_int {i j : Int} : neD (.int i) (.int j) = some (.bl (!decide (i = j))) := rfl
@[simp] theorem eqD_bl {i j : Bool} : eqD (.bl i) (.bl j) = some (.bl (decide (i = j))) := rfl
@[simp] theorem neD_bl {i j : Bool} : neD (.bl i) (.bl j) = some (.bl (!decide (i = j))) := rfl
@[simp] theorem lenD_tup {ds : List D} : lenD [.tup ds] = some (.int ds.length) := rfl
@[simp] theorem lenD_lst {ds : List D} : lenD [.lst ds] = some (.int ds.length) := rfl
@[simp] theorem intD_int {i : Int} : intD [.int i] = some (.int i) := rfl
def gcdI (a b : Int) : Int := ((Nat.gcd a.natAbs b.natAbs : Nat) : Int)
theorem gcd_pos {a b : Int} (h : 0 < a) : 0 < gcdI a b := by
  have : 0 < a.natAbs.gcd b.natAbs := Nat.gcd_pos_of_pos_left _ (Int.natAbs_pos.mpr (by omega))
  unfold gcdI
  omega
theorem gcd_dl (a b : Int) : gcdI a b ∣ a := PySem.W.mg_dvd_left a b
theorem gcd_dr (a b : Int) : gcdI a b ∣ b := PySem.W.mg_dvd_right a b
theorem gcd_le {a b : Int} (h : 0 < a) : gcdI a b ≤ a := Int.le_of_dvd h (gcd_dl a b)
@[simp] theorem gcdD_int {i j : Int} : gcdD [.int i, .int j] = some (.int (gcdI i j)) := rfl
@[simp] theorem maxD_2 {i j : Int} : maxD [.int i, .int j] = some (.int (if j > i then j else i)) := rfl
@[simp] theorem isD_bl {i j : Bool} : isD (.bl i) (.bl j) = some (.bl (decide (i = j))) := rfl
@[simp] theorem isnotD_bl {i j : Bool} : isnotD (.bl i) (.bl j) = some (.bl (!decide (i = j))) := rfl
@[simp] theorem isD_non {d : D} : isD d .non = some (.bl (isNon d)) := by cases d <;> rfl
@[simp] theorem isnotD_non {d : D} : isnotD d .non = some (.bl (!isNon d)) := by cases d <;> rfl
@[simp] theorem isNon_non : isNon .non = true := rfl
@[simp] theorem isNon_int {i : Int} : isNon (.int i) = false := rfl
@[simp] theorem isNon_tup {i : List D} : isNon (.tup i) = false := rfl
@[simp] theorem isNon_lst {i : List D} : isNon (.lst i) = false := rfl
@[simp] theorem isNon_bl {i : Bool} : isNon (.bl i) = false := rfl
@[simp] theorem isNon_str {i : Str} : isNon (.str i) = false := rfl
/-- two lists are alike as lists that are empty -/
theorem eqD_nil {ds : List D} (h : dOk 60 (.lst ds) = true) : eqD (.lst ds) (.lst []) = some (.bl ds.isEmpty) := by
  show (if (dOk 60 (.lst ds) && dOk 60 (.lst [])) = true then some (D.bl (dEq (.lst ds) (.lst []))) else none) = _
  rw [if_pos (by rw [h]; rfl)]
  cases ds with
  | nil => rfl
  | cons d ds => rfl
theorem neD_nil {ds : List D} (h : dOk 60 (.lst ds) = true) : neD (.lst ds) (.lst []) = some (.bl (!ds.isEmpty)) := by
  show (if (dOk 60 (.lst ds) && dOk 60 (.lst [])) = true then some (D.bl (!dEq (.lst ds) (.lst []))) else none) = _
  rw [if_pos (by rw [h]; rfl)]
  cases ds with
  | nil => rfl
  | cons d ds => rfl
theorem dOks_all {n : Nat} : ∀ {ds : List D}, (∀ d ∈ ds, dOk n d = true) → dOks n ds = true
  | [], _ => by rw [dOks]
  | d :: ds, h => by rw [dOks, h d List.mem_cons_self, dOks_all fun e he => h e (List.mem_cons_of_mem _ he)]; rfl
theorem dOk_lst {n : Nat} {ds : List D} (h : ∀ d ∈ ds, dOk n d = true) : dOk (n + 1) (.lst ds) = true := by rw [dOk]; exact dOks_all h
theorem dOk_tup {n : Nat} {ds : List D} (h : ∀ d ∈ ds, dOk n d = true) : dOk (n + 1) (.tup ds) = true := by rw [dOk]; exact dOks_all h
@[simp] theorem dOk_int {n : Nat} {i : Int} : dOk n (.int i) = true := by rw [dOk]
@[simp] theorem dOk_bl {n : Nat} {i : Bool} : dOk n (.bl i) = true := by rw [dOk]
/-! subscripts -/
theorem atI_nat {α : Type} {xs : List α} {i : Nat} (h : i < xs.length) : L2.atI xs (i : Int) = some xs[i] := by
  unfold L2.atI ixN
  simp [h]
theorem atI_of {α : Type} {xs : List α} {i : Int} {d : α} (h0 : 0 ≤ i) (h : xs[i.toNat]? = some d) : L2.atI xs i = some d := by
  obtain ⟨h1, h2⟩ := List.getElem?_eq_some_iff.mp h
  have e : i = (i.toNat : Int) := by omega
  rw [e, atI_nat h1, h2]
@[simp] theorem ixD_tup {ds : List D} {i : Int} : ixD (.tup ds) (.int i) = L2.atI ds i := rfl
@[simp] theorem ixD_lst {ds : List D} {i : Int} : ixD (.lst ds) (.int i) = L2.atI ds i := rfl
/-! loops -/
theorem forL_inv {tgt : D → S → Res S} {body : S → Res Fl} (I : Nat → S → Prop) : ∀ (ds : List D) (s : S) (k0 : Nat), I k0 s → (∀ k d s, ds[k]? = some d → I (k0 + k) s → ∃ s1 s2, tgt d s = .ok s1 ∧ body s1 = .ok (.nx s2) ∧ I (k0 + k + 1) s2) →
    ∃ s', forL tgt body ds s = .ok (.nx s') ∧ I (k0 + ds.length) s'
  | [], s, k0, h, _ => ⟨s, rfl, h⟩
  | d :: ds, s, k0, h, st => by
    obtain ⟨s1, s2, e1, e2, h2⟩ := st 0 d s rfl h
    obtain ⟨s', e3, h3⟩ := forL_inv I ds s2 (k0 + 1) h2 fun k d s hd hi => by
      have := st (k + 1) d s (by simpa using hd) (by rw [show k0 + (k + 1) = k0 + 1 + k by omega]; exact hi)
      rw [show k0 + (k + 1) = k0 + 1 + k by omega] at this
      exact this
    refine ⟨s', ?_, by rw [List.length_cons, show k0 + (ds.length + 1) = k0 + 1 + ds.length by omega]; exact h3⟩
    show (tgt d s).bind _ = _
    rw [e1]
    show (body s1).bind _ = _
    rw [e2]
    exact e3
/-- each turn keeps the same -/
theorem forL_keep {tgt : D → S → Res S} {body : S → Res Fl} {ds : List D} {s : S} (I : S → Prop) (h : I s) (st : ∀ d s, d ∈ ds → I s → ∃ s1 s2, tgt d s = .ok s1 ∧ body s1 = .ok (.nx s2) ∧ I s2) :
    ∃ s', forL tgt body ds s = .ok (.nx s') ∧ I s' :=
  forL_inv (fun _ => I) ds s 0 h fun k d s hd hi => st d s (List.mem_of_getElem? hd) hi
/-- a comprehension that draws nothing -/
theorem lcL_pure {vs : List Nat} {tgt : D → S → Res S} {test : M Bool} {elt : M D} {env : List Slot} {c : List D} (p : D → Bool) (g : D → D) : ∀ (ds acc : List D),
    (∀ d ∈ ds, ∃ s1, tgt d ⟨wipeE env vs, c⟩ = .ok s1 ∧ test s1 = .ok (p d, c) ∧ (p d = true → elt ⟨s1.env, c⟩ = .ok (g d, c))) →
    lcL vs tgt test elt ds ⟨env, c⟩ acc = .ok (.lst (acc ++ (ds.filter p).map g), c)
  | [], acc, _ => by show Res.ok (D.lst acc, c) = _; simp
  | d :: ds, acc, h => by
    obtain ⟨s1, e1, e2, e3⟩ := h d List.mem_cons_self
    show (tgt d ⟨wipeE env vs, c⟩).nox.bind _ = _
    rw [e1, nox_ok', bind_ok, e2, nox_ok', bind_ok]
    cases hp : p d with
    | true =>
      rw [if_pos rfl, e3 hp, nox_ok', bind_ok, lcL_pure p g ds _ fun e he => h e (List.mem_cons_of_mem _ he)]
      simp [List.filter_cons, hp]
    | false =>
      rw [if_neg Bool.false_ne_true, lcL_pure p g ds _ fun e he => h e (List.mem_cons_of_mem _ he)]
      simp [List.filter_cons, hp]
theorem lcM_pure {vs : List Nat} {src : M (List D)} {tgt : D → S → Res S} {test : M Bool} {elt : M D} {env : List Slot} {c c' ds : List D} (p : D → Bool) (g : D → D) (hs : src ⟨env, c⟩ = .ok (ds, c')) (ho : noOwn env vs = true) (hl : ds.length ≤ sizeLine)
    (h : ∀ d ∈ ds, ∃ s1, tgt d ⟨wipeE env vs, c'⟩ = .ok s1 ∧ test s1 = .ok (p d, c') ∧ (p d = true → elt ⟨s1.env, c'⟩ = .ok (g d, c'))) :
    lcM vs src tgt test elt ⟨env, c⟩ = .ok (.lst ((ds.filter p).map g), c') := by
  rw [lcM_ap, hs, bind_ok, if_pos ⟨ho, hl⟩]
  exact (lcL_pure p g ds [] h).trans (by simp)
@[simp] theorem bind_assoc {α β γ : Type} {r : Res α} {f : α → Res β} {g : β → Res γ} : (r.bind f).bind g = r.bind fun a => (f a).bind g := by cases r <;> rfl
/-- it ends, and so -/
def Okr {α : Type} (r : Res α) (P : α → Prop) : Prop := ∃ a, r = .ok a ∧ P a
@[simp] theorem okr_ok {P : α → Prop} {a : α} : Okr (.ok a) P ↔ P a := ⟨fun ⟨b, e, h⟩ => by cases e; exact h, fun h => ⟨a, rfl, h⟩⟩
theorem okr_bind {r : Res α} {f : α → Res β} {Q : α → Prop} {P : β → Prop} (h : Okr r Q) (k : ∀ a, Q a → Okr (f a) P) : Okr (r.bind f) P := by
  obtain ⟨a, rfl, q⟩ := h
  exact k a q
theorem okr_mono {r : Res α} {Q P : α → Prop} (h : Okr r Q) (k : ∀ a, Q a → P a) : Okr r P := by
  obtain ⟨a, rfl, q⟩ := h
  exact ⟨a, rfl, k a q⟩
theorem okr_eq {r r' : Res α} {P : α → Prop} (e : r = r') (h : Okr r' P) : Okr r P := e ▸ h
/-- what a def tells -/
def Tells (m : Fn) (ds c : List D) (P : D → List D → Prop) : Prop := ∃ v c', m ds c = .ok (v, c') ∧ P v c'
/-- a body's end, as a def's -/
def Fin (P : D → List D → Prop) : Fl → Prop
  | .nx s => P .non s.cup
  | .rt d c => P d c
  | _ => False
@[simp] theorem fin_nx {P : D → List D → Prop} : Fin P (.nx s) = P .non s.cup := rfl
@[simp] theorem fin_rt {P : D → List D → Prop} {d : D} : Fin P (.rt d c) = P d c := rfl
theorem ok_run {n : Nat} {fb : S → Res Fl} {ds : List D} {P : D → List D → Prop} (env : List Slot) (h : Okr (fb ⟨env, c⟩) (Fin P)) (he : ds.map .val ++ List.replicate (n - ds.length) .un = env := by rfl) : Tells (runB n fb) ds c P := by
  subst he
  obtain ⟨a, e, h⟩ := h
  unfold Tells runB
  rw [e]
  cases a with
  | nx s => exact ⟨_, _, rfl, h⟩
  | rt d c => exact ⟨_, _, rfl, h⟩
  | bk s => exact h.elim
  | ct s => exact h.elim
theorem tells_mono {m : Fn} {ds : List D} {P Q : D → List D → Prop} (h : Tells m ds c P) (k : ∀ v c', P v c' → Q v c') : Tells m ds c Q := by
  obtain ⟨v, c', e, h⟩ := h
  exact ⟨v, c', e, k v c' h⟩
theorem tells_of {m : Fn} {ds c' : List D} {v : D} {P : D → List D → Prop} (e : m ds c = .ok (v, c')) (h : P v c') : Tells m ds c P := ⟨v, c', e, h⟩
theorem tells_eq {m : Fn} {ds c' : List D} {v : D} (h : Tells m ds c fun v' c'' => v' = v ∧ c'' = c') : m ds c = .ok (v, c') := by
  obtain ⟨v, c', e, rfl, rfl⟩ := h
  exact e
/-- statement by statement -/
theorem ok_seq {f g : S → Res Fl} {P : Fl → Prop} (s' : S) (h : f s = .ok (.nx s')) (k : Okr (g s') P) : Okr (seqS f g s) P := by
  rw [seqS_ap, h]
  exact k
theorem ok_seqE {f g : S → Res Fl} {P : Fl → Prop} {s' : S} (h : f s = .ok (.nx s')) (k : Okr (g s') P) : Okr (seqS f g s) P := ok_seq s' h k
/-- the post of a first part that may end the whole -/
def Nxt (Q : S → Prop) (P : Fl → Prop) : Fl → Prop
  | .nx s => Q s
  | r => P r
@[simp] theorem nxt_nx {Q : S → Prop} {P : Fl → Prop} : Nxt Q P (.nx s) = Q s := rfl
@[simp] theorem nxt_rt {Q : S → Prop} {P : Fl → Prop} {d : D} : Nxt Q P (.rt d c) = P (.rt d c) := rfl
theorem ok_seqN {f g : S → Res Fl} {P : Fl → Prop} (Q : S → Prop) (h : Okr (f s) (Nxt Q P)) (k : ∀ s', Q s' → Okr (g s') P) : Okr (seqS f g s) P := by
  obtain ⟨a, e, h⟩ := h
  rw [seqS_ap, e]
  cases a with
  | nx s => exact k s h
  | rt d c => exact ⟨_, rfl, h⟩
  | bk s => exact ⟨_, rfl, h⟩
  | ct s => exact ⟨_, rfl, h⟩
/-- a loop without an end of its own -/
theorem ok_for {src : M (List D)} {tgt : D → S → Res S} {body : S → Res Fl} {ds c' : List D} {P : Fl → Prop} (I : Nat → S → Prop) (hs : src s = .ok (ds, c')) (h0 : I 0 ⟨s.env, c'⟩)
    (st : ∀ k d s, ds[k]? = some d → I k s → Okr (tgt d s) fun s1 => Okr (body s1) (Nxt (I (k + 1)) fun _ => False)) (he : ∀ s, I ds.length s → P (.nx s)) : Okr (forS src tgt body s) P := by
  rw [forS_ap, hs]
  obtain ⟨s', e, h⟩ := forL_inv (tgt := tgt) (body := body) I ds _ 0 h0 fun k d s hd hi => by
    rw [Nat.zero_add] at hi ⊢
    obtain ⟨s1, e1, r, e2, h⟩ := st k d s hd hi
    cases r with
    | nx s2 => exact ⟨s1, s2, e1, e2, h⟩
    | rt d c => exact h.elim
    | bk s => exact h.elim
    | ct s => exact h.elim
  rw [Nat.zero_add] at h
  exact ⟨_, e, he _ h⟩
/-- a loop that may tell -/
theorem forL_tell {tgt : D → S → Res S} {body : S → Res Fl} {P : Fl → Prop} (I : Nat → S → Prop) : ∀ (ds : List D) (s : S) (k0 : Nat), I k0 s → (∀ k d s, ds[k]? = some d → I (k0 + k) s → Okr (tgt d s) fun s1 => Okr (body s1) (Nxt (I (k0 + k + 1)) fun r => ∃ d c, r = .rt d c ∧ P r)) →
    Okr (forL tgt body ds s) (Nxt (I (k0 + ds.length)) P)
  | [], s, k0, h, _ => ⟨_, rfl, h⟩
  | d :: ds, s, k0, h, st => by
    obtain ⟨s1, e1, r, e2, h2⟩ := st 0 d s rfl h
    have ih := fun s2 h2 => forL_tell (P := P) I ds s2 (k0 + 1) h2 fun k d s hd hi => by
      have := st (k + 1) d s (by simpa using hd) (by rw [show k0 + (k + 1) = k0 + 1 + k by omega]; exact hi)
      rw [show k0 + (k + 1) = k0 + 1 + k by omega] at this
      exact this
    rw [List.length_cons, show k0 + (ds.length + 1) = k0 + 1 + ds.length by omega]
    show Okr ((tgt d s).bind _) _
    rw [e1]
    show Okr ((body s1).bind _) _
    rw [e2]
    cases r with
    | nx s2 => exact ih s2 h2
    | rt d c => obtain ⟨_, _, e, h⟩ := h2; cases e; exact ⟨_, rfl, h⟩
    | bk s => obtain ⟨_, _, e, h⟩ := h2; cases e
    | ct s => obtain ⟨_, _, e, h⟩ := h2; cases e
theorem ok_forT {src : M (List D)} {tgt : D → S → Res S} {body : S → Res Fl} {ds c' : List D} {P : Fl → Prop} (I : Nat → S → Prop) (hs : src s = .ok (ds, c')) (h0 : I 0 ⟨s.env, c'⟩)
    (st : ∀ k d s, ds[k]? = some d → I k s → Okr (tgt d s) fun s1 => Okr (body s1) (Nxt (I (k + 1)) fun r => ∃ d c, r = .rt d c ∧ P r)) (he : ∀ s, I ds.length s → P (.nx s)) : Okr (forS src tgt body s) P := by
  rw [forS_ap, hs]
  obtain ⟨r, e, h⟩ := forL_tell (tgt := tgt) (body := body) (P := P) I ds _ 0 h0 fun k d s hd hi => by
    rw [Nat.zero_add] at hi ⊢
    exact st k d s hd hi
  rw [Nat.zero_add] at h
  refine ⟨_, e, ?_⟩
  cases r with
  | nx s => exact he _ h
  | rt d c => exact h
  | bk s => exact h
  | ct s => exact h
/-! ranges -/
def upTo (n : Nat) : List D := (List.range n).map fun i => .int (i : Nat)
@[simp] theorem upTo_len {n : Nat} : (upTo n).length = n := by unfold upTo; rw [List.length_map, List.length_range]
theorem upTo_get {n k : Nat} {d : D} (h : (upTo n)[k]? = some d) : k < n ∧ d = .int (k : Nat) := by
  unfold upTo at h
  rw [List.getElem?_map] at h
  by_cases hk : k < n
  · rw [List.getElem?_range hk] at h
    cases h
    exact ⟨hk, rfl⟩
  · rw [List.getElem?_eq_none (by rw [List.length_range]; omega)] at h
    cases h
theorem mem_upTo {n : Nat} {d : D} : d ∈ upTo n ↔ ∃ i : Nat, i < n ∧ d = .int i := by
  unfold upTo
  rw [List.mem_map]
  constructor
  · rintro ⟨i, h, rfl⟩; exact ⟨i, List.mem_range.mp h, rfl⟩
  · rintro ⟨i, h, rfl⟩; exact ⟨i, List.mem_range.mpr h, rfl⟩
@[simp] theorem range1_int {j : Int} (h0 : -4611686018427387904 ≤ j) (h1 : j < 4611686018427387904) : range1 [.int j] = some (upTo j.toNat) := by
  show (if fits62 j = true then _ else _) = _
  rw [if_pos (by unfold fits62; rw [Bool.and_eq_true, decide_eq_true_eq, decide_eq_true_eq]; exact ⟨h0, h1⟩)]
  unfold upTo
  simp
def upFrom (lo : Int) (n : Nat) : List D := (List.range n).map fun i => .int (lo + (i : Nat))
@[simp] theorem upFrom_len {lo : Int} {n : Nat} : (upFrom lo n).length = n := by unfold upFrom; rw [List.length_map, List.length_range]
theorem mem_upFrom {lo : Int} {n : Nat} {d : D} : d ∈ upFrom lo n ↔ ∃ i : Int, lo ≤ i ∧ i < lo + n ∧ d = .int i := by
  unfold upFrom
  rw [List.mem_map]
  constructor
  · rintro ⟨i, h, rfl⟩; have := List.mem_range.mp h; exact ⟨lo + i, by omega, by omega, rfl⟩
  · rintro ⟨i, h1, h2, rfl⟩; exact ⟨(i - lo).toNat, List.mem_range.mpr (by omega), by rw [show lo + ((i - lo).toNat : Int) = i by omega]⟩
theorem upFrom_get {lo : Int} {n k : Nat} {d : D} (h : (upFrom lo n)[k]? = some d) : k < n ∧ d = .int (lo + (k : Nat)) := by
  unfold upFrom at h
  rw [List.getElem?_map] at h
  by_cases hk : k < n
  · rw [List.getElem?_range hk] at h
    cases h
    exact ⟨hk, rfl⟩
  · rw [List.getElem?_eq_none (by rw [List.length_range]; omega)] at h
    cases h
@[simp] theorem range2_int {i j : Int} (h0 : -4611686018427387904 ≤ i) (h1 : i < 4611686018427387904) (h2 : -4611686018427387904 ≤ j) (h3 : j < 4611686018427387904) : range2 [.int i, .int j] = some (upFrom i (j - i).toNat) := by
  show (if (fits62 i && fits62 j) = true then _ else _) = _
  rw [if_pos (by unfold fits62; rw [Bool.and_eq_true, Bool.and_eq_true, Bool.and_eq_true, decide_eq_true_eq, decide_eq_true_eq, decide_eq_true_eq, decide_eq_true_eq]; exact ⟨⟨h0, h1⟩, h2, h3⟩)]
  rfl
/-! all of a list -/
theorem blsOf_map' {α : Type} {f : α → Bool} {l : List α} : blsOf (l.map fun x => D.bl (f x)) = some (l.map f) := by
  have := blsOf_map (ns := l.map f)
  rw [List.map_map] at this
  exact this
@[simp] theorem allD_map {α : Type} {f : α → Bool} {l : List α} : allD [.lst (l.map fun x => D.bl (f x))] = some (.bl (l.all f)) := by
  show (blsOf _).map _ = _
  rw [blsOf_map']
  simp [List.all_map]
@[simp] theorem anyD_map {α : Type} {f : α → Bool} {l : List α} : anyD [.lst (l.map fun x => D.bl (f x))] = some (.bl (l.any f)) := by
  show (blsOf _).map _ = _
  rw [blsOf_map']
  simp [List.any_map]
/-! kinds -/
@[simp] theorem kb_NoneType_bool : kitB "NoneType" "bool" = some false := by decide +kernel
@[simp] theorem kb_NoneType_int : kitB "NoneType" "int" = some false := by decide +kernel
@[simp] theorem kb_NoneType_str : kitB "NoneType" "str" = some false := by decide +kernel
@[simp] theorem kb_NoneType_tuple : kitB "NoneType" "tuple" = some false := by decide +kernel
@[simp] theorem kb_NoneType_list : kitB "NoneType" "list" = some false := by decide +kernel
@[simp] theorem kb_bool_bool : kitB "bool" "bool" = some true := by decide +kernel
@[simp] theorem kb_bool_int : kitB "bool" "int" = some true := by decide +kernel
@[simp] theorem kb_bool_str : kitB "bool" "str" = some false := by decide +kernel
@[simp] theorem kb_bool_tuple : kitB "bool" "tuple" = some false := by decide +kernel
@[simp] theorem kb_bool_list : kitB "bool" "list" = some false := by decide +kernel
@[simp] theorem kb_int_bool : kitB "int" "bool" = some false := by decide +kernel
@[simp] theorem kb_int_int : kitB "int" "int" = some true := by decide +kernel
@[simp] theorem kb_int_str : kitB "int" "str" = some false := by decide +kernel
@[simp] theorem kb_int_tuple : kitB "int" "tuple" = some false := by decide +kernel
@[simp] theorem kb_int_list : kitB "int" "list" = some false := by decide +kernel
@[simp] theorem kb_str_bool : kitB "str" "bool" = some false := by decide +kernel
@[simp] theorem kb_str_int : kitB "str" "int" = some false := by decide +kernel
@[simp] theorem kb_str_str : kitB "str" "str" = some true := by decide +kernel
@[simp] theorem kb_str_tuple : kitB "str" "tuple" = some false := by decide +kernel
@[simp] theorem kb_str_list : kitB "str" "list" = some false := by decide +kernel
@[simp] theorem kb_tuple_bool : kitB "tuple" "bool" = some false := by decide +kernel
@[simp] theorem kb_tuple_int : kitB "tuple" "int" = some false := by decide +kernel
@[simp] theorem kb_tuple_str : kitB "tuple" "str" = some false := by decide +kernel
@[simp] theorem kb_tuple_tuple : kitB "tuple" "tuple" = some true := by decide +kernel
@[simp] theorem kb_tuple_list : kitB "tuple" "list" = some false := by decide +kernel
@[simp] theorem kb_list_bool : kitB "list" "bool" = some false := by decide +kernel
@[simp] theorem kb_list_int : kitB "list" "int" = some false := by decide +kernel
@[simp] theorem kb_list_str : kitB "list" "str" = some false := by decide +kernel
@[simp] theorem kb_list_tuple : kitB "list" "tuple" = some false := by decide +kernel
@[simp] theorem kb_list_list : kitB "list" "list" = some true := by decide +kernel
@[simp] theorem isi_ap {T : String} {f : M D} : isiM T f s = (f s).bind fun r => (match tyOf r.1 with | some t => (match kitB t T with | some b => ret (.bl b) | none => fun _ => .bad) | none => fun _ => .bad : M D) ⟨s.env, r.2⟩ := rfl
@[simp] theorem ty_non : tyOf .non = some "NoneType" := rfl
@[simp] theorem ty_bl {b : Bool} : tyOf (.bl b) = some "bool" := rfl
@[simp] theorem ty_int {b : Int} : tyOf (.int b) = some "int" := rfl
@[simp] theorem ty_str {b : Str} : tyOf (.str b) = some "str" := rfl
@[simp] theorem ty_tup {b : List D} : tyOf (.tup b) = some "tuple" := rfl
@[simp] theorem ty_lst {b : List D} : tyOf (.lst b) = some "list" := rfl
end
end PL

namespace PL
open PySem PySem.Spec PyProof.Rows L2
/-! numbers -/
theorem bezout (a b : Nat) : ∃ x y : Int, x * a + y * b = (Nat.gcd a b : Nat) := by
  induction a, b using Nat.gcd.induction with
  | H0 n => exact ⟨0, 1, by simp⟩
  | H1 m n h ih =>
    obtain ⟨x, y, e⟩ := ih
    refine ⟨y - x * (n / m : Nat), x, ?_⟩
    rw [Nat.gcd_rec, ← e]
    have h2 : ((n % m : Nat) : Int) = n - m * (n / m : Nat) := by
      have := Nat.div_add_mod n m
      have : ((m * (n / m) + n % m : Nat) : Int) = n := by rw [this]
      push_cast at this ⊢
      omega
    rw [h2, Int.sub_mul, Int.mul_sub, Int.mul_comm (m : Int), ← Int.mul_assoc]
    omega
theorem bezoutI (a b : Int) (ha : 0 ≤ a) (hb : 0 ≤ b) : ∃ x y : Int, x * a + y * b = gcdI a b := by
  obtain ⟨x, y, e⟩ := bezout a.natAbs b.natAbs
  refine ⟨x, y, ?_⟩
  unfold gcdI
  rw [← e, Int.natAbs_of_nonneg ha, Int.natAbs_of_nonneg hb]
theorem mod0 {a b : Int} : a % b = 0 ↔ ∃ k, a = b * k := ⟨fun h => Int.dvd_of_emod_eq_zero h, fun ⟨k, h⟩ => by rw [h]; exact Int.mul_emod_right _ _⟩
theorem crt_only {a b s t z : Int} (h1 : (z - s) % a = 0) (h2 : (z - t) % b = 0) : (s - t) % gcdI a b = 0 := by
  have d1 : gcdI a b ∣ z - s := Int.dvd_trans (gcd_dl a b) (Int.dvd_of_emod_eq_zero h1)
  have d2 : gcdI a b ∣ z - t := Int.dvd_trans (gcd_dr a b) (Int.dvd_of_emod_eq_zero h2)
  have : gcdI a b ∣ (z - t) - (z - s) := Int.dvd_sub d2 d1
  rw [show (z - t) - (z - s) = s - t by omega] at this
  exact Int.emod_eq_zero_of_dvd this
theorem crt_some {a b s t : Int} (ha : 0 ≤ a) (hb : 0 ≤ b) (h : (s - t) % gcdI a b = 0) : ∃ z, (z - s) % a = 0 ∧ (z - t) % b = 0 := by
  obtain ⟨k, e⟩ := mod0.mp h
  obtain ⟨x, y, e2⟩ := bezoutI a b ha hb
  refine ⟨s - a * (x * k), mod0.mpr ⟨-(x * k), ?_⟩, mod0.mpr ⟨y * k, ?_⟩⟩
  · rw [Int.mul_neg]; omega
  · have : (x * a + y * b) * k = s - t := by rw [e2, e]
    rw [Int.add_mul, Int.mul_right_comm, Int.mul_comm _ a, Int.mul_right_comm, Int.mul_comm _ b] at this
    omega
/-- what comes round comes round from any time on -/
theorem crt_from {a b s t z : Int} (lo : Int) (ha : 0 < a) (hb : 0 < b) (h1 : (z - s) % a = 0) (h2 : (z - t) % b = 0) : ∃ y, lo ≤ y ∧ y < lo + a * b ∧ (y - s) % a = 0 ∧ (y - t) % b = 0 := by
  have hab : 0 < a * b := Int.mul_pos ha hb
  obtain ⟨k1, e1⟩ := mod0.mp h1
  obtain ⟨k2, e2⟩ := mod0.mp h2
  have n0 := Int.emod_nonneg (z - lo) (show a * b ≠ 0 by omega)
  have n1 := Int.emod_lt_of_pos (z - lo) hab
  have n2 := Int.mul_ediv_add_emod (z - lo) (a * b)
  refine ⟨lo + (z - lo) % (a * b), by omega, by omega, mod0.mpr ⟨k1 - b * ((z - lo) / (a * b)), ?_⟩, mod0.mpr ⟨k2 - a * ((z - lo) / (a * b)), ?_⟩⟩
  · rw [Int.mul_sub, ← Int.mul_assoc]; omega
  · rw [Int.mul_sub, ← Int.mul_assoc, Int.mul_comm b a]; omega
/-- what two divide, their least common one divides -/
theorem lcm_dvd {a b x : Int} (ha : 0 < a) (hb : 0 < b) (h1 : x % a = 0) (h2 : x % b = 0) : x % (a * b / gcdI a b) = 0 := by
  have g0 := gcd_pos (a := a) (b := b) ha
  obtain ⟨u, v, e⟩ := bezoutI a b (by omega) (by omega)
  obtain ⟨m, e1⟩ := mod0.mp h1
  obtain ⟨n, e2⟩ := mod0.mp h2
  obtain ⟨b', eb⟩ := gcd_dr a b
  have ew : a * b / gcdI a b = a * b' := by
    have : a * b = gcdI a b * (a * b') := by
      rw [show a * b = a * (gcdI a b * b') by rw [← eb], ← Int.mul_assoc, ← Int.mul_assoc, Int.mul_comm a]
    rw [this]
    exact Int.mul_ediv_cancel_left _ (by omega)
  rw [ew]
  refine mod0.mpr ⟨u * n + v * m, Int.eq_of_mul_eq_mul_left (show gcdI a b ≠ 0 by omega) ?_⟩
  have k1 : gcdI a b * x = (u * a + v * b) * x := by rw [e]
  have k2 : gcdI a b * (a * b' * (u * n + v * m)) = a * b * (u * n + v * m) := by
    rw [← Int.mul_assoc]
    congr 1
    rw [show a * b = a * (gcdI a b * b') by rw [← eb], ← Int.mul_assoc, ← Int.mul_assoc, Int.mul_comm a]
  rw [k1, k2, Int.add_mul, Int.mul_add]
  have t1 : u * a * x = a * b * (u * n) := by
    rw [e2, Int.mul_comm u a, Int.mul_assoc, Int.mul_assoc, Int.mul_left_comm u b n]
  have t2 : v * b * x = a * b * (v * m) := by
    rw [e1, Int.mul_comm v b, Int.mul_assoc, Int.mul_left_comm v a m, ← Int.mul_assoc, Int.mul_comm b a]
  rw [t1, t2]
theorem lcm_eq {a b : Int} (ha : 0 < a) (hb : 0 < b) : a * b / gcdI a b = a * (b / gcdI a b) ∧ a * b / gcdI a b = b * (a / gcdI a b) ∧ 0 < b / gcdI a b ∧ b / gcdI a b ≤ b := by
  have g0 := gcd_pos (a := a) (b := b) ha
  have d1 := gcd_dl a b
  have d2 := gcd_dr a b
  have hle : gcdI a b ≤ b := Int.le_of_dvd hb d2
  refine ⟨Int.mul_ediv_assoc a d2, ?_, ?_, ?_⟩
  · rw [Int.mul_comm a b]; exact Int.mul_ediv_assoc b d1
  · exact Int.ediv_pos_of_pos_of_dvd hb (by omega) d2
  · exact Int.ediv_le_self _ (by omega)
def upStep (i : Int) (n : Nat) (c : Int) : List D := (List.range n).map fun k => .int (i + (k : Nat) * c)
@[simp] theorem upStep_len {i : Int} {n : Nat} {c : Int} : (upStep i n c).length = n := by unfold upStep; rw [List.length_map, List.length_range]
theorem mem_upStep {i : Int} {n : Nat} {c : Int} {d : D} : d ∈ upStep i n c ↔ ∃ k : Nat, k < n ∧ d = .int (i + k * c) := by
  unfold upStep
  rw [List.mem_map]
  constructor
  · rintro ⟨k, h, rfl⟩; exact ⟨k, List.mem_range.mp h, rfl⟩
  · rintro ⟨k, h, rfl⟩; exact ⟨k, List.mem_range.mpr h, rfl⟩
theorem range3_up {i c : Int} {n : Nat} (h0 : -1152921504606846976 < i) (h1 : i < 1152921504606846976) (hc : 0 < c) (hc1 : c < 1073741824) (hn0 : 0 < n) (hn : (n : Int) < 1073741824) : range3 [.int i, .int (i + n * c), .int c] = some (upStep i n c) := by
  have hp : 0 < (n : Int) * c := Int.mul_pos (by omega) hc
  have hq : (n : Int) * c ≤ 1073741824 * 1073741824 := Int.mul_le_mul (by omega) (by omega) (by omega) (by omega)
  have e : Builtin.Range.rangeSize i (i + n * c) c = n := by
    unfold Builtin.Range.rangeSize
    rw [if_pos (show c > 0 from hc), if_pos (by omega)]
    have : i + n * c - i - 1 = c * (n - 1) + (c - 1) := by rw [Int.mul_sub, Int.mul_comm c]; omega
    rw [this, Int.mul_add_ediv_left _ _ (by omega), Int.ediv_eq_zero_of_lt (by omega) (by omega)]
    omega
  have sm : Builtin.Range.small i (i + n * c) c = true := by
    unfold Builtin.Range.small
    rw [e]
    rw [if_pos (show c > 0 from hc)]
    simp only [Builtin.Range.rangeFitsLong, Bool.and_eq_true, Bool.or_eq_true, decide_eq_true_eq, beq_iff_eq]
    exact ⟨⟨⟨⟨by omega, by omega⟩, by omega, by omega⟩, by omega, by omega⟩, Or.inr ⟨by omega, by omega⟩⟩
  unfold range3
  dsimp only
  rw [if_pos (by rw [sm, Bool.and_true, Bool.and_eq_true, decide_eq_true_eq, decide_eq_true_eq]; exact ⟨by omega, by omega⟩), e]
  rfl
end PL

namespace Lw
open PySem PySem.Spec PyProof.Rows L2 PL
abbrev fuel : Nat := 1000000
def b_is_whole : S → Res Fl := retS (andV (isiM "int" (getv 0)) (andV (notV (isiM "bool" (getv 0))) (chain2 leD leD (getv 1) (getv 0) (getv 2))))
def m_is_whole : Fn := runB 3 b_is_whole
def b_is_tuple_of : S → Res Fl := retS (andV (isiM "tuple" (getv 0)) (chain2 leD leD (getv 1) (callM lenD (consA (getv 0) (ret []))) (getv 2)))
def m_is_tuple_of : Fn := runB 3 b_is_tuple_of
def b_is_rising : S → Res Fl := retS (callM allD (consA (lcM [1, 2] (srcA zip2 (consA (getv 0) (consA (slcM (getv 0) (partM (ret (.int 1))) (noPart)) (ret [])))) (unpack 2 (setCons (setv 1) (setCons (setv 2) (setNil)))) (ret true) (op2 ltD (getv 1) (getv 2))) (ret [])))
def m_is_rising : Fn := runB 3 b_is_rising
def b_fits_some : S → Res Fl := retS (andV (fnM m_is_tuple_of (consA (getv 1) (consA (ret (.int 0)) (consA (getv 0) (ret []))))) (andV (callM allD (consA (lcM [2] (srcM (getv 1)) (setv 2) (ret true) (fnM m_is_whole (consA (getv 2) (consA (ret (.int 0)) (consA (op2 subD (getv 0) (ret (.int 1))) (ret [])))))) (ret []))) (fnM m_is_rising (consA (getv 1) (ret [])))))
def m_fits_some : Fn := runB 3 b_fits_some
def b_fits_skater : S → Res Fl := retS (andV (fnM m_is_tuple_of (consA (getv 0) (consA (ret (.int 2)) (consA (ret (.int 2)) (ret []))))) (andV (fnM m_is_whole (consA (op2 ixD (getv 0) (ret (.int 0))) (consA (ret (.int 1)) (consA (ret (.int 60)) (ret []))))) (fnM m_is_whole (consA (op2 ixD (getv 0) (ret (.int 1))) (consA (ret (.int 0)) (consA (ret (.int 100)) (ret [])))))))
def m_fits_skater : Fn := runB 1 b_fits_skater
def b_fits_skaters : S → Res Fl := retS (andV (fnM m_is_tuple_of (consA (getv 0) (consA (ret (.int 1)) (consA (ret (.int 5)) (ret []))))) (callM allD (consA (lcM [1] (srcM (getv 0)) (setv 1) (ret true) (fnM m_fits_skater (consA (getv 1) (ret [])))) (ret []))))
def m_fits_skaters : Fn := runB 2 b_fits_skaters
def b_need_skaters : S → Res Fl := ifS (notT (asB (fnM m_fits_skaters (consA (getv 0) (ret []))))) (badS) (skipS)
def m_need_skaters : Fn := runB 1 b_need_skaters
def b_need_skater : S → Res Fl := seqS (exprS (fnM m_need_skaters (consA (getv 0) (ret [])))) (ifS (notT (asB (fnM m_is_whole (consA (getv 1) (consA (ret (.int 0)) (consA (op2 subD (callM lenD (consA (getv 0) (ret []))) (ret (.int 1))) (ret []))))))) (badS) (skipS))
def m_need_skater : Fn := runB 2 b_need_skater
def b_need_both : S → Res Fl := seqS (exprS (fnM m_need_skater (consA (getv 0) (consA (getv 1) (ret []))))) (ifS (orT (notT (asB (fnM m_is_whole (consA (getv 2) (consA (ret (.int 0)) (consA (op2 subD (callM lenD (consA (getv 0) (ret []))) (ret (.int 1))) (ret []))))))) (asB (op2 eqD (getv 1) (getv 2)))) (badS) (skipS))
def m_need_both : Fn := runB 3 b_need_both
def b_meeting_of : S → Res Fl := seqS (asgS (tupM (consA (ret (.int 0)) (consA (ret (.int 1)) (ret [])))) (unpack 2 (setCons (setv 1) (setCons (setv 2) (setNil))))) (seqS (forS (srcM (getv 0)) (unpack 2 (setCons (setv 3) (setCons (setv 4) (setNil)))) (seqS (asgS (op2 fdivD (op2 mulD (getv 2) (getv 3)) (callM gcdD (consA (getv 2) (consA (getv 3) (ret []))))) (setv 6)) (seqS (asgS (lcM [8] (srcA range3 (consA (getv 1) (consA (op2 addD (getv 1) (getv 6)) (consA (getv 2) (ret []))))) (setv 8) (asB (op2 eqD (op2 modD (op2 subD (getv 8) (getv 4)) (getv 3)) (ret (.int 0)))) (getv 8)) (setv 7)) (seqS (ifS (asB (op2 eqD (getv 7) (lstM (ret [])))) (retS (ret .non)) (skipS)) (par2 1 2 (consA (op2 ixD (getv 7) (ret (.int 0))) (consA (getv 6) (ret [])))))))) (seqS (asgS (callM maxD (consA (op2 addD (lcM [3, 4] (srcM (getv 0)) (unpack 2 (setCons (setv 3) (setCons (setv 4) (setNil)))) (ret true) (getv 4)) (lstM (consA (ret (.int 0)) (ret [])))) (ret []))) (setv 5)) (retS (tupM (consA (op2 addD (getv 1) (op2 mulD (op2 fdivD (op2 subD (op2 addD (callM maxD (consA (ret (.int 0)) (consA (op2 subD (getv 5) (getv 1)) (ret [])))) (getv 2)) (ret (.int 1))) (getv 2)) (getv 2))) (consA (getv 2) (ret [])))))))
def m_meeting_of : Fn := runB 9 b_meeting_of
def b_together : S → Res Fl := seqS (exprS (fnM m_need_skaters (consA (getv 0) (ret [])))) (seqS (ifS (notT (asB (fnM m_fits_some (consA (callM lenD (consA (getv 0) (ret []))) (consA (getv 1) (ret [])))))) (badS) (skipS)) (seqS (asgS (fnM m_meeting_of (consA (lcM [3] (srcM (getv 1)) (setv 3) (ret true) (op2 ixD (getv 0) (getv 3))) (ret []))) (setv 2)) (retS (iteM (asB (op2 isnotD (getv 2) (ret .non))) (op2 ixD (getv 2) (ret (.int 0))) (ret .non)))))
def m_together : Fn := runB 4 b_together
def b_line_paper : S → Res Fl := seqS (exprS (fnM m_need_both (consA (getv 0) (consA (getv 1) (consA (getv 2) (ret [])))))) (seqS (par2 3 4 (consA (op2 ixD (getv 0) (getv 1)) (consA (op2 ixD (getv 0) (getv 2)) (ret [])))) (seqS (asgS (callM gcdD (consA (op2 ixD (getv 3) (ret (.int 0))) (consA (op2 ixD (getv 4) (ret (.int 0))) (ret [])))) (setv 5)) (retS (iteM (asB (op2 neD (op2 modD (op2 subD (op2 ixD (getv 3) (ret (.int 1))) (op2 ixD (getv 4) (ret (.int 1)))) (getv 5)) (ret (.int 0)))) (tupM (consA (getv 5) (consA (op2 modD (op2 ixD (getv 3) (ret (.int 1))) (getv 5)) (consA (op2 modD (op2 ixD (getv 4) (ret (.int 1))) (getv 5)) (ret []))))) (ret .non)))))
def m_line_paper : Fn := runB 6 b_line_paper
def b_is_line_paper : S → Res Fl := seqS (exprS (fnM m_need_both (consA (getv 0) (consA (getv 1) (consA (getv 2) (ret [])))))) (seqS (ifS (orT (notT (asB (fnM m_is_tuple_of (consA (getv 3) (consA (ret (.int 3)) (consA (ret (.int 3)) (ret []))))))) (notT (asB (fnM m_is_whole (consA (op2 ixD (getv 3) (ret (.int 0))) (consA (ret (.int 1)) (consA (ret (.int 60)) (ret [])))))))) (retS (ret (.bl false))) (skipS)) (seqS (asgS (getv 3) (unpack 3 (setCons (setv 4) (setCons (setv 5) (setCons (setv 6) (setNil)))))) (seqS (ifS (orT (notT (asB (fnM m_is_whole (consA (getv 5) (consA (ret (.int 0)) (consA (op2 subD (getv 4) (ret (.int 1))) (ret []))))))) (orT (notT (asB (fnM m_is_whole (consA (getv 6) (consA (ret (.int 0)) (consA (op2 subD (getv 4) (ret (.int 1))) (ret []))))))) (asB (op2 eqD (getv 5) (getv 6))))) (retS (ret (.bl false))) (skipS)) (seqS (ifS (orT (asB (op2 neD (op2 modD (op2 ixD (op2 ixD (getv 0) (getv 1)) (ret (.int 0))) (getv 4)) (ret (.int 0)))) (asB (op2 neD (op2 modD (op2 ixD (op2 ixD (getv 0) (getv 2)) (ret (.int 0))) (getv 4)) (ret (.int 0))))) (retS (ret (.bl false))) (skipS)) (retS (andV (op2 eqD (op2 modD (op2 ixD (op2 ixD (getv 0) (getv 1)) (ret (.int 1))) (getv 4)) (getv 5)) (op2 eqD (op2 modD (op2 ixD (op2 ixD (getv 0) (getv 2)) (ret (.int 1))) (getv 4)) (getv 6))))))))
def m_is_line_paper : Fn := runB 7 b_is_line_paper
def b__law_roll : S → Res Fl := seqS (ifS (asB (op2 gtD (ixcM 0 (ret (.int 0))) (ret (.int 0)))) (seqS (asgS (op2 modD (callM intD (consA (ixcM 0 (ret (.int 0))) (ret []))) (getv 1)) (setv 3)) (seqS (setcS 0 (op2 fdivD (ixcM 0 (ret (.int 0))) (getv 1)) (ret (.int 0))) (retS (getv 3)))) (skipS)) (seqS (setcS 0 (op2 modD (callM intD (consA (op2 addD (op2 mulD (ixcM 0 (ret (.int 1))) (ret (.int 31063))) (ret (.int 8053))) (ret []))) (ret (.int 2147483399))) (ret (.int 1))) (seqS (asgS (op2 modD (callM intD (consA (op2 mulD (ixcM 0 (ret (.int 1))) (op2 addD (ixcM 0 (ret (.int 1))) (ret (.int 317)))) (ret []))) (ret (.int 2147483563))) (setv 2)) (retS (op2 modD (callM intD (consA (op2 fdivD (getv 2) (ret (.int 919))) (ret []))) (getv 1)))))
def m__law_roll : Fn := runB 4 b__law_roll
def b__law_some : S → Res Fl := retS (op2 ixD (getv 1) (fnM m__law_roll (consA (getv 0) (consA (callM lenD (consA (getv 1) (ret []))) (ret [])))))
def m__law_some : Fn := runB 2 b__law_some
def b__law_same (rec : Fn) : S → Res Fl := seqS (ifS (asB (isiM "tuple" (getv 1))) (seqS (ifS (orT (notT (asB (isiM "tuple" (getv 0)))) (asB (op2 neD (callM lenD (consA (getv 0) (ret []))) (callM lenD (consA (getv 1) (ret [])))))) (retS (ret (.bl false))) (skipS)) (retS (callM allD (consA (lcM [2] (srcA range1 (consA (callM lenD (consA (getv 1) (ret []))) (ret []))) (setv 2) (ret true) (fnM rec (consA (op2 ixD (getv 0) (getv 2)) (consA (op2 ixD (getv 1) (getv 2)) (ret []))))) (ret []))))) (skipS)) (seqS (ifS (asB (op2 isD (getv 1) (ret .non))) (retS (op2 isD (getv 0) (ret .non))) (skipS)) (seqS (ifS (asB (isiM "bool" (getv 1))) (retS (iteM (asB (getv 1)) (op2 isD (getv 0) (ret (.bl true))) (op2 isD (getv 0) (ret (.bl false))))) (skipS)) (seqS (ifS (asB (isiM "int" (getv 1))) (retS (andV (isiM "int" (getv 0)) (andV (notV (isiM "bool" (getv 0))) (op2 eqD (callM intD (consA (getv 0) (ret []))) (getv 1))))) (skipS)) (retS (andV (isiM "str" (getv 0)) (op2 eqD (callM strD (consA (getv 0) (ret []))) (getv 1)))))))
def m__law_same : Nat → Fn
  | 0 => fun _ _ => .bad
  | n + 1 => runB 3 (b__law_same (m__law_same n))
def b__law_skaters : S → Res Fl := seqS (par2 3 4 (consA (tupM (ret [])) (consA (fnM m__law_some (consA (getv 0) (consA (lstM (consA (ret (.int 1)) (consA (ret (.int 10)) (consA (ret (.int 101)) (ret []))))) (ret [])))) (ret [])))) (seqS (forS (srcA range1 (consA (op2 addD (ret (.int 1)) (fnM m__law_roll (consA (getv 0) (consA (getv 1) (ret []))))) (ret []))) (setv 5) (asgS (op2 addD (getv 3) (tupM (consA (tupM (consA (op2 addD (ret (.int 1)) (fnM m__law_roll (consA (getv 0) (consA (getv 2) (ret []))))) (consA (fnM m__law_roll (consA (getv 0) (consA (getv 4) (ret [])))) (ret [])))) (ret [])))) (setv 3))) (retS (getv 3)))
def m__law_skaters : Fn := runB 6 b__law_skaters
def b__law_is_there : S → Res Fl := retS (andV (op2 geD (getv 1) (op2 ixD (getv 0) (ret (.int 1)))) (op2 eqD (op2 modD (callM intD (consA (op2 subD (getv 1) (op2 ixD (getv 0) (ret (.int 1)))) (ret []))) (op2 ixD (getv 0) (ret (.int 0)))) (ret (.int 0))))
def m__law_is_there : Fn := runB 2 b__law_is_there
def b__law_is_paper : S → Res Fl := seqS (asgS (getv 2) (unpack 3 (setCons (setv 3) (setCons (setv 4) (setCons (setv 5) (setNil)))))) (seqS (ifS (orT (asB (op2 neD (op2 modD (callM intD (consA (op2 ixD (getv 0) (ret (.int 0))) (ret []))) (getv 3)) (ret (.int 0)))) (orT (asB (op2 neD (op2 modD (callM intD (consA (op2 ixD (getv 1) (ret (.int 0))) (ret []))) (getv 3)) (ret (.int 0)))) (asB (op2 eqD (getv 4) (getv 5))))) (retS (ret (.bl false))) (skipS)) (retS (andV (op2 eqD (op2 modD (callM intD (consA (op2 ixD (getv 0) (ret (.int 1))) (ret []))) (getv 3)) (getv 4)) (op2 eqD (op2 modD (callM intD (consA (op2 ixD (getv 1) (ret (.int 1))) (ret []))) (getv 3)) (getv 5)))))
def m__law_is_paper : Fn := runB 6 b__law_is_paper
def b__law_right : S → Res Fl := seqS (asgS (fnM m__law_skaters (consA (getv 0) (consA (ret (.int 4)) (consA (fnM m__law_some (consA (getv 0) (consA (lstM (consA (ret (.int 12)) (consA (ret (.int 60)) (ret [])))) (ret [])))) (ret []))))) (setv 1)) (seqS (asgS (callM lenD (consA (getv 1) (ret []))) (setv 2)) (seqS (forS (srcA range1 (consA (iteM (asB (op2 gtD (getv 2) (ret (.int 1)))) (ret (.int 4)) (ret (.int 0))) (ret []))) (setv 3) (seqS (asgS (fnM m__law_roll (consA (getv 0) (consA (getv 2) (ret [])))) (setv 4)) (seqS (asgS (op2 modD (callM intD (consA (op2 addD (op2 addD (getv 4) (ret (.int 1))) (fnM m__law_roll (consA (getv 0) (consA (op2 subD (getv 2) (ret (.int 1))) (ret []))))) (ret []))) (getv 2)) (setv 5)) (seqS (asgS (tupM (consA (op2 ixD (getv 1) (getv 4)) (consA (op2 ixD (getv 1) (getv 5)) (ret [])))) (unpack 2 (setCons (setv 6) (setCons (setv 7) (setNil))))) (seqS (asgS (lcM [15] (srcA range2 (consA (op2 ixD (getv 7) (ret (.int 1))) (consA (op2 addD (op2 addD (op2 ixD (getv 7) (ret (.int 1))) (op2 mulD (op2 ixD (getv 6) (ret (.int 0))) (op2 ixD (getv 7) (ret (.int 0))))) (ret (.int 100))) (ret [])))) (setv 15) (andT (asB (fnM m__law_is_there (consA (getv 6) (consA (getv 15) (ret []))))) (asB (fnM m__law_is_there (consA (getv 7) (consA (getv 15) (ret [])))))) (getv 15)) (setv 8)) (seqS (asgS (fnM m_line_paper (consA (getv 1) (consA (getv 4) (consA (getv 5) (ret []))))) (setv 9)) (seqS (ifS (orT (asB (op2 neD (op2 isD (getv 9) (ret .non)) (op2 neD (getv 8) (lstM (ret []))))) (asB (op2 neD (op2 isD (fnM m_together (consA (getv 1) (consA (callM tupleD (consA (callM sortedD (consA (lstM (consA (getv 4) (consA (getv 5) (ret [])))) (ret []))) (ret []))) (ret [])))) (ret .non)) (op2 isnotD (getv 9) (ret .non))))) (retS (ret (.bl false))) (skipS)) (seqS (ifS (andT (asB (op2 isnotD (getv 9) (ret .non))) (orT (notT (asB (isiM "tuple" (getv 9)))) (orT (asB (op2 isnotD (fnM m_is_line_paper (consA (getv 1) (consA (getv 4) (consA (getv 5) (consA (getv 9) (ret [])))))) (ret (.bl true)))) (notT (asB (fnM m__law_is_paper (consA (getv 6) (consA (getv 7) (consA (getv 9) (ret [])))))))))) (retS (ret (.bl false))) (skipS)) (seqS (forS (srcA range1 (consA (ret (.int 8)) (ret []))) (setv 10) (seqS (asgS (op2 addD (ret (.int 1)) (fnM m__law_roll (consA (getv 0) (consA (fnM m__law_some (consA (getv 0) (consA (lstM (consA (ret (.int 4)) (consA (ret (.int 12)) (consA (ret (.int 60)) (ret []))))) (ret [])))) (ret []))))) (setv 12)) (forS (srcM (tupM (consA (tupM (consA (getv 12) (consA (op2 modD (callM intD (consA (op2 ixD (getv 6) (ret (.int 1))) (ret []))) (getv 12)) (consA (op2 modD (callM intD (consA (op2 ixD (getv 7) (ret (.int 1))) (ret []))) (getv 12)) (ret []))))) (consA (tupM (consA (getv 12) (consA (fnM m__law_roll (consA (getv 0) (consA (getv 12) (ret [])))) (consA (fnM m__law_roll (consA (getv 0) (consA (getv 12) (ret [])))) (ret []))))) (ret []))))) (setv 13) (seqS (asgS (fnM m__law_is_paper (consA (getv 6) (consA (getv 7) (consA (getv 13) (ret []))))) (setv 14)) (ifS (orT (notT (asB (fnM (m__law_same 6) (consA (fnM m_is_line_paper (consA (getv 1) (consA (getv 4) (consA (getv 5) (consA (getv 13) (ret [])))))) (consA (getv 14) (ret [])))))) (andT (asB (getv 14)) (asB (op2 neD (getv 8) (lstM (ret [])))))) (retS (ret (.bl false))) (skipS)))))) (seqS (asgS (lstM (consA (ret .non) (consA (tupM (ret [])) (consA (tupM (consA (ret (.int 2)) (consA (ret (.int 0)) (ret [])))) (consA (lstM (consA (ret (.int 2)) (consA (ret (.int 0)) (consA (ret (.int 1)) (ret []))))) (consA (tupM (consA (ret (.int 0)) (consA (ret (.int 0)) (consA (ret (.int 0)) (ret []))))) (consA (tupM (consA (ret (.int 61)) (consA (ret (.int 0)) (consA (ret (.int 1)) (ret []))))) (consA (tupM (consA (ret (.int 2)) (consA (ret (.int 0)) (consA (ret (.int 2)) (ret []))))) (consA (tupM (consA (ret (.int 2)) (consA (negM (ret (.int 1))) (consA (ret (.int 0)) (ret []))))) (consA (tupM (consA (ret (.bl true)) (consA (ret (.int 0)) (consA (ret (.int 0)) (ret []))))) (consA (tupM (consA (ret (.int 2)) (consA (ret (.bl false)) (consA (ret (.int 1)) (ret []))))) (consA (tupM (consA (ret (.int 2)) (consA (ret (.int 0)) (consA (ret .non) (ret []))))) (consA (tupM (consA (ret (.str "2")) (consA (ret (.int 0)) (consA (ret (.int 1)) (ret []))))) (consA (tupM (consA (ret (.int 2)) (consA (ret (.int 0)) (consA (ret (.int 1)) (consA (ret (.int 0)) (ret [])))))) (consA (ret (.int 5)) (ret [])))))))))))))))) (setv 11)) (ifS (asB (op2 neD (lcM [16] (srcM (getv 11)) (setv 16) (asB (op2 isnotD (fnM m_is_line_paper (consA (getv 1) (consA (getv 4) (consA (getv 5) (consA (getv 16) (ret [])))))) (ret (.bl false)))) (getv 16)) (lstM (ret [])))) (retS (ret (.bl false))) (skipS)))))))))))) (retS (ret (.bl true)))))
def m__law_right : Fn := runB 17 b__law_right
def b_law : S → Res Fl := seqS (forS (srcA range1 (consA (ret (.int 5)) (ret []))) (setv 2) (ifS (notT (asB (fnM m__law_right (consA (getv 1) (ret []))))) (retS (ret (.bl false))) (skipS))) (seqS (asgS (tupM (consA (op2 addD (ret (.int 1)) (fnM m__law_roll (consA (getv 1) (consA (ret (.int 30)) (ret []))))) (consA (op2 addD (ret (.int 1)) (fnM m__law_roll (consA (getv 1) (consA (ret (.int 30)) (ret []))))) (consA (op2 addD (ret (.int 2)) (fnM m__law_roll (consA (getv 1) (consA (ret (.int 59)) (ret []))))) (consA (fnM m__law_roll (consA (getv 1) (consA (ret (.int 40)) (ret [])))) (ret [])))))) (unpack 4 (setCons (setv 3) (setCons (setv 4) (setCons (setv 5) (setCons (setv 6) (setNil))))))) (seqS (par2 7 8 (consA (tupM (consA (tupM (consA (op2 mulD (ret (.int 2)) (getv 3)) (consA (op2 mulD (ret (.int 2)) (getv 6)) (ret [])))) (consA (tupM (consA (op2 mulD (ret (.int 2)) (getv 4)) (consA (op2 addD (op2 mulD (ret (.int 2)) (getv 6)) (ret (.int 1))) (ret [])))) (ret [])))) (consA (tupM (consA (tupM (consA (getv 5) (consA (getv 6) (ret [])))) (consA (tupM (consA (getv 5) (consA (op2 addD (getv 6) (ret (.int 1))) (ret [])))) (ret [])))) (ret [])))) (seqS (asgS (tupM (consA (fnM m_is_line_paper (consA (getv 7) (consA (ret (.int 0)) (consA (ret (.int 1)) (consA (tupM (consA (ret (.int 2)) (consA (ret (.int 0)) (consA (ret (.int 1)) (ret []))))) (ret [])))))) (consA (fnM m_is_line_paper (consA (getv 7) (consA (ret (.int 1)) (consA (ret (.int 0)) (consA (tupM (consA (ret (.int 2)) (consA (ret (.int 1)) (consA (ret (.int 0)) (ret []))))) (ret [])))))) (consA (fnM m_is_line_paper (consA (getv 7) (consA (ret (.int 0)) (consA (ret (.int 1)) (consA (tupM (consA (ret (.int 1)) (consA (ret (.int 0)) (consA (ret (.int 0)) (ret []))))) (ret [])))))) (ret []))))) (setv 9)) (retS (andV (fnM (m__law_same 6) (consA (getv 9) (consA (tupM (consA (ret (.bl true)) (consA (ret (.bl true)) (consA (ret (.bl false)) (ret []))))) (ret [])))) (andV (op2 isnotD (fnM m_line_paper (consA (getv 8) (consA (ret (.int 0)) (consA (ret (.int 1)) (ret []))))) (ret .non)) (op2 isD (fnM m_line_paper (consA (tupM (consA (tupM (consA (getv 5) (consA (getv 6) (ret [])))) (consA (tupM (consA (ret (.int 1)) (consA (ret (.int 100)) (ret [])))) (ret [])))) (consA (ret (.int 0)) (consA (ret (.int 1)) (ret []))))) (ret .non))))))))
abbrev cX (ns : List Int) : Int := cupX 163 ns
abbrev cY (ns : List Int) : Int := cupY 409 4153 2077504931 239 ns
def start_law (x y : Int) : S := ⟨.un :: .val .cup :: List.replicate 8 .un, [.int x, .int y]⟩
/-- the law, in plain words -/
def Plain : Prop := ∀ ns : List Int, ns.length ≤ 63 → ∃ c, b_law (start_law (cX ns) (cY ns)) = .ok (.rt (.bl true) c)
end Lw

namespace Lw
open PySem PySem.Spec PyProof.Rows L2 PL
def top (i : Nat) : Stmt := PySem.Challenge.pw_icerink_k42_whole_line_papers.main.body.getD i (.Pass ⟨0, 0, 0, 0⟩)
abbrev s_is_whole : Stmt := top 6
abbrev s_is_tuple_of : Stmt := top 7
abbrev s_is_rising : Stmt := top 8
abbrev s_fits_some : Stmt := top 9
abbrev s_fits_skater : Stmt := top 14
abbrev s_fits_skaters : Stmt := top 15
abbrev s_need_skaters : Stmt := top 16
abbrev s_need_skater : Stmt := top 17
abbrev s_need_both : Stmt := top 18
abbrev s_meeting_of : Stmt := top 19
abbrev s_together : Stmt := top 20
abbrev s_line_paper : Stmt := top 21
abbrev s_is_line_paper : Stmt := top 22
abbrev s__law_cup : Stmt := top 24
abbrev s__law_roll : Stmt := top 25
abbrev s__law_some : Stmt := top 26
abbrev s__law_same : Stmt := top 27
abbrev s__law_skaters : Stmt := top 28
abbrev s__law_is_there : Stmt := top 30
abbrev s__law_is_paper : Stmt := top 31
abbrev s__law_right : Stmt := top 32
abbrev s_law : Stmt := top 33
abbrev N_is_whole : List Str := ["value", "low", "high"]
abbrev N_is_tuple_of : List Str := ["value", "low", "high"]
abbrev N_is_rising : List Str := ["value", "one", "other"]
abbrev N_fits_some : List Str := ["many", "value", "one"]
abbrev N_fits_skater : List Str := ["value"]
abbrev N_fits_skaters : List Str := ["value", "one"]
abbrev N_need_skaters : List Str := ["skaters"]
abbrev N_need_skater : List Str := ["skaters", "one"]
abbrev N_need_both : List Str := ["skaters", "one", "other"]
abbrev N_meeting_of : List Str := ["rows", "first", "period", "lap", "late", "last", "wide", "good", "time"]
abbrev N_together : List Str := ["skaters", "some", "found", "at"]
abbrev N_line_paper : List Str := ["skaters", "one", "other", "mine", "yours", "parts"]
abbrev N_is_line_paper : List Str := ["skaters", "one", "other", "value", "parts", "mine", "yours"]
abbrev N__law_cup : List Str := ["script", "cell"]
abbrev N__law_roll : List Str := ["cup", "many", "deep", "found"]
abbrev N__law_some : List Str := ["cup", "things"]
abbrev N__law_same : List Str := ["told", "due", "at"]
abbrev N__law_skaters : List Str := ["cup", "most", "lap", "found", "late", "skater"]
abbrev N__law_is_there : List Str := ["skater", "time"]
abbrev N__law_is_paper : List Str := ["one", "other", "value", "parts", "mine", "yours"]
abbrev N__law_right : List Str := ["cup", "skaters", "many", "turn", "one", "other", "mine", "yours", "times", "paper", "more", "odds", "parts", "value", "due", "time", "odd"]
abbrev N_law : List Str := ["script", "cup", "turn", "half", "more", "lap", "late", "pair", "alike", "told"]
structure Tx (K : PySem.W.Frag) (mg : Str → Option Value) : Prop where
  d_is_whole : DefF K mg "is_whole" s_is_whole ["value", "low", "high"]
  d_is_tuple_of : DefF K mg "is_tuple_of" s_is_tuple_of ["value", "low", "high"]
  d_is_rising : DefF K mg "is_rising" s_is_rising ["value"]
  d_fits_some : DefF K mg "fits_some" s_fits_some ["many", "value"]
  d_fits_skater : DefF K mg "fits_skater" s_fits_skater ["value"]
  d_fits_skaters : DefF K mg "fits_skaters" s_fits_skaters ["value"]
  d_need_skaters : DefF K mg "need_skaters" s_need_skaters ["skaters"]
  d_need_skater : DefF K mg "need_skater" s_need_skater ["skaters", "one"]
  d_need_both : DefF K mg "need_both" s_need_both ["skaters", "one", "other"]
  d_meeting_of : DefF K mg "meeting_of" s_meeting_of ["rows"]
  d_together : DefF K mg "together" s_together ["skaters", "some"]
  d_line_paper : DefF K mg "line_paper" s_line_paper ["skaters", "one", "other"]
  d_is_line_paper : DefF K mg "is_line_paper" s_is_line_paper ["skaters", "one", "other", "value"]
  d__law_cup : DefF K mg "_law_cup" s__law_cup ["script"]
  d__law_roll : DefF K mg "_law_roll" s__law_roll ["cup", "many"]
  d__law_some : DefF K mg "_law_some" s__law_some ["cup", "things"]
  d__law_same : DefF K mg "_law_same" s__law_same ["told", "due"]
  d__law_skaters : DefF K mg "_law_skaters" s__law_skaters ["cup", "most", "lap"]
  d__law_is_there : DefF K mg "_law_is_there" s__law_is_there ["skater", "time"]
  d__law_is_paper : DefF K mg "_law_is_paper" s__law_is_paper ["one", "other", "value"]
  d__law_right : DefF K mg "_law_right" s__law_right ["cup"]
  n_abs : mg "abs" = none
  n_all : mg "all" = none
  n_bool : mg "bool" = none
  n_int : mg "int" = none
  n_isinstance : mg "isinstance" = none
  n_len : mg "len" = none
  n_list : mg "list" = none
  n_max : mg "max" = none
  n_range : mg "range" = none
  n_sorted : mg "sorted" = none
  n_str : mg "str" = none
  n_tuple : mg "tuple" = none
  n_zip : mg "zip" = none
  g_LAP : ∃ t, mg "LAP" = some (.int 60 t)
  g_LATE : ∃ t, mg "LATE" = some (.int 100 t)
  g_SKATERS : ∃ t, mg "SKATERS" = some (.int 5 t)
  i_gcd : mg "gcd" = some (.builtin "math.gcd")
theorem bb_abs : bootBuiltins "abs" = some (.builtin "abs") := by decide +kernel
theorem bb_all : bootBuiltins "all" = some (.builtin "all") := by decide +kernel
theorem bb_bool : bootBuiltins "bool" = some (.type "bool") := by decide +kernel
theorem bb_int : bootBuiltins "int" = some (.type "int") := by decide +kernel
theorem bb_isinstance : bootBuiltins "isinstance" = some (.builtin "isinstance") := by decide +kernel
theorem bb_len : bootBuiltins "len" = some (.builtin "len") := by decide +kernel
theorem bb_list : bootBuiltins "list" = some (.type "list") := by decide +kernel
theorem bb_max : bootBuiltins "max" = some (.builtin "max") := by decide +kernel
theorem bb_range : bootBuiltins "range" = some (.type "range") := by decide +kernel
theorem bb_sorted : bootBuiltins "sorted" = some (.builtin "sorted") := by decide +kernel
theorem bb_str : bootBuiltins "str" = some (.type "str") := by decide +kernel
theorem bb_tuple : bootBuiltins "tuple" = some (.type "tuple") := by decide +kernel
theorem bb_zip : bootBuiltins "zip" = some (.type "zip") := by decide +kernel
section
variable {P : Program} {w : World} {K : PySem.W.Frag} {mg : Str → Option Value} {base : Heap}
theorem sc_is_whole : FnScope N_is_whole ["value", "low", "high"] (defScope s_is_whole) := ⟨rfl, rfl, rfl, by decide +kernel, rfl, by decide +kernel, by decide +kernel⟩
theorem ok_is_whole (T : Tx K mg)  : FnK P w K mg base "is_whole" 3 1 m_is_whole := fnk T.d_is_whole sc_is_whole fun f ca cdv A outer s H E hr =>
  (bv_one (sv_ret (ev_and (ev_isi (ev_var 0) (by exact T.n_isinstance) (by exact T.n_int) bb_int) (ev_and (ev_not (ev_isi (ev_var 0) (by exact T.n_isinstance) (by exact T.n_bool) bb_bool)) (ev_one (ev_chain op_leD op_leD (ev_var 1) (ev_var 0) (ev_var 2)))))) : Bv _ _ _ b_is_whole)
theorem sc_is_tuple_of : FnScope N_is_tuple_of ["value", "low", "high"] (defScope s_is_tuple_of) := ⟨rfl, rfl, rfl, by decide +kernel, rfl, by decide +kernel, by decide +kernel⟩
theorem ok_is_tuple_of (T : Tx K mg)  : FnK P w K mg base "is_tuple_of" 3 1 m_is_tuple_of := fnk T.d_is_tuple_of sc_is_tuple_of fun f ca cdv A outer s H E hr =>
  (bv_one (sv_ret (ev_and (ev_isi (ev_var 0) (by exact T.n_isinstance) (by exact T.n_tuple) bb_tuple) (ev_one (ev_chain op_leD op_leD (ev_var 1) (ev_callB call_lenD (by exact T.n_len) bb_len (av_cons (ev_var 0) (av_nil))) (ev_var 2))))) : Bv _ _ _ b_is_tuple_of)
theorem sc_is_rising : FnScope N_is_rising ["value"] (defScope s_is_rising) := ⟨rfl, rfl, rfl, by decide +kernel, rfl, by decide +kernel, by decide +kernel⟩
theorem ok_is_rising (T : Tx K mg)  : FnK P w K mg base "is_rising" 1 1 m_is_rising := fnk T.d_is_rising sc_is_rising fun f ca cdv A outer s H E hr =>
  (bv_one (sv_ret (ev_callB call_allD (by exact T.n_all) bb_all (av_cons (ev_lc [("one", 1), ("other", 2)] (defScope s_is_rising) N_is_rising (iv_zip (av_cons (ev_var 0) (av_cons (ev_slc (ev_var 0) (ov_some (ev_int)) (ov_none)) (av_nil))) (by exact T.n_zip)) (gv_tup (gsv_cons (gv_name (i := 1)) (gsv_cons (gv_name (i := 2)) (gsv_nil))) 2) (tsv_nil) (ev_cmp op_ltD (ev_var 1) (ev_var 2))) (av_nil)))) : Bv _ _ _ b_is_rising)
theorem sc_fits_some : FnScope N_fits_some ["many", "value"] (defScope s_fits_some) := ⟨rfl, rfl, rfl, by decide +kernel, rfl, by decide +kernel, by decide +kernel⟩
theorem ok_fits_some (T : Tx K mg) (F_is_whole : FnK P w K mg base "is_whole" 3 1 m_is_whole) (F_is_tuple_of : FnK P w K mg base "is_tuple_of" 3 1 m_is_tuple_of) (F_is_rising : FnK P w K mg base "is_rising" 1 1 m_is_rising) : FnK P w K mg base "fits_some" 2 2 m_fits_some := fnk T.d_fits_some sc_fits_some fun f ca cdv A outer s H E hr =>
  (bv_one (sv_ret (ev_and (ev_call F_is_tuple_of.fv (av_cons (ev_var 1) (av_cons (ev_int) (av_cons (ev_var 0) (av_nil))))) (ev_and (ev_callB call_allD (by exact T.n_all) bb_all (av_cons (ev_lc [("one", 2)] (defScope s_fits_some) N_fits_some (iv_seq (ev_var 1)) (gv_name (i := 2)) (tsv_nil) (ev_call F_is_whole.fv (av_cons (ev_var 2) (av_cons (ev_int) (av_cons (ev_op op_subD (ev_var 0) (ev_int)) (av_nil)))))) (av_nil))) (ev_one (ev_call F_is_rising.fv (av_cons (ev_var 1) (av_nil))))))) : Bv _ _ _ b_fits_some)
theorem sc_fits_skater : FnScope N_fits_skater ["value"] (defScope s_fits_skater) := ⟨rfl, rfl, rfl, by decide +kernel, rfl, by decide +kernel, by decide +kernel⟩
theorem ok_fits_skater (T : Tx K mg) (F_is_whole : FnK P w K mg base "is_whole" 3 1 m_is_whole) (F_is_tuple_of : FnK P w K mg base "is_tuple_of" 3 1 m_is_tuple_of) : FnK P w K mg base "fits_skater" 1 2 m_fits_skater := fnk T.d_fits_skater sc_fits_skater fun f ca cdv A outer s H E hr =>
  (bv_one (sv_ret (ev_and (ev_call F_is_tuple_of.fv (av_cons (ev_var 0) (av_cons (ev_int) (av_cons (ev_int) (av_nil))))) (ev_and (ev_call F_is_whole.fv (av_cons (ev_ix (ev_var 0) (ev_int)) (av_cons (ev_int) (av_cons (ev_gint (by exact T.g_LAP)) (av_nil))))) (ev_one (ev_call F_is_whole.fv (av_cons (ev_ix (ev_var 0) (ev_int)) (av_cons (ev_int) (av_cons (ev_gint (by exact T.g_LATE)) (av_nil))))))))) : Bv _ _ _ b_fits_skater)
theorem sc_fits_skaters : FnScope N_fits_skaters ["value"] (defScope s_fits_skaters) := ⟨rfl, rfl, rfl, by decide +kernel, rfl, by decide +kernel, by decide +kernel⟩
theorem ok_fits_skaters (T : Tx K mg) (F_is_tuple_of : FnK P w K mg base "is_tuple_of" 3 1 m_is_tuple_of) (F_fits_skater : FnK P w K mg base "fits_skater" 1 2 m_fits_skater) : FnK P w K mg base "fits_skaters" 1 3 m_fits_skaters := fnk T.d_fits_skaters sc_fits_skaters fun f ca cdv A outer s H E hr =>
  (bv_one (sv_ret (ev_and (ev_call F_is_tuple_of.fv (av_cons (ev_var 0) (av_cons (ev_int) (av_cons (ev_gint (by exact T.g_SKATERS)) (av_nil))))) (ev_one (ev_callB call_allD (by exact T.n_all) bb_all (av_cons (ev_lc [("one", 1)] (defScope s_fits_skaters) N_fits_skaters (iv_seq (ev_var 0)) (gv_name (i := 1)) (tsv_nil) (ev_call F_fits_skater.fv (av_cons (ev_var 1) (av_nil)))) (av_nil)))))) : Bv _ _ _ b_fits_skaters)
theorem sc_need_skaters : FnScope N_need_skaters ["skaters"] (defScope s_need_skaters) := ⟨rfl, rfl, rfl, by decide +kernel, rfl, by decide +kernel, by decide +kernel⟩
theorem ok_need_skaters (T : Tx K mg) (F_fits_skaters : FnK P w K mg base "fits_skaters" 1 3 m_fits_skaters) : FnK P w K mg base "need_skaters" 1 4 m_need_skaters := fnk T.d_need_skaters sc_need_skaters fun f ca cdv A outer s H E hr =>
  (bv_one (sv_if (tv_not (tv_val (ev_call F_fits_skaters.fv (av_cons (ev_var 0) (av_nil))))) (bv_one (sv_never)) (bv_nil)) : Bv _ _ _ b_need_skaters)
theorem sc_need_skater : FnScope N_need_skater ["skaters", "one"] (defScope s_need_skater) := ⟨rfl, rfl, rfl, by decide +kernel, rfl, by decide +kernel, by decide +kernel⟩
theorem ok_need_skater (T : Tx K mg) (F_is_whole : FnK P w K mg base "is_whole" 3 1 m_is_whole) (F_need_skaters : FnK P w K mg base "need_skaters" 1 4 m_need_skaters) : FnK P w K mg base "need_skater" 2 5 m_need_skater := fnk T.d_need_skater sc_need_skater fun f ca cdv A outer s H E hr =>
  (bv_cons (sv_expr (ev_call F_need_skaters.fv (av_cons (ev_var 0) (av_nil)))) (bv_one (sv_if (tv_not (tv_val (ev_call F_is_whole.fv (av_cons (ev_var 1) (av_cons (ev_int) (av_cons (ev_op op_subD (ev_callB call_lenD (by exact T.n_len) bb_len (av_cons (ev_var 0) (av_nil))) (ev_int)) (av_nil))))))) (bv_one (sv_never)) (bv_nil))) : Bv _ _ _ b_need_skater)
theorem sc_need_both : FnScope N_need_both ["skaters", "one", "other"] (defScope s_need_both) := ⟨rfl, rfl, rfl, by decide +kernel, rfl, by decide +kernel, by decide +kernel⟩
theorem ok_need_both (T : Tx K mg) (F_is_whole : FnK P w K mg base "is_whole" 3 1 m_is_whole) (F_need_skater : FnK P w K mg base "need_skater" 2 5 m_need_skater) : FnK P w K mg base "need_both" 3 6 m_need_both := fnk T.d_need_both sc_need_both fun f ca cdv A outer s H E hr =>
  (bv_cons (sv_expr (ev_call F_need_skater.fv (av_cons (ev_var 0) (av_cons (ev_var 1) (av_nil))))) (bv_one (sv_if (tv_w (wv_or (tv_not (tv_val (ev_call F_is_whole.fv (av_cons (ev_var 2) (av_cons (ev_int) (av_cons (ev_op op_subD (ev_callB call_lenD (by exact T.n_len) bb_len (av_cons (ev_var 0) (av_nil))) (ev_int)) (av_nil))))))) (wv_or1 (tv_cmp eq_ok (ev_var 1) (ev_var 2))))) (bv_one (sv_never)) (bv_nil))) : Bv _ _ _ b_need_both)
theorem sc_meeting_of : FnScope N_meeting_of ["rows"] (defScope s_meeting_of) := ⟨rfl, rfl, rfl, by decide +kernel, rfl, by decide +kernel, by decide +kernel⟩
theorem ok_meeting_of (T : Tx K mg)  : FnK P w K mg base "meeting_of" 1 1 m_meeting_of := fnk T.d_meeting_of sc_meeting_of fun f ca cdv A outer s H E hr =>
  (bv_cons (sv_asg (ev_tup (av_cons (ev_int) (av_cons (ev_int) (av_nil)))) (gv_tup (gsv_cons (gv_name (i := 1)) (gsv_cons (gv_name (i := 2)) (gsv_nil))) 2)) (bv_cons (sv_for (iv_seq (ev_var 0)) (gv_tup (gsv_cons (gv_name (i := 3)) (gsv_cons (gv_name (i := 4)) (gsv_nil))) 2) (bv_cons (sv_set (ev_op op_fdivD (ev_op op_mulD (ev_var 2) (ev_var 3)) (ev_callG call_gcdD (by exact T.i_gcd) (av_cons (ev_var 2) (av_cons (ev_var 3) (av_nil)))))) (bv_cons (sv_setLc [("time", 8)] (defScope s_meeting_of) N_meeting_of (iv_range3 (av_cons (ev_var 1) (av_cons (ev_op op_addD (ev_var 1) (ev_var 6)) (av_cons (ev_var 2) (av_nil)))) (by exact T.n_range) rangeSize_nn) (gv_name (i := 8)) (tsv_one (tv_cmp eq_ok (ev_op op_modD (ev_op op_subD (ev_var 8) (ev_var 4)) (ev_var 3)) (ev_int))) (ev_var 8)) (bv_cons (sv_if (tv_cmp eq_ok (ev_var 7) (ev_lst (av_nil))) (bv_one (sv_ret (ev_non))) (bv_nil)) (bv_one (sv_par (av_cons (ev_ix (ev_var 7) (ev_int)) (av_cons (ev_var 6) (av_nil))))))))) (bv_cons (sv_set (ev_callB call_maxD (by exact T.n_max) bb_max (av_cons (ev_op op_addD (ev_lc [("lap", 3), ("late", 4)] (defScope s_meeting_of) N_meeting_of (iv_seq (ev_var 0)) (gv_tup (gsv_cons (gv_name (i := 3)) (gsv_cons (gv_name (i := 4)) (gsv_nil))) 2) (tsv_nil) (ev_var 4)) (ev_lst (av_cons (ev_int) (av_nil)))) (av_nil)))) (bv_one (sv_ret (ev_tup (av_cons (ev_op op_addD (ev_var 1) (ev_op op_mulD (ev_op op_fdivD (ev_op op_subD (ev_op op_addD (ev_callB call_maxD (by exact T.n_max) bb_max (av_cons (ev_int) (av_cons (ev_op op_subD (ev_var 5) (ev_var 1)) (av_nil)))) (ev_var 2)) (ev_int)) (ev_var 2)) (ev_var 2))) (av_cons (ev_var 2) (av_nil)))))))) : Bv _ _ _ b_meeting_of)
theorem sc_together : FnScope N_together ["skaters", "some"] (defScope s_together) := ⟨rfl, rfl, rfl, by decide +kernel, rfl, by decide +kernel, by decide +kernel⟩
theorem ok_together (T : Tx K mg) (F_fits_some : FnK P w K mg base "fits_some" 2 2 m_fits_some) (F_need_skaters : FnK P w K mg base "need_skaters" 1 4 m_need_skaters) (F_meeting_of : FnK P w K mg base "meeting_of" 1 1 m_meeting_of) : FnK P w K mg base "together" 2 5 m_together := fnk T.d_together sc_together fun f ca cdv A outer s H E hr =>
  (bv_cons (sv_expr (ev_call F_need_skaters.fv (av_cons (ev_var 0) (av_nil)))) (bv_cons (sv_if (tv_not (tv_val (ev_call F_fits_some.fv (av_cons (ev_callB call_lenD (by exact T.n_len) bb_len (av_cons (ev_var 0) (av_nil))) (av_cons (ev_var 1) (av_nil)))))) (bv_one (sv_never)) (bv_nil)) (bv_cons (sv_set (ev_call F_meeting_of.fv (av_cons (ev_lc [("at", 3)] (defScope s_together) N_together (iv_seq (ev_var 1)) (gv_name (i := 3)) (tsv_nil) (ev_ix (ev_var 0) (ev_var 3))) (av_nil)))) (bv_one (sv_ret (ev_if (tv_cmp op_isnotD (ev_var 2) (ev_non)) (ev_ix (ev_var 2) (ev_int)) (ev_non)))))) : Bv _ _ _ b_together)
theorem sc_line_paper : FnScope N_line_paper ["skaters", "one", "other"] (defScope s_line_paper) := ⟨rfl, rfl, rfl, by decide +kernel, rfl, by decide +kernel, by decide +kernel⟩
theorem ok_line_paper (T : Tx K mg) (F_need_both : FnK P w K mg base "need_both" 3 6 m_need_both) : FnK P w K mg base "line_paper" 3 7 m_line_paper := fnk T.d_line_paper sc_line_paper fun f ca cdv A outer s H E hr =>
  (bv_cons (sv_expr (ev_call F_need_both.fv (av_cons (ev_var 0) (av_cons (ev_var 1) (av_cons (ev_var 2) (av_nil)))))) (bv_cons (sv_par (av_cons (ev_ix (ev_var 0) (ev_var 1)) (av_cons (ev_ix (ev_var 0) (ev_var 2)) (av_nil)))) (bv_cons (sv_set (ev_callG call_gcdD (by exact T.i_gcd) (av_cons (ev_ix (ev_var 3) (ev_int)) (av_cons (ev_ix (ev_var 4) (ev_int)) (av_nil))))) (bv_one (sv_ret (ev_if (tv_cmp ne_ok (ev_op op_modD (ev_op op_subD (ev_ix (ev_var 3) (ev_int)) (ev_ix (ev_var 4) (ev_int))) (ev_var 5)) (ev_int)) (ev_tup (av_cons (ev_var 5) (av_cons (ev_op op_modD (ev_ix (ev_var 3) (ev_int)) (ev_var 5)) (av_cons (ev_op op_modD (ev_ix (ev_var 4) (ev_int)) (ev_var 5)) (av_nil))))) (ev_non)))))) : Bv _ _ _ b_line_paper)
theorem sc_is_line_paper : FnScope N_is_line_paper ["skaters", "one", "other", "value"] (defScope s_is_line_paper) := ⟨rfl, rfl, rfl, by decide +kernel, rfl, by decide +kernel, by decide +kernel⟩
theorem ok_is_line_paper (T : Tx K mg) (F_is_whole : FnK P w K mg base "is_whole" 3 1 m_is_whole) (F_is_tuple_of : FnK P w K mg base "is_tuple_of" 3 1 m_is_tuple_of) (F_need_both : FnK P w K mg base "need_both" 3 6 m_need_both) : FnK P w K mg base "is_line_paper" 4 7 m_is_line_paper := fnk T.d_is_line_paper sc_is_line_paper fun f ca cdv A outer s H E hr =>
  (bv_cons (sv_expr (ev_call F_need_both.fv (av_cons (ev_var 0) (av_cons (ev_var 1) (av_cons (ev_var 2) (av_nil)))))) (bv_cons (sv_if (tv_w (wv_or (tv_not (tv_val (ev_call F_is_tuple_of.fv (av_cons (ev_var 3) (av_cons (ev_int) (av_cons (ev_int) (av_nil))))))) (wv_or1 (tv_not (tv_val (ev_call F_is_whole.fv (av_cons (ev_ix (ev_var 3) (ev_int)) (av_cons (ev_int) (av_cons (ev_gint (by exact T.g_LAP)) (av_nil)))))))))) (bv_one (sv_ret (ev_bl))) (bv_nil)) (bv_cons (sv_asg (ev_var 3) (gv_tup (gsv_cons (gv_name (i := 4)) (gsv_cons (gv_name (i := 5)) (gsv_cons (gv_name (i := 6)) (gsv_nil)))) 3)) (bv_cons (sv_if (tv_w (wv_or (tv_not (tv_val (ev_call F_is_whole.fv (av_cons (ev_var 5) (av_cons (ev_int) (av_cons (ev_op op_subD (ev_var 4) (ev_int)) (av_nil))))))) (wv_or (tv_not (tv_val (ev_call F_is_whole.fv (av_cons (ev_var 6) (av_cons (ev_int) (av_cons (ev_op op_subD (ev_var 4) (ev_int)) (av_nil))))))) (wv_or1 (tv_cmp eq_ok (ev_var 5) (ev_var 6)))))) (bv_one (sv_ret (ev_bl))) (bv_nil)) (bv_cons (sv_if (tv_w (wv_or (tv_cmp ne_ok (ev_op op_modD (ev_ix (ev_ix (ev_var 0) (ev_var 1)) (ev_int)) (ev_var 4)) (ev_int)) (wv_or1 (tv_cmp ne_ok (ev_op op_modD (ev_ix (ev_ix (ev_var 0) (ev_var 2)) (ev_int)) (ev_var 4)) (ev_int))))) (bv_one (sv_ret (ev_bl))) (bv_nil)) (bv_one (sv_ret (ev_and (ev_cmp eq_ok (ev_op op_modD (ev_ix (ev_ix (ev_var 0) (ev_var 1)) (ev_int)) (ev_var 4)) (ev_var 5)) (ev_one (ev_cmp eq_ok (ev_op op_modD (ev_ix (ev_ix (ev_var 0) (ev_var 2)) (ev_int)) (ev_var 4)) (ev_var 6)))))))))) : Bv _ _ _ b_is_line_paper)
theorem sc__law_cup : FnScope N__law_cup ["script"] (defScope s__law_cup) := ⟨rfl, rfl, rfl, by decide +kernel, rfl, by decide +kernel, by decide +kernel⟩
theorem sc__law_roll : FnScope N__law_roll ["cup", "many"] (defScope s__law_roll) := ⟨rfl, rfl, rfl, by decide +kernel, rfl, by decide +kernel, by decide +kernel⟩
theorem ok__law_roll (T : Tx K mg)  : FnK P w K mg base "_law_roll" 2 1 m__law_roll := fnk T.d__law_roll sc__law_roll fun f ca cdv A outer s H E hr =>
  (bv_cons (sv_if (tv_cmp op_gtD (ev_ixc 0 (ev_int)) (ev_int)) (bv_cons (sv_set (ev_op op_modD (ev_callTy call_intD (by exact T.n_int) bb_int (av_cons (ev_ixc 0 (ev_int)) (av_nil))) (ev_var 1))) (bv_cons (sv_setc 0 (ev_op op_fdivD (ev_ixc 0 (ev_int)) (ev_var 1)) (ev_int)) (bv_one (sv_ret (ev_var 3))))) (bv_nil)) (bv_cons (sv_setc 0 (ev_op op_modD (ev_callTy call_intD (by exact T.n_int) bb_int (av_cons (ev_op op_addD (ev_op op_mulD (ev_ixc 0 (ev_int)) (ev_int)) (ev_int)) (av_nil))) (ev_int)) (ev_int)) (bv_cons (sv_set (ev_op op_modD (ev_callTy call_intD (by exact T.n_int) bb_int (av_cons (ev_op op_mulD (ev_ixc 0 (ev_int)) (ev_op op_addD (ev_ixc 0 (ev_int)) (ev_int))) (av_nil))) (ev_int))) (bv_one (sv_ret (ev_op op_modD (ev_callTy call_intD (by exact T.n_int) bb_int (av_cons (ev_op op_fdivD (ev_var 2) (ev_int)) (av_nil))) (ev_var 1)))))) : Bv _ _ _ b__law_roll)
theorem sc__law_some : FnScope N__law_some ["cup", "things"] (defScope s__law_some) := ⟨rfl, rfl, rfl, by decide +kernel, rfl, by decide +kernel, by decide +kernel⟩
theorem ok__law_some (T : Tx K mg) (F__law_roll : FnK P w K mg base "_law_roll" 2 1 m__law_roll) : FnK P w K mg base "_law_some" 2 2 m__law_some := fnk T.d__law_some sc__law_some fun f ca cdv A outer s H E hr =>
  (bv_one (sv_ret (ev_ix (ev_var 1) (ev_call F__law_roll.fv (av_cons (ev_var 0) (av_cons (ev_callB call_lenD (by exact T.n_len) bb_len (av_cons (ev_var 1) (av_nil))) (av_nil)))))) : Bv _ _ _ b__law_some)
theorem sc__law_same : FnScope N__law_same ["told", "due"] (defScope s__law_same) := ⟨rfl, rfl, rfl, by decide +kernel, rfl, by decide +kernel, by decide +kernel⟩
theorem ok__law_same (T : Tx K mg)  : ∀ n, FnK P w K mg base "_law_same" 2 (1 + n) (m__law_same n)
  | 0 => fnk0 T.d__law_same (by decide)
  | n + 1 => by
    have F_rec := ok__law_same T  n
    exact fnk T.d__law_same sc__law_same fun f ca cdv A outer s H E hr => (bv_cons (sv_if (tv_val (ev_isi (ev_var 1) (by exact T.n_isinstance) (by exact T.n_tuple) bb_tuple)) (bv_cons (sv_if (tv_w (wv_or (tv_not (tv_val (ev_isi (ev_var 0) (by exact T.n_isinstance) (by exact T.n_tuple) bb_tuple))) (wv_or1 (tv_cmp ne_ok (ev_callB call_lenD (by exact T.n_len) bb_len (av_cons (ev_var 0) (av_nil))) (ev_callB call_lenD (by exact T.n_len) bb_len (av_cons (ev_var 1) (av_nil))))))) (bv_one (sv_ret (ev_bl))) (bv_nil)) (bv_one (sv_ret (ev_callB call_allD (by exact T.n_all) bb_all (av_cons (ev_lc [("at", 2)] (defScope s__law_same) N__law_same (iv_range1 (av_cons (ev_callB call_lenD (by exact T.n_len) bb_len (av_cons (ev_var 1) (av_nil))) (av_nil)) (by exact T.n_range)) (gv_name (i := 2)) (tsv_nil) (ev_call (F_rec.fv (Nat.le_refl _)) (av_cons (ev_ix (ev_var 0) (ev_var 2)) (av_cons (ev_ix (ev_var 1) (ev_var 2)) (av_nil))))) (av_nil)))))) (bv_nil)) (bv_cons (sv_if (tv_cmp op_isD (ev_var 1) (ev_non)) (bv_one (sv_ret (ev_cmp op_isD (ev_var 0) (ev_non)))) (bv_nil)) (bv_cons (sv_if (tv_val (ev_isi (ev_var 1) (by exact T.n_isinstance) (by exact T.n_bool) bb_bool)) (bv_one (sv_ret (ev_if (tv_val (ev_var 1)) (ev_cmp op_isD (ev_var 0) (ev_bl)) (ev_cmp op_isD (ev_var 0) (ev_bl))))) (bv_nil)) (bv_cons (sv_if (tv_val (ev_isi (ev_var 1) (by exact T.n_isinstance) (by exact T.n_int) bb_int)) (bv_one (sv_ret (ev_and (ev_isi (ev_var 0) (by exact T.n_isinstance) (by exact T.n_int) bb_int) (ev_and (ev_not (ev_isi (ev_var 0) (by exact T.n_isinstance) (by exact T.n_bool) bb_bool)) (ev_one (ev_cmp eq_ok (ev_callTy call_intD (by exact T.n_int) bb_int (av_cons (ev_var 0) (av_nil))) (ev_var 1))))))) (bv_nil)) (bv_one (sv_ret (ev_and (ev_isi (ev_var 0) (by exact T.n_isinstance) (by exact T.n_str) bb_str) (ev_one (ev_cmp eq_ok (ev_callTy call_strD (by exact T.n_str) bb_str (av_cons (ev_var 0) (av_nil))) (ev_var 1))))))))) : Bv _ _ _ (b__law_same (m__law_same n)))
theorem sc__law_skaters : FnScope N__law_skaters ["cup", "most", "lap"] (defScope s__law_skaters) := ⟨rfl, rfl, rfl, by decide +kernel, rfl, by decide +kernel, by decide +kernel⟩
theorem ok__law_skaters (T : Tx K mg) (F__law_roll : FnK P w K mg base "_law_roll" 2 1 m__law_roll) (F__law_some : FnK P w K mg base "_law_some" 2 2 m__law_some) : FnK P w K mg base "_law_skaters" 3 3 m__law_skaters := fnk T.d__law_skaters sc__law_skaters fun f ca cdv A outer s H E hr =>
  (bv_cons (sv_par (av_cons (ev_tup (av_nil)) (av_cons (ev_call F__law_some.fv (av_cons (ev_var 0) (av_cons (ev_lst (av_cons (ev_int) (av_cons (ev_int) (av_cons (ev_int) (av_nil))))) (av_nil)))) (av_nil)))) (bv_cons (sv_for (iv_range1 (av_cons (ev_op op_addD (ev_int) (ev_call F__law_roll.fv (av_cons (ev_var 0) (av_cons (ev_var 1) (av_nil))))) (av_nil)) (by exact T.n_range)) (gv_name (i := 5)) (bv_one (sv_set (ev_op op_addD (ev_var 3) (ev_tup (av_cons (ev_tup (av_cons (ev_op op_addD (ev_int) (ev_call F__law_roll.fv (av_cons (ev_var 0) (av_cons (ev_var 2) (av_nil))))) (av_cons (ev_call F__law_roll.fv (av_cons (ev_var 0) (av_cons (ev_var 4) (av_nil)))) (av_nil)))) (av_nil))))))) (bv_one (sv_ret (ev_var 3)))) : Bv _ _ _ b__law_skaters)
theorem sc__law_is_there : FnScope N__law_is_there ["skater", "time"] (defScope s__law_is_there) := ⟨rfl, rfl, rfl, by decide +kernel, rfl, by decide +kernel, by decide +kernel⟩
theorem ok__law_is_there (T : Tx K mg)  : FnK P w K mg base "_law_is_there" 2 1 m__law_is_there := fnk T.d__law_is_there sc__law_is_there fun f ca cdv A outer s H E hr =>
  (bv_one (sv_ret (ev_and (ev_cmp op_geD (ev_var 1) (ev_ix (ev_var 0) (ev_int))) (ev_one (ev_cmp eq_ok (ev_op op_modD (ev_callTy call_intD (by exact T.n_int) bb_int (av_cons (ev_op op_subD (ev_var 1) (ev_ix (ev_var 0) (ev_int))) (av_nil))) (ev_ix (ev_var 0) (ev_int))) (ev_int))))) : Bv _ _ _ b__law_is_there)
theorem sc__law_is_paper : FnScope N__law_is_paper ["one", "other", "value"] (defScope s__law_is_paper) := ⟨rfl, rfl, rfl, by decide +kernel, rfl, by decide +kernel, by decide +kernel⟩
theorem ok__law_is_paper (T : Tx K mg)  : FnK P w K mg base "_law_is_paper" 3 1 m__law_is_paper := fnk T.d__law_is_paper sc__law_is_paper fun f ca cdv A outer s H E hr =>
  (bv_cons (sv_asg (ev_var 2) (gv_tup (gsv_cons (gv_name (i := 3)) (gsv_cons (gv_name (i := 4)) (gsv_cons (gv_name (i := 5)) (gsv_nil)))) 3)) (bv_cons (sv_if (tv_w (wv_or (tv_cmp ne_ok (ev_op op_modD (ev_callTy call_intD (by exact T.n_int) bb_int (av_cons (ev_ix (ev_var 0) (ev_int)) (av_nil))) (ev_var 3)) (ev_int)) (wv_or (tv_cmp ne_ok (ev_op op_modD (ev_callTy call_intD (by exact T.n_int) bb_int (av_cons (ev_ix (ev_var 1) (ev_int)) (av_nil))) (ev_var 3)) (ev_int)) (wv_or1 (tv_cmp eq_ok (ev_var 4) (ev_var 5)))))) (bv_one (sv_ret (ev_bl))) (bv_nil)) (bv_one (sv_ret (ev_and (ev_cmp eq_ok (ev_op op_modD (ev_callTy call_intD (by exact T.n_int) bb_int (av_cons (ev_ix (ev_var 0) (ev_int)) (av_nil))) (ev_var 3)) (ev_var 4)) (ev_one (ev_cmp eq_ok (ev_op op_modD (ev_callTy call_intD (by exact T.n_int) bb_int (av_cons (ev_ix (ev_var 1) (ev_int)) (av_nil))) (ev_var 3)) (ev_var 5))))))) : Bv _ _ _ b__law_is_paper)
theorem sc__law_right : FnScope N__law_right ["cup"] (defScope s__law_right) := ⟨rfl, rfl, rfl, by decide +kernel, rfl, by decide +kernel, by decide +kernel⟩
theorem ok__law_right (T : Tx K mg) (F_together : FnK P w K mg base "together" 2 5 m_together) (F_line_paper : FnK P w K mg base "line_paper" 3 7 m_line_paper) (F_is_line_paper : FnK P w K mg base "is_line_paper" 4 7 m_is_line_paper) (F__law_roll : FnK P w K mg base "_law_roll" 2 1 m__law_roll) (F__law_some : FnK P w K mg base "_law_some" 2 2 m__law_some) (F__law_same : FnK P w K mg base "_law_same" 2 7 (m__law_same 6)) (F__law_skaters : FnK P w K mg base "_law_skaters" 3 3 m__law_skaters) (F__law_is_there : FnK P w K mg base "_law_is_there" 2 1 m__law_is_there) (F__law_is_paper : FnK P w K mg base "_law_is_paper" 3 1 m__law_is_paper) : FnK P w K mg base "_law_right" 1 8 m__law_right := fnk T.d__law_right sc__law_right fun f ca cdv A outer s H E hr =>
  (bv_cons (sv_set (ev_call F__law_skaters.fv (av_cons (ev_var 0) (av_cons (ev_int) (av_cons (ev_call F__law_some.fv (av_cons (ev_var 0) (av_cons (ev_lst (av_cons (ev_int) (av_cons (ev_int) (av_nil)))) (av_nil)))) (av_nil)))))) (bv_cons (sv_set (ev_callB call_lenD (by exact T.n_len) bb_len (av_cons (ev_var 1) (av_nil)))) (bv_cons (sv_for (iv_range1 (av_cons (ev_if (tv_cmp op_gtD (ev_var 2) (ev_int)) (ev_int) (ev_int)) (av_nil)) (by exact T.n_range)) (gv_name (i := 3)) (bv_cons (sv_set (ev_call F__law_roll.fv (av_cons (ev_var 0) (av_cons (ev_var 2) (av_nil))))) (bv_cons (sv_set (ev_op op_modD (ev_callTy call_intD (by exact T.n_int) bb_int (av_cons (ev_op op_addD (ev_op op_addD (ev_var 4) (ev_int)) (ev_call F__law_roll.fv (av_cons (ev_var 0) (av_cons (ev_op op_subD (ev_var 2) (ev_int)) (av_nil))))) (av_nil))) (ev_var 2))) (bv_cons (sv_asg (ev_tup (av_cons (ev_ix (ev_var 1) (ev_var 4)) (av_cons (ev_ix (ev_var 1) (ev_var 5)) (av_nil)))) (gv_tup (gsv_cons (gv_name (i := 6)) (gsv_cons (gv_name (i := 7)) (gsv_nil))) 2)) (bv_cons (sv_setLc [("time", 15)] (defScope s__law_right) N__law_right (iv_range2 (av_cons (ev_ix (ev_var 7) (ev_int)) (av_cons (ev_op op_addD (ev_op op_addD (ev_ix (ev_var 7) (ev_int)) (ev_op op_mulD (ev_ix (ev_var 6) (ev_int)) (ev_ix (ev_var 7) (ev_int)))) (ev_int)) (av_nil))) (by exact T.n_range)) (gv_name (i := 15)) (tsv_one (tv_w (wv_and (tv_val (ev_call F__law_is_there.fv (av_cons (ev_var 6) (av_cons (ev_var 15) (av_nil))))) (wv_and1 (tv_val (ev_call F__law_is_there.fv (av_cons (ev_var 7) (av_cons (ev_var 15) (av_nil))))))))) (ev_var 15)) (bv_cons (sv_set (ev_call F_line_paper.fv (av_cons (ev_var 1) (av_cons (ev_var 4) (av_cons (ev_var 5) (av_nil)))))) (bv_cons (sv_if (tv_w (wv_or (tv_cmp ne_ok (ev_cmp op_isD (ev_var 9) (ev_non)) (ev_cmp ne_ok (ev_var 8) (ev_lst (av_nil)))) (wv_or1 (tv_cmp ne_ok (ev_cmp op_isD (ev_call F_together.fv (av_cons (ev_var 1) (av_cons (ev_callTy call_tupleD (by exact T.n_tuple) bb_tuple (av_cons (ev_callB call_sortedD (by exact T.n_sorted) bb_sorted (av_cons (ev_lst (av_cons (ev_var 4) (av_cons (ev_var 5) (av_nil)))) (av_nil))) (av_nil))) (av_nil)))) (ev_non)) (ev_cmp op_isnotD (ev_var 9) (ev_non)))))) (bv_one (sv_ret (ev_bl))) (bv_nil)) (bv_cons (sv_if (tv_w (wv_and (tv_cmp op_isnotD (ev_var 9) (ev_non)) (wv_and1 (tv_w (wv_or (tv_not (tv_val (ev_isi (ev_var 9) (by exact T.n_isinstance) (by exact T.n_tuple) bb_tuple))) (wv_or (tv_cmp op_isnotD (ev_call F_is_line_paper.fv (av_cons (ev_var 1) (av_cons (ev_var 4) (av_cons (ev_var 5) (av_cons (ev_var 9) (av_nil)))))) (ev_bl)) (wv_or1 (tv_not (tv_val (ev_call F__law_is_paper.fv (av_cons (ev_var 6) (av_cons (ev_var 7) (av_cons (ev_var 9) (av_nil)))))))))))))) (bv_one (sv_ret (ev_bl))) (bv_nil)) (bv_cons (sv_for (iv_range1 (av_cons (ev_int) (av_nil)) (by exact T.n_range)) (gv_name (i := 10)) (bv_cons (sv_set (ev_op op_addD (ev_int) (ev_call F__law_roll.fv (av_cons (ev_var 0) (av_cons (ev_call F__law_some.fv (av_cons (ev_var 0) (av_cons (ev_lst (av_cons (ev_int) (av_cons (ev_int) (av_cons (ev_int) (av_nil))))) (av_nil)))) (av_nil)))))) (bv_one (sv_for (iv_seq (ev_tup (av_cons (ev_tup (av_cons (ev_var 12) (av_cons (ev_op op_modD (ev_callTy call_intD (by exact T.n_int) bb_int (av_cons (ev_ix (ev_var 6) (ev_int)) (av_nil))) (ev_var 12)) (av_cons (ev_op op_modD (ev_callTy call_intD (by exact T.n_int) bb_int (av_cons (ev_ix (ev_var 7) (ev_int)) (av_nil))) (ev_var 12)) (av_nil))))) (av_cons (ev_tup (av_cons (ev_var 12) (av_cons (ev_call F__law_roll.fv (av_cons (ev_var 0) (av_cons (ev_var 12) (av_nil)))) (av_cons (ev_call F__law_roll.fv (av_cons (ev_var 0) (av_cons (ev_var 12) (av_nil)))) (av_nil))))) (av_nil))))) (gv_name (i := 13)) (bv_cons (sv_set (ev_call F__law_is_paper.fv (av_cons (ev_var 6) (av_cons (ev_var 7) (av_cons (ev_var 13) (av_nil)))))) (bv_one (sv_if (tv_w (wv_or (tv_not (tv_val (ev_call F__law_same.fv (av_cons (ev_call F_is_line_paper.fv (av_cons (ev_var 1) (av_cons (ev_var 4) (av_cons (ev_var 5) (av_cons (ev_var 13) (av_nil)))))) (av_cons (ev_var 14) (av_nil)))))) (wv_or1 (tv_w (wv_and (tv_val (ev_var 14)) (wv_and1 (tv_cmp ne_ok (ev_var 8) (ev_lst (av_nil))))))))) (bv_one (sv_ret (ev_bl))) (bv_nil)))))))) (bv_cons (sv_set (ev_lst (av_cons (ev_non) (av_cons (ev_tup (av_nil)) (av_cons (ev_tup (av_cons (ev_int) (av_cons (ev_int) (av_nil)))) (av_cons (ev_lst (av_cons (ev_int) (av_cons (ev_int) (av_cons (ev_int) (av_nil))))) (av_cons (ev_tup (av_cons (ev_int) (av_cons (ev_int) (av_cons (ev_int) (av_nil))))) (av_cons (ev_tup (av_cons (ev_int) (av_cons (ev_int) (av_cons (ev_int) (av_nil))))) (av_cons (ev_tup (av_cons (ev_int) (av_cons (ev_int) (av_cons (ev_int) (av_nil))))) (av_cons (ev_tup (av_cons (ev_int) (av_cons (ev_neg (ev_int)) (av_cons (ev_int) (av_nil))))) (av_cons (ev_tup (av_cons (ev_bl) (av_cons (ev_int) (av_cons (ev_int) (av_nil))))) (av_cons (ev_tup (av_cons (ev_int) (av_cons (ev_bl) (av_cons (ev_int) (av_nil))))) (av_cons (ev_tup (av_cons (ev_int) (av_cons (ev_int) (av_cons (ev_non) (av_nil))))) (av_cons (ev_tup (av_cons (ev_str) (av_cons (ev_int) (av_cons (ev_int) (av_nil))))) (av_cons (ev_tup (av_cons (ev_int) (av_cons (ev_int) (av_cons (ev_int) (av_cons (ev_int) (av_nil)))))) (av_cons (ev_int) (av_nil))))))))))))))))) (bv_one (sv_if (tv_cmp ne_ok (ev_lc [("odd", 16)] (defScope s__law_right) N__law_right (iv_seq (ev_var 11)) (gv_name (i := 16)) (tsv_one (tv_cmp op_isnotD (ev_call F_is_line_paper.fv (av_cons (ev_var 1) (av_cons (ev_var 4) (av_cons (ev_var 5) (av_cons (ev_var 16) (av_nil)))))) (ev_bl))) (ev_var 16)) (ev_lst (av_nil))) (bv_one (sv_ret (ev_bl))) (bv_nil))))))))))))) (bv_one (sv_ret (ev_bl))))) : Bv _ _ _ b__law_right)
theorem sc_law : FnScope N_law ["script"] (defScope s_law) := ⟨rfl, rfl, rfl, by decide +kernel, rfl, by decide +kernel, by decide +kernel⟩
theorem rest_law (T : Tx K mg) (F_line_paper : FnK P w K mg base "line_paper" 3 7 m_line_paper) (F_is_line_paper : FnK P w K mg base "is_line_paper" 4 7 m_is_line_paper) (F__law_roll : FnK P w K mg base "_law_roll" 2 1 m__law_roll) (F__law_same : FnK P w K mg base "_law_same" 2 7 (m__law_same 6)) (F__law_right : FnK P w K mg base "_law_right" 1 8 m__law_right) (f : Addr) (ca : Option Addr) (cdv : Value) (A : Around) (outer : List Env) (s : Shared) (H : Hp) (E : XK) (hr : Room 9 (A.deeper (envOfC "law" (defScope s_law) s.heap.objs.size f cdv))) : Bv (famB P w K mg base N_law "law" (defScope s_law) f cdv A outer s H E (XAof mg) 9 sc_law.nd hr) ca ((defBody s_law).drop 1) b_law :=
  bv_cons (sv_for (iv_range1 (av_cons (ev_int) (av_nil)) (by exact T.n_range)) (gv_name (i := 2)) (bv_one (sv_if (tv_not (tv_val (ev_call F__law_right.fv (av_cons (ev_var 1) (av_nil))))) (bv_one (sv_ret (ev_bl))) (bv_nil)))) (bv_cons (sv_asg (ev_tup (av_cons (ev_op op_addD (ev_int) (ev_call F__law_roll.fv (av_cons (ev_var 1) (av_cons (ev_int) (av_nil))))) (av_cons (ev_op op_addD (ev_int) (ev_call F__law_roll.fv (av_cons (ev_var 1) (av_cons (ev_int) (av_nil))))) (av_cons (ev_op op_addD (ev_int) (ev_call F__law_roll.fv (av_cons (ev_var 1) (av_cons (ev_int) (av_nil))))) (av_cons (ev_call F__law_roll.fv (av_cons (ev_var 1) (av_cons (ev_int) (av_nil)))) (av_nil)))))) (gv_tup (gsv_cons (gv_name (i := 3)) (gsv_cons (gv_name (i := 4)) (gsv_cons (gv_name (i := 5)) (gsv_cons (gv_name (i := 6)) (gsv_nil))))) 4)) (bv_cons (sv_par (av_cons (ev_tup (av_cons (ev_tup (av_cons (ev_op op_mulD (ev_int) (ev_var 3)) (av_cons (ev_op op_mulD (ev_int) (ev_var 6)) (av_nil)))) (av_cons (ev_tup (av_cons (ev_op op_mulD (ev_int) (ev_var 4)) (av_cons (ev_op op_addD (ev_op op_mulD (ev_int) (ev_var 6)) (ev_int)) (av_nil)))) (av_nil)))) (av_cons (ev_tup (av_cons (ev_tup (av_cons (ev_var 5) (av_cons (ev_var 6) (av_nil)))) (av_cons (ev_tup (av_cons (ev_var 5) (av_cons (ev_op op_addD (ev_var 6) (ev_int)) (av_nil)))) (av_nil)))) (av_nil)))) (bv_cons (sv_set (ev_tup (av_cons (ev_call F_is_line_paper.fv (av_cons (ev_var 7) (av_cons (ev_int) (av_cons (ev_int) (av_cons (ev_tup (av_cons (ev_int) (av_cons (ev_int) (av_cons (ev_int) (av_nil))))) (av_nil)))))) (av_cons (ev_call F_is_line_paper.fv (av_cons (ev_var 7) (av_cons (ev_int) (av_cons (ev_int) (av_cons (ev_tup (av_cons (ev_int) (av_cons (ev_int) (av_cons (ev_int) (av_nil))))) (av_nil)))))) (av_cons (ev_call F_is_line_paper.fv (av_cons (ev_var 7) (av_cons (ev_int) (av_cons (ev_int) (av_cons (ev_tup (av_cons (ev_int) (av_cons (ev_int) (av_cons (ev_int) (av_nil))))) (av_nil)))))) (av_nil)))))) (bv_one (sv_ret (ev_and (ev_call F__law_same.fv (av_cons (ev_var 9) (av_cons (ev_tup (av_cons (ev_bl) (av_cons (ev_bl) (av_cons (ev_bl) (av_nil))))) (av_nil)))) (ev_and (ev_cmp op_isnotD (ev_call F_line_paper.fv (av_cons (ev_var 8) (av_cons (ev_int) (av_cons (ev_int) (av_nil))))) (ev_non)) (ev_one (ev_cmp op_isD (ev_call F_line_paper.fv (av_cons (ev_tup (av_cons (ev_tup (av_cons (ev_var 5) (av_cons (ev_var 6) (av_nil)))) (av_cons (ev_tup (av_cons (ev_int) (av_cons (ev_int) (av_nil)))) (av_nil)))) (av_cons (ev_int) (av_cons (ev_int) (av_nil))))) (ev_non))))))))))
theorem cup_ok (T : Tx K mg) : ∃ (f : Addr) (fd : FuncData), FnOk P w K mg base (L2.CX P w) 1 f fd ["script"] (spCup K 163 409 4153 2077504931 239) ∧ mg "_law_cup" = some (.ref f) ∧ PySem.W.keepIn K (.ref f) = true ∧ Binds K fd ["script"] [] := by
  obtain ⟨f, fd, F, hm, b⟩ := T.d__law_cup.ex
  refine ⟨f, fd, F.okX sc__law_cup (fun vs H Q E h => ?_) (fun cdv A outer s H vs Q E hr h => ?_), hm, F.kp, b⟩
  · obtain ⟨ad, ns, rfl, _⟩ := h
    rfl
  · obtain ⟨ad, ns, rfl, hS, hl, k⟩ := h
    refine ⟨_, pss_cons (ps_set (i := 1) sc__law_cup.nd rfl (Or.inl rfl) (pe_callB call_abs rfl T.n_abs bb_abs (pa_cons (pe_ix ix_list (pe_op op_cat (pe_callTy call_list_of rfl T.n_list bb_list (pa_cons (pv 0) pa_nil)) (pe_lst (pa_cons pe_int pa_nil))) pe_int (fun _ _ => rfl)) pa_nil)))
      (pss_one (ps_ret (pe_lst (pa_cons (pe_ifExp (pt_cmpR op_ge (pv 1) (pe_op op_pow pe_int pe_int) (nomark _)) (pe_op op_fdiv (pv 1) pe_int) pe_int)
        (pa_cons (pe_op op_add (pe_op op_mod (pe_callTy call_int1 rfl T.n_int bb_int (pa_cons (pe_op op_add (pe_op op_mul (pv 1) pe_int) pe_int) pa_nil)) pe_int) pe_int) pa_nil))))), ?_⟩
    refine ⟨_, rfl, ad, _, rfl, .inl hS, fun l1 n1 => ⟨by show 1 ≤ sizeLine; decide, fun l2 n2 => ?_⟩⟩
    have ne : l1 ≠ l2 := fun z => by rw [← z, upd_same] at n2; cases n2
    refine ⟨l1, l2, _, _, rfl, rfl, by rw [upd_ne ne, upd_same], upd_same, by rw [List.length_map]; show ns.length + 1 ≤ _; rw [sizeLine_eq]; omega, fun l3 n3 => ?_⟩
    refine ⟨l3, _, _, _, rfl, rfl, SqL.of upd_same, head_at ns, _, rfl, ?_⟩
    have sm : Same H (upd (upd (upd H l1 (.lst (ns.map V.int))) l2 (.lst [V.int 0])) l3 (.lst (ns.map V.int ++ [V.int 0]))) := (same_upd n1).trans ((same_upd n2).trans (same_upd n3))
    have fin : ∀ x : Int, x = cupX 163 ns → ∀ (Hx : Hp), Same H Hx → ∀ p, Hx p = none → Q (.ref p) (upd Hx p (.lst [.int x, .int (cupY 409 4153 2077504931 239 ns)])) := fun x e Hx sx p np => by rw [e]; exact k p Hx sx np
    refine ⟨_, rfl, _, _, rfl, rfl, ⟨by decide, by decide, by decide⟩, _, _, rfl, rfl, _, rfl, ?_⟩
    refine ite2 (fun c => ?_) (fun c => ?_)
    · refine ⟨_, rfl, _, _, rfl, rfl, ⟨by decide, by decide⟩, _, rfl, _, _, rfl, rfl, .inr ⟨by decide, by decide⟩, _, _, rfl, rfl, .inl ⟨_, rfl, _, _, rfl, rfl, by show (0 : Int) < _; decide, _, _, rfl, rfl, by show 2 ≤ sizeLine; decide, ?_⟩⟩
      exact fin _ (by unfold cupX; rw [if_pos (show cell0 ns ≥ 10 ^ 18 from of_decide_eq_true c)]; rfl) _ sm
    · refine ⟨_, rfl, _, _, rfl, rfl, .inr ⟨by decide, by decide⟩, _, _, rfl, rfl, .inl ⟨_, rfl, _, _, rfl, rfl, by show (0 : Int) < _; decide, _, _, rfl, rfl, by show 2 ≤ sizeLine; decide, ?_⟩⟩
      exact fin _ (by unfold cupX; rw [if_neg (show ¬ cell0 ns ≥ 10 ^ 18 from fun z => c (decide_eq_true z))]) _ sm
theorem law_ok (T : Tx K mg) (F_line_paper : FnK P w K mg base "line_paper" 3 7 m_line_paper) (F_is_line_paper : FnK P w K mg base "is_line_paper" 4 7 m_is_line_paper) (F__law_roll : FnK P w K mg base "_law_roll" 2 1 m__law_roll) (F__law_same : FnK P w K mg base "_law_same" 2 7 (m__law_same 6)) (F__law_right : FnK P w K mg base "_law_right" 1 8 m__law_right) (hp : Plain) {f : Addr} {fd : FuncData} (F : Fun K "law" "law" s_law f fd) : FnOk P w K mg base (L2.CX P w) 10 f fd ["script"] (spLaw K) := by
  refine F.okX sc_law (fun vs H Q E h => ?_) (fun cdv A outer s H vs Q E hr h => ?_)
  · obtain ⟨ad, ns, rfl, _⟩ := h
    rfl
  · obtain ⟨ad, ns, rfl, hS, hl, k⟩ := h
    obtain ⟨fc, fdc, Fc, hmc, kpc, bc⟩ := cup_ok (P := P) (w := w) (base := base) T
    have tk : Takes (cxOf (L2.CX P w) P w K mg base N_law "law" (defScope s_law) f cdv A outer s H E) (fun cls d _ H => E cls d H) := takes_of rfl rfl rfl rfl
    refine ⟨_, pss_cons (ps_set (i := 1) sc_law.nd rfl (by first | exact Or.inl rfl | exact Or.inr rfl) (pe_call Fc (hr.mono (by decide)) rfl hmc kpc bc .nil (passes_call tk fun _ _ _ _ h => h) (pa_cons (pv 0) pa_nil))) (pss_any (st := (defBody s_law).drop 1)), ?_⟩
    refine ⟨_, rfl, ad, ns, rfl, hS, hl, fun p H' sm np => ?_⟩
    obtain ⟨c, e⟩ := hp ns hl
    obtain ⟨t, h1, h2⟩ := rest_law T F_line_paper F_is_line_paper F__law_roll F__law_same F__law_right f (some p) cdv A outer s H E hr
    refine ⟨t, h1 (), h2 (fun _ => False) (cupW (some p)) _ _ (start_law (cX ns) (cY ns)) _ (srep_law upd_same) ?_⟩
    rw [e]
    exact fun W' v H'' _ rp _ => by rw [show v = .bl true from rp]; exact k H''
end
theorem all_ok (hp : Plain) {P : Program} {w : World} {K : PySem.W.Frag} {mg : Str → Option Value} (T : Tx K mg) (f : Addr) (fd : FuncData) (F : Fun K "law" "law" s_law f fd) (base : Heap) : FnOk P w K mg base (L2.CX P w) 10 f fd ["script"] (spLaw K) := by
  have F_is_whole := ok_is_whole (P := P) (w := w) (base := base) T 
  have F_is_tuple_of := ok_is_tuple_of (P := P) (w := w) (base := base) T 
  have F_is_rising := ok_is_rising (P := P) (w := w) (base := base) T 
  have F_fits_some := ok_fits_some (P := P) (w := w) (base := base) T F_is_whole F_is_tuple_of F_is_rising
  have F_fits_skater := ok_fits_skater (P := P) (w := w) (base := base) T F_is_whole F_is_tuple_of
  have F_fits_skaters := ok_fits_skaters (P := P) (w := w) (base := base) T F_is_tuple_of F_fits_skater
  have F_need_skaters := ok_need_skaters (P := P) (w := w) (base := base) T F_fits_skaters
  have F_need_skater := ok_need_skater (P := P) (w := w) (base := base) T F_is_whole F_need_skaters
  have F_need_both := ok_need_both (P := P) (w := w) (base := base) T F_is_whole F_need_skater
  have F_meeting_of := ok_meeting_of (P := P) (w := w) (base := base) T 
  have F_together := ok_together (P := P) (w := w) (base := base) T F_fits_some F_need_skaters F_meeting_of
  have F_line_paper := ok_line_paper (P := P) (w := w) (base := base) T F_need_both
  have F_is_line_paper := ok_is_line_paper (P := P) (w := w) (base := base) T F_is_whole F_is_tuple_of F_need_both
  have F__law_roll := ok__law_roll (P := P) (w := w) (base := base) T 
  have F__law_some := ok__law_some (P := P) (w := w) (base := base) T F__law_roll
  have F__law_same := ok__law_same (P := P) (w := w) (base := base) T  6
  have F__law_skaters := ok__law_skaters (P := P) (w := w) (base := base) T F__law_roll F__law_some
  have F__law_is_there := ok__law_is_there (P := P) (w := w) (base := base) T 
  have F__law_is_paper := ok__law_is_paper (P := P) (w := w) (base := base) T 
  have F__law_right := ok__law_right (P := P) (w := w) (base := base) T F_together F_line_paper F_is_line_paper F__law_roll F__law_some F__law_same F__law_skaters F__law_is_there F__law_is_paper
  exact law_ok (P := P) (w := w) (base := base) T F_line_paper F_is_line_paper F__law_roll F__law_same F__law_right hp F
end Lw

namespace Lw
open PySem PySem.Spec PyProof.Rows L2 PL
def Cup (c : List D) : Prop := ∃ x y : Int, c = [.int x, .int y]
theorem roll_ok {many : Int} {c : List D} (hc : Cup c) (h0 : 0 < many) (h1 : many < 18446744073709551616) : ∃ v c', m__law_roll [.cup, .int many] c = .ok (.int v, c') ∧ Cup c' ∧ 0 ≤ v ∧ v < many := by
  obtain ⟨x, y, rfl⟩ := hc
  by_cases hx : 0 < x
  · refine ⟨x % many, [.int (x / many), .int y], ?_, ⟨_, _, rfl⟩, Int.emod_nonneg _ (by omega), Int.emod_lt_of_pos _ h0⟩
    simp [m__law_roll, runB, b__law_roll, seqS_ap, ixcM, isCup, ixc, hx, h0, h1, setcS, L2.atI, ixN]
  · refine ⟨((y * 31063 + 8053) % 2147483399 * ((y * 31063 + 8053) % 2147483399 + 317)) % 2147483563 / 919 % many, [.int x, .int ((y * 31063 + 8053) % 2147483399)], ?_, ⟨_, _, rfl⟩, Int.emod_nonneg _ (by omega), Int.emod_lt_of_pos _ h0⟩
    have e1 := Int.emod_nonneg (y * 31063 + 8053) (show (2147483399 : Int) ≠ 0 by decide)
    have e2 := Int.emod_lt_of_pos (y * 31063 + 8053) (show (0 : Int) < 2147483399 by decide)
    have m1 : cMul y 31063 = true := by simp [cMul]
    generalize hz : (y * 31063 + 8053) % 2147483399 = z at *
    have m2 : cMul z (z + 317) = true := by simp [cMul]; left; omega
    simp [m__law_roll, runB, b__law_roll, seqS_ap, ixcM, isCup, ixc, hx, h0, h1, setcS, L2.atI, ixN, m1, hz, m2]
theorem some_ok {c : List D} {ds : List D} (hc : Cup c) (h0 : ds ≠ []) (h1 : ds.length < 18446744073709551616) : ∃ d c', m__law_some [.cup, .lst ds] c = .ok (d, c') ∧ Cup c' ∧ d ∈ ds := by
  have : 0 < ds.length := List.length_pos_iff.mpr h0
  obtain ⟨v, c', e, hc', v0, v1⟩ := roll_ok (many := ds.length) hc (by omega) (by omega)
  have hv : v.toNat < ds.length := by omega
  refine ⟨ds[v.toNat], c', ?_, hc', List.getElem_mem _⟩
  have q : L2.atI ds v = some ds[v.toNat] := atI_of v0 (List.getElem?_eq_getElem hv)
  simp [m__law_some, runB, b__law_some, e, q]
def skD (p : Int × Int) : D := .tup [.int p.1, .int p.2]
def sksD (l : List (Int × Int)) : D := .tup (l.map skD)
theorem skaters_ok {c : List D} {most lap : Int} (hc : Cup c) (h0 : 0 < most) (h1 : most < 1000) (h2 : 0 < lap) (h3 : lap < 1000) : Tells m__law_skaters [.cup, .int most, .int lap] c fun v c' => ∃ l, v = sksD l ∧ Cup c' ∧ 1 ≤ l.length ∧ (l.length : Int) ≤ most ∧ ∀ p ∈ l, 1 ≤ p.1 ∧ p.1 ≤ lap ∧ 0 ≤ p.2 ∧ p.2 ≤ 100 := by
  obtain ⟨d, c1, e1, hc1, hd⟩ := some_ok (ds := [.int 1, .int 10, .int 101]) hc (by decide) (by decide)
  obtain ⟨late, rfl, l0, l1⟩ : ∃ late : Int, d = .int late ∧ 0 < late ∧ late ≤ 101 := by
    simp at hd; rcases hd with rfl | rfl | rfl <;> exact ⟨_, rfl, by decide, by decide⟩
  obtain ⟨v, c2, e2, hc2, v0, v1⟩ := roll_ok (many := most) hc1 h0 (by omega)
  refine ok_run [.val .cup, .val (.int most), .val (.int lap), .un, .un, .un] ?_
  unfold b__law_skaters
  refine ok_seqE (by simp [par2, e1]; rfl) ?_
  refine ok_seqN _ (ok_for (fun k s => ∃ (c : List D) (x : Slot) (l : List (Int × Int)), s = ⟨[.val .cup, .val (.int most), .val (.int lap), .val (sksD l), .val (.int late), x], c⟩ ∧ Cup c ∧ l.length = k ∧ ∀ p ∈ l, 1 ≤ p.1 ∧ p.1 ≤ lap ∧ 0 ≤ p.2 ∧ p.2 ≤ 100) (by simp [e2]; rw [range1_int (by omega) (by omega)]; rfl) ⟨c2, .un, [], rfl, hc2, rfl, by simp⟩ ?_ fun s h => h) ?_
  · rintro k d s hd ⟨c, x, l, rfl, hc, hl, hp⟩
    obtain ⟨hk, rfl⟩ := upTo_get hd
    obtain ⟨u, c3, e3, hc3, u0, u1⟩ := roll_ok (many := lap) hc h2 (by omega)
    obtain ⟨w, c4, e4, hc4, w0, w1⟩ := roll_ok (many := late) hc3 l0 (by omega)
    have hs : l.length + 1 ≤ sizeLine := Nat.le_trans (show l.length + 1 ≤ 1000 by omega) (by decide)
    simp [e3, e4, sksD, addD, skD, hs]
    refine ⟨c4, .val (.int k), l ++ [(1 + u, w)], ⟨by simp [skD], rfl⟩, hc4, by simp; omega, ?_⟩
    intro p q hp'
    rcases List.mem_append.mp hp' with z | z
    · exact hp _ z
    · simp at z
      obtain ⟨rfl, rfl⟩ := z
      omega
  · rintro _ ⟨c, x, l, rfl, hc, hl, hp⟩
    simp at hl
    simp
    exact ⟨l, rfl, hc, by omega, by omega, by simpa using hp⟩

/-! values -/
theorem whole_int {v a b : Int} {c : List D} : m_is_whole [.int v, .int a, .int b] c = .ok (.bl (decide (a ≤ v) && decide (v ≤ b)), c) := by
  cases h : decide (a ≤ v) <;> simp [m_is_whole, runB, b_is_whole, chain2, h]
def notInt : D → Bool
  | .non => true
  | .bl _ => true
  | .str _ => true
  | .tup _ => true
  | .lst _ => true
  | _ => false
theorem whole_not {d : D} {a b : Int} {c : List D} (h : notInt d = true) : m_is_whole [d, .int a, .int b] c = .ok (.bl false, c) := by
  cases d <;> simp [notInt] at h <;> simp [m_is_whole, runB, b_is_whole]
theorem tuple_tup {ds : List D} {a b : Int} {c : List D} : m_is_tuple_of [.tup ds, .int a, .int b] c = .ok (.bl (decide (a ≤ ds.length) && decide ((ds.length : Int) ≤ b)), c) := by
  cases h : decide (a ≤ ds.length) <;> simp [m_is_tuple_of, runB, b_is_tuple_of, chain2, h]
def notTup : D → Bool
  | .non => true
  | .bl _ => true
  | .str _ => true
  | .int _ => true
  | .lst _ => true
  | _ => false
theorem tuple_not {d : D} {a b : Int} {c : List D} (h : notTup d = true) : m_is_tuple_of [d, .int a, .int b] c = .ok (.bl false, c) := by
  cases d <;> simp [notTup] at h <;> simp [m_is_tuple_of, runB, b_is_tuple_of]
/-- a good skater -/
def Sk (p : Int × Int) : Prop := 1 ≤ p.1 ∧ p.1 ≤ 60 ∧ 0 ≤ p.2 ∧ p.2 ≤ 100
structure Good (l : List (Int × Int)) : Prop where
  l1 : 1 ≤ l.length
  l5 : l.length ≤ 5
  ok : ∀ p ∈ l, Sk p
theorem skater_fits {p : Int × Int} {c : List D} (h : Sk p) : m_fits_skater [skD p] c = .ok (.bl true, c) := by
  obtain ⟨h1, h2, h3, h4⟩ := h
  simp [m_fits_skater, runB, b_fits_skater, skD, tuple_tup, whole_int, L2.atI, ixN, h1, h2, h3, h4]
theorem skaters_fit {l : List (Int × Int)} {c : List D} (h : Good l) : m_fits_skaters [sksD l] c = .ok (.bl true, c) := by
  have e : lcM [1] (srcM (getv 0)) (setv 1) (ret true) (fnM m_fits_skater (consA (getv 1) (ret []))) ⟨[.val (sksD l), .un], c⟩ = .ok (.lst ((((l.map skD).filter fun _ => true)).map fun _ => .bl true), c) := by
    refine lcM_pure (ds := l.map skD) (c' := c) (fun _ => true) (fun _ => .bl true) (by simp [sksD]) rfl (Nat.le_trans (show _ ≤ 1000 by simp; have := h.l5; omega) (by decide)) fun d hd => ?_
    obtain ⟨p, hp, rfl⟩ := List.mem_map.mp hd
    refine ⟨_, rfl, rfl, fun _ => ?_⟩
    simp [wipeE, skater_fits (h.ok p hp)]
  have e2 : (((l.map skD).filter fun _ => true)).map (fun _ => D.bl true) = (l.map fun p => D.bl ((fun _ => true) p)) := by rw [List.filter_eq_self.mpr fun _ _ => rfl, List.map_map]; rfl
  rw [e2] at e
  have h1 := h.l1
  have h5 := h.l5
  have : m_is_tuple_of [sksD l, .int 1, .int 5] c = .ok (.bl true, c) := by
    simp [sksD, tuple_tup]; omega
  simp only [m_fits_skaters, runB, b_fits_skaters, List.map, List.length, List.replicate, List.append, retS_ap, andV_ap]
  simp [this, e]
theorem need1 {l : List (Int × Int)} {c : List D} (h : Good l) : m_need_skaters [sksD l] c = .ok (.non, c) := by
  simp [m_need_skaters, runB, b_need_skaters, skaters_fit h]
theorem need2 {l : List (Int × Int)} {c : List D} {i : Int} (h : Good l) (h0 : 0 ≤ i) (h1 : i < l.length) : m_need_skater [sksD l, .int i] c = .ok (.non, c) := by
  have e : lenD [sksD l] = some (.int l.length) := by simp [sksD]
  have : i ≤ l.length - 1 := by omega
  simp [m_need_skater, runB, b_need_skater, seqS_ap, need1 h, whole_int, e, h0, this]
theorem need3 {l : List (Int × Int)} {c : List D} {i j : Int} (h : Good l) (h0 : 0 ≤ i) (h1 : i < l.length) (h2 : 0 ≤ j) (h3 : j < l.length) (n : i ≠ j) : m_need_both [sksD l, .int i, .int j] c = .ok (.non, c) := by
  have e : lenD [sksD l] = some (.int l.length) := by simp [sksD]
  have : j ≤ l.length - 1 := by omega
  simp [m_need_both, runB, b_need_both, seqS_ap, need2 h h0 h1, whole_int, e, h2, n, this]
theorem atS {l : List (Int × Int)} {i : Int} {p : Int × Int} (h0 : 0 ≤ i) (h : l[i.toNat]? = some p) : L2.atI (l.map skD) i = some (skD p) := atI_of h0 (by rw [List.getElem?_map, h]; rfl)
/-! the paper -/
structure Two (l : List (Int × Int)) (i j : Int) (p q : Int × Int) : Prop where
  g : Good l
  i0 : 0 ≤ i
  i1 : i < l.length
  j0 : 0 ≤ j
  j1 : j < l.length
  n : i ≠ j
  p : l[i.toNat]? = some p
  q : l[j.toNat]? = some q
theorem Two.sp {l : List (Int × Int)} {i j : Int} {p q : Int × Int} (t : Two l i j p q) : Sk p := t.g.ok p (List.mem_of_getElem? t.p)
theorem Two.sq {l : List (Int × Int)} {i j : Int} {p q : Int × Int} (t : Two l i j p q) : Sk q := t.g.ok q (List.mem_of_getElem? t.q)
def paper (p q : Int × Int) : D := if (p.2 - q.2) % gcdI p.1 q.1 ≠ 0 then .tup [.int (gcdI p.1 q.1), .int (p.2 % gcdI p.1 q.1), .int (q.2 % gcdI p.1 q.1)] else .non
theorem line_paper_ok {l : List (Int × Int)} {i j : Int} {p q : Int × Int} {c : List D} (t : Two l i j p q) : m_line_paper [sksD l, .int i, .int j] c = .ok (paper p q, c) := by
  have g0 := gcd_pos (a := p.1) (b := q.1) (by have := t.sp.1; omega)
  have e1 := atS t.i0 t.p
  have e2 := atS t.j0 t.q
  have ei : ixD (sksD l) (.int i) = some (skD p) := e1
  have ej : ixD (sksD l) (.int j) = some (skD q) := e2
  refine tells_eq (ok_run [.val (sksD l), .val (.int i), .val (.int j), .un, .un, .un] ?_)
  unfold b_line_paper
  refine ok_seqE (by simp [need3 t.g t.i0 t.i1 t.j0 t.j1 t.n]; rfl) ?_
  refine ok_seqE (by simp [par2, ei, ej]; rfl) ?_
  refine ok_seqE (by simp [skD, L2.atI, ixN]; rfl) ?_
  unfold paper
  by_cases h : (p.2 - q.2) % gcdI p.1 q.1 = 0
  · simp [h, g0, skD, L2.atI, ixN]
  · simp [h, g0, skD, L2.atI, ixN]
end Lw

namespace Lw
open PySem PySem.Spec PyProof.Rows L2 PL
def Meets (l : List (Int × Int)) (z : Int) : Prop := ∀ r ∈ l, (z - r.2) % r.1 = 0
def pInt (f : Int → Bool) : D → Bool
  | .int t => f t
  | _ => false
structure MI (l : List (Int × Int)) (first period : Int) (k : Nat) : Prop where
  f0 : 0 ≤ first
  f1 : first < period
  p1 : period ≤ 60 ^ k
  iff : ∀ z, Meets l z ↔ (z - first) % period = 0
theorem MI.zero : MI [] 0 1 0 := ⟨by decide, by decide, by decide, fun z => by simp [Meets, Int.emod_one]⟩
theorem meets_snoc {l : List (Int × Int)} {r : Int × Int} {z : Int} : Meets (l ++ [r]) z ↔ Meets l z ∧ (z - r.2) % r.1 = 0 := by
  unfold Meets
  constructor
  · exact fun h => ⟨fun q hq => h q (List.mem_append_left _ hq), h r (by simp)⟩
  · rintro ⟨h1, h2⟩ q hq
    rcases List.mem_append.mp hq with z | z
    · exact h1 q z
    · rw [List.mem_singleton.mp z]; exact h2
theorem pow60 {k : Nat} (h : k < 5) : (60 : Int) ^ k ≤ 12960000 := by
  have : k = 0 ∨ k = 1 ∨ k = 2 ∨ k = 3 ∨ k = 4 := by omega
  rcases this with rfl | rfl | rfl | rfl | rfl <;> decide
/-- one more skater -/
theorem MI.more {l : List (Int × Int)} {f p : Int} {k : Nat} {r : Int × Int} (h : MI l f p k) (hr : Sk r) {t : Int} (j : Nat) (hj : (j : Int) < r.1 / gcdI p r.1) (ht : t = f + j * p) (hm : (t - r.2) % r.1 = 0) : MI (l ++ [r]) t (p * r.1 / gcdI p r.1) (k + 1) := by
  have p0 : 0 < p := by have := h.f0; have := h.f1; omega
  have r0 : 0 < r.1 := by have := hr.1; omega
  obtain ⟨w1, w2, w3, w4⟩ := lcm_eq p0 r0
  have hjp : (j : Int) * p ≤ (r.1 / gcdI p r.1 - 1) * p := Int.mul_le_mul_of_nonneg_right (by omega) (by omega)
  have hjp0 : 0 ≤ (j : Int) * p := Int.mul_nonneg (by omega) (by omega)
  rw [Int.sub_mul] at hjp
  refine ⟨by have := h.f0; omega, ?_, ?_, fun z => ?_⟩
  · rw [w1, Int.mul_comm p]
    have := h.f1
    omega
  · rw [w1, Int.pow_succ]
    exact Int.mul_le_mul h.p1 (by have := hr.2.1; omega) (by omega) (by have := h.p1; omega)
  · rw [meets_snoc, h.iff]
    have tf : (t - f) % p = 0 := by rw [ht, show f + j * p - f = j * p by omega]; exact Int.mul_emod_left _ _
    constructor
    · rintro ⟨a, b⟩
      refine lcm_dvd p0 r0 ?_ ?_
      · rw [show z - t = (z - f) - (t - f) by omega, Int.sub_emod, a, tf]; rfl
      · rw [show z - t = (z - r.2) - (t - r.2) by omega, Int.sub_emod, b, hm]; rfl
    · intro a
      obtain ⟨q, e⟩ := mod0.mp a
      obtain ⟨q1, e1⟩ := mod0.mp tf
      obtain ⟨q2, e2⟩ := mod0.mp hm
      constructor
      · refine mod0.mpr ⟨q1 + r.1 / gcdI p r.1 * q, ?_⟩
        rw [Int.mul_add, ← Int.mul_assoc, ← w1]; omega
      · refine mod0.mpr ⟨q2 + p / gcdI p r.1 * q, ?_⟩
        rw [Int.mul_add, ← Int.mul_assoc, ← w2]; omega
/-- where some time is, one of so many is -/
theorem MI.find {l : List (Int × Int)} {f p : Int} {k : Nat} {r : Int × Int} (h : MI l f p k) (hr : Sk r) {z : Int} (hz : Meets (l ++ [r]) z) : ∃ j : Nat, (j : Int) < r.1 / gcdI p r.1 ∧ (f + j * p - r.2) % r.1 = 0 := by
  have p0 : 0 < p := by have := h.f0; have := h.f1; omega
  have r0 : 0 < r.1 := by have := hr.1; omega
  obtain ⟨w1, w2, w3, w4⟩ := lcm_eq p0 r0
  obtain ⟨h1, h2⟩ := meets_snoc.mp hz
  obtain ⟨q, e⟩ := mod0.mp ((h.iff z).mp h1)
  obtain ⟨q2, e2⟩ := mod0.mp h2
  have n0 := Int.emod_nonneg q (show r.1 / gcdI p r.1 ≠ 0 by omega)
  have n1 := Int.emod_lt_of_pos q w3
  have n2 := Int.mul_ediv_add_emod q (r.1 / gcdI p r.1)
  refine ⟨(q % (r.1 / gcdI p r.1)).toNat, by omega, mod0.mpr ⟨q2 - p / gcdI p r.1 * (q / (r.1 / gcdI p r.1)), ?_⟩⟩
  rw [Int.toNat_of_nonneg n0, Int.mul_sub, ← Int.mul_assoc, ← w2, w1, Int.mul_assoc]
  have : q % (r.1 / gcdI p r.1) = q - r.1 / gcdI p r.1 * (q / (r.1 / gcdI p r.1)) := by omega
  rw [this, Int.sub_mul, Int.mul_comm q p, Int.mul_comm _ p]
  omega
def notOwn : Slot → Bool
  | .own _ => false
  | _ => true
def mxI (l : List (Int × Int)) : Int := maxI (l.map (·.2) ++ [0])
theorem mxI_ok (l : List (Int × Int)) : 0 ≤ mxI l ∧ (∀ r ∈ l, r.2 ≤ mxI l) ∧ (mxI l = 0 ∨ ∃ r ∈ l, mxI l = r.2) := by
  unfold mxI
  cases e : l.map (·.2) ++ [0] with
  | nil => simp at e
  | cons n ns =>
    obtain ⟨h1, h2, h3⟩ := foldl_max ns n
    have hall : ∀ y ∈ l.map (·.2) ++ [(0 : Int)], y ≤ maxI (n :: ns) := by
      rw [e]
      intro y hy
      rcases List.mem_cons.mp hy with rfl | hy
      · exact h2
      · exact h3 y hy
    have hin : maxI (n :: ns) ∈ l.map (·.2) ++ [(0 : Int)] := by
      rw [e]
      rcases h1 with h1 | h1
      · exact List.mem_cons.mpr (.inl h1)
      · exact List.mem_cons.mpr (.inr h1)
    refine ⟨hall 0 (by simp), fun r hr => hall r.2 (List.mem_append_left _ (List.mem_map.mpr ⟨r, hr, rfl⟩)), ?_⟩
    rcases List.mem_append.mp hin with z | z
    · obtain ⟨r, hr, e⟩ := List.mem_map.mp z
      exact .inr ⟨r, hr, e.symm⟩
    · exact .inl (by simpa using z)
theorem maxD_lst {ns : List Int} (h : ns ≠ []) : maxD [.lst (ns.map D.int)] = some (.int (maxI ns)) := by
  show (intsOf _).bind _ = _
  rw [intsOf_map]
  simp [h]
/-- the first meeting, if any -/
def MeetR (l : List (Int × Int)) (v : D) : Prop := (v = .non ∧ ¬ ∃ z, Meets l z) ∨ ∃ a b : Int, v = .tup [.int a, .int b] ∧ Meets l a ∧ 0 ≤ a ∧ (∀ r ∈ l, r.2 ≤ a) ∧ ∀ z, 0 ≤ z → Meets l z → (∀ r ∈ l, r.2 ≤ z) → a ≤ z
theorem meeting_ok {l : List (Int × Int)} {c : List D} (hl : l.length ≤ 5) (hs : ∀ r ∈ l, Sk r) : Tells m_meeting_of [.lst (l.map skD)] c fun v c' => c' = c ∧ MeetR l v := by
  refine ok_run [.val (.lst (l.map skD)), .un, .un, .un, .un, .un, .un, .un, .un] ?_
  unfold b_meeting_of
  refine ok_seqE (by simp; rfl) ?_
  refine ok_seqN _ (ok_forT (fun k s => ∃ (x3 x4 x6 x7 : Slot) (f p : Int), s = ⟨[.val (.lst (l.map skD)), .val (.int f), .val (.int p), x3, x4, .un, x6, x7, .un], c⟩ ∧ MI (l.take k) f p k ∧ notOwn x3 = true ∧ notOwn x4 = true) (by simp; rfl) ⟨.un, .un, .un, .un, 0, 1, rfl, MI.zero, rfl, rfl⟩ ?_ fun s h => h) ?_
  · rintro k d s hd ⟨x3, x4, x6, x7, f, p, rfl, hI, n3, n4⟩
    rw [List.getElem?_map] at hd
    cases hr : l[k]? with
    | none => rw [hr] at hd; cases hd
    | some r =>
    rw [hr] at hd
    cases hd
    have hk : k < l.length := (List.getElem?_eq_some_iff.mp hr).1
    have hsk := hs r (List.mem_of_getElem? hr)
    have ht : l.take (k + 1) = l.take k ++ [r] := by rw [List.take_succ, hr]; rfl
    have p0 : 0 < p := by have := hI.f0; have := hI.f1; omega
    have r0 : 0 < r.1 := by have := hsk.1; omega
    have pb : p ≤ 12960000 := Int.le_trans hI.p1 (pow60 (by omega))
    have g0 := gcd_pos (a := p) (b := r.1) p0
    have gp := gcd_le (a := p) (b := r.1) p0
    obtain ⟨w1, w2, w3, w4⟩ := lcm_eq p0 r0
    have hm : cMul p r.1 = true := by have := hsk.2.1; simp [cMul]; right; omega
    have hn : ((r.1 / gcdI p r.1).toNat : Int) = r.1 / gcdI p r.1 := by omega
    have hR : range3 [.int f, .int (f + p * r.1 / gcdI p r.1), .int p] = some (upStep f (r.1 / gcdI p r.1).toNat p) := by
      rw [w1, Int.mul_comm p, ← hn]
      exact range3_up (by have := hI.f0; omega) (by have := hI.f1; omega) p0 (by omega) (by omega) (by have := hsk.2.1; omega)
    have hG : ∀ y6 y7 : Slot, lcM [8] (srcA range3 (consA (getv 1) (consA (op2 addD (getv 1) (getv 6)) (consA (getv 2) (ret []))))) (setv 8) (asB (op2 eqD (op2 modD (op2 subD (getv 8) (getv 4)) (getv 3)) (ret (.int 0)))) (getv 8)
        ⟨[.val (.lst (l.map skD)), .val (.int f), .val (.int p), .val (.int r.1), .val (.int r.2), .un, .val (.int (p * r.1 / gcdI p r.1)), y7, .un], c⟩ = .ok (.lst (((upStep f (r.1 / gcdI p r.1).toNat p).filter (pInt fun t => decide ((t - r.2) % r.1 = 0))).map id), c) := fun y6 y7 => by
      refine lcM_pure (ds := upStep f (r.1 / gcdI p r.1).toNat p) (c' := c) _ _ (by simp [hR]) rfl (Nat.le_trans (show _ ≤ 1000 by rw [upStep_len]; have := hsk.2.1; omega) (by decide)) fun d hd => ?_
      obtain ⟨j, hj, rfl⟩ := mem_upStep.mp hd
      refine ⟨_, rfl, ?_, fun _ => ?_⟩
      · simp [wipeE, r0, pInt]
      · simp [wipeE]
    rw [List.map_id] at hG
    simp only [skD, PL.unpack, List.length, if_true, setCons_ap, setNil_ap, setv_ap, bind_ok, List.set, okr_ok]
    refine ok_seqE (by simp [hm, g0, show gcdI p r.1 < 18446744073709551616 by omega]; rfl) ?_
    refine ok_seqE (by rw [asgS_ap, hG .un]; simp; rfl) ?_
    have hok : dOk 60 (.lst ((upStep f (r.1 / gcdI p r.1).toNat p).filter (pInt fun t => decide ((t - r.2) % r.1 = 0)))) = true := dOk_lst fun d hd => by
      obtain ⟨j, _, rfl⟩ := mem_upStep.mp (List.mem_filter.mp hd).1
      simp
    cases hF : (upStep f (r.1 / gcdI p r.1).toNat p).filter (pInt fun t => decide ((t - r.2) % r.1 = 0)) with
    | nil =>
      rw [hF] at hok
      refine ok_seqN (fun _ => False) ?_ fun _ z => z.elim
      simp [eqD_nil hok]
      refine .inl ⟨rfl, fun ⟨z, hz⟩ => ?_⟩
      obtain ⟨j, j1, j2⟩ := hI.find hsk (z := z) (by rw [← ht]; exact fun q hq => hz q (List.mem_of_mem_take hq))
      have : D.int (f + j * p) ∈ (upStep f (r.1 / gcdI p r.1).toNat p).filter (pInt fun t => decide ((t - r.2) % r.1 = 0)) := List.mem_filter.mpr ⟨mem_upStep.mpr ⟨j, by omega, rfl⟩, by simp [pInt, j2]⟩
      rw [hF] at this
      cases this
    | cons d ds =>
      have hd : d ∈ (upStep f (r.1 / gcdI p r.1).toNat p).filter (pInt fun t => decide ((t - r.2) % r.1 = 0)) := by rw [hF]; exact List.mem_cons_self
      obtain ⟨h1, h2⟩ := List.mem_filter.mp hd
      obtain ⟨j, hj, rfl⟩ := mem_upStep.mp h1
      rw [hF] at hok
      refine ok_seqE (by simp [eqD_nil hok]; rfl) ?_
      simp [par2, L2.atI, ixN]
      refine ⟨.val (.int r.1), .val (.int r.2), _, _, f + j * p, p * r.1 / gcdI p r.1, ⟨rfl, rfl, rfl, rfl, rfl, rfl⟩, ?_, rfl, rfl⟩
      rw [ht]
      exact hI.more hsk j (by omega) rfl (by simpa [pInt] using h2)
  · rintro _ ⟨x3, x4, x6, x7, f, p, rfl, hI, n3, n4⟩
    rw [List.length_map, List.take_length] at hI
    have hO : noOwn [.val (.lst (l.map skD)), .val (.int f), .val (.int p), x3, x4, .un, x6, x7, .un] [3, 4] = true := by
      cases x3 <;> cases x4 <;> simp [notOwn] at n3 n4 <;> rfl
    have hL : lcM [3, 4] (srcM (getv 0)) (PL.unpack 2 (setCons (setv 3) (setCons (setv 4) (setNil)))) (ret true) (getv 4) ⟨[.val (.lst (l.map skD)), .val (.int f), .val (.int p), x3, x4, .un, x6, x7, .un], c⟩ = .ok (.lst ((l.map (·.2)).map D.int), c) := by
      have h := lcM_pure (vs := [3, 4]) (src := srcM (getv 0)) (tgt := PL.unpack 2 (setCons (setv 3) (setCons (setv 4) (setNil)))) (test := ret true) (elt := getv 4) (env := [.val (.lst (l.map skD)), .val (.int f), .val (.int p), x3, x4, .un, x6, x7, .un]) (c := c) (ds := l.map skD) (c' := c) (fun _ => true) (fun d => match d with | .tup [_, t] => t | _ => .non) (by simp) hO (Nat.le_trans (show _ ≤ 1000 by rw [List.length_map]; omega) (by decide)) fun d hd => by
        obtain ⟨r, hr, rfl⟩ := List.mem_map.mp hd
        exact ⟨⟨[.val (.lst (l.map skD)), .val (.int f), .val (.int p), .val (.int r.1), .val (.int r.2), .un, x6, x7, .un], c⟩, rfl, rfl, fun _ => rfl⟩
      rw [h, List.filter_eq_self.mpr fun _ _ => rfl, List.map_map, List.map_map]
      rfl
    have p0 : 0 < p := by have := hI.f0; have := hI.f1; omega
    obtain ⟨m0, m1, m2⟩ := mxI_ok l
    have hmx : maxD [.lst ((l.map (·.2)).map D.int ++ [.int 0])] = some (.int (mxI l)) := by
      have := maxD_lst (ns := l.map (·.2) ++ [0]) (by simp)
      rw [List.map_append] at this
      exact this
    have hsz : (l.map (·.2)).length + 1 ≤ sizeLine := Nat.le_trans (show _ ≤ 1000 by rw [List.length_map]; omega) (by decide)
    have hA : addD (.lst ((l.map (·.2)).map D.int)) (.lst [.int 0]) = some (.lst ((l.map (·.2)).map D.int ++ [.int 0])) := if_pos (by rw [List.length_map]; exact hsz)
    generalize (l.map (·.2)).map D.int = ds at *
    have pb : p ≤ 777600000 := by
      have := hI.p1
      have hl' : l.length = 0 ∨ l.length = 1 ∨ l.length = 2 ∨ l.length = 3 ∨ l.length = 4 ∨ l.length = 5 := by omega
      rcases hl' with e | e | e | e | e | e <;> rw [e] at this <;> exact Int.le_trans this (by decide)
    refine ok_seqE (by simp [hL, hA, hmx]; rfl) ?_
    have hM : ∀ a, cMul a p = true := fun a => by simp [cMul]; right; omega
    simp only [retS_ap, tupM_ap, consA_ap, op2_ap, callM_ap, getv_0, getv_s, bind_ok, ret_ap, lift_some, subD_int, maxD_2, addD_int, fdivD_int p0 (show p < 18446744073709551616 by omega), mulD_int (hM _), okr_ok, fin_rt]
    refine ⟨trivial, .inr ⟨_, _, rfl, ?_⟩⟩
    have f0 := hI.f0
    have f1 := hI.f1
    have hI := hI.iff
    generalize hX : (if mxI l - f > 0 then mxI l - f else 0) = x
    have x0 : 0 ≤ x ∧ mxI l - f ≤ x ∧ (x = 0 ∨ x = mxI l - f) := by
      subst hX
      split <;> omega
    have q1 := Int.mul_ediv_add_emod (x + p - 1) p
    have q2 := Int.emod_nonneg (x + p - 1) (show p ≠ 0 by omega)
    have q3 := Int.emod_lt_of_pos (x + p - 1) p0
    rw [Int.mul_comm] at q1
    refine ⟨(hI _).mpr ?_, ?_, fun r hr => ?_, fun z z0 zm zl => ?_⟩
    · rw [show f + (x + p - 1) / p * p - f = (x + p - 1) / p * p by omega]
      exact Int.mul_emod_left _ _
    · omega
    · have := m1 r hr
      omega
    · obtain ⟨k, ek⟩ := mod0.mp ((hI z).mp zm)
      have hz : mxI l ≤ z := by
        rcases m2 with e | ⟨r, hr, e⟩
        · omega
        · have := zl r hr; omega
      have hk0 : 0 ≤ k := by
        refine Int.not_lt.mp fun hk => ?_
        have : p * k ≤ p * (-1) := Int.mul_le_mul_of_nonneg_left (by omega) (by omega)
        omega
      have hk1 : (x + p - 1) / p ≤ k := by
        refine Int.not_lt.mp fun hk => ?_
        have h1 : (k + 1) * p ≤ (x + p - 1) / p * p := Int.mul_le_mul_of_nonneg_right (by omega) (by omega)
        rw [Int.add_mul, Int.mul_comm k p] at h1
        have h0 : 0 ≤ p * k := Int.mul_nonneg (by omega) hk0
        rcases x0.2.2 with e | e <;> omega
      have h2 : (x + p - 1) / p * p ≤ k * p := Int.mul_le_mul_of_nonneg_right hk1 (by omega)
      rw [Int.mul_comm k p] at h2
      omega
end Lw

namespace Lw
open PySem PySem.Spec PyProof.Rows L2 PL
def intsD (ns : List Int) : D := .tup (ns.map D.int)
def rises (ns : List Int) : Bool := (ns.zip (ns.drop 1)).all fun p => decide (p.1 < p.2)
theorem cut1 {ds : List D} : cutD ds (some 1) none = ds.drop 1 := by
  cases ds with
  | nil => rfl
  | cons d ds =>
    unfold PL.cutD
    have e1 : HT.sIx (d :: ds).length 0 (some 1) = 1 := by simp [HT.sIx]
    have e2 : HT.sIx (d :: ds).length (d :: ds).length none = (d :: ds).length := by simp [HT.sIx]
    rw [e1, e2]
    simp
theorem zip_ints {a b : List Int} : zip2 [intsD a, intsD b] = some ((a.zip b).map fun p => .tup [.int p.1, .int p.2]) := by
  show some (pairUp _ _) = _
  unfold pairUp
  rw [List.zip_map, List.map_map]
  rfl
theorem rising_ok {ns : List Int} {c : List D} (hl : ns.length ≤ 1000) : m_is_rising [intsD ns] c = .ok (.bl (rises ns), c) := by
  have hsl : (slcM (getv 0) (partM (ret (.int 1))) (noPart)) ⟨[.val (intsD ns), .un, .un], c⟩ = .ok (intsD (ns.drop 1), c) := by
    simp [slcM, partM, noPart, intsD, slcD, cut1, List.map_drop]
  have h := lcM_pure (vs := [1, 2]) (src := srcA zip2 (consA (getv 0) (consA (slcM (getv 0) (partM (ret (.int 1))) (noPart)) (ret [])))) (tgt := PL.unpack 2 (setCons (setv 1) (setCons (setv 2) (setNil)))) (test := ret true) (elt := op2 ltD (getv 1) (getv 2))
    (env := [.val (intsD ns), .un, .un]) (c := c) (c' := c) (ds := (ns.zip (ns.drop 1)).map fun p => .tup [.int p.1, .int p.2]) (fun _ => true) (fun d => match d with | .tup [.int a, .int b] => .bl (decide (a < b)) | _ => .non)
    (by simp [hsl, zip_ints]) rfl (Nat.le_trans (show _ ≤ 1000 by simp; omega) (by decide)) fun d hd => by
      obtain ⟨r, hr, rfl⟩ := List.mem_map.mp hd
      exact ⟨⟨[.val (intsD ns), .val (.int r.1), .val (.int r.2)], c⟩, rfl, rfl, fun _ => rfl⟩
  rw [List.filter_eq_self.mpr fun _ _ => rfl, List.map_map] at h
  have h2 : ((ns.zip (ns.drop 1)).map ((fun d => match d with | .tup [.int a, .int b] => D.bl (decide (a < b)) | _ => .non) ∘ fun p : Int × Int => D.tup [.int p.1, .int p.2])) = (ns.zip (ns.drop 1)).map fun p => D.bl ((fun p : Int × Int => decide (p.1 < p.2)) p) := rfl
  rw [h2] at h
  simp only [m_is_rising, runB, b_is_rising, List.map, List.length, List.replicate, retS_ap, callM_ap, consA_ap]
  show Res.bind _ _ = _
  rw [show (lcM [1, 2] (srcA zip2 (consA (getv 0) (consA (slcM (getv 0) (partM (ret (.int 1))) (noPart)) (ret [])))) (PL.unpack 2 (setCons (setv 1) (setCons (setv 2) (setNil)))) (ret true) (op2 ltD (getv 1) (getv 2))) ⟨[Slot.val (intsD ns)] ++ [.un, .un], c⟩ = _ from h]
  simp only [bind_ok, ret_ap, allD_map, lift_some]
  rfl
/-- some of the skaters, in rising order -/
structure Lot (n : Nat) (ns : List Int) : Prop where
  len : ns.length ≤ n
  inn : ∀ i ∈ ns, 0 ≤ i ∧ i < n
  ris : rises ns = true
theorem fits_some_ok {n : Nat} {ns : List Int} {c : List D} (h : Lot n ns) (hn : n ≤ 1000) : m_fits_some [.int n, intsD ns] c = .ok (.bl true, c) := by
  have hl := h.len
  have e1 : m_is_tuple_of [intsD ns, .int 0, .int n] c = .ok (.bl true, c) := by
    unfold intsD
    rw [tuple_tup, List.length_map]
    simp
    omega
  have e2 : lcM [2] (srcM (getv 1)) (setv 2) (ret true) (fnM m_is_whole (consA (getv 2) (consA (ret (.int 0)) (consA (op2 subD (getv 0) (ret (.int 1))) (ret []))))) ⟨[.val (.int n), .val (intsD ns), .un], c⟩ = .ok (.lst (ns.map fun i => D.bl ((fun _ => true) i)), c) := by
    have := lcM_pure (vs := [2]) (src := srcM (getv 1)) (tgt := setv 2) (test := ret true) (elt := fnM m_is_whole (consA (getv 2) (consA (ret (.int 0)) (consA (op2 subD (getv 0) (ret (.int 1))) (ret []))))) (env := [.val (.int n), .val (intsD ns), .un]) (c := c) (c' := c) (ds := ns.map D.int) (fun _ => true) (fun _ => .bl true) (by simp [intsD]) rfl (Nat.le_trans (show _ ≤ 1000 by simp; omega) (by decide)) fun d hd => by
      obtain ⟨i, hi, rfl⟩ := List.mem_map.mp hd
      have := h.inn i hi
      refine ⟨⟨[.val (.int n), .val (intsD ns), .val (.int i)], c⟩, rfl, rfl, fun _ => ?_⟩
      simp [whole_int]
      omega
    rw [List.filter_eq_self.mpr fun _ _ => rfl, List.map_map] at this
    exact this
  have e3 := rising_ok (ns := ns) (c := c) (by omega)
  rw [h.ris] at e3
  refine tells_eq (ok_run [.val (.int n), .val (intsD ns), .un] ?_)
  unfold b_fits_some
  have e4 : (ns.all fun _ => true) = true := List.all_eq_true.mpr fun _ _ => rfl
  simp [e1, e2, e3, e4]
theorem together_ok {l : List (Int × Int)} {ns : List Int} {c : List D} (g : Good l) (h : Lot l.length ns) : Tells m_together [sksD l, intsD ns] c fun v c' => c' = c ∧ ∃ v', MeetR (ns.filterMap fun i => l[i.toNat]?) v' ∧ (v' = .non ∧ v = .non ∨ ∃ a b, v' = .tup [.int a, b] ∧ v = .int a) := by
  have h5 := g.l5
  have hl := h.len
  refine ok_run [.val (sksD l), .val (intsD ns), .un, .un] ?_
  unfold b_together
  refine ok_seqE (by simp [need1 g]; rfl) ?_
  have e1 : lenD [sksD l] = some (.int l.length) := by simp [sksD]
  refine ok_seqE (by simp [e1, fits_some_ok h (by omega)]; rfl) ?_
  have e2 : lcM [3] (srcM (getv 1)) (setv 3) (ret true) (op2 ixD (getv 0) (getv 3)) ⟨[.val (sksD l), .val (intsD ns), .un, .un], c⟩ = .ok (.lst ((ns.filterMap fun i => l[i.toNat]?).map skD), c) := by
    have := lcM_pure (vs := [3]) (src := srcM (getv 1)) (tgt := setv 3) (test := ret true) (elt := op2 ixD (getv 0) (getv 3)) (env := [.val (sksD l), .val (intsD ns), .un, .un]) (c := c) (c' := c) (ds := ns.map D.int) (fun _ => true) (fun d => match d with | .int i => skD (l[i.toNat]?.getD (0, 0)) | _ => .non) (by simp [intsD]) rfl (Nat.le_trans (show _ ≤ 1000 by simp; omega) (by decide)) fun d hd => by
      obtain ⟨i, hi, rfl⟩ := List.mem_map.mp hd
      have hi := h.inn i hi
      refine ⟨⟨[.val (sksD l), .val (intsD ns), .un, .val (.int i)], c⟩, rfl, rfl, fun _ => ?_⟩
      have hg : l[i.toNat]? = some l[i.toNat] := List.getElem?_eq_getElem (by omega)
      have := atS hi.1 hg
      have this : ixD (sksD l) (.int i) = some (skD l[i.toNat]) := this
      simp [this, hg]
    rw [List.filter_eq_self.mpr fun _ _ => rfl, List.map_map] at this
    rw [this]
    congr 3
    have hall : ∀ i ∈ ns, 0 ≤ i ∧ i < l.length := h.inn
    clear this h e1 hl
    induction ns with
    | nil => rfl
    | cons i ns ih =>
      have hi := hall i List.mem_cons_self
      have hg : l[i.toNat]? = some l[i.toNat] := List.getElem?_eq_getElem (by omega)
      rw [List.map_cons, List.filterMap_cons, ih fun j hj => hall j (List.mem_cons_of_mem _ hj), hg]
      simp [hg]
  obtain ⟨v, c', em, rfl, hm⟩ := meeting_ok (l := ns.filterMap fun i => l[i.toNat]?) (c := c) (Nat.le_trans (List.length_filterMap_le _ _) (by omega)) fun r hr => by
    obtain ⟨i, hi, e⟩ := List.mem_filterMap.mp hr
    exact g.ok r (List.mem_of_getElem? e)
  refine ok_seqE (by simp [e2, em]; rfl) ?_
  rcases hm with ⟨rfl, hn⟩ | ⟨a, b, rfl, hn⟩
  · simp
    exact .inl ⟨rfl, hn⟩
  · simp [L2.atI, ixN]
    exact ⟨_, .inr ⟨a, b, rfl, hn⟩, _, rfl⟩
theorem sort2 (a b : Int) : sortI [a, b] = if a ≤ b then [a, b] else [b, a] := by
  split
  · exact sort_unique (sortI_perm _) (sortI_pairwise _) (by simp; omega)
  · exact sort_unique ((sortI_perm _).trans (List.Perm.swap _ _ _)) (sortI_pairwise _) (by simp; omega)
theorem there_ok {p : Int × Int} {t : Int} {c : List D} (h : 0 < p.1) : m__law_is_there [skD p, .int t] c = .ok (.bl (decide (p.2 ≤ t) && decide ((t - p.2) % p.1 = 0)), c) := by
  cases e : decide (p.2 ≤ t) <;> simp [m__law_is_there, runB, b__law_is_there, skD, L2.atI, ixN, e, h]
/-- what a paper says -/
def Says (p q : Int × Int) (a b d : Int) : Bool := decide (p.1 % a = 0) && decide (q.1 % a = 0) && !decide (b = d) && decide (p.2 % a = b) && decide (q.2 % a = d)
theorem is_paper_ok {p q : Int × Int} {a b d : Int} {c : List D} (h : 0 < a) : m__law_is_paper [skD p, skD q, .tup [.int a, .int b, .int d]] c = .ok (.bl (Says p q a b d), c) := by
  unfold Says
  by_cases h1 : p.1 % a = 0 <;> by_cases h2 : q.1 % a = 0 <;> by_cases h3 : b = d <;> by_cases h4 : p.2 % a = b <;> simp [m__law_is_paper, runB, b__law_is_paper, seqS_ap, PL.unpack, skD, L2.atI, ixN, h1, h2, h3, h4, h]
theorem is_line_paper_ok {l : List (Int × Int)} {i j : Int} {p q : Int × Int} {a b d : Int} {c : List D} (t : Two l i j p q) : m_is_line_paper [sksD l, .int i, .int j, .tup [.int a, .int b, .int d]] c = .ok (.bl (decide (1 ≤ a) && decide (a ≤ 60) && decide (0 ≤ b) && decide (b < a) && decide (0 ≤ d) && decide (d < a) && Says p q a b d), c) := by
  have e1 := atS t.i0 t.p
  have e2 := atS t.j0 t.q
  have ei : ixD (sksD l) (.int i) = some (skD p) := e1
  have ej : ixD (sksD l) (.int j) = some (skD q) := e2
  have hp : ∀ n, L2.atI [D.int p.1, D.int p.2] n = L2.atI [D.int p.1, D.int p.2] n := fun _ => rfl
  refine tells_eq (ok_run [.val (sksD l), .val (.int i), .val (.int j), .val (.tup [.int a, .int b, .int d]), .un, .un, .un] ?_)
  unfold b_is_line_paper
  refine ok_seqE (by simp [need3 t.g t.i0 t.i1 t.j0 t.j1 t.n]; rfl) ?_
  by_cases a1 : 1 ≤ a ∧ a ≤ 60
  · have a0 : 0 < a := by omega
    refine ok_seqE (by simp [tuple_tup, whole_int, L2.atI, ixN, a1.1, a1.2]; rfl) ?_
    refine ok_seqE (by simp [PL.unpack]; rfl) ?_
    by_cases b1 : (0 ≤ b ∧ b < a) ∧ (0 ≤ d ∧ d < a) ∧ b ≠ d
    · have b2 : b ≤ a - 1 := by omega
      have d2 : d ≤ a - 1 := by omega
      refine ok_seqE (by simp [whole_int, b1.1.1, b2, b1.2.1.1, d2, b1.2.2]; rfl) ?_
      unfold Says
      by_cases h1 : p.1 % a = 0
      · by_cases h2 : q.1 % a = 0
        · refine ok_seqE (by simp [ei, ej, skD, L2.atI, ixN, a0, h1, h2]; rfl) ?_
          by_cases h4 : p.2 % a = b <;> simp [ei, ej, skD, L2.atI, ixN, a0, h1, h2, h4, a1.1, a1.2, b1.1.1, b1.1.2, b1.2.1.1, b1.2.1.2, b1.2.2]
        · refine ok_seqN (fun _ => False) ?_ fun _ z => z.elim
          simp [ei, ej, skD, L2.atI, ixN, a0, h1, h2]
      · refine ok_seqN (fun _ => False) ?_ fun _ z => z.elim
        simp [ei, ej, skD, L2.atI, ixN, a0, h1]
    · refine ok_seqN (fun _ => False) ?_ fun _ z => z.elim
      by_cases b2 : 0 ≤ b ∧ b < a
      · have b3 : b ≤ a - 1 := by omega
        by_cases d2 : 0 ≤ d ∧ d < a
        · have d3 : d ≤ a - 1 := by omega
          have e : b = d := by omega
          simp [whole_int, b2.1, b3, d2.1, d3, e, Says]
        · have e : (decide (0 ≤ d) && decide (d ≤ a - 1)) = false := by
            rw [Bool.and_eq_false_iff, decide_eq_false_iff_not, decide_eq_false_iff_not]; omega
          have e' : (decide (0 ≤ d) && decide (d < a)) = false := by
            rw [Bool.and_eq_false_iff, decide_eq_false_iff_not, decide_eq_false_iff_not]; omega
          simp only [Bool.and_assoc] at *
          rw [← Bool.and_assoc (decide (0 ≤ d)), e']
          simp [whole_int, b2.1, b3, e]
      · have e : (decide (0 ≤ b) && decide (b ≤ a - 1)) = false := by
          rw [Bool.and_eq_false_iff, decide_eq_false_iff_not, decide_eq_false_iff_not]; omega
        have e' : (decide (0 ≤ b) && decide (b < a)) = false := by
          rw [Bool.and_eq_false_iff, decide_eq_false_iff_not, decide_eq_false_iff_not]; omega
        simp only [Bool.and_assoc] at *
        rw [← Bool.and_assoc (decide (0 ≤ b)), e']
        simp [whole_int, e]
  · refine ok_seqN (fun _ => False) ?_ fun _ z => z.elim
    have e : (decide (1 ≤ a) && decide (a ≤ 60)) = false := by
      rw [Bool.and_eq_false_iff, decide_eq_false_iff_not, decide_eq_false_iff_not]; omega
    simp [tuple_tup, whole_int, L2.atI, ixN, e]
end Lw

namespace Lw
open PySem PySem.Spec PyProof.Rows L2 PL
theorem same_bl {n : Nat} {x y : Bool} {c : List D} : m__law_same (n + 1) [.bl x, .bl y] c = .ok (.bl (decide (x = y)), c) := by
  cases y <;> simp [m__law_same, runB, b__law_same, seqS_ap]
theorem same_3 {n : Nat} {x y z x' y' z' : Bool} {c : List D} : m__law_same (n + 2) [.tup [.bl x, .bl y, .bl z], .tup [.bl x', .bl y', .bl z']] c = .ok (.bl (decide (x = x') && decide (y = y') && decide (z = z')), c) := by
  have h := lcM_pure (vs := [2]) (src := srcA range1 (consA (callM lenD (consA (getv 1) (ret []))) (ret []))) (tgt := setv 2) (test := ret true) (elt := fnM (m__law_same (n + 1)) (consA (op2 ixD (getv 0) (getv 2)) (consA (op2 ixD (getv 1) (getv 2)) (ret []))))
    (env := [.val (.tup [.bl x, .bl y, .bl z]), .val (.tup [.bl x', .bl y', .bl z']), .un]) (c := c) (c' := c) (ds := PL.upTo 3) (fun _ => true) (fun d => match d with | .int 0 => .bl (decide (x = x')) | .int 1 => .bl (decide (y = y')) | _ => .bl (decide (z = z'))) (by simp) rfl (Nat.le_trans (show _ ≤ 1000 by simp) (by decide)) fun d hd => by
      obtain ⟨i, hi, rfl⟩ := mem_upTo.mp hd
      refine ⟨_, rfl, rfl, fun _ => ?_⟩
      have : i = 0 ∨ i = 1 ∨ i = 2 := by omega
      rcases this with rfl | rfl | rfl <;> simp [wipeE, L2.atI, ixN, same_bl]
  have e : ((PL.upTo 3).filter fun _ => true).map (fun d => match d with | .int 0 => D.bl (decide (x = x')) | .int 1 => .bl (decide (y = y')) | _ => .bl (decide (z = z'))) = [D.bl (decide (x = x')), D.bl (decide (y = y')), D.bl (decide (z = z'))] := rfl
  rw [e] at h
  refine tells_eq (ok_run [.val (.tup [.bl x, .bl y, .bl z]), .val (.tup [.bl x', .bl y', .bl z']), .un] ?_)
  unfold b__law_same
  refine ok_seqN (fun _ => False) ?_ fun _ z => z.elim
  simp [seqS_ap, h, allD, blsOf, Bool.and_assoc]
/-- odd values are no papers -/
theorem no_paper {l : List (Int × Int)} {i j : Int} {p q : Int × Int} {d : D} {c : List D} (t : Two l i j p q) (h : m_is_tuple_of [d, .int 3, .int 3] c = .ok (.bl false, c)) : m_is_line_paper [sksD l, .int i, .int j, d] c = .ok (.bl false, c) := by
  refine tells_eq (ok_run [.val (sksD l), .val (.int i), .val (.int j), .val d, .un, .un, .un] ?_)
  unfold b_is_line_paper
  refine ok_seqE (by simp [need3 t.g t.i0 t.i1 t.j0 t.j1 t.n]; rfl) ?_
  refine ok_seqN (fun _ => False) ?_ fun _ z => z.elim
  simp [h]
theorem no_paper3 {l : List (Int × Int)} {i j : Int} {p q : Int × Int} {x y z : D} {c : List D} (t : Two l i j p q) (h : notInt x = true ∨ ∃ a, x = .int a ∧ 1 ≤ a ∧ a ≤ 60 ∧ (notInt y = true ∨ ∃ b, y = .int b ∧ notInt z = true)) : m_is_line_paper [sksD l, .int i, .int j, .tup [x, y, z]] c = .ok (.bl false, c) := by
  refine tells_eq (ok_run [.val (sksD l), .val (.int i), .val (.int j), .val (.tup [x, y, z]), .un, .un, .un] ?_)
  unfold b_is_line_paper
  refine ok_seqE (by simp [need3 t.g t.i0 t.i1 t.j0 t.j1 t.n]; rfl) ?_
  rcases h with h | ⟨a, rfl, a0, a1, h⟩
  · refine ok_seqN (fun _ => False) ?_ fun _ z => z.elim
    simp [tuple_tup, whole_not h, L2.atI, ixN]
  · refine ok_seqE (by simp [tuple_tup, whole_int, L2.atI, ixN, a0, a1]; rfl) ?_
    refine ok_seqE (by simp [PL.unpack]; rfl) ?_
    refine ok_seqN (fun _ => False) ?_ fun _ z => z.elim
    rcases h with h | ⟨b, rfl, h⟩
    · simp [whole_not h]
    · by_cases hb : 0 ≤ b ∧ b < a
      · have : b ≤ a - 1 := by omega
        simp [whole_not h, whole_int, hb.1, this]
      · have e : (decide (0 ≤ b) && decide (b ≤ a - 1)) = false := by
          rw [Bool.and_eq_false_iff, decide_eq_false_iff_not, decide_eq_false_iff_not]; omega
        simp [whole_int, e]
def odds : List D := [.non, .tup [], .tup [.int 2, .int 0], .lst [.int 2, .int 0, .int 1], .tup [.int 0, .int 0, .int 0], .tup [.int 61, .int 0, .int 1], .tup [.int 2, .int 0, .int 2], .tup [.int 2, .int (-1), .int 0], .tup [.bl true, .int 0, .int 0], .tup [.int 2, .bl false, .int 1], .tup [.int 2, .int 0, .non], .tup [.str "2", .int 0, .int 1], .tup [.int 2, .int 0, .int 1, .int 0], .int 5]
theorem odds_no {l : List (Int × Int)} {i j : Int} {p q : Int × Int} {c : List D} (t : Two l i j p q) {d : D} (h : d ∈ odds) : m_is_line_paper [sksD l, .int i, .int j, d] c = .ok (.bl false, c) := by
  unfold odds at h
  simp only [List.mem_cons, List.not_mem_nil, or_false] at h
  rcases h with rfl | rfl | rfl | rfl | rfl | rfl | rfl | rfl | rfl | rfl | rfl | rfl | rfl | rfl
  · exact no_paper t (tuple_not rfl)
  · exact no_paper t (by rw [tuple_tup]; rfl)
  · exact no_paper t (by rw [tuple_tup]; rfl)
  · exact no_paper t (tuple_not rfl)
  · rw [is_line_paper_ok t]; rfl
  · rw [is_line_paper_ok t]; rfl
  · rw [is_line_paper_ok t]; rfl
  · rw [is_line_paper_ok t]; rfl
  · exact no_paper3 t (.inl rfl)
  · exact no_paper3 t (.inr ⟨2, rfl, by decide, by decide, .inl rfl⟩)
  · exact no_paper3 t (.inr ⟨2, rfl, by decide, by decide, .inr ⟨0, rfl, rfl⟩⟩)
  · exact no_paper3 t (.inl rfl)
  · exact no_paper t (by rw [tuple_tup]; rfl)
  · exact no_paper t (tuple_not rfl)
/-- two that meet -/
def Meet2 (p q : Int × Int) : Prop := (p.2 - q.2) % gcdI p.1 q.1 = 0
theorem meet2_iff {p q : Int × Int} (hp : Sk p) (hq : Sk q) : Meet2 p q ↔ ∃ z, (z - p.2) % p.1 = 0 ∧ (z - q.2) % q.1 = 0 :=
  ⟨fun h => crt_some (by have := hp.1; omega) (by have := hq.1; omega) h, fun ⟨z, h1, h2⟩ => crt_only h1 h2⟩
theorem says_not {p q : Int × Int} {a b d : Int} (h : Says p q a b d = true) (m : Meet2 p q) (hp : Sk p) (hq : Sk q) : False := by
  obtain ⟨z, h1, h2⟩ := (meet2_iff hp hq).mp m
  unfold Says at h
  simp only [Bool.and_eq_true, decide_eq_true_eq, Bool.not_eq_true', decide_eq_false_iff_not] at h
  obtain ⟨⟨⟨⟨k1, k2⟩, k3⟩, k4⟩, k5⟩ := h
  have d1 : a ∣ z - p.2 := Int.dvd_trans (Int.dvd_of_emod_eq_zero k1) (Int.dvd_of_emod_eq_zero h1)
  have d2 : a ∣ z - q.2 := Int.dvd_trans (Int.dvd_of_emod_eq_zero k2) (Int.dvd_of_emod_eq_zero h2)
  have e1 : z % a = p.2 % a := Int.emod_eq_emod_iff_emod_sub_eq_zero.mpr (Int.emod_eq_zero_of_dvd d1)
  have e2 : z % a = q.2 % a := Int.emod_eq_emod_iff_emod_sub_eq_zero.mpr (Int.emod_eq_zero_of_dvd d2)
  exact k3 (by rw [← k4, ← k5, ← e1, ← e2])
theorem says_self {p q : Int × Int} (hp : Sk p) (h : ¬ Meet2 p q) : Says p q (gcdI p.1 q.1) (p.2 % gcdI p.1 q.1) (q.2 % gcdI p.1 q.1) = true := by
  unfold Says
  simp only [Bool.and_eq_true, decide_eq_true_eq, Bool.not_eq_true', decide_eq_false_iff_not]
  refine ⟨⟨⟨⟨Int.emod_eq_zero_of_dvd (gcd_dl _ _), Int.emod_eq_zero_of_dvd (gcd_dr _ _)⟩, fun e => h ?_⟩, trivial⟩, trivial⟩
  exact Int.emod_eq_emod_iff_emod_sub_eq_zero.mp e
end Lw

namespace Lw
open PySem PySem.Spec PyProof.Rows L2 PL
instance {p q : Int × Int} : Decidable (Meet2 p q) := inferInstanceAs (Decidable (_ = _))
def tms (p q : Int × Int) : List D := (upFrom q.2 (p.1 * q.1 + 100).toNat).filter (pInt fun t => (decide (p.2 ≤ t) && decide ((t - p.2) % p.1 = 0)) && (decide (q.2 ≤ t) && decide ((t - q.2) % q.1 = 0)))
theorem tms_ok (p q : Int × Int) : dOk 60 (.lst (tms p q)) = true := dOk_lst fun d hd => by
  obtain ⟨i, _, _, rfl⟩ := mem_upFrom.mp (List.mem_filter.mp hd).1
  simp
theorem tms_iff {p q : Int × Int} (hp : Sk p) (hq : Sk q) : (tms p q).isEmpty = !decide (Meet2 p q) := by
  have p0 : 0 < p.1 := by have := hp.1; omega
  have q0 : 0 < q.1 := by have := hq.1; omega
  by_cases h : Meet2 p q
  · obtain ⟨z, z1, z2⟩ := (meet2_iff hp hq).mp h
    obtain ⟨y, y0, y1, y2, y3⟩ := crt_from (if p.2 ≤ q.2 then q.2 else p.2) p0 q0 z1 z2
    have hb : p.2 ≤ y ∧ q.2 ≤ y ∧ y < q.2 + (p.1 * q.1 + 100) := by
      have := hp.2.2
      have := hq.2.2
      split at y0 <;> split at y1 <;> omega
    have hm : D.int y ∈ tms p q := List.mem_filter.mpr ⟨mem_upFrom.mpr ⟨y, hb.2.1, by omega, rfl⟩, by simp [pInt, hb.1, hb.2.1, y2, y3]⟩
    cases e : tms p q with
    | nil => rw [e] at hm; cases hm
    | cons a b => simp [h]
  · cases e : tms p q with
    | nil => simp [h]
    | cons a b =>
      have hm : a ∈ tms p q := by rw [e]; exact List.mem_cons_self
      obtain ⟨h1, h2⟩ := List.mem_filter.mp hm
      obtain ⟨i, _, _, rfl⟩ := mem_upFrom.mp h1
      simp [pInt] at h2
      exact absurd ((meet2_iff hp hq).mpr ⟨i, h2.1.2, h2.2.2⟩) h
theorem meets_two {p q : Int × Int} {z : Int} : Meets [p, q] z ↔ (z - p.2) % p.1 = 0 ∧ (z - q.2) % q.1 = 0 := by
  simp [Meets]
/-- two of them, met or not -/
theorem together2 {l : List (Int × Int)} {i j : Int} {p q : Int × Int} {c : List D} (t : Two l i j p q) : ∃ v, m_together [sksD l, .tup ((sortI [i, j]).map D.int)] c = .ok (v, c) ∧ isNon v = !decide (Meet2 p q) := by
  have hi : i.toNat < l.length := by have := t.i0; have := t.i1; omega
  have hlot : Lot l.length (sortI [i, j]) := by
    have := t.i0; have := t.i1; have := t.j0; have := t.j1; have := t.n; have := t.g.l1
    rw [sort2]
    split
    · exact ⟨by simp; omega, fun k hk => by simp at hk; omega, by simp [rises]; omega⟩
    · exact ⟨by simp; omega, fun k hk => by simp at hk; omega, by simp [rises]; omega⟩
  obtain ⟨v, c', e, rfl, v', hm, hv⟩ := together_ok (c := c) t.g hlot
  refine ⟨v, e, ?_⟩
  have hmeet : (∃ z, Meets ((sortI [i, j]).filterMap fun i => l[i.toNat]?) z) ↔ Meet2 p q := by
    rw [meet2_iff t.sp t.sq, sort2]
    split
    · simp only [List.filterMap_cons, List.filterMap_nil, t.p, t.q]
      simp only [meets_two]
    · simp only [List.filterMap_cons, List.filterMap_nil, t.p, t.q]
      simp only [meets_two, and_comm]
  rcases hm with ⟨rfl, hn⟩ | ⟨a, b, rfl, ha, _⟩
  · rcases hv with ⟨_, rfl⟩ | ⟨_, _, z, _⟩
    · rw [hmeet] at hn
      simp [hn]
    · cases z
  · rcases hv with ⟨z, _⟩ | ⟨x, y, z, rfl⟩
    · cases z
    · have := hmeet.mp ⟨a, ha⟩
      simp [this]
theorem right_ok {c : List D} (hc : Cup c) : Tells m__law_right [.cup] c fun v c' => v = .bl true ∧ Cup c' := by
  refine ok_run [.val .cup, .un, .un, .un, .un, .un, .un, .un, .un, .un, .un, .un, .un, .un, .un, .un, .un] ?_
  unfold b__law_right
  obtain ⟨d, c1, e1, hc1, hd⟩ := some_ok (ds := [.int 12, .int 60]) hc (by decide) (by decide)
  obtain ⟨lap, rfl, p0, p1⟩ : ∃ lap : Int, d = .int lap ∧ 0 < lap ∧ lap ≤ 60 := by
    simp at hd; rcases hd with rfl | rfl <;> exact ⟨_, rfl, by decide, by decide⟩
  obtain ⟨v, c2, e2, l, rfl, hc2, l1, l2, l3⟩ := skaters_ok (most := 4) (lap := lap) hc1 (by decide) (by decide) p0 (by omega)
  have g : Good l := ⟨l1, by omega, fun p hp => by have := l3 p hp; exact ⟨this.1, by omega, this.2.2⟩⟩
  refine ok_seqE (by simp [e1, e2]; rfl) ?_
  have e3 : lenD [sksD l] = some (.int l.length) := by simp [sksD]
  refine ok_seqE (by simp [e3]; rfl) ?_
  by_cases hn : 1 < l.length
  rotate_left
  · have hn' : ¬ (1 : Int) < l.length := by omega
    refine ok_seqE (by simp [forS_ap, hn', PL.upTo, forL]; rfl) ?_
    simp
    exact hc2
  · have hn' : (1 : Int) < l.length := by omega
    refine ok_seqN _ (ok_for (ds := PL.upTo 4) (c' := c2) (fun k s => ∃ (x3 x4 x5 x6 x7 x8 x9 x10 x11 x12 x13 x14 : Slot) (c : List D), s = ⟨[.val .cup, .val (sksD l), .val (.int l.length), x3, x4, x5, x6, x7, x8, x9, x10, x11, x12, x13, x14, .un, .un], c⟩ ∧ Cup c) (by simp [hn']) ⟨_, _, _, _, _, _, _, _, _, _, _, _, _, rfl, hc2⟩ ?_ fun s h => h) ?_
    rotate_left
    · rintro _ ⟨x3, x4, x5, x6, x7, x8, x9, x10, x11, x12, x13, x14, c, rfl, hc⟩
      simp
      exact hc
    rintro k d s hd ⟨x3, x4, x5, x6, x7, x8, x9, x10, x11, x12, x13, x14, c, rfl, hc⟩
    obtain ⟨hk, rfl⟩ := upTo_get hd
    simp only [setv_ap, List.set, okr_ok]
    obtain ⟨i, c3, e4, hc3, i0, i1⟩ := roll_ok (many := l.length) hc (by omega) (by omega)
    refine ok_seqE (by simp [e4]; rfl) ?_
    obtain ⟨u, c4, e5, hc4, u0, u1⟩ := roll_ok (many := l.length - 1) hc3 (by omega) (by omega)
    have hl0 : (0 : Int) < l.length := by omega
    refine ok_seqE (by simp [e5, show 0 < l.length by omega]; rfl) ?_
    obtain ⟨j, hj⟩ : ∃ j, (i + 1 + u) % (l.length : Int) = j := ⟨_, rfl⟩
    have j0 : 0 ≤ j := by rw [← hj]; exact Int.emod_nonneg _ (by omega)
    have j1 : j < l.length := by rw [← hj]; exact Int.emod_lt_of_pos _ hl0
    have hij : i ≠ j := by
      rintro rfl
      have := Int.mul_ediv_add_emod (i + 1 + u) l.length
      rw [hj] at this
      have h1 : (l.length : Int) * ((i + 1 + u) / l.length) = 1 + u := by omega
      have h2 : 0 < (i + 1 + u) / (l.length : Int) := by
        refine Int.not_le.mp fun h => ?_
        have : (l.length : Int) * ((i + 1 + u) / l.length) ≤ l.length * 0 := Int.mul_le_mul_of_nonneg_left h (by omega)
        omega
      have h3 : (l.length : Int) * 1 ≤ l.length * ((i + 1 + u) / l.length) := Int.mul_le_mul_of_nonneg_left (by omega) (by omega)
      omega
    rw [hj]
    have hp : l[i.toNat]? = some l[i.toNat] := List.getElem?_eq_getElem (by omega)
    have hq : l[j.toNat]? = some l[j.toNat] := List.getElem?_eq_getElem (by omega)
    generalize l[i.toNat] = p at hp
    generalize l[j.toNat] = q at hq
    have t : Two l i j p q := ⟨g, i0, i1, j0, j1, hij, hp, hq⟩
    have sp := t.sp
    have sq := t.sq
    have p0 : 0 < p.1 := by have := sp.1; omega
    have q0 : 0 < q.1 := by have := sq.1; omega
    have ei : ixD (sksD l) (.int i) = some (skD p) := atS i0 hp
    have ej : ixD (sksD l) (.int j) = some (skD q) := atS j0 hq
    have ep0 : ixD (skD p) (.int 0) = some (.int p.1) := rfl
    have ep1 : ixD (skD p) (.int 1) = some (.int p.2) := rfl
    have eq0 : ixD (skD q) (.int 0) = some (.int q.1) := rfl
    have eq1 : ixD (skD q) (.int 1) = some (.int q.2) := rfl
    refine ok_seqE (by simp [ei, ej, PL.unpack]; rfl) ?_
    have hmul : cMul p.1 q.1 = true := by have := sp.2.1; simp [cMul]; left; omega
    have hpq : p.1 * q.1 ≤ 60 * 60 := Int.mul_le_mul sp.2.1 sq.2.1 (by omega) (by omega)
    have hpq0 : 0 < p.1 * q.1 := Int.mul_pos p0 q0
    have hT : lcM [15] (srcA range2 (consA (op2 ixD (getv 7) (ret (.int 1))) (consA (op2 addD (op2 addD (op2 ixD (getv 7) (ret (.int 1))) (op2 mulD (op2 ixD (getv 6) (ret (.int 0))) (op2 ixD (getv 7) (ret (.int 0))))) (ret (.int 100))) (ret [])))) (setv 15) (andT (asB (fnM m__law_is_there (consA (getv 6) (consA (getv 15) (ret []))))) (asB (fnM m__law_is_there (consA (getv 7) (consA (getv 15) (ret [])))))) (getv 15)
        ⟨[.val .cup, .val (sksD l), .val (.int l.length), .val (.int k), .val (.int i), .val (.int j), .val (skD p), .val (skD q), x8, x9, x10, x11, x12, x13, x14, .un, .un], c4⟩ = .ok (.lst ((tms p q).map id), c4) := by
      refine lcM_pure (ds := upFrom q.2 (p.1 * q.1 + 100).toNat) (c' := c4) _ _ ?_ rfl (Nat.le_trans (show _ ≤ 10000 by rw [upFrom_len]; omega) (by decide)) fun d hd => ?_
      · simp [ep0, ep1, eq0, eq1, hmul]
        rw [range2_int (by have := sq.2.2; omega) (by have := sq.2.2; omega) (by have := sq.2.2; omega) (by have := sq.2.2; omega)]
        simp
        congr 3
        omega
      · obtain ⟨m, m0, m1, rfl⟩ := mem_upFrom.mp hd
        refine ⟨_, rfl, ?_, fun _ => ?_⟩
        · simp only [wipeE, List.set, andT_ap, asB_ap, fnM_ap, consA_ap, getv_s, getv_0, ret_ap, bind_ok, there_ok p0, there_ok q0, pInt]
          cases (decide (p.2 ≤ m) && decide ((m - p.2) % p.1 = 0)) <;> rfl
        · simp [wipeE]
    rw [List.map_id] at hT
    refine ok_seqE (by rw [asgS_ap, hT]; simp; rfl) ?_
    refine ok_seqE (by simp [line_paper_ok t]; rfl) ?_
    obtain ⟨v, hv, hv2⟩ := together2 (c := c4) t
    have hpap : isNon (paper p q) = decide (Meet2 p q) := by
      unfold paper Meet2
      by_cases h : (p.2 - q.2) % gcdI p.1 q.1 = 0 <;> simp [h]
    have hne := neD_nil (tms_ok p q)
    rw [tms_iff sp sq] at hne
    have hsrt : sortedD [.lst [.int i, .int j]] = some (.lst ((sortI [i, j]).map D.int)) := rfl
    have htp : tupleD [.lst ((sortI [i, j]).map D.int)] = some (.tup ((sortI [i, j]).map D.int)) := rfl
    refine ok_seqE (by simp [hne, hpap, hsrt, htp, hv, hv2]; rfl) ?_
    refine ok_seqE (s' := ⟨[.val .cup, .val (sksD l), .val (.int l.length), .val (.int k), .val (.int i), .val (.int j), .val (skD p), .val (skD q), .val (.lst (tms p q)), .val (paper p q), x10, x11, x12, x13, x14, .un, .un], c4⟩) (by
      by_cases h : Meet2 p q
      · simp [hpap, h]
      · have hg := gcd_pos (a := p.1) (b := q.1) p0
        have hgl := gcd_le (a := p.1) (b := q.1) p0
        have hs := says_self (q := q) sp h
        have hP : paper p q = .tup [.int (gcdI p.1 q.1), .int (p.2 % gcdI p.1 q.1), .int (q.2 % gcdI p.1 q.1)] := if_pos h
        have h1 : m_is_line_paper [sksD l, .int i, .int j, paper p q] c4 = .ok (.bl true, c4) := by
          rw [hP, is_line_paper_ok t, hs]
          have a1 := Int.emod_nonneg p.2 (show gcdI p.1 q.1 ≠ 0 by omega)
          have a2 := Int.emod_lt_of_pos p.2 hg
          have a3 := Int.emod_nonneg q.2 (show gcdI p.1 q.1 ≠ 0 by omega)
          have a4 := Int.emod_lt_of_pos q.2 hg
          have a5 : 1 ≤ gcdI p.1 q.1 := by omega
          have a6 : gcdI p.1 q.1 ≤ 60 := by have := sp.2.1; omega
          simp [a1, a2, a3, a4, a5, a6]
        have h2 : m__law_is_paper [skD p, skD q, paper p q] c4 = .ok (.bl true, c4) := by
          rw [hP, is_paper_ok hg, hs]
        have h3 : tyOf (paper p q) = some "tuple" := by rw [hP]; rfl
        simp [hpap, h, h1, h2, h3]) ?_
    refine ok_seqN _ (ok_for (ds := PL.upTo 8) (c' := c4) (fun _ s => ∃ (x10 x12 x13 x14 : Slot) (c : List D), s = ⟨[.val .cup, .val (sksD l), .val (.int l.length), .val (.int k), .val (.int i), .val (.int j), .val (skD p), .val (skD q), .val (.lst (tms p q)), .val (paper p q), x10, x11, x12, x13, x14, .un, .un], c⟩ ∧ Cup c) (by simp) ⟨_, _, _, _, _, rfl, hc4⟩ ?_ fun s h => h) ?_
    · rintro k2 d s hd ⟨x10, x12, x13, x14, c, rfl, hc⟩
      obtain ⟨hk2, rfl⟩ := upTo_get hd
      simp only [setv_ap, List.set, okr_ok]
      obtain ⟨d, c5, e6, hc5, hd⟩ := some_ok (ds := [.int 4, .int 12, .int 60]) hc (by decide) (by decide)
      obtain ⟨m, rfl, m0, m1⟩ : ∃ m : Int, d = .int m ∧ 0 < m ∧ m ≤ 60 := by
        simp at hd; rcases hd with rfl | rfl | rfl <;> exact ⟨_, rfl, by decide, by decide⟩
      obtain ⟨w, c6, e7, hc6, w0, w1⟩ := roll_ok (many := m) hc5 m0 (by omega)
      refine ok_seqE (by simp [e6, e7]; rfl) ?_
      have a0 : 0 < 1 + w := by omega
      obtain ⟨r, c7, e8, hc7, r0, r1⟩ := roll_ok (many := 1 + w) hc6 a0 (by omega)
      obtain ⟨r', c8, e9, hc8, r2, r3⟩ := roll_ok (many := 1 + w) hc7 a0 (by omega)
      refine ok_for (ds := [.tup [.int (1 + w), .int (p.2 % (1 + w)), .int (q.2 % (1 + w))], .tup [.int (1 + w), .int r, .int r']]) (c' := c8) (fun _ s => ∃ (x13 x14 : Slot), s = ⟨[.val .cup, .val (sksD l), .val (.int l.length), .val (.int k), .val (.int i), .val (.int j), .val (skD p), .val (skD q), .val (.lst (tms p q)), .val (paper p q), .val (.int k2), x11, .val (.int (1 + w)), x13, x14, .un, .un], c8⟩) (by simp [e8, e9, ep1, eq1, a0]) ⟨_, _, rfl⟩ ?_ fun s h => by
        obtain ⟨_, _, rfl⟩ := h
        exact ⟨_, _, _, _, _, rfl, hc8⟩
      rintro k3 d s hd ⟨x13, x14, rfl⟩
      obtain ⟨b, e, rfl, b0, b1, b2, b3⟩ : ∃ b e : Int, d = .tup [.int (1 + w), .int b, .int e] ∧ 0 ≤ b ∧ b < 1 + w ∧ 0 ≤ e ∧ e < 1 + w := by
        have := List.mem_of_getElem? hd
        simp at this
        rcases this with rfl | rfl
        · exact ⟨_, _, rfl, Int.emod_nonneg _ (by omega), Int.emod_lt_of_pos _ a0, Int.emod_nonneg _ (by omega), Int.emod_lt_of_pos _ a0⟩
        · exact ⟨_, _, rfl, r0, r1, r2, r3⟩
      simp only [setv_ap, List.set, okr_ok]
      refine ok_seqE (by simp [is_paper_ok a0]; rfl) ?_
      have a1 : 1 ≤ 1 + w := by omega
      have a2 : 1 + w ≤ 60 := by omega
      have hlp : m_is_line_paper [sksD l, .int i, .int j, .tup [.int (1 + w), .int b, .int e]] c8 = .ok (.bl (Says p q (1 + w) b e), c8) := by
        rw [is_line_paper_ok t]
        have e1 : decide (1 ≤ 1 + w) = true := decide_eq_true a1
        have e2 : decide (1 + w ≤ 60) = true := decide_eq_true a2
        have e3 : decide (0 ≤ b) = true := decide_eq_true b0
        have e4 : decide (b < 1 + w) = true := decide_eq_true b1
        have e5 : decide (0 ≤ e) = true := decide_eq_true b2
        have e6 : decide (e < 1 + w) = true := decide_eq_true b3
        rw [e1, e2, e3, e4, e5, e6]
        rfl
      have hsm : ∀ y, m__law_same 6 [.bl y, .bl y] c8 = .ok (.bl true, c8) := fun y => by
        rw [same_bl]; simp
      cases hS : Says p q (1 + w) b e with
      | false => 
        rw [hS] at hlp
        simp [hlp, hsm]
      | true =>
        rw [hS] at hlp
        have : ¬ Meet2 p q := fun m => says_not hS m sp sq
        simp [hlp, hsm, hne, this]
    · rintro _ ⟨x10, x12, x13, x14, c, rfl, hc⟩
      refine ok_seqE (s' := ⟨[.val .cup, .val (sksD l), .val (.int l.length), .val (.int k), .val (.int i), .val (.int j), .val (skD p), .val (skD q), .val (.lst (tms p q)), .val (paper p q), x10, .val (.lst odds), x12, x13, x14, .un, .un], c⟩) rfl ?_
      have hO : lcM [16] (srcM (getv 11)) (setv 16) (asB (op2 isnotD (fnM m_is_line_paper (consA (getv 1) (consA (getv 4) (consA (getv 5) (consA (getv 16) (ret [])))))) (ret (.bl false)))) (getv 16) ⟨[.val .cup, .val (sksD l), .val (.int l.length), .val (.int k), .val (.int i), .val (.int j), .val (skD p), .val (skD q), .val (.lst (tms p q)), .val (paper p q), x10, .val (.lst odds), x12, x13, x14, .un, .un], c⟩ = .ok (.lst ((odds.filter fun _ => false).map id), c) := by
        refine lcM_pure (ds := odds) (c' := c) _ _ (by simp) rfl (Nat.le_trans (show _ ≤ 1000 by decide) (by decide)) fun d hd => ⟨_, rfl, ?_, fun z => by cases z⟩
        simp [wipeE, odds_no t hd]
      have hO2 : (odds.filter fun _ => false).map id = [] := rfl
      rw [hO2] at hO
      have hN := neD_nil (ds := []) (by rw [dOk]; rfl)
      simp [hO, hN]
      exact ⟨_, _, _, _, _, _, _, _, _, _, _, _, _, ⟨⟨rfl, rfl, rfl, rfl, rfl, rfl, rfl, rfl, rfl, rfl, rfl, rfl⟩, rfl⟩, hc⟩
theorem plain : Plain := fun ns _ => by
  have key : Okr (b_law (start_law (cX ns) (cY ns))) (Fin fun v _ => v = .bl true) := by
    unfold b_law start_law
    refine ok_seqN _ (ok_for (ds := PL.upTo 5) (c' := [.int (cX ns), .int (cY ns)]) (fun k s => ∃ (x2 : Slot) (c : List D), s = ⟨[.un, .val .cup, x2, .un, .un, .un, .un, .un, .un, .un], c⟩ ∧ Cup c) (by simp) ⟨_, _, rfl, _, _, rfl⟩ ?_ fun s h => h) ?_
    · rintro k d s hd ⟨x2, c, rfl, hc⟩
      obtain ⟨v, c', e, rfl, hc'⟩ := right_ok hc
      simp [e]
      exact ⟨_, _, ⟨rfl, rfl⟩, hc'⟩
    · rintro _ ⟨x2, c, rfl, hc⟩
      obtain ⟨h, c1, e1, hc1, h0, h1⟩ := roll_ok (many := 30) hc (by decide) (by decide)
      obtain ⟨m, c2, e2, hc2, m0, m1⟩ := roll_ok (many := 30) hc1 (by decide) (by decide)
      obtain ⟨lap, c3, e3, hc3, l0, l1⟩ := roll_ok (many := 59) hc2 (by decide) (by decide)
      obtain ⟨late, c4, e4, hc4, t0, t1⟩ := roll_ok (many := 40) hc3 (by decide) (by decide)
      refine ok_seqE (by simp [e1, e2, e3, e4, PL.unpack]; rfl) ?_
      have k1 : ∀ x, cMul 2 x = true := fun x => by simp [cMul]
      refine ok_seqE (s' := ⟨[.un, .val .cup, x2, .val (.int (1 + h)), .val (.int (1 + m)), .val (.int (2 + lap)), .val (.int late), .val (sksD [(2 * (1 + h), 2 * late), (2 * (1 + m), 2 * late + 1)]), .val (sksD [(2 + lap, late), (2 + lap, late + 1)]), .un], c4⟩) (by simp [par2, k1, sksD, skD]) ?_
      have t1 : Two [(2 * (1 + h), 2 * late), (2 * (1 + m), 2 * late + 1)] 0 1 (2 * (1 + h), 2 * late) (2 * (1 + m), 2 * late + 1) := ⟨⟨by simp, by simp, fun p hp => by simp at hp; unfold Sk; rcases hp with rfl | rfl <;> simp <;> omega⟩, by decide, by simp, by decide, by simp, by decide, rfl, rfl⟩
      have t2 : Two [(2 * (1 + h), 2 * late), (2 * (1 + m), 2 * late + 1)] 1 0 (2 * (1 + m), 2 * late + 1) (2 * (1 + h), 2 * late) := ⟨t1.g, by decide, by simp, by decide, by simp, by decide, rfl, rfl⟩
      have t3 : Two [(2 + lap, late), (2 + lap, late + 1)] 0 1 (2 + lap, late) (2 + lap, late + 1) := ⟨⟨by simp, by simp, fun p hp => by simp at hp; unfold Sk; rcases hp with rfl | rfl <;> simp <;> omega⟩, by decide, by simp, by decide, by simp, by decide, rfl, rfl⟩
      have t4 : Two [(2 + lap, late), (1, 100)] 0 1 (2 + lap, late) (1, 100) := ⟨⟨by simp, by simp, fun p hp => by simp at hp; unfold Sk; rcases hp with rfl | rfl <;> simp <;> omega⟩, by decide, by simp, by decide, by simp, by decide, rfl, rfl⟩
      have q1 : m_is_line_paper [sksD [(2 * (1 + h), 2 * late), (2 * (1 + m), 2 * late + 1)], .int 0, .int 1, .tup [.int 2, .int 0, .int 1]] c4 = .ok (.bl true, c4) := by
        rw [is_line_paper_ok t1]; simp [Says]
      have q2 : m_is_line_paper [sksD [(2 * (1 + h), 2 * late), (2 * (1 + m), 2 * late + 1)], .int 1, .int 0, .tup [.int 2, .int 1, .int 0]] c4 = .ok (.bl true, c4) := by
        rw [is_line_paper_ok t2]; simp [Says]
      have q3 : m_is_line_paper [sksD [(2 * (1 + h), 2 * late), (2 * (1 + m), 2 * late + 1)], .int 0, .int 1, .tup [.int 1, .int 0, .int 0]] c4 = .ok (.bl false, c4) := by
        rw [is_line_paper_ok t1]; simp [Says]
      refine ok_seqE (by simp [q1, q2, q3]; rfl) ?_
      have gg : gcdI (2 + lap) (2 + lap) = 2 + lap := by unfold gcdI; rw [Nat.gcd_self]; omega
      have g1 : gcdI (2 + lap) 1 = 1 := by unfold gcdI; simp
      have q4 : isNon (paper (2 + lap, late) (2 + lap, late + 1)) = false := by
        have : (late - (late + 1)) % (2 + lap) ≠ 0 := by
          rw [show late - (late + 1) = -1 by omega]
          intro z
          obtain ⟨k, e⟩ := mod0.mp z
          have : (2 + lap) ∣ 1 := ⟨-k, by rw [Int.mul_neg]; omega⟩
          have := Int.le_of_dvd (by decide) this
          omega
        unfold paper
        simp only [gg]
        rw [if_pos this]
        rfl
      have q5 : isNon (paper (2 + lap, late) (1, 100)) = true := by
        unfold paper
        simp only [g1, Int.emod_one]
        rfl
      have q6 := line_paper_ok (c := c4) t4
      rw [show sksD [(2 + lap, late), (1, 100)] = .tup [.tup [.int (2 + lap), .int late], .tup [.int 1, .int 100]] from rfl] at q6
      have q7 : m__law_same 6 [.tup [.bl true, .bl true, .bl false], .tup [.bl true, .bl true, .bl false]] c4 = .ok (.bl true, c4) := by rw [same_3]; rfl
      simp [q7, line_paper_ok t3, q4, q6, q5]
  obtain ⟨r, e, h⟩ := key
  cases r with
  | nx s => cases (show D.non = .bl true from h)
  | rt d c => cases (show d = .bl true from h); exact ⟨c, e⟩
  | bk s => exact h.elim
  | ct s => exact h.elim
end Lw

open PySem PySem.W PyProof.Rows
set_option maxHeartbeats 0 in
theorem PySem.Challenge.cw_icerink_k42_whole_line_papers_holds : PySem.Challenge.rw_icerink_k42_whole_line_papers.Holds := by
  w_on; o_law; k_head; (case hw => w_witness2)
  k_fill
  refine PL.walkX (l := PySem.Challenge.rw_icerink_k42_whole_line_papers) (n := 63) (k := 10) rfl (by decide) rfl ⟨rfl, by decide, by decide⟩ (fun w h Y => PySem.W.kIn_of Y) ?F
  intro w mg fa h KX G hmg
  refine' PL.then_ (PL.mkDef (x := "is_whole") (st := Lw.s_is_whole) (ps := ["value", "low", "high"]) KX G ?g0 ?l0 ?c0 ?k0 ?b0) ?nx0; (case g0 => k_is); (case l0 => k_is); (case c0 => k_is); (case k0 => k_is); (case b0 => exact fun _ _ _ _ _ _ us hl => match us, hl with | [_, _, _], _ => rfl)
  intro d_is_whole
  refine' PL.then_ (PL.mkDef (x := "is_tuple_of") (st := Lw.s_is_tuple_of) (ps := ["value", "low", "high"]) KX G ?g1 ?l1 ?c1 ?k1 ?b1) ?nx1; (case g1 => k_is); (case l1 => k_is); (case c1 => k_is); (case k1 => k_is); (case b1 => exact fun _ _ _ _ _ _ us hl => match us, hl with | [_, _, _], _ => rfl)
  intro d_is_tuple_of
  refine' PL.then_ (PL.mkDef (x := "is_rising") (st := Lw.s_is_rising) (ps := ["value"]) KX G ?g2 ?l2 ?c2 ?k2 ?b2) ?nx2; (case g2 => k_is); (case l2 => k_is); (case c2 => k_is); (case k2 => k_is); (case b2 => exact fun _ _ _ _ _ _ us hl => match us, hl with | [_], _ => rfl)
  intro d_is_rising
  refine' PL.then_ (PL.mkDef (x := "fits_some") (st := Lw.s_fits_some) (ps := ["many", "value"]) KX G ?g3 ?l3 ?c3 ?k3 ?b3) ?nx3; (case g3 => k_is); (case l3 => k_is); (case c3 => k_is); (case k3 => k_is); (case b3 => exact fun _ _ _ _ _ _ us hl => match us, hl with | [_, _], _ => rfl)
  intro d_fits_some
  refine' PL.then_ (PL.mkDef (x := "fits_skater") (st := Lw.s_fits_skater) (ps := ["value"]) KX G ?g4 ?l4 ?c4 ?k4 ?b4) ?nx4; (case g4 => k_is); (case l4 => k_is); (case c4 => k_is); (case k4 => k_is); (case b4 => exact fun _ _ _ _ _ _ us hl => match us, hl with | [_], _ => rfl)
  intro d_fits_skater
  refine' PL.then_ (PL.mkDef (x := "fits_skaters") (st := Lw.s_fits_skaters) (ps := ["value"]) KX G ?g5 ?l5 ?c5 ?k5 ?b5) ?nx5; (case g5 => k_is); (case l5 => k_is); (case c5 => k_is); (case k5 => k_is); (case b5 => exact fun _ _ _ _ _ _ us hl => match us, hl with | [_], _ => rfl)
  intro d_fits_skaters
  refine' PL.then_ (PL.mkDef (x := "need_skaters") (st := Lw.s_need_skaters) (ps := ["skaters"]) KX G ?g6 ?l6 ?c6 ?k6 ?b6) ?nx6; (case g6 => k_is); (case l6 => k_is); (case c6 => k_is); (case k6 => k_is); (case b6 => exact fun _ _ _ _ _ _ us hl => match us, hl with | [_], _ => rfl)
  intro d_need_skaters
  refine' PL.then_ (PL.mkDef (x := "need_skater") (st := Lw.s_need_skater) (ps := ["skaters", "one"]) KX G ?g7 ?l7 ?c7 ?k7 ?b7) ?nx7; (case g7 => k_is); (case l7 => k_is); (case c7 => k_is); (case k7 => k_is); (case b7 => exact fun _ _ _ _ _ _ us hl => match us, hl with | [_, _], _ => rfl)
  intro d_need_skater
  refine' PL.then_ (PL.mkDef (x := "need_both") (st := Lw.s_need_both) (ps := ["skaters", "one", "other"]) KX G ?g8 ?l8 ?c8 ?k8 ?b8) ?nx8; (case g8 => k_is); (case l8 => k_is); (case c8 => k_is); (case k8 => k_is); (case b8 => exact fun _ _ _ _ _ _ us hl => match us, hl with | [_, _, _], _ => rfl)
  intro d_need_both
  refine' PL.then_ (PL.mkDef (x := "meeting_of") (st := Lw.s_meeting_of) (ps := ["rows"]) KX G ?g9 ?l9 ?c9 ?k9 ?b9) ?nx9; (case g9 => k_is); (case l9 => k_is); (case c9 => k_is); (case k9 => k_is); (case b9 => exact fun _ _ _ _ _ _ us hl => match us, hl with | [_], _ => rfl)
  intro d_meeting_of
  refine' PL.then_ (PL.mkDef (x := "together") (st := Lw.s_together) (ps := ["skaters", "some"]) KX G ?g10 ?l10 ?c10 ?k10 ?b10) ?nx10; (case g10 => k_is); (case l10 => k_is); (case c10 => k_is); (case k10 => k_is); (case b10 => exact fun _ _ _ _ _ _ us hl => match us, hl with | [_, _], _ => rfl)
  intro d_together
  refine' PL.then_ (PL.mkDef (x := "line_paper") (st := Lw.s_line_paper) (ps := ["skaters", "one", "other"]) KX G ?g11 ?l11 ?c11 ?k11 ?b11) ?nx11; (case g11 => k_is); (case l11 => k_is); (case c11 => k_is); (case k11 => k_is); (case b11 => exact fun _ _ _ _ _ _ us hl => match us, hl with | [_, _, _], _ => rfl)
  intro d_line_paper
  refine' PL.then_ (PL.mkDef (x := "is_line_paper") (st := Lw.s_is_line_paper) (ps := ["skaters", "one", "other", "value"]) KX G ?g12 ?l12 ?c12 ?k12 ?b12) ?nx12; (case g12 => k_is); (case l12 => k_is); (case c12 => k_is); (case k12 => k_is); (case b12 => exact fun _ _ _ _ _ _ us hl => match us, hl with | [_, _, _, _], _ => rfl)
  intro d_is_line_paper
  refine' PL.then_ (PL.mkDef (x := "_law_cup") (st := Lw.s__law_cup) (ps := ["script"]) KX G ?g13 ?l13 ?c13 ?k13 ?b13) ?nx13; (case g13 => k_is); (case l13 => k_is); (case c13 => k_is); (case k13 => k_is); (case b13 => exact fun _ _ _ _ _ _ us hl => match us, hl with | [_], _ => rfl)
  intro d__law_cup
  refine' PL.then_ (PL.mkDef (x := "_law_roll") (st := Lw.s__law_roll) (ps := ["cup", "many"]) KX G ?g14 ?l14 ?c14 ?k14 ?b14) ?nx14; (case g14 => k_is); (case l14 => k_is); (case c14 => k_is); (case k14 => k_is); (case b14 => exact fun _ _ _ _ _ _ us hl => match us, hl with | [_, _], _ => rfl)
  intro d__law_roll
  refine' PL.then_ (PL.mkDef (x := "_law_some") (st := Lw.s__law_some) (ps := ["cup", "things"]) KX G ?g15 ?l15 ?c15 ?k15 ?b15) ?nx15; (case g15 => k_is); (case l15 => k_is); (case c15 => k_is); (case k15 => k_is); (case b15 => exact fun _ _ _ _ _ _ us hl => match us, hl with | [_, _], _ => rfl)
  intro d__law_some
  refine' PL.then_ (PL.mkDef (x := "_law_same") (st := Lw.s__law_same) (ps := ["told", "due"]) KX G ?g16 ?l16 ?c16 ?k16 ?b16) ?nx16; (case g16 => k_is); (case l16 => k_is); (case c16 => k_is); (case k16 => k_is); (case b16 => exact fun _ _ _ _ _ _ us hl => match us, hl with | [_, _], _ => rfl)
  intro d__law_same
  refine' PL.then_ (PL.mkDef (x := "_law_skaters") (st := Lw.s__law_skaters) (ps := ["cup", "most", "lap"]) KX G ?g17 ?l17 ?c17 ?k17 ?b17) ?nx17; (case g17 => k_is); (case l17 => k_is); (case c17 => k_is); (case k17 => k_is); (case b17 => exact fun _ _ _ _ _ _ us hl => match us, hl with | [_, _, _], _ => rfl)
  intro d__law_skaters
  refine' PL.then_ (PL.mkDef (x := "_law_is_there") (st := Lw.s__law_is_there) (ps := ["skater", "time"]) KX G ?g18 ?l18 ?c18 ?k18 ?b18) ?nx18; (case g18 => k_is); (case l18 => k_is); (case c18 => k_is); (case k18 => k_is); (case b18 => exact fun _ _ _ _ _ _ us hl => match us, hl with | [_, _], _ => rfl)
  intro d__law_is_there
  refine' PL.then_ (PL.mkDef (x := "_law_is_paper") (st := Lw.s__law_is_paper) (ps := ["one", "other", "value"]) KX G ?g19 ?l19 ?c19 ?k19 ?b19) ?nx19; (case g19 => k_is); (case l19 => k_is); (case c19 => k_is); (case k19 => k_is); (case b19 => exact fun _ _ _ _ _ _ us hl => match us, hl with | [_, _, _], _ => rfl)
  intro d__law_is_paper
  refine' PL.then_ (PL.mkDef (x := "_law_right") (st := Lw.s__law_right) (ps := ["cup"]) KX G ?g20 ?l20 ?c20 ?k20 ?b20) ?nx20; (case g20 => k_is); (case l20 => k_is); (case c20 => k_is); (case k20 => k_is); (case b20 => exact fun _ _ _ _ _ _ us hl => match us, hl with | [_], _ => rfl)
  intro d__law_right
  refine' PL.then_ (Lw.Tx.mk d_is_whole d_is_tuple_of d_is_rising d_fits_some d_fits_skater d_fits_skaters d_need_skaters d_need_skater d_need_both d_meeting_of d_together d_line_paper d_is_line_paper d__law_cup d__law_roll d__law_some d__law_same d__law_skaters d__law_is_there d__law_is_paper d__law_right (PySem.W.mg_none_of KX G ?n0) (PySem.W.mg_none_of KX G ?n1) (PySem.W.mg_none_of KX G ?n2) (PySem.W.mg_none_of KX G ?n3) (PySem.W.mg_none_of KX G ?n4) (PySem.W.mg_none_of KX G ?n5) (PySem.W.mg_none_of KX G ?n6) (PySem.W.mg_none_of KX G ?n7) (PySem.W.mg_none_of KX G ?n8) (PySem.W.mg_none_of KX G ?n9) (PySem.W.mg_none_of KX G ?n10) (PySem.W.mg_none_of KX G ?n11) (PySem.W.mg_none_of KX G ?n12) (PL.mkInt KX G ?q0 ?r0) (PL.mkInt KX G ?q1 ?r1) (PL.mkInt KX G ?q2 ?r2) (PySem.W.mg_of KX G ?i0)) ?nxT; (case n0 => k_is); (case n1 => k_is); (case n2 => k_is); (case n3 => k_is); (case n4 => k_is); (case n5 => k_is); (case n6 => k_is); (case n7 => k_is); (case n8 => k_is); (case n9 => k_is); (case n10 => k_is); (case n11 => k_is); (case n12 => k_is); (case q0 => k_is); (case r0 => first | rfl | decide); (case q1 => k_is); (case r1 => first | rfl | decide); (case q2 => k_is); (case r2 => first | rfl | decide); (case i0 => k_is)
  intro T
  refine' PL.law_mk (st := Lw.s_law) KX G hmg ?gZ ?lZ ?cZ ?kZ ?bZ ?FZ; (case gZ => k_is); (case lZ => k_is); (case cZ => k_is); (case kZ => k_is); (case bZ => exact fun _ _ _ _ _ _ us hl => match us, hl with | [_], _ => rfl)
  case FZ => exact Lw.all_ok Lw.plain T
#print axioms PySem.Challenge.cw_icerink_k42_whole_line_papers_holds

