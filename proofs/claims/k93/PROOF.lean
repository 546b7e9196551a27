import PyProof.Rows.All
import HandS.ForMost
import HandS.ForExc
import HandS.DictComp
import HandS.Property
import HandS.ClsMeth
import HandS.IsInst
import HandS.ExcInit
import HandS.TupAny
import HandS.Deep
import HandS.Conv
import HandS.Wide
import HandS.Head2
import HandS.HeadEnd
import HandS.HeadHook2
import KE.DataEq
import KE.LtSeq
import KE.LtData
import HandS.ExcCtx
import HandS.HotCalls
import HandS.ExcOwn
import HandS.TupLen
import HandS.Text
import HandS.RaiseMore
import HandS.HeadNt
import HandS.ExcField
import HandS.ExcIs
import HandS.ExcInitHot
import PySem.Challenge.RW_pinnedbycounts_k93_quick_order
import HandS.Codes
import HandS.Head0
import HandS.Head1
import HandS.HeadHook1
set_option Elab.async false
set_option linter.all false
set_option maxRecDepth 100000
/-! Sim: Python values as plain trees, an environment of slots, and what a piece of code does to it as a plain Lean function; sound over HandS. -/
namespace Sim
open PySem PySem.Spec PyProof.Rows L2

/-! ### trees -/
inductive D where
  | non | bl (b : Bool) | int (i : Int) | str (s : Str)
  | tup (ds : List D) | lst (ds : List D)
  | dk (kvs : List (Key × D)) | dt (kvs : List (List Key × D))
  | ins (C : Str) (fs : List (Str × D))
def flatOf : D → Option V
  | .non => some .non | .bl b => some (.bl b) | .int i => some (.int i) | .str s => some (.str s)
  | .tup _ => none | .lst _ => none | .dk _ => none | .dt _ => none | .ins _ _ => none
abbrev Mg := Str → Option Value

section
variable (mg : Mg) (F : Hp)
mutual
/-- what stands at an address is the tree -/
def RepO : D → HO → Prop
  | .tup ds, o => ∃ vs, o = .tup vs ∧ RepL ds vs
  | .lst ds, o => ∃ vs, o = .lst vs ∧ RepL ds vs
  | .dk kvs, o => ∃ gs, o = .dK gs ∧ RepKK kvs gs
  | .dt kvs, o => ∃ gs, o = .dT gs ∧ RepKT kvs gs
  | .ins x fs, o => ∃ C dx gs, o = .ins C dx gs ∧ mg x = some (.ref C) ∧ RepF fs gs
  | .non, _ => False | .bl _, _ => False | .int _, _ => False | .str _, _ => False
def RepL : List D → List V → Prop
  | [], vs => vs = []
  | d :: ds, vs => ∃ v r, vs = v :: r ∧ (flatOf d = some v ∨ ∃ a o, v = .ref a ∧ F a = some o ∧ RepO d o) ∧ RepL ds r
def RepKK : List (Key × D) → List (Key × V) → Prop
  | [], gs => gs = []
  | p :: ps, gs => ∃ v r, gs = (p.1, v) :: r ∧ (flatOf p.2 = some v ∨ ∃ a o, v = .ref a ∧ F a = some o ∧ RepO p.2 o) ∧ RepKK ps r
def RepKT : List (List Key × D) → List (List Key × V) → Prop
  | [], gs => gs = []
  | p :: ps, gs => ∃ v r, gs = (p.1, v) :: r ∧ (flatOf p.2 = some v ∨ ∃ a o, v = .ref a ∧ F a = some o ∧ RepO p.2 o) ∧ RepKT ps r
def RepF : List (Str × D) → List (Str × V) → Prop
  | [], gs => gs = []
  | p :: ps, gs => ∃ v r, gs = (p.1, v) :: r ∧ (flatOf p.2 = some v ∨ ∃ a o, v = .ref a ∧ F a = some o ∧ RepO p.2 o) ∧ RepF ps r
end
/-- a value is the tree, all of it within F -/
def RepD (d : D) (v : V) : Prop := flatOf d = some v ∨ ∃ a o, v = .ref a ∧ F a = some o ∧ RepO mg F d o
end

def LeF (F F' : Hp) : Prop := ∀ a o, F a = some o → F' a = some o
theorem LeF.refl (F : Hp) : LeF F F := fun _ _ h => h
theorem LeF.trans {F F1 F2 : Hp} (a : LeF F F1) (b : LeF F1 F2) : LeF F F2 := fun x o h => b x o (a x o h)
theorem LeF.upd {F : Hp} {p : Addr} {o : HO} (h : F p = none) : LeF F (upd F p o) := fun a u e => by
  rw [upd_ne (ne_of_none e h)]; exact e

section
variable {mg : Mg} {F F' : Hp}
mutual
theorem RepO.mono (l : LeF F F') : ∀ (d : D) (o : HO), RepO mg F d o → RepO mg F' d o
  | .tup ds, o, h => by obtain ⟨vs, e, r⟩ := h; exact ⟨vs, e, RepL.mono l ds vs r⟩
  | .lst ds, o, h => by obtain ⟨vs, e, r⟩ := h; exact ⟨vs, e, RepL.mono l ds vs r⟩
  | .dk kvs, o, h => by obtain ⟨vs, e, r⟩ := h; exact ⟨vs, e, RepKK.mono l kvs vs r⟩
  | .dt kvs, o, h => by obtain ⟨vs, e, r⟩ := h; exact ⟨vs, e, RepKT.mono l kvs vs r⟩
  | .ins x fs, o, h => by obtain ⟨C, dx, gs, e, m, r⟩ := h; exact ⟨C, dx, gs, e, m, RepF.mono l fs gs r⟩
  | .non, _, h => h | .bl _, _, h => h | .int _, _, h => h | .str _, _, h => h
theorem RepL.mono (l : LeF F F') : ∀ (ds : List D) (vs : List V), RepL mg F ds vs → RepL mg F' ds vs
  | [], vs, h => h
  | d :: ds, vs, h => by
    obtain ⟨v, r, e, q, t⟩ := h
    refine ⟨v, r, e, ?_, RepL.mono l ds r t⟩
    rcases q with q | ⟨a, o, ea, f, q⟩
    · exact .inl q
    · exact .inr ⟨a, o, ea, l a o f, RepO.mono l d o q⟩
theorem RepKK.mono (l : LeF F F') : ∀ (ds : List (Key × D)) (vs : List (Key × V)), RepKK mg F ds vs → RepKK mg F' ds vs
  | [], vs, h => h
  | p :: ds, vs, h => by
    obtain ⟨v, r, e, q, t⟩ := h
    refine ⟨v, r, e, ?_, RepKK.mono l ds r t⟩
    rcases q with q | ⟨a, o, ea, f, q⟩
    · exact .inl q
    · exact .inr ⟨a, o, ea, l a o f, RepO.mono l p.2 o q⟩
theorem RepKT.mono (l : LeF F F') : ∀ (ds : List (List Key × D)) (vs : List (List Key × V)), RepKT mg F ds vs → RepKT mg F' ds vs
  | [], vs, h => h
  | p :: ds, vs, h => by
    obtain ⟨v, r, e, q, t⟩ := h
    refine ⟨v, r, e, ?_, RepKT.mono l ds r t⟩
    rcases q with q | ⟨a, o, ea, f, q⟩
    · exact .inl q
    · exact .inr ⟨a, o, ea, l a o f, RepO.mono l p.2 o q⟩
theorem RepF.mono (l : LeF F F') : ∀ (ds : List (Str × D)) (vs : List (Str × V)), RepF mg F ds vs → RepF mg F' ds vs
  | [], vs, h => h
  | p :: ds, vs, h => by
    obtain ⟨v, r, e, q, t⟩ := h
    refine ⟨v, r, e, ?_, RepF.mono l ds r t⟩
    rcases q with q | ⟨a, o, ea, f, q⟩
    · exact .inl q
    · exact .inr ⟨a, o, ea, l a o f, RepO.mono l p.2 o q⟩
end
theorem RepD.mono (l : LeF F F') {d : D} {v : V} (h : RepD mg F d v) : RepD mg F' d v := by
  rcases h with q | ⟨a, o, ea, f, q⟩
  · exact .inl q
  · exact .inr ⟨a, o, ea, l a o f, RepO.mono l d o q⟩
theorem RepL.cons {d : D} {ds : List D} {v : V} {vs : List V} (h : RepD mg F d v) (t : RepL mg F ds vs) : RepL mg F (d :: ds) (v :: vs) := ⟨v, vs, rfl, h, t⟩
theorem RepL.nil : RepL mg F [] [] := rfl
theorem RepL.length : ∀ {ds : List D} {vs : List V}, RepL mg F ds vs → ds.length = vs.length
  | [], vs, h => by have e : vs = [] := h; subst e; rfl
  | d :: ds, vs, h => by obtain ⟨v, r, e, _, t⟩ := h; subst e; simp [RepL.length t]
theorem RepL.append : ∀ {ds es : List D} {vs ws : List V}, RepL mg F ds vs → RepL mg F es ws → RepL mg F (ds ++ es) (vs ++ ws)
  | [], es, vs, ws, h, k => by have e : vs = [] := h; subst e; exact k
  | d :: ds, es, vs, ws, h, k => by obtain ⟨v, r, e, q, t⟩ := h; subst e; exact ⟨v, r ++ ws, rfl, q, RepL.append t k⟩
theorem RepL.get : ∀ {ds : List D} {vs : List V} {i : Nat} {d : D}, RepL mg F ds vs → ds[i]? = some d → ∃ v, vs[i]? = some v ∧ RepD mg F d v
  | [], vs, i, d, h, e => by simp at e
  | c :: ds, vs, 0, d, h, e => by
    obtain ⟨v, r, e1, q, t⟩ := h
    have ec : c = d := by simpa using e
    subst e1 ec; exact ⟨v, rfl, q⟩
  | c :: ds, vs, i + 1, d, h, e => by
    obtain ⟨v, r, e1, q, t⟩ := h
    subst e1
    obtain ⟨w, h1, h2⟩ := RepL.get (i := i) (d := d) t (by simpa using e)
    exact ⟨w, by simpa using h1, h2⟩
theorem RepL.getV : ∀ {ds : List D} {vs : List V} {i : Nat} {v : V}, RepL mg F ds vs → vs[i]? = some v → ∃ d, ds[i]? = some d ∧ RepD mg F d v
  | [], vs, i, v, h, e => by have q : vs = [] := h; subst q; simp at e
  | c :: ds, vs, 0, d, h, e => by
    obtain ⟨v, r, e1, q, t⟩ := h
    subst e1
    have ec : v = d := by simpa using e
    subst ec; exact ⟨c, rfl, q⟩
  | c :: ds, vs, i + 1, d, h, e => by
    obtain ⟨v, r, e1, q, t⟩ := h
    subst e1
    obtain ⟨w, h1, h2⟩ := RepL.getV (i := i) (v := d) t (by simpa using e)
    exact ⟨w, by simpa using h1, h2⟩
theorem RepL.take : ∀ {ds : List D} {vs : List V} (n : Nat), RepL mg F ds vs → RepL mg F (ds.take n) (vs.take n)
  | [], vs, n, h => by have q : vs = [] := h; subst q; simp; exact RepL.nil
  | c :: ds, vs, 0, h => by simp; exact RepL.nil
  | c :: ds, vs, n + 1, h => by
    obtain ⟨v, r, e1, q, t⟩ := h
    subst e1
    exact ⟨v, r.take n, rfl, q, RepL.take n t⟩
theorem RepL.drop : ∀ {ds : List D} {vs : List V} (n : Nat), RepL mg F ds vs → RepL mg F (ds.drop n) (vs.drop n)
  | [], vs, n, h => by have q : vs = [] := h; subst q; simp; exact RepL.nil
  | c :: ds, vs, 0, h => h
  | c :: ds, vs, n + 1, h => by
    obtain ⟨v, r, e1, q, t⟩ := h
    subst e1
    exact RepL.drop n t
theorem RepL.set : ∀ {ds : List D} {vs : List V} (n : Nat) {d : D} {v : V}, RepD mg F d v → RepL mg F ds vs → RepL mg F (ds.set n d) (vs.set n v)
  | [], vs, n, d, v, _, h => by have q : vs = [] := h; subst q; simp; exact RepL.nil
  | c :: ds, vs, 0, d, v, hd, h => by
    obtain ⟨w, r, e1, q, t⟩ := h
    subst e1
    exact ⟨v, r, rfl, hd, t⟩
  | c :: ds, vs, n + 1, d, v, hd, h => by
    obtain ⟨w, r, e1, q, t⟩ := h
    subst e1
    exact ⟨w, r.set n v, rfl, q, RepL.set n hd t⟩
theorem RepL.snoc {ds : List D} {vs : List V} {d : D} {v : V} (h : RepL mg F ds vs) (q : RepD mg F d v) : RepL mg F (ds ++ [d]) (vs ++ [v]) := h.append (RepL.cons q RepL.nil)
end

def isTup : D → Bool
  | .tup _ => true | _ => false
/-- .. an object that may change -/
def RepM (mg : Mg) (F : Hp) (d : D) (o : HO) : Prop := RepO mg F d o ∧ isTup d = false
theorem RepM.nt {mg : Mg} {F : Hp} {d : D} {o : HO} (h : RepM mg F d o) : ∀ vs, o ≠ .tup vs := fun vs e => by
  subst e
  obtain ⟨h1, h2⟩ := h
  cases d with
  | tup _ => cases h2
  | lst _ => obtain ⟨_, e, _⟩ := h1; cases e
  | dk _ => obtain ⟨_, e, _⟩ := h1; cases e
  | dt _ => obtain ⟨_, e, _⟩ := h1; cases e
  | ins _ _ => obtain ⟨_, _, _, e, _⟩ := h1; cases e
  | _ => exact h1
theorem RepM.mono {mg : Mg} {F F' : Hp} (l : LeF F F') {d : D} {o : HO} (h : RepM mg F d o) : RepM mg F' d o := ⟨RepO.mono l d o h.1, h.2⟩
/-! ### slots, states -/
inductive Sl where
  | no | d (x : D) | own (x : D) | ref (x : D)
abbrev En := List Sl
def Sl.mut : Sl → Option D
  | .own x => some x | .ref x => some x | .no => none | .d _ => none
def Sl.cont : Sl → Option D
  | .own x => some x | .ref x => some x | .no => none | .d x => some x
def isDct : HO → Prop
  | .dK _ => True | .dT _ => True | _ => False
/-- what may be locked, known to the object -/
def isFz : HO → Prop
  | .dK _ => True | .dT _ => True | .lst _ => True | _ => False
theorem isDct.fz {o : HO} (h : isDct o) : isFz o := by cases o <;> first | exact trivial | exact h
def Live (F H : Hp) : Prop := ∀ a o, F a = some o → H a = some o ∨ (isFz o ∧ ∃ ob, H a = some (.frz ob o))
structure FrS (mg : Mg) (F : Hp) (env : En) (σ : L2.St) (H : Hp) : Prop where
  live : Live F H
  len : env.length = σ.length
  val : ∀ (i : Nat) (x : D), env[i]? = some (.d x) → ∃ v, σ[i]? = some (some v) ∧ RepD mg F x v
  mt : ∀ (i : Nat) (s : Sl) (x : D), env[i]? = some s → s.mut = some x → ∃ a o, σ[i]? = some (some (.ref a)) ∧ F a = none ∧ H a = some o ∧ RepM mg F x o
  dis : ∀ (i j : Nat) (s t : Sl) (a : Addr), env[i]? = some s → env[j]? = some t → s.mut.isSome = true → t.mut.isSome = true → σ[i]? = some (some (.ref a)) → σ[j]? = some (some (.ref a)) → i = j
def Owns (env : En) (σ : L2.St) (a : Addr) : Prop := ∃ (i : Nat) (s : Sl), env[i]? = some s ∧ s.mut.isSome = true ∧ σ[i]? = some (some (.ref a))
structure ExS (F : Hp) (env : En) (σ : L2.St) (H : Hp) (F' : Hp) (env' : En) (σ' : L2.St) (H' : Hp) : Prop where
  le : LeF F F'
  keep : ∀ a o, H a = some o → ¬ Owns env σ a → H' a = some o
  live : ∀ a o, H a = some o → ∃ o', H' a = some o'
  nofr : ∀ a o, H a = some o → (∀ vs, o ≠ .tup vs) → F a = none → ¬ Owns env σ a → F' a = none
  own : ∀ a, Owns env' σ' a → Owns env σ a ∨ H a = none
  refs : ∀ (i : Nat) (x : D), env[i]? = some (.ref x) → ∃ x', env'[i]? = some (.ref x') ∧ σ'[i]? = σ[i]?

section
variable {mg : Mg} {F F' F1 F2 : Hp} {env env' env1 env2 : En} {σ σ' σ1 σ2 : L2.St} {H H' H1 H2 : Hp}
theorem ExS.refl : ExS F env σ H F env σ H := ⟨LeF.refl _, fun _ _ h _ => h, fun _ _ h => ⟨_, h⟩, fun _ _ _ _ h _ => h, fun _ h => .inl h, fun _ x h => ⟨x, h, rfl⟩⟩
theorem ExS.trans (a : ExS F env σ H F1 env1 σ1 H1) (b : ExS F1 env1 σ1 H1 F2 env2 σ2 H2) : ExS F env σ H F2 env2 σ2 H2 where
  le := a.le.trans b.le
  keep := fun x o h n => b.keep x o (a.keep x o h n) fun q => (a.own x q).elim n fun z => by rw [z] at h; cases h
  live := fun x o h => by obtain ⟨o', h'⟩ := a.live x o h; exact b.live x o' h'
  nofr := fun x o h t f n => b.nofr x o (a.keep x o h n) t (a.nofr x o h t f n) fun q => (a.own x q).elim n fun z => by rw [z] at h; cases h
  own := fun x q => by
    rcases b.own x q with q | q
    · exact a.own x q
    · refine .inr ?_
      cases e : H x with
      | none => rfl
      | some o => obtain ⟨o', h'⟩ := a.live x o e; rw [q] at h'; cases h'
  refs := fun i x h => by
    obtain ⟨x1, h1, e1⟩ := a.refs i x h
    obtain ⟨x2, h2, e2⟩ := b.refs i x1 h1
    exact ⟨x2, h2, e2.trans e1⟩
theorem Live.no {a : Addr} (l : Live F H) (h : H a = none) : F a = none := by
  cases e : F a with
  | none => rfl
  | some o =>
    rcases l a o e with q | ⟨_, ob, q⟩ <;> (rw [h] at q; cases q)
/-- an operation on values: nothing is new, or one object is laid (kept apart, or at once within F) -/
def Grow (F H F' H' : Hp) : Prop := (F' = F ∧ H' = H) ∨ (∃ p o, H p = none ∧ H' = upd H p o ∧ (F' = F ∨ F' = upd F p o)) ∨ ∃ p vs, H p = some (.tup vs) ∧ F p = none ∧ H' = H ∧ F' = upd F p (.tup vs)
theorem Live.lay {p : Addr} {o : HO} (l : Live F H) (h : H p = none) : Live F (upd H p o) := fun a u e => by
  have ne : a ≠ p := ne_of_none e (l.no h)
  rw [upd_ne ne]; exact l a u e
theorem Live.layF {p : Addr} {o : HO} (l : Live F H) (h : H p = none) : Live (L2.upd F p o) (L2.upd H p o) := fun a u e => by
  by_cases ha : a = p
  · subst ha; rw [upd_same] at e ⊢; exact .inl e
  · rw [upd_ne ha] at e ⊢; exact l a u e
theorem FrS.grow (f : FrS mg F env σ H) (g : Grow F H F' H') : FrS mg F' env σ H' ∧ ExS F env σ H F' env σ H' := by
  rcases g with ⟨rfl, rfl⟩ | ⟨p, o, hp, rfl, g⟩ | ⟨p, vs, hp, fp, rfl, rfl⟩
  · exact ⟨f, ExS.refl⟩
  · have fp : F p = none := f.live.no hp
    have le : LeF F F' := by
      rcases g with rfl | rfl
      · exact LeF.refl _
      · exact LeF.upd fp
    have nf : ∀ a, a ≠ p → F' a = F a := fun a ha => by
      rcases g with rfl | rfl
      · rfl
      · exact upd_ne ha
    refine ⟨⟨?_, f.len, fun i x e => ?_, fun i s x e m => ?_, f.dis⟩, ⟨le, fun a u e _ => ?_, fun a u e => ⟨u, ?_⟩, fun a u e _ n _ => ?_, fun _ h => .inl h, fun _ x h => ⟨x, h, rfl⟩⟩⟩
    · rcases g with rfl | rfl
      · exact f.live.lay hp
      · exact f.live.layF hp
    · obtain ⟨v, e1, r⟩ := f.val i x e
      exact ⟨v, e1, r.mono le⟩
    · obtain ⟨a, u, e1, n, e2, r⟩ := f.mt i s x e m
      have ha : a ≠ p := ne_of_none e2 hp
      exact ⟨a, u, e1, (nf a ha).trans n, by rw [upd_ne ha]; exact e2, r.mono le⟩
    · rw [upd_ne (ne_of_none e hp)]; exact e
    · rw [upd_ne (ne_of_none e hp)]; exact e
    · exact (nf a (ne_of_none e hp)).trans n
  · have le : LeF F (upd F p (.tup vs)) := LeF.upd fp
    refine ⟨⟨fun a u e => ?_, f.len, fun i x e => ?_, fun i s x e m => ?_, f.dis⟩, ⟨le, fun a u e _ => e, fun a u e => ⟨u, e⟩, fun a u e t n _ => ?_, fun _ h => .inl h, fun _ x h => ⟨x, h, rfl⟩⟩⟩
    · by_cases ha : a = p
      · subst ha; rw [upd_same] at e; cases e; exact .inl hp
      · rw [upd_ne ha] at e; exact f.live a u e
    · obtain ⟨v, e1, r⟩ := f.val i x e
      exact ⟨v, e1, r.mono le⟩
    · obtain ⟨a, u, e1, n, e2, r⟩ := f.mt i s x e m
      have ha : a ≠ p := fun z => by
        subst z
        rw [hp] at e2
        cases e2
        exact r.nt vs rfl
      exact ⟨a, u, e1, by rw [upd_ne ha]; exact n, e2, r.mono le⟩
    · have ha : a ≠ p := fun z => by
        subst z
        rw [hp] at e
        cases e
        exact t vs rfl
      rw [upd_ne ha]; exact n
end
end Sim

/-! Sim2: outcomes, judgements, freezing, plain expressions. -/
namespace Sim
open PySem PySem.Spec PyProof.Rows L2

inductive Out (α : Type) where
  | ok (a : α) (e : En)
  | err (x : Str) (fs : List (Str × D)) (e : En)
  | stuck
def Out.bind {α β : Type} : Out α → (α → En → Out β) → Out β
  | .ok a e, f => f a e
  | .err x fs e, _ => .err x fs e
  | .stuck, _ => .stuck
/-- what an expression gives: a frozen tree, a new object, the object of a slot -/
inductive R where
  | d (x : D) | new (x : D) | at (i : Nat)
def ErrAt (mg : Mg) (F H : Hp) (x : Str) (fs : List (Str × D)) (c : Value) (d : Option Addr) : Prop :=
  ∃ C, c = .ref C ∧ mg x = some (.ref C) ∧ ((fs = [] ∧ d = none) ∨ ∃ dd gs, d = some dd ∧ H dd = some (.xd gs) ∧ F dd = none ∧ RepF mg F fs gs)
abbrev Rel (α β : Type) := Hp → Hp → En → L2.St → Hp → α → β → Prop
def GoodO {α β : Type} (mg : Mg) (W : WX) (rel : Rel α β) (Q : β → Hp → Prop) (F : Hp) (env : En) (σ : L2.St) (H : Hp) : Out α → Prop
  | .ok a env' => ∀ F' H' b, FrS mg F' env' σ H' → ExS F env σ H F' env' σ H' → rel H F' env' σ H' a b → Q b H'
  | .err x fs env' => ∀ F' H' c d, FrS mg F' env' σ H' → ExS F env σ H F' env' σ H' → ErrAt mg F' H' x fs c d → W c d σ H'
  | .stuck => False
/-- freshness looks back -/
def Back {α β : Type} (rel : Rel α β) : Prop := ∀ H H1 F' env' σ H' a b, (∀ x o, H x = some o → ∃ o', H1 x = some o') → rel H1 F' env' σ H' a b → rel H F' env' σ H' a b

section
variable {mg : Mg} {W : WX} {F F' F1 : Hp} {env env' env1 : En} {σ σ' : L2.St} {H H' H1 : Hp} {α β γ δ : Type}
theorem GoodO.shift {rel : Rel α β} {Q : β → Hp → Prop} {o : Out α} (hb : Back rel) (x : ExS F env σ H F1 env1 σ H1) (h : GoodO mg W rel Q F env σ H o) : GoodO mg W rel Q F1 env1 σ H1 o := by
  cases o with
  | ok a e => exact fun F' H' b f y r => h F' H' b f (x.trans y) (hb _ _ _ _ _ _ _ _ x.live r)
  | err n fs e => exact fun F' H' c d f y r => h F' H' c d f (x.trans y) r
  | stuck => exact h
/-- k is handed what is wanted from the start's view; `GoodO.shift` moves it -/
theorem GoodO.bind {rel1 : Rel α β} {rel2 : Rel γ δ} {Q : δ → Hp → Prop} {Q1 : β → Hp → Prop} {oa : Out α} {f : α → En → Out γ} (h : GoodO mg W rel2 Q F env σ H (oa.bind f))
    (k : ∀ a env1 F1 H1 b, oa = .ok a env1 → FrS mg F1 env1 σ H1 → ExS F env σ H F1 env1 σ H1 → rel1 H F1 env1 σ H1 a b → GoodO mg W rel2 Q F env σ H (f a env1) → Q1 b H1) :
    GoodO mg W rel1 Q1 F env σ H oa := by
  cases oa with
  | ok a e => exact fun F1 H1 b fr x r => k a e F1 H1 b rfl fr x r h
  | err n fs e => exact h
  | stuck => exact h
/-- the end: given outright -/
theorem GoodO.fin {rel : Rel α β} {Q : β → Hp → Prop} {a : α} {b : β} (h : GoodO mg W rel Q F env σ H (.ok a env')) (f : FrS mg F' env' σ H') (x : ExS F env σ H F' env' σ H') (r : rel H F' env' σ H' a b) : Q b H' := h F' H' b f x r

/-! ### freezing -/
theorem FrS.freezeNew {a : Addr} {o : HO} {x : D} (f : FrS mg F env σ H) (hF : F a = none) (hH : H a = some o) (r : RepM mg F x o) (no : ¬ Owns env σ a) :
    FrS mg (upd F a o) env σ H := by
  have le := LeF.upd (o := o) hF
  refine ⟨fun b u e => ?_, f.len, fun i y e => ?_, fun i s y e m => ?_, f.dis⟩
  · by_cases hb : b = a
    · subst hb; rw [upd_same] at e; cases e; exact .inl hH
    · rw [upd_ne hb] at e; exact f.live b u e
  · obtain ⟨v, e1, q⟩ := f.val i y e; exact ⟨v, e1, q.mono le⟩
  · obtain ⟨b, u, e1, n, e2, q⟩ := f.mt i s y e m
    have hb : b ≠ a := fun z => no ⟨i, s, e, by rw [m]; rfl, by rw [← z]; exact e1⟩
    exact ⟨b, u, e1, by rw [upd_ne hb]; exact n, e2, q.mono le⟩
theorem ExS.freezeNew {a : Addr} {o : HO} (x : ExS F env σ H F' env' σ' H') (hF : F' a = none) (hn : H a = none) : ExS F env σ H (upd F' a o) env' σ' H' :=
  ⟨x.le.trans (LeF.upd hF), x.keep, x.live, fun b u e t n no => by
    rw [upd_ne (ne_of_none e hn)]; exact x.nofr b u e t n no, x.own, x.refs⟩
theorem FrS.own_at {i : Nat} {s : Sl} {y : D} (f : FrS mg F env σ H) (e : env[i]? = some s) (m : s.mut = some y) : ∃ a o, σ[i]? = some (some (.ref a)) ∧ F a = none ∧ H a = some o ∧ RepM mg F y o ∧ Owns env σ a := by
  obtain ⟨a, o, e1, n, e2, q⟩ := f.mt i s y e m
  exact ⟨a, o, e1, n, e2, q, i, s, e, by rw [m]; rfl, e1⟩
theorem get_set_self {α : Type} {l : List α} {i : Nat} {x y : α} (e : l[i]? = some y) : (l.set i x)[i]? = some x := by
  have h := (List.getElem?_eq_some_iff.mp e).1
  simp [h]
theorem get_set_ne {α : Type} {l : List α} {i j : Nat} {x : α} (h : i ≠ j) : (l.set i x)[j]? = l[j]? := List.getElem?_set_ne h
theorem FrS.freezeAt {i : Nat} {x : D} {a : Addr} {o : HO} (f : FrS mg F env σ H) (e : env[i]? = some (.own x)) (e1 : σ[i]? = some (some (.ref a))) (hF : F a = none) (hH : H a = some o) (r : RepM mg F x o) :
    FrS mg (upd F a o) (env.set i (.d x)) σ H := by
  have le := LeF.upd (o := o) hF
  have other : ∀ {j : Nat} {s : Sl} {y : D} {b : Addr}, j ≠ i → env[j]? = some s → s.mut = some y → σ[j]? = some (some (.ref b)) → b ≠ a := fun {j s y b} hj ej m q z => by
    subst z
    exact hj (f.dis j i s _ b ej e (by rw [m]; rfl) rfl q e1)
  refine ⟨fun b u q => ?_, by simpa using f.len, fun j y ej => ?_, fun j s y ej m => ?_, fun j k s t b ej ek hs ht q1 q2 => ?_⟩
  · by_cases hb : b = a
    · subst hb; rw [upd_same] at q; cases q; exact .inl hH
    · rw [upd_ne hb] at q; exact f.live b u q
  · by_cases hj : i = j
    · subst hj
      rw [get_set_self e] at ej
      cases ej
      exact ⟨_, e1, .inr ⟨a, o, rfl, upd_same, (r.mono le).1⟩⟩
    · rw [get_set_ne hj] at ej
      obtain ⟨v, q1, q2⟩ := f.val j y ej
      exact ⟨v, q1, q2.mono le⟩
  · by_cases hj : i = j
    · subst hj
      rw [get_set_self e] at ej
      cases ej; cases m
    · rw [get_set_ne hj] at ej
      obtain ⟨b, u, q1, n, q2, q3⟩ := f.mt j s y ej m
      exact ⟨b, u, q1, by rw [upd_ne (other (Ne.symm hj) ej m q1)]; exact n, q2, q3.mono le⟩
  · by_cases hj : i = j
    · subst hj
      rw [get_set_self e] at ej
      cases ej; cases hs
    · by_cases hk : i = k
      · subst hk
        rw [get_set_self e] at ek
        cases ek; cases ht
      · rw [get_set_ne hj] at ej
        rw [get_set_ne hk] at ek
        exact f.dis j k s t b ej ek hs ht q1 q2
theorem owns_set {i : Nat} {x : D} {y : Sl} (e : env[i]? = some y) {a : Addr} (h : Owns (env.set i (.d x)) σ a) : Owns env σ a := by
  obtain ⟨j, s, ej, hs, q⟩ := h
  by_cases hj : i = j
  · subst hj
    rw [get_set_self e] at ej
    cases ej; cases hs
  · rw [get_set_ne hj] at ej
    exact ⟨j, s, ej, hs, q⟩
theorem ExS.freezeAt {i : Nat} {x : D} {a : Addr} {o : HO} (z : ExS F env σ H F' env' σ' H') (e : env'[i]? = some (.own x)) (e1 : σ'[i]? = some (some (.ref a))) (hF : F' a = none) : ExS F env σ H (upd F' a o) (env'.set i (.d x)) σ' H' := by
  have ow : Owns env' σ' a := ⟨i, _, e, rfl, e1⟩
  refine ⟨z.le.trans (LeF.upd hF), z.keep, z.live, fun b u q t n no => ?_, fun b q => z.own b (owns_set e q), fun j y ej => ?_⟩
  · have hb : b ≠ a := fun w => by
      subst w
      rcases z.own b ow with w | w
      · exact no w
      · rw [w] at q; cases q
    rw [upd_ne hb]; exact z.nofr b u q t n no
  · obtain ⟨y', q1, q2⟩ := z.refs j y ej
    have hj : i ≠ j := fun w => by subst w; rw [e] at q1; cases q1
    exact ⟨y', by rw [get_set_ne hj]; exact q1, q2⟩
end

/-! ### results -/
section
variable (mg : Mg)
def relR : Rel R V := fun H F' env' σ H' r v => match r with
  | .d x => RepD mg F' x v
  | .new x => ∃ a o, v = .ref a ∧ H a = none ∧ F' a = none ∧ H' a = some o ∧ RepM mg F' x o ∧ ¬ Owns env' σ a
  | .at i => σ[i]? = some (some v) ∧ ∃ s, env'[i]? = some s ∧ s.mut.isSome = true
def relV : Rel D V := fun _ F' _ _ _ x v => RepD mg F' x v
end
def relB : Rel Bool Bool := fun _ _ _ _ _ a b => a = b
theorem back_R {mg : Mg} : Back (relR mg) := fun H H1 F' env' σ H' r v l h => by
  cases r with
  | d x => exact h
  | new x =>
    obtain ⟨a, o, e, n, q⟩ := h
    refine ⟨a, o, e, ?_, q⟩
    cases z : H a with
    | none => rfl
    | some u => obtain ⟨u', z'⟩ := l a u z; rw [n] at z'; cases z'
  | «at» i => exact h
theorem back_V {mg : Mg} : Back (relV mg) := fun _ _ _ _ _ _ _ _ _ h => h
theorem back_B : Back relB := fun _ _ _ _ _ _ _ _ _ h => h

def tE (mg : Mg) (W : WX) (c : En → Out R) : TE := fun σ H Q => ∃ F env, FrS mg F env σ H ∧ GoodO mg W (relR mg) Q F env σ H (c env)
def tV (mg : Mg) (W : WX) (c : En → Out D) : TE := fun σ H Q => ∃ F env, FrS mg F env σ H ∧ GoodO mg W (relV mg) Q F env σ H (c env)
def tT (mg : Mg) (W : WX) (c : En → Out Bool) : TT := fun σ H Q => ∃ F env, FrS mg F env σ H ∧ GoodO mg W relB Q F env σ H (c env)
/-- an expression, its value frozen; a test -/
structure SE (X : Cx) (W : WX) (e : Expr) (c : En → Out R) : Prop where
  pe : PE X e (tE X.mg W c)
structure SV (X : Cx) (W : WX) (e : Expr) (c : En → Out D) : Prop where
  pe : PE X e (tV X.mg W c)
structure ST (X : Cx) (W : WX) (e : Expr) (c : En → Out Bool) : Prop where
  pt : PT X e (tT X.mg W c)
theorem PE.imp {X : Cx} {e : Expr} {t u : TE} (h : PE X e t) (k : ∀ σ H Q, u σ H Q → t σ H Q) : PE X e u := ⟨fun pins s σ H Q I q => h.run pins s σ H Q I (k σ H Q q)⟩
theorem PT.imp {X : Cx} {e : Expr} {t u : TT} (h : PT X e t) (k : ∀ σ H Q, u σ H Q → t σ H Q) : PT X e u := ⟨fun pins s σ H Q I q => h.run pins s σ H Q I (k σ H Q q)⟩
theorem PS.imp {X : Cx} {e : Stmt} {t u : TS} (h : PS X e t) (k : ∀ D σ H, u D σ H → t D σ H) : PS X e u := ⟨fun pins s σ H Q I q => h.run pins s σ H Q I (k Q σ H q)⟩
theorem PSs.imp {X : Cx} {e : List Stmt} {t u : TS} (h : PSs X e t) (k : ∀ D σ H, u D σ H → t D σ H) : PSs X e u := ⟨fun pins s σ H Q I q => h.run pins s σ H Q I (k Q σ H q)⟩

/-- frozen -/
def settle (r : R) (env : En) : Out D := match r with
  | .d x => .ok x env
  | .new x => .ok x env
  | .at i => match env[i]? with
    | some (.own x) => .ok x (env.set i (.d x))
    | some (.d x) => .ok x env
    | _ => .stuck
def cV (c : En → Out R) : En → Out D := fun env => (c env).bind settle
theorem sv_of {X : Cx} {W : WX} {e : Expr} {c : En → Out R} (h : SE X W e c) : SV X W e (cV c) := by
  refine ⟨PE.imp h.pe fun σ H Q q => ?_⟩
  obtain ⟨F, env, f, g⟩ := q
  refine ⟨F, env, f, GoodO.bind g fun r env1 F1 H1 v _ f1 x1 rl g1 => ?_⟩
  cases r with
  | d x => exact g1 F1 H1 v f1 x1 rl
  | new x =>
    obtain ⟨a, o, rfl, n, hF, hH, rp, no⟩ := rl
    exact g1 (upd F1 a o) H1 (.ref a) (f1.freezeNew hF hH rp no) (x1.freezeNew hF n) (.inr ⟨a, o, rfl, upd_same, (rp.mono (LeF.upd hF)).1⟩)
  | «at» i =>
    obtain ⟨e1, s, e2, m⟩ := rl
    unfold settle at g1
    dsimp only at g1
    rw [e2] at g1
    cases s with
    | no => cases m
    | d x => cases m
    | ref x => exact False.elim g1
    | own x =>
      obtain ⟨a, o, q1, n, q2, q3, ow⟩ := f1.own_at e2 rfl
      rw [e1] at q1
      cases q1
      exact g1 (upd F1 a o) H1 (.ref a) (f1.freezeAt e2 e1 n q2 q3) (x1.freezeAt e2 e1 n) (.inr ⟨a, o, rfl, upd_same, (q3.mono (LeF.upd n)).1⟩)
/-- a frozen value as a result -/
def cR (c : En → Out D) : En → Out R := fun env => (c env).bind fun x e => .ok (.d x) e
theorem se_of {X : Cx} {W : WX} {e : Expr} {c : En → Out D} (h : SV X W e c) : SE X W e (cR c) := by
  refine ⟨PE.imp h.pe fun σ H Q q => ?_⟩
  obtain ⟨F, env, f, g⟩ := q
  exact ⟨F, env, f, GoodO.bind g fun r env1 F1 H1 v _ f1 x1 rl g1 => g1 F1 H1 v f1 x1 rl⟩

/-! ### a look at a value: frozen, or a slot's own object as it stands -/
inductive P where
  | d (x : D) | at (i : Nat)
def relP (mg : Mg) : Rel P V := fun _ F' env' σ _ p v => match p with
  | .d x => RepD mg F' x v
  | .at i => σ[i]? = some (some v) ∧ ∃ s x, env'[i]? = some s ∧ s.cont = some x
theorem back_P {mg : Mg} : Back (relP mg) := fun _ _ _ _ _ _ _ _ _ h => h
def peek (r : R) (env : En) : Out P := match r with
  | .d x => .ok (.d x) env
  | .new x => .ok (.d x) env
  | .at i => .ok (.at i) env
def cP (c : En → Out R) : En → Out P := fun env => (c env).bind peek
def look (p : P) (env : En) : Option D := match p with
  | .d x => some x
  | .at i => env[i]?.bind Sl.cont
structure SP' (X : Cx) (W : WX) (e : Expr) (c : En → Out P) : Prop where
  pe : PE X e (fun σ H Q => ∃ F env, FrS X.mg F env σ H ∧ GoodO X.mg W (relP X.mg) Q F env σ H (c env))
theorem Sl.cont_of_mut {s : Sl} (h : s.mut.isSome = true) : ∃ x, s.cont = some x := by
  cases s with
  | no => cases h
  | d x => cases h
  | own x => exact ⟨x, rfl⟩
  | ref x => exact ⟨x, rfl⟩
theorem sp_of {X : Cx} {W : WX} {e : Expr} {c : En → Out R} (h : SE X W e c) : SP' X W e (cP c) := by
  refine ⟨PE.imp h.pe fun σ H Q q => ?_⟩
  obtain ⟨F, env, f, g⟩ := q
  refine ⟨F, env, f, GoodO.bind g fun r env1 F1 H1 v _ f1 x1 rl g1 => ?_⟩
  cases r with
  | d x => exact g1 F1 H1 v f1 x1 rl
  | new x =>
    obtain ⟨a, o, rfl, n, hF, hH, rp, no⟩ := rl
    exact g1 (upd F1 a o) H1 (.ref a) (f1.freezeNew hF hH rp no) (x1.freezeNew hF n) (.inr ⟨a, o, rfl, upd_same, (rp.mono (LeF.upd hF)).1⟩)
  | «at» i =>
    obtain ⟨e1, s, e2, m⟩ := rl
    obtain ⟨x, hx⟩ := Sl.cont_of_mut m
    exact g1 F1 H1 v f1 x1 ⟨e1, s, x, e2, hx⟩

/-- a value as it may be read -/
def RdD (mg : Mg) (F H : Hp) (x : D) (v : V) : Prop := (RepD mg F x v ∧ Live F H) ∨ ∃ a o, v = .ref a ∧ H a = some o ∧ RepM mg F x o
section
variable {mg : Mg} {F F' : Hp} {env env' : En} {σ : L2.St} {H H' : Hp}
theorem RepD.rd {x : D} {v : V} (l : Live F H) (h : RepD mg F x v) : RdD mg F H x v := .inl ⟨h, l⟩
/-- a looked-at value, kept through what comes behind -/
def Kept (mg : Mg) (F : Hp) (σ : L2.St) (p : P) (v : V) : Prop := match p with | .d y => RepD mg F y v | .at i => σ[i]? = some (some v)
theorem look_rd {p : P} {v : V} {x : D} (f : FrS mg F env σ H) (e : look p env = some x) (h : Kept mg F σ p v) : RdD mg F H x v := by
  cases p with
  | d y => cases e; exact RepD.rd f.live h
  | «at» i =>
    have h : σ[i]? = some (some v) := h
    have e : env[i]?.bind Sl.cont = some x := e
    cases es : env[i]? with
    | none => rw [es] at e; cases e
    | some s =>
      rw [es] at e
      have e' : s.cont = some x := e
      cases s with
      | no => cases e'
      | d y =>
        cases e'
        obtain ⟨w, q1, q2⟩ := f.val i _ es
        rw [h] at q1; cases q1
        exact q2.rd f.live
      | own y =>
        cases e'
        obtain ⟨a, o, q1, n, q2, q3⟩ := f.mt i _ _ es rfl
        rw [h] at q1; cases q1
        exact .inr ⟨a, o, rfl, q2, q3⟩
      | ref y =>
        cases e'
        obtain ⟨a, o, q1, n, q2, q3⟩ := f.mt i _ _ es rfl
        rw [h] at q1; cases q1
        exact .inr ⟨a, o, rfl, q2, q3⟩
/-- a look holds on through what comes behind -/
theorem relP_on {H0 F1 : Hp} {p : P} {v : V} (h : relP mg H0 F env σ H p v) (x : LeF F F1) : Kept mg F1 σ p v := by
  cases p with
  | d y => exact RepD.mono x h
  | «at» i => exact h.1
end

/-! ### names, constants -/
section
variable {X : Cx} {W : WX}
def cVar (i : Nat) : En → Out R := fun env => match env[i]? with
  | some (.d x) => .ok (.d x) env
  | some (.own _) => .ok (.at i) env
  | some (.ref _) => .ok (.at i) env
  | _ => .stuck
theorem se_var (i : Nat) {x : Str} {pos : Pos} (hN : X.N[i]? = some x) (hv : Vis X.env.scope x) (hd : (x == ("__debug__" : Str)) = false := by decide) (hcd : (x == ("__classdict__" : Str)) = false := by decide) : SE X W (.Name x pos) (cVar i) := by
  refine ⟨PE.imp (pe_var hN hv hd hcd) fun σ H Q q => ?_⟩
  obtain ⟨F, env, f, g⟩ := q
  unfold cVar at g
  cases es : env[i]? with
  | none => rw [es] at g; exact False.elim g
  | some s =>
    rw [es] at g
    cases s with
    | no => exact False.elim g
    | d y =>
      obtain ⟨v, e1, r⟩ := f.val i y es
      exact ⟨v, e1, g F H v f ExS.refl r⟩
    | own y =>
      obtain ⟨a, o, e1, n, e2, r⟩ := f.mt i _ y es rfl
      exact ⟨.ref a, e1, g F H (.ref a) f ExS.refl ⟨e1, _, es, rfl⟩⟩
    | ref y =>
      obtain ⟨a, o, e1, n, e2, r⟩ := f.mt i _ y es rfl
      exact ⟨.ref a, e1, g F H (.ref a) f ExS.refl ⟨e1, _, es, rfl⟩⟩
/-- a constant -/
def cC (x : D) : En → Out R := fun env => .ok (.d x) env
theorem se_c {e : Expr} {x : D} {v : V} (h : PE X e (tC v)) (hx : flatOf x = some v) : SE X W e (cC x) := by
  refine ⟨PE.imp h fun σ H Q q => ?_⟩
  obtain ⟨F, env, f, g⟩ := q
  exact g F H v f ExS.refl (.inl hx)
theorem se_int {i j pos} : SE X W (.Constant (.int i) j pos) (cC (.int i)) := se_c pe_int rfl
theorem se_bl {b j pos} : SE X W (.Constant (.bool b) j pos) (cC (.bl b)) := se_c pe_bl rfl
theorem se_non {j pos} : SE X W (.Constant .none j pos) (cC .non) := se_c pe_non rfl
theorem se_str {x j pos} : SE X W (.Constant (.str x) j pos) (cC (.str x)) := se_c pe_str rfl
theorem se_glob {x : Str} {d : D} {v : V} {u : Value} {pos : Pos} (hg : Gl X x) (hm : X.mg x = some u) (r : RelV v u) (hx : flatOf d = some v) (hd : (x == ("__debug__" : Str)) = false := by decide) : SE X W (.Name x pos) (cC d) := se_c (pe_glob hg hm r hd) hx
end
end Sim

/-! Sim3: operators by trees. -/
namespace Sim
open PySem PySem.Spec PyProof.Rows L2

section
variable {mg : Mg} {F F' H H' : Hp}
theorem rd_flat {x : D} {u v : V} (hx : flatOf x = some u) (h : RdD mg F H x v) : v = u := by
  have no : ∀ o, RepO mg F x o → False := fun o r => by
    cases x <;> first | exact r | cases hx
  rcases h with ⟨h | ⟨a, o, _, _, r⟩, _⟩ | ⟨a, o, _, _, r⟩
  · rw [hx] at h; exact (Option.some.inj h).symm
  · exact (no o r).elim
  · exact (no o r.1).elim
theorem rd_non {v : V} (h : RdD mg F H .non v) : v = .non := rd_flat rfl h
theorem rd_bl {b : Bool} {v : V} (h : RdD mg F H (.bl b) v) : v = .bl b := rd_flat rfl h
theorem rd_int {i : Int} {v : V} (h : RdD mg F H (.int i) v) : v = .int i := rd_flat rfl h
theorem rd_str {i : Str} {v : V} (h : RdD mg F H (.str i) v) : v = .str i := rd_flat rfl h
/-- an object's tree, where it stands -/
theorem rd_obj {x : D} {v : V} (hx : flatOf x = none) (h : RdD mg F H x v) : ∃ a o, v = .ref a ∧ RepO mg F x o ∧ (H a = some o ∨ (isFz o ∧ ∃ ob, H a = some (.frz ob o))) := by
  rcases h with ⟨h | ⟨a, o, e, f, r⟩, l⟩ | ⟨a, o, e, q, r⟩
  · rw [hx] at h; cases h
  · exact ⟨a, o, e, r, l a o f⟩
  · exact ⟨a, o, e, r.1, .inl q⟩
theorem rd_lst {ds : List D} {v : V} (h : RdD mg F H (.lst ds) v) : ∃ a vs, v = .ref a ∧ Rd H a (.lst vs) ∧ RepL mg F ds vs := by
  obtain ⟨a, o, e, ⟨vs, eo, r⟩, l⟩ := rd_obj rfl h
  subst eo
  rcases l with l | ⟨_, ob, l⟩
  · exact ⟨a, vs, e, .inl l, r⟩
  · exact ⟨a, vs, e, .inr ⟨ob, l⟩, r⟩
theorem rd_tup {ds : List D} {v : V} (h : RdD mg F H (.tup ds) v) : ∃ a vs, v = .ref a ∧ H a = some (.tup vs) ∧ F a = some (.tup vs) ∧ RepL mg F ds vs := by
  rcases h with ⟨h | ⟨a, o, e, f, vs, eo, r⟩, l⟩ | ⟨a, o, e, q, r⟩
  · cases h
  · subst eo
    refine ⟨a, vs, e, ?_, f, r⟩
    rcases l a _ f with l | ⟨l, _⟩
    · exact l
    · exact False.elim l
  · exact nomatch r.2
theorem rd_ins {x : Str} {ds : List (Str × D)} {v : V} (h : RdD mg F H (.ins x ds) v) : ∃ a C dx gs, v = .ref a ∧ H a = some (.ins C dx gs) ∧ mg x = some (.ref C) ∧ RepF mg F ds gs := by
  obtain ⟨a, o, e, ⟨C, dx, gs, eo, m, r⟩, l⟩ := rd_obj rfl h
  subst eo
  rcases l with l | ⟨l, _⟩
  · exact ⟨a, C, dx, gs, e, l, m, r⟩
  · exact False.elim l
theorem rd_dk {ds : List (Key × D)} {v : V} (h : RdD mg F H (.dk ds) v) : ∃ a gs, v = .ref a ∧ Rd H a (.dK gs) ∧ RepKK mg F ds gs := by
  obtain ⟨a, o, e, ⟨vs, eo, r⟩, l⟩ := rd_obj rfl h
  subst eo
  rcases l with l | ⟨_, ob, l⟩
  · exact ⟨a, vs, e, .inl l, r⟩
  · exact ⟨a, vs, e, .inr ⟨ob, l⟩, r⟩
theorem rd_dt {ds : List (List Key × D)} {v : V} (h : RdD mg F H (.dt ds) v) : ∃ a gs, v = .ref a ∧ Rd H a (.dT gs) ∧ RepKT mg F ds gs := by
  obtain ⟨a, o, e, ⟨vs, eo, r⟩, l⟩ := rd_obj rfl h
  subst eo
  rcases l with l | ⟨_, ob, l⟩
  · exact ⟨a, vs, e, .inl l, r⟩
  · exact ⟨a, vs, e, .inr ⟨ob, l⟩, r⟩
end

/-- what an operation gives -/
def relRes (mg : Mg) (H F' H' : Hp) (r : R) (v : V) : Prop := match r with
  | .d x => RepD mg F' x v
  | .new x => ∃ a o, v = .ref a ∧ H a = none ∧ F' a = none ∧ H' a = some o ∧ RepM mg F' x o
  | .at _ => False
def rD (mg : Mg) (f : D → D → Option R) : R2 := fun x y H Q => ∃ F dx dy r, Live F H ∧ RdD mg F H dx x ∧ RdD mg F H dy y ∧ f dx dy = some r ∧ ∀ F' H' v, Grow F H F' H' → relRes mg H F' H' r v → Q v H'
def OpD (X : Cx) (g : Value → Value → Sem Value) (f : D → D → Option R) : Prop := OpR X g (rD X.mg f)
theorem opD_of {X : Cx} {g : Value → Value → Sem Value} {f : D → D → Option R} {r : R2} (h : OpR X g r) (k : ∀ x y H Q, rD X.mg f x y H Q → r x y H Q) : OpD X g f :=
  fun pins s σ H x y v u Q I rx ry q => h pins s σ H x y v u Q I rx ry (k x y H Q q)
def fOr (f g : D → D → Option R) : D → D → Option R := fun x y => match f x y with
  | some r => some r
  | none => g x y
theorem OpD.or {X : Cx} {g : Value → Value → Sem Value} {f f' : D → D → Option R} (h : OpD X g f) (h' : OpD X g f') : OpD X g (fOr f f') := by
  refine opD_of (OpR.or h h') fun x y H Q q => ?_
  obtain ⟨F, dx, dy, r, l, rx, ry, e, k⟩ := q
  unfold fOr at e
  cases e1 : f dx dy with
  | some z => rw [e1] at e; cases e; exact .inl ⟨F, dx, dy, _, l, rx, ry, e1, k⟩
  | none => rw [e1] at e; exact .inr ⟨F, dx, dy, _, l, rx, ry, e, k⟩
section
variable {mg : Mg} {F H : Hp} {Q : VK}
/-- the ways to end: a flat value; a new list kept apart; a new tuple, frozen at once -/
theorem res_flat {x : D} {v : V} (k : ∀ F' H' v, Grow F H F' H' → relRes mg H F' H' (.d x) v → Q v H') (h : flatOf x = some v) : Q v H := k F H v (.inl ⟨rfl, rfl⟩) (.inl h)
theorem res_same {x : D} {v : V} (k : ∀ F' H' v, Grow F H F' H' → relRes mg H F' H' (.d x) v → Q v H') (h : RepD mg F x v) : Q v H := k F H v (.inl ⟨rfl, rfl⟩) h
theorem res_new {x : D} {p : Addr} {o : HO} (l : Live F H) (k : ∀ F' H' v, Grow F H F' H' → relRes mg H F' H' (.new x) v → Q v H') (hp : H p = none) (r : RepM mg F x o) : Q (.ref p) (upd H p o) :=
  k F (upd H p o) (.ref p) (.inr (.inl ⟨p, o, hp, rfl, .inl rfl⟩)) ⟨p, o, rfl, hp, l.no hp, upd_same, r⟩
theorem res_fix {x : D} {p : Addr} {o : HO} (l : Live F H) (k : ∀ F' H' v, Grow F H F' H' → relRes mg H F' H' (.d x) v → Q v H') (hp : H p = none) (r : RepO mg F x o) : Q (.ref p) (upd H p o) :=
  k (upd F p o) (upd H p o) (.ref p) (.inr (.inl ⟨p, o, hp, rfl, .inr rfl⟩)) (.inr ⟨p, o, rfl, upd_same, RepO.mono (LeF.upd (l.no hp)) _ _ r⟩)
theorem RdD.fix {x : D} {v : V} {a : Addr} {o : HO} (e : v = .ref a) (h : F a = some o) (r : RepO mg F x o) : RepD mg F x v := .inr ⟨a, o, e, h, r⟩
end

/-! ### two operands -/
section
variable {X : Cx} {W : WX} {a b : Expr} {ca cb : En → Out R} {pos : Pos}
def cOp (f : D → D → Option R) (ca cb : En → Out R) : En → Out R := fun env => (cP ca env).bind fun p e1 => (cP cb e1).bind fun q e2 => match look p e2, look q e2 with
  | some x, some y => (match f x y with
    | some r => .ok r e2
    | none => .stuck)
  | _, _ => .stuck
theorem res_rel {mg : Mg} {F H F' H' : Hp} {env : En} {σ : L2.St} {r : R} {v : V} (f : FrS mg F env σ H) (h : relRes mg H F' H' r v) : relR mg H F' env σ H' r v := by
  cases r with
  | d x => exact h
  | «at» i => exact False.elim h
  | new x =>
    obtain ⟨a, o, e, n, hF, hH, r⟩ := h
    refine ⟨a, o, e, n, hF, hH, r, fun ⟨i, s, e1, m, e2⟩ => ?_⟩
    cases em : s.mut with
    | none => rw [em] at m; cases m
    | some y =>
      obtain ⟨b, u, q1, _, q2, _⟩ := f.mt i s y e1 em
      rw [e2] at q1
      cases q1
      rw [n] at q2; cases q2
theorem op_core {mg : Mg} {f : D → D → Option R} {r : R2} {ta tb : TE} (hr : ∀ x y H Q, rD mg f x y H Q → r x y H Q)
    (ha : ∀ σ H Q, (∃ F env, FrS mg F env σ H ∧ GoodO mg W (relP mg) Q F env σ H (cP ca env)) → ta σ H Q)
    (hb : ∀ σ H Q, (∃ F env, FrS mg F env σ H ∧ GoodO mg W (relP mg) Q F env σ H (cP cb env)) → tb σ H Q) :
    ∀ σ H Q, tE mg W (cOp f ca cb) σ H Q → tOp r ta tb σ H Q := by
  intro σ H Q q
  obtain ⟨F, env, fr, g⟩ := q
  refine ha _ _ _ ⟨F, env, fr, GoodO.bind g fun p env1 F1 H1 v e1 f1 x1 r1 g1 => ?_⟩
  refine hb _ _ _ ⟨F1, env1, f1, GoodO.bind (GoodO.shift back_R x1 g1) fun q env2 F2 H2 u e2 f2 x2 r2 g2 => ?_⟩
  refine hr _ _ _ _ ?_
  cases l1 : look p env2 with
  | none => rw [l1] at g2; exact False.elim g2
  | some x =>
    cases l2 : look q env2 with
    | none => rw [l1, l2] at g2; exact False.elim g2
    | some y =>
      rw [l1, l2] at g2
      dsimp only at g2
      cases ef : f x y with
      | none => rw [ef] at g2; exact False.elim g2
      | some r =>
        rw [ef] at g2
        refine ⟨F2, x, y, r, f2.live, look_rd f2 l1 (relP_on r1 x2.le), look_rd f2 l2 (relP_on r2 (LeF.refl _)), ef, fun F' H' w gr rl => ?_⟩
        obtain ⟨f3, x3⟩ := f2.grow gr
        exact g2 F' H' w f3 (x2.trans x3) (back_R _ _ _ _ _ _ _ _ x2.live (res_rel f2 rl))
theorem se_bin {op : Operator} {f : D → D → Option R} (ho : OpD X (binaryOp op) f) (ha : SE X W a ca) (hb : SE X W b cb) : SE X W (.BinOp a op b pos) (cOp f ca cb) :=
  ⟨PE.imp (pe_op ho (sp_of ha).pe (sp_of hb).pe) (op_core (fun _ _ _ _ q => q) (fun _ _ _ q => q) fun _ _ _ q => q)⟩
theorem se_cmp {op : CmpOp} {f : D → D → Option R} (ho : OpD X (compareOp op) f) (ha : SE X W a ca) (hb : SE X W b cb) (hm : behindInMarks op b = false := by first | exact nomark _ | rfl) : SE X W (.Compare a [op] [b] pos) (cOp f ca cb) :=
  ⟨PE.imp (pe_cmpR ho (sp_of ha).pe (sp_of hb).pe hm) (op_core (fun _ _ _ _ q => q) (fun _ _ _ q => q) fun _ _ _ q => q)⟩
/-- a value that is a bool, as a test -/
def cB (c : En → Out R) : En → Out Bool := fun env => (c env).bind fun r e => match r with
  | .d (.bl b) => .ok b e
  | _ => .stuck
theorem tB_core {mg : Mg} {c : En → Out R} {te : TE} (h : ∀ σ H Q, tE mg W c σ H Q → te σ H Q) : ∀ σ H Q, tT mg W (cB c) σ H Q → te σ H fun x H' => ∃ k, x = .bl k ∧ Q k H' := by
  intro σ H Q q
  obtain ⟨F, env, fr, g⟩ := q
  refine h _ _ _ ⟨F, env, fr, GoodO.bind g fun r env1 F1 H1 v e1 f1 x1 r1 g1 => ?_⟩
  cases r with
  | new x => exact False.elim g1
  | «at» i => exact False.elim g1
  | d x =>
    cases x with
    | bl b =>
      rcases r1 with r1 | ⟨_, _, _, _, z⟩
      · cases r1; exact ⟨b, rfl, g1 F1 H1 b f1 x1 rfl⟩
      · exact False.elim z
    | _ => exact False.elim g1
theorem st_cmp {op : CmpOp} {f : D → D → Option R} (ho : OpD X (compareOp op) f) (ha : SE X W a ca) (hb : SE X W b cb) (hm : behindInMarks op b = false := by first | exact nomark _ | rfl) : ST X W (.Compare a [op] [b] pos) (cB (cOp f ca cb)) :=
  ⟨PT.imp (pt_cmpR ho (sp_of ha).pe (sp_of hb).pe hm) (tB_core (op_core (fun _ _ _ _ q => q) (fun _ _ _ q => q) fun _ _ _ q => q))⟩
theorem st_val {e : Expr} {c : En → Out R} (h : SE X W e c) (he : ∀ whole, isTrue e X.env whole = (do let v ← whole; standAt e.pos; holding [v] (truthy v)) := by intro _; rfl) : ST X W e (cB c) :=
  ⟨PT.imp (pt_val h.pe he) (tB_core fun _ _ _ q => q)⟩
def IxD (X : Cx) (f : D → D → Option R) : Prop := IxR X (rD X.mg f)
theorem se_ix {f : D → D → Option R} (hr : IxD X f) (ha : SE X W a ca) (hb : SE X W b cb) (hs : PlainIx b := by exact fun _ _ => rfl) : SE X W (.Subscript a b pos) (cOp f ca cb) :=
  ⟨PE.imp (pe_ix hr (sp_of ha).pe (sp_of hb).pe hs) (op_core (fun _ _ _ _ q => q) (fun _ _ _ q => q) fun _ _ _ q => q)⟩
end
end Sim

/-! Sim4: the operators themselves. -/
namespace Sim
open PySem PySem.Spec PyProof.Rows L2

/-! ### trees as data -/
mutual
def py : D → PyData
  | .non => .none | .bl b => .bool b | .int i => .int i | .str s => .str s
  | .tup ds => .tuple (pys ds) | .lst ds => .list (pys ds)
  | .dk _ => .dict [] | .dt _ => .dict [] | .ins _ _ => .dict []
def pys : List D → List PyData
  | [] => []
  | d :: ds => py d :: pys ds
end
mutual
/-- no dict, no instance within -/
def pl : D → Bool
  | .non => true | .bl _ => true | .int _ => true | .str _ => true
  | .tup ds => pls ds | .lst ds => pls ds
  | .dk _ => false | .dt _ => false | .ins _ _ => false
def pls : List D → Bool
  | [] => true
  | d :: ds => pl d && pls ds
end
section
variable {K : PySem.W.Frag} {mg : Mg} {F H : Hp}
theorem flat_dp {d : D} {v : V} (h : flatOf d = some v) : Dp K H v (py d) := by
  cases d with
  | non => cases h; exact .non
  | bl b => cases h; exact .bl b
  | int i => cases h; exact .int i
  | str x => cases h; exact .str x
  | _ => cases h
theorem live_lst {a : Addr} {vs : List V} (l : Live F H) (h : F a = some (.lst vs)) : Rd H a (.lst vs) := by
  rcases l a _ h with h | ⟨_, ob, h⟩
  · exact .inl h
  · exact .inr ⟨ob, h⟩
theorem live_tup {a : Addr} {vs : List V} (l : Live F H) (h : F a = some (.tup vs)) : H a = some (.tup vs) := by
  rcases l a _ h with h | ⟨h, _⟩
  · exact h
  · exact False.elim h
mutual
theorem dpO (l : Live F H) : ∀ (d : D) (a : Addr) (o : HO), pl d = true → Rd H a o → RepO mg F d o → Dp K H (.ref a) (py d)
  | .tup ds, a, o, p, h, r => by
    obtain ⟨vs, e, r⟩ := r
    subst e
    exact .tup (.inl h) (dpL l ds vs p r)
  | .lst ds, a, o, p, h, r => by
    obtain ⟨vs, e, r⟩ := r
    subst e
    exact .lst (.inl h) (dpL l ds vs p r)
  | .non, _, _, _, _, r => r.elim
  | .bl _, _, _, _, _, r => r.elim
  | .int _, _, _, _, _, r => r.elim
  | .str _, _, _, _, _, r => r.elim
  | .dk _, _, _, p, _, _ => nomatch p
  | .dt _, _, _, p, _, _ => nomatch p
  | .ins _ _, _, _, p, _, _ => nomatch p
theorem dpL (l : Live F H) : ∀ (ds : List D) (vs : List V), pls ds = true → RepL mg F ds vs → DpAll K H vs (pys ds)
  | [], vs, _, r => by
    have e : vs = [] := r
    subst e; exact .nil
  | d :: ds, vs, p, r => by
    obtain ⟨v, t, e, q, r⟩ := r
    subst e
    have p' : pl d = true ∧ pls ds = true := by simpa [pls] using p
    refine .cons ?_ (dpL l ds t p'.2 r)
    rcases q with q | ⟨a, o, e, fa, q⟩
    · exact flat_dp q
    · subst e
      cases d with
      | tup es =>
        obtain ⟨ws, e, q'⟩ := q
        subst e
        exact dpO l (.tup es) a _ p'.1 (.inl (live_tup l fa)) ⟨ws, rfl, q'⟩
      | lst es =>
        obtain ⟨ws, e, q'⟩ := q
        subst e
        exact dpO l (.lst es) a _ p'.1 (live_lst l fa) ⟨ws, rfl, q'⟩
      | dk _ => exact nomatch p'.1
      | dt _ => exact nomatch p'.1
      | ins _ _ => exact nomatch p'.1
      | _ => exact q.elim
end
theorem dp_rd {d : D} {v : V} (l : Live F H) (p : pl d = true) (h : RdD mg F H d v) : Dp K H v (py d) := by
  cases e : flatOf d with
  | some u => rw [rd_flat e h]; exact flat_dp e
  | none =>
    obtain ⟨a, o, e1, r, q⟩ := rd_obj e h
    subst e1
    rcases q with q | ⟨q, ob, q'⟩
    · exact dpO l d a o p (.inl q) r
    · cases d with
      | tup es => obtain ⟨ws, e, _⟩ := r; subst e; exact q.elim
      | lst es => exact dpO l (.lst es) a o p (.inr ⟨ob, q'⟩) r
      | dk _ => exact nomatch p
      | dt _ => exact nomatch p
      | ins _ _ => exact nomatch p
      | _ => exact r.elim
end
mutual
theorem py_plain : ∀ d : D, pl d = true → (py d).plain = true
  | .non, _ => rfl | .bl _, _ => rfl | .int _, _ => rfl | .str _, _ => rfl
  | .tup ds, h => pys_plain ds h
  | .lst ds, h => pys_plain ds h
  | .dk _, h => nomatch h | .dt _, h => nomatch h | .ins _ _, h => nomatch h
theorem pys_plain : ∀ ds : List D, pls ds = true → PyData.plainAll (pys ds) = true
  | [], _ => rfl
  | d :: ds, h => by
    have p' : pl d = true ∧ pls ds = true := by simpa [pls] using h
    simp only [pys, PyData.plainAll, py_plain d p'.1, pys_plain ds p'.2, Bool.and_self]
end
theorem py_list {ds : List D} : py (.lst ds) = .list (pys ds) := rfl
theorem pys_map : ∀ ds : List D, pys ds = ds.map py
  | [] => rfl
  | d :: ds => by simp [pys, pys_map ds]

section
variable {X : Cx}
abbrev U (X : Cx) : Prop := X.A.units + 100 < cLine
theorem live_rd {mg : Mg} {F H : Hp} {d : D} {v : V} (h : RepD mg F d v) (l : Live F H) : RdD mg F H d v := h.rd l
/-! ### == and !=, on data -/
def fEq : D → D → Option R := fun a b => if pl a = true ∧ pl b = true ∧ (py a).depth ≤ 60 then some (.d (.bl (PyData.eqv (py a) (py b)))) else none
def fNe : D → D → Option R := fun a b => if pl a = true ∧ pl b = true ∧ (py a).depth ≤ 60 then some (.d (.bl (!PyData.eqv (py a) (py b)))) else none
theorem op_eq' (hu : U X) : OpD X (compareOp .Eq) fEq := by
  intro pins s σ H x y v u Q I rx ry h
  obtain ⟨F, a, b, r, l, ra, rb, e, k⟩ := h
  unfold fEq at e
  split at e
  · rename_i c
    cases e
    obtain ⟨as, r1⟩ := Dp.reads I (py a) x v (dp_rd l c.1 ra) rx
    obtain ⟨bs, r2⟩ := Dp.reads I (py b) y u (dp_rd l c.2.1 rb) ry
    have hd : X.A.units + min (py a).depth (py b).depth < cLine := by
      have h1 := c.2.2
      have h2 : min (py a).depth (py b).depth ≤ (py a).depth := Nat.min_le_left _ _
      have h3 : X.A.units + 100 < cLine := hu
      omega
    exact SeqAt.eq_plain r1 r2 (py_plain a c.1) (py_plain b c.2.1) hd ⟨.bl _, H, I, rfl, res_flat k rfl⟩
  · cases e
theorem op_ne' (hu : U X) : OpD X (compareOp .NotEq) fNe := by
  intro pins s σ H x y v u Q I rx ry h
  obtain ⟨F, a, b, r, l, ra, rb, e, k⟩ := h
  unfold fNe at e
  split at e
  · rename_i c
    cases e
    obtain ⟨as, r1⟩ := Dp.reads I (py a) x v (dp_rd l c.1 ra) rx
    obtain ⟨bs, r2⟩ := Dp.reads I (py b) y u (dp_rd l c.2.1 rb) ry
    have hd : X.A.units + min (py a).depth (py b).depth < cLine := by
      have h1 := c.2.2
      have h2 : min (py a).depth (py b).depth ≤ (py a).depth := Nat.min_le_left _ _
      have h3 : X.A.units + 100 < cLine := hu
      omega
    exact SeqAt.ne_plain r1 r2 (py_plain a c.1) (py_plain b c.2.1) hd ⟨.bl _, H, I, rfl, res_flat k rfl⟩
  · cases e
/-! ### <, on alike data -/
def fLt : D → D → Option R := fun a b => if pl a = true ∧ pl b = true ∧ (py a).depth ≤ 60 ∧ PySem.W.alike (py a) (py b) = true ∧ flatOf a ≠ some .non then some (.d (.bl (PySem.W.dataLt (py a) (py b)))) else none
theorem op_lt' (hu : U X) : OpD X (compareOp .Lt) fLt := by
  intro pins s σ H x y v u Q I rx ry h
  obtain ⟨F, a, b, r, l, ra, rb, e, k⟩ := h
  unfold fLt at e
  split at e
  · rename_i c
    cases e
    obtain ⟨as, r1⟩ := Dp.reads I (py a) x v (dp_rd l c.1 ra) rx
    obtain ⟨bs, r2⟩ := Dp.reads I (py b) y u (dp_rd l c.2.1 rb) ry
    have hd : X.A.units + min (py a).depth (py b).depth < cLine := by
      have h1 := c.2.2.1
      have h2 : min (py a).depth (py b).depth ≤ (py a).depth := Nat.min_le_left _ _
      have h3 : X.A.units + 100 < cLine := hu
      omega
    have hn : py a ≠ .none := fun z => c.2.2.2.2 (by cases a <;> first | rfl | cases z)
    exact PySem.W.rcLt_alike (py a) (py b) X.A s v u as bs r1 r2 c.2.2.2.1 hn hd X.prog X.w X.xe _ ⟨.bl _, H, I, rfl, res_flat k rfl⟩
  · cases e
/-! ### ints: <=, >, >= -/
def fII (g : Int → Int → D) : D → D → Option R := fun a b => match a, b with
  | .int i, .int j => some (.d (g i j))
  | _, _ => none
theorem opII {f : Value → Value → Sem Value} {g : Int → Int → V} {g' : Int → Int → D} (h : OpR X f (rI0 g)) (hg : ∀ i j, flatOf (g' i j) = some (g i j)) : OpD X f (fII g') := by
  refine opD_of h fun x y H Q q => ?_
  obtain ⟨F, a, b, r, l, ra, rb, e, k⟩ := q
  cases a with
  | int i =>
    cases b with
    | int j =>
      cases e
      exact ⟨i, j, rd_int ra, rd_int rb, res_flat k (hg i j)⟩
    | _ => cases e
  | _ => cases e
theorem op_le' : OpD X (compareOp .LtE) (fII fun i j => .bl (decide (i ≤ j))) := opII op_le fun _ _ => rfl
theorem op_gt' : OpD X (compareOp .Gt) (fII fun i j => .bl (decide (j < i))) := opII op_gt fun _ _ => rfl
theorem op_ge' : OpD X (compareOp .GtE) (fII fun i j => .bl (decide (j ≤ i))) := opII op_ge fun _ _ => rfl
theorem op_sub' : OpD X (binaryOp .Sub) (fII fun i j => .int (i - j)) := opII op_sub fun _ _ => rfl
def fIIc (C : Int → Int → Prop) [∀ i j, Decidable (C i j)] (g : Int → Int → D) : D → D → Option R := fun a b => match a, b with
  | .int i, .int j => if C i j then some (.d (g i j)) else none
  | _, _ => none
theorem opIIc {f : Value → Value → Sem Value} {C : Int → Int → Prop} [∀ i j, Decidable (C i j)] {g : Int → Int → V} {g' : Int → Int → D} (h : OpR X f (rI C g)) (hg : ∀ i j, flatOf (g' i j) = some (g i j)) : OpD X f (fIIc C g') := by
  refine opD_of h fun x y H Q q => ?_
  obtain ⟨F, a, b, r, l, ra, rb, e, k⟩ := q
  cases a with
  | int i =>
    cases b with
    | int j =>
      have e' : (if C i j then some (R.d (g' i j)) else none) = some r := e
      split at e'
      · rename_i c
        cases e'
        exact ⟨i, j, rd_int ra, rd_int rb, c, res_flat k (hg i j)⟩
      · cases e'
    | _ => cases e
  | _ => cases e
instance : ∀ i j, Decidable (CDivN i j) := fun _ _ => by unfold CDivN; infer_instance
instance : ∀ i j, Decidable (CPow i j) := fun _ _ => by unfold CPow; infer_instance
instance : ∀ i j, Decidable (CMulW i j) := fun _ _ => by unfold CMulW; infer_instance
theorem op_fdiv' : OpD X (binaryOp .FloorDiv) (fIIc CDivN fun i j => .int (i.fdiv j)) := opIIc op_fdivN fun _ _ => rfl
theorem op_mod' : OpD X (binaryOp .Mod) (fIIc (fun _ j => j ≠ 0) fun i j => .int (i.fmod j)) := opIIc op_modN fun _ _ => rfl
theorem op_pow' : OpD X (binaryOp .Pow) (fIIc CPow fun i j => .int (i ^ j.toNat)) := opIIc op_pow fun _ _ => rfl
theorem op_mul' : OpD X (binaryOp .Mult) (fIIc CMulW fun i j => .int (i * j)) := opIIc op_mulW fun _ _ => rfl
/-! ### is None -/
def isNon : D → Bool
  | .non => true | _ => false
def fIsN : D → D → Option R := fun a b => if isNon b = true then some (.d (.bl (isNon a))) else none
def fNotN : D → D → Option R := fun a b => if isNon b = true then some (.d (.bl (!isNon a))) else none
theorem non_iff {mg : Mg} {F H : Hp} {a : D} {v : V} (h : RdD mg F H a v) : decide (v = .non) = isNon a := by
  cases e : flatOf a with
  | some u =>
    rw [rd_flat e h]
    cases a <;> first | (cases e; rfl) | cases e
  | none =>
    obtain ⟨p, o, e1, _, _⟩ := rd_obj e h
    subst e1
    cases a <;> first | rfl | cases e
theorem isNon_eq {a : D} (h : isNon a = true) : a = .non := by cases a <;> first | rfl | cases h
theorem op_isN' : OpD X (compareOp .Is) fIsN := by
  refine opD_of op_isN fun x y H Q q => ?_
  obtain ⟨F, a, b, r, l, ra, rb, e, k⟩ := q
  unfold fIsN at e
  split at e
  · rename_i c
    cases e
    have eb := isNon_eq c
    subst eb
    refine ⟨rd_non rb, ?_⟩
    rw [non_iff ra]
    exact res_flat k rfl
  · cases e
theorem op_notN' : OpD X (compareOp .IsNot) fNotN := by
  refine opD_of op_notN fun x y H Q q => ?_
  obtain ⟨F, a, b, r, l, ra, rb, e, k⟩ := q
  unfold fNotN at e
  split at e
  · rename_i c
    cases e
    have eb := isNon_eq c
    subst eb
    refine ⟨rd_non rb, ?_⟩
    rw [non_iff ra]
    exact res_flat k rfl
  · cases e
/-! ### + -/
def lim : Nat := 1000000
theorem lim_line {n : Nat} (h : n ≤ lim) : n ≤ sizeLine := Nat.le_trans h (by rw [sizeLine_eq]; decide)
def fAdd : D → D → Option R := fun a b => match a, b with
  | .int i, .int j => some (.d (.int (i + j)))
  | .str i, .str j => if i.length + j.length ≤ lim then some (.d (.str (i ++ j))) else none
  | .lst i, .lst j => if i.length + j.length ≤ lim then some (.new (.lst (i ++ j))) else none
  | .tup i, .tup j => if i.length + j.length ≤ lim then some (.d (.tup (i ++ j))) else none
  | _, _ => none
def rCatR : R2 := fun x y H Q => ∃ p q vs ws, x = .ref p ∧ y = .ref q ∧ Rd H p (.lst vs) ∧ Rd H q (.lst ws) ∧ vs.length + ws.length ≤ sizeLine ∧ ∀ z, H z = none → Q (.ref z) (upd H z (.lst (vs ++ ws)))
theorem op_catR : OpR X (binaryOp .Add) rCatR := by
  intro pins s σ H x y v u Q I rx ry h
  obtain ⟨p, q, vs, ws, ex, ey, h1, h2, hl, k⟩ := h
  subst ex ey
  obtain rfl : v = Value.ref p := rx
  obtain rfl : u = Value.ref q := ry
  obtain ⟨l1, is1, m1, a1, e1⟩ := h1.ok I.hok
  obtain ⟨l2, is2, m2, a2, e2⟩ := h2.ok I.hok
  have n1 := a1.length
  have n2 := a2.length
  refine PySem.P.add_list e1 e2 ?_ (by simp only [List.size_toArray]; omega)
  rw [show is1.toArray ++ is2.toArray = (is1 ++ is2).toArray by simp]
  have len : (vs ++ ws).length ≤ sizeLine := by simpa using hl
  exact ⟨.ref _, _, I.lnew (t' := s.toks) (a1.append a2) len, rfl, k _ I.fresh⟩
theorem op_add' : OpD X (binaryOp .Add) fAdd := by
  refine opD_of (OpR.or op_add (OpR.or op_add_str (OpR.or op_catR op_catA))) fun x y H Q q => ?_
  obtain ⟨F, a, b, r, l, ra, rb, e, k⟩ := q
  cases a with
  | int i =>
    cases b with
    | int j => cases e; exact .inl ⟨i, j, rd_int ra, rd_int rb, res_flat k rfl⟩
    | _ => cases e
  | str i =>
    cases b with
    | str j =>
      have e' : (if i.length + j.length ≤ lim then some (R.d (.str (i ++ j))) else none) = some r := e
      split at e'
      · rename_i c
        cases e'
        exact .inr (.inl ⟨i, j, rd_str ra, rd_str rb, lim_line c, res_flat k rfl⟩)
      · cases e'
    | _ => cases e
  | lst i =>
    cases b with
    | lst j =>
      have e' : (if i.length + j.length ≤ lim then some (R.new (.lst (i ++ j))) else none) = some r := e
      split at e'
      · rename_i c
        cases e'
        obtain ⟨p, vs, ex, hp, r1⟩ := rd_lst ra
        obtain ⟨q, ws, ey, hq, r2⟩ := rd_lst rb
        exact .inr (.inr (.inl ⟨p, q, vs, ws, ex, ey, hp, hq, by rw [← r1.length, ← r2.length]; exact lim_line c, fun z hz => res_new l k hz ⟨⟨_, rfl, r1.append r2⟩, rfl⟩⟩))
      · cases e'
    | _ => cases e
  | tup i =>
    cases b with
    | tup j =>
      have e' : (if i.length + j.length ≤ lim then some (R.d (.tup (i ++ j))) else none) = some r := e
      split at e'
      · rename_i c
        cases e'
        obtain ⟨p, vs, ex, hp, fp, r1⟩ := rd_tup ra
        obtain ⟨q, ws, ey, hq, fq, r2⟩ := rd_tup rb
        refine .inr (.inr (.inr ⟨p, q, vs, ws, ex, ey, SqT.of hp, SqT.of hq, by rw [← r1.length, ← r2.length]; exact lim_line c, fun z => ?_, fun _ z => ?_, fun _ _ z hz => res_fix l k hz ⟨_, rfl, r1.append r2⟩⟩))
        · subst z
          have e0 := r1.length
          cases i with
          | nil => exact res_same k (.inr ⟨q, _, rfl, fq, ws, rfl, r2⟩)
          | cons _ _ => cases e0
        · subst z
          have e0 := r2.length
          cases j with
          | nil => exact res_same k (.inr ⟨p, _, rfl, fp, vs, rfl, by rw [List.append_nil]; exact r1⟩)
          | cons _ _ => cases e0
      · cases e'
    | _ => cases e
  | _ => cases e
end
end Sim

/-! Sim5: in, subscripts, slices, boolean operators, conditional expressions, chains. -/
namespace Sim
open PySem PySem.Spec PyProof.Rows L2

/-! ### keys of dicts -/
def keyOf : D → Option Key
  | .int i => some (.inl i) | .str s => some (.inr s) | _ => none
def keysOf : List D → Option (List Key)
  | [] => some []
  | d :: ds => match keyOf d, keysOf ds with
    | some k, some ks => some (k :: ks)
    | _, _ => none
def dlook {κ : Type} [DecidableEq κ] (kvs : List (κ × D)) (k : κ) : Option D := (kvs.find? fun p => decide (p.1 = k)).map (·.2)
section
variable {mg : Mg} {F H : Hp}
theorem key_v {d : D} {v : V} {k : Key} (h : RepD mg F d v) (e : keyOf d = some k) : v = kV k := by
  cases d with
  | int i => cases e; rcases h with h | ⟨_, _, _, _, r⟩; (cases h; rfl); exact r.elim
  | str i => cases e; rcases h with h | ⟨_, _, _, _, r⟩; (cases h; rfl); exact r.elim
  | _ => cases e
theorem key_rd {d : D} {v : V} {k : Key} (h : RdD mg F H d v) (e : keyOf d = some k) : v = kV k := by
  cases d with
  | int i => cases e; exact rd_int h
  | str i => cases e; exact rd_str h
  | _ => cases e
theorem keys_v : ∀ {ds : List D} {vs : List V} {ks : List Key}, RepL mg F ds vs → keysOf ds = some ks → vs = ks.map kV
  | [], vs, ks, h, e => by
    have q : vs = [] := h
    cases e; exact q
  | d :: ds, vs, ks, h, e => by
    obtain ⟨v, t, e1, q, r⟩ := h
    subst e1
    unfold keysOf at e
    cases e1 : keyOf d with
    | none => rw [e1] at e; cases e
    | some k =>
      cases e2 : keysOf ds with
      | none => rw [e1, e2] at e; cases e
      | some ks' =>
        rw [e1, e2] at e
        cases e
        rw [key_v q e1, keys_v r e2]
        rfl
def RelOD (mg : Mg) (F : Hp) : Option D → Option V → Prop
  | none, r => r = none
  | some d, r => ∃ v, r = some v ∧ RepD mg F d v
theorem dlook_kk {ds : List (Key × D)} {gs : List (Key × V)} (k : Key) (h : RepKK mg F ds gs) : RelOD mg F (dlook ds k) (valV gs k) := by
  induction ds generalizing gs with
  | nil => have e : gs = [] := h; subst e; rfl
  | cons p ds ih =>
    obtain ⟨v, t, e, q, r⟩ := h
    subst e
    by_cases hk : p.1 = k
    · have e1 : dlook (p :: ds) k = some p.2 := by simp [dlook, hk]
      rw [e1]
      exact ⟨v, valV_pos hk, q⟩
    · have e1 : dlook (p :: ds) k = dlook ds k := by simp [dlook, hk]
      rw [e1, valV_neg (p := (p.1, v)) hk]
      exact ih r
theorem dlook_kt {ds : List (List Key × D)} {gs : List (List Key × V)} (k : List Key) (h : RepKT mg F ds gs) : RelOD mg F (dlook ds k) (valV gs k) := by
  induction ds generalizing gs with
  | nil => have e : gs = [] := h; subst e; rfl
  | cons p ds ih =>
    obtain ⟨v, t, e, q, r⟩ := h
    subst e
    by_cases hk : p.1 = k
    · have e1 : dlook (p :: ds) k = some p.2 := by simp [dlook, hk]
      rw [e1]
      exact ⟨v, valV_pos hk, q⟩
    · have e1 : dlook (p :: ds) k = dlook ds k := by simp [dlook, hk]
      rw [e1, valV_neg (p := (p.1, v)) hk]
      exact ih r
/-- a dict's look-up by a tree -/
def dget (d k : D) : Option (Option D) := match d, k with
  | .dk kvs, k => (match keyOf k with
    | some k => some (dlook kvs k)
    | none => none)
  | .dt kvs, .tup ks => (match keysOf ks with
    | some ks => some (dlook kvs ks)
    | none => none)
  | _, _ => none
theorem dget_rd {d k : D} {o : Option D} {x y : V} (rd : RdD mg F H d x) (rk : RdD mg F H k y) (e : dget d k = some o) :
    ∃ a r, x = .ref a ∧ DGet H a y r ∧ RelOD mg F o r := by
  cases d with
  | dk kvs =>
    obtain ⟨a, gs, ex, ha, r⟩ := rd_dk rd
    have e' : (match keyOf k with | some k => some (dlook kvs k) | none => none) = some o := e
    cases ek : keyOf k with
    | none => rw [ek] at e'; cases e'
    | some k' =>
      rw [ek] at e'
      cases e'
      refine ⟨a, valV gs k', ex, .inl ⟨gs, k', ha, key_rd rk ek, rfl⟩, ?_⟩
      exact dlook_kk k' r
  | dt kvs =>
    obtain ⟨a, gs, ex, ha, r⟩ := rd_dt rd
    cases k with
    | tup ks =>
      have e' : (match keysOf ks with | some k => some (dlook kvs k) | none => none) = some o := e
      cases ek : keysOf ks with
      | none => rw [ek] at e'; cases e'
      | some k' =>
        rw [ek] at e'
        cases e'
        obtain ⟨b, vs, ey, hb, _, r2⟩ := rd_tup rk
        refine ⟨a, valV gs k', ex, .inr ⟨gs, k', b, ha, ey, by rw [hb, keys_v r2 ek], rfl⟩, ?_⟩
        exact dlook_kt k' r
    | _ => cases e
  | _ => cases e
end

section
variable {X : Cx}
/-! ### in, not in -/
def sign : D → Option Nat
  | .str s => (match s.cps.toList with
    | [c] => some c
    | _ => none)
  | _ => none
theorem sign_rd {mg : Mg} {F H : Hp} {d : D} {v : V} {c : Nat} (h : RdD mg F H d v) (e : sign d = some c) : v = .str ⟨#[c]⟩ := by
  cases d with
  | str z =>
    have e' : (match z.cps.toList with | [c] => some c | _ => none) = some c := e
    cases el : z.cps.toList with
    | nil => rw [el] at e'; cases e'
    | cons a t =>
      cases t with
      | nil =>
        rw [el] at e'
        cases e'
        have ez : z = ⟨#[c]⟩ := PySem.W.str_of_cps (by rw [el])
        rw [← ez]; exact rd_str h
      | cons _ _ => rw [el] at e'; cases e'
  | _ => cases e
/-- is a in b? -/
def isIn (a b : D) : Option Bool := match b with
  | .lst ys => if pl a = true ∧ pls ys = true ∧ (py a).depth ≤ 60 then some ((pys ys).any fun y => PyData.eqv y (py a)) else none
  | .tup ys => if pl a = true ∧ pls ys = true ∧ (py a).depth ≤ 60 then some ((pys ys).any fun y => PyData.eqv y (py a)) else none
  | .str z => (match sign a with
    | some c => some (decide (c ∈ z.cps.toList))
    | none => none)
  | .dk _ => (dget b a).map (·.isSome)
  | .dt _ => (dget b a).map (·.isSome)
  | _ => none
def fIn : D → D → Option R := fun a b => (isIn a b).map fun k => .d (.bl k)
def fNotIn : D → D → Option R := fun a b => (isIn a b).map fun k => .d (.bl (!k))
theorem in_core (hu : U X) {op : CmpOp} {g : Bool → Bool}
    (hL : ∀ (s : Shared) (u v : Value) (xs : List PyData) (d : PyData) (as bs : List Addr) (Q : Value → Shared → Prop), Reads s.heap v (.list xs) as → Reads s.heap u d bs → PyData.plainAll xs = true → d.plain = true → X.A.units + 1 + min (PyData.depthAll xs) d.depth < cLine →
      Q (.bool (g (xs.any fun y => PyData.eqv y d))) s → wpAny (model X.prog X.w) X.A (compareOp op u v) Q X.xe s)
    (hT : ∀ (s : Shared) (u v : Value) (xs : List PyData) (d : PyData) (as bs : List Addr) (Q : Value → Shared → Prop), Reads s.heap v (.tuple xs) as → Reads s.heap u d bs → PyData.plainAll xs = true → d.plain = true → X.A.units + 1 + min (PyData.depthAll xs) d.depth < cLine →
      Q (.bool (g (xs.any fun y => PyData.eqv y d))) s → wpAny (model X.prog X.w) X.A (compareOp op u v) Q X.xe s)
    (hS : OpR X (compareOp op) (fun x y H Q => ∃ (c : Nat) (z : Str), x = .str ⟨#[c]⟩ ∧ y = .str z ∧ Q (.bl (g (decide (c ∈ z.cps.toList)))) H))
    (hD : ∀ (pins : List (Addr × Obj)) (s : Shared) (σ : L2.St) (H : Hp) (a : Addr) (y : V) (o : Option V) (u : Value) (Q : Value → Shared → Prop), Inv X pins σ H s → DGet H a y o → RelV y u → (∀ s', Inv X pins σ H s' → Q (.bool (g o.isSome)) s') →
      wpAny (model X.prog X.w) X.A (compareOp op u (.ref a)) Q X.xe s) : OpD X (compareOp op) (fun a b => (isIn a b).map fun k => .d (.bl (g k))) := by
  have h3 : X.A.units + 100 < cLine := hu
  intro pins s σ H x y v u Q I rx ry h
  obtain ⟨F, a, b, r, l, ra, rb, e, k⟩ := h
  have e : (isIn a b).map (fun k => R.d (D.bl (g k))) = some r := e
  cases ei : isIn a b with
  | none => rw [ei] at e; cases e
  | some m =>
    rw [ei] at e
    cases e
    have dct : (dget b a).map (·.isSome) = some m → wpAny (model X.prog X.w) X.A (compareOp op v u) (EP X pins σ Q) X.xe s := fun ei => by
      obtain ⟨o, eo, em⟩ := Option.map_eq_some_iff.mp ei
      obtain ⟨p, r, ey, g1, g2⟩ := dget_rd rb ra eo
      subst ey
      obtain rfl : u = Value.ref p := ry
      refine hD pins s σ H p x r v _ I g1 rx fun s' I' => ⟨.bl _, H, I', rfl, ?_⟩
      have er : r.isSome = m := by
        cases o with
        | none => have z : r = none := g2; subst z; exact em
        | some z => obtain ⟨w, z, _⟩ := g2; subst z; exact em
      rw [er]
      exact res_flat k rfl
    cases b with
    | lst ys =>
      have ei' : (if pl a = true ∧ pls ys = true ∧ (py a).depth ≤ 60 then some ((pys ys).any fun y => PyData.eqv y (py a)) else none) = some m := ei
      split at ei'
      · rename_i c
        cases ei'
        obtain ⟨as, r1⟩ := Dp.reads I (py a) x v (dp_rd l c.1 ra) rx
        obtain ⟨bs, r2⟩ := Dp.reads I (py (.lst ys)) y u (dp_rd l c.2.1 rb) ry
        refine hL s v u (pys ys) (py a) bs as _ r2 r1 (pys_plain ys c.2.1) (py_plain a c.1) ?_ ⟨.bl _, H, I, rfl, res_flat k rfl⟩
        have h1 := c.2.2
        have h2 : min (PyData.depthAll (pys ys)) (py a).depth ≤ (py a).depth := Nat.min_le_right _ _
        omega
      · cases ei'
    | tup ys =>
      have ei' : (if pl a = true ∧ pls ys = true ∧ (py a).depth ≤ 60 then some ((pys ys).any fun y => PyData.eqv y (py a)) else none) = some m := ei
      split at ei'
      · rename_i c
        cases ei'
        obtain ⟨as, r1⟩ := Dp.reads I (py a) x v (dp_rd l c.1 ra) rx
        obtain ⟨bs, r2⟩ := Dp.reads I (py (.tup ys)) y u (dp_rd l c.2.1 rb) ry
        refine hT s v u (pys ys) (py a) bs as _ r2 r1 (pys_plain ys c.2.1) (py_plain a c.1) ?_ ⟨.bl _, H, I, rfl, res_flat k rfl⟩
        have h1 := c.2.2
        have h2 : min (PyData.depthAll (pys ys)) (py a).depth ≤ (py a).depth := Nat.min_le_right _ _
        omega
      · cases ei'
    | str z =>
      have ei' : (match sign a with | some c => some (decide (c ∈ z.cps.toList)) | none => none) = some m := ei
      cases es : sign a with
      | none => rw [es] at ei'; cases ei'
      | some c =>
        rw [es] at ei'
        cases ei'
        exact hS pins s σ H x y v u Q I rx ry ⟨c, z, sign_rd ra es, rd_str rb, res_flat k rfl⟩
    | dk kvs => exact dct ei
    | dt kvs => exact dct ei
    | _ => cases ei
theorem op_in' (hu : U X) : OpD X (compareOp .In) fIn :=
  in_core (g := id) hu (fun s u v xs d as bs Q r1 r2 h1 h2 h3 q => SeqAt.in_list_data r1 r2 h1 h2 h3 q) (fun s u v xs d as bs Q r1 r2 h1 h2 h3 q => SeqAt.in_tuple_data r1 r2 h1 h2 h3 q) op_in_sign
    (fun pins s σ H a y o u Q I g ry h => d_in (by have h3 : X.A.units + 100 < cLine := hu; omega) I g ry h)
theorem op_notIn' (hu : U X) : OpD X (compareOp .NotIn) fNotIn :=
  in_core (g := not) hu (fun s u v xs d as bs Q r1 r2 h1 h2 h3 q => SeqAt.notIn_list_data r1 r2 h1 h2 h3 q) (fun s u v xs d as bs Q r1 r2 h1 h2 h3 q => SeqAt.notIn_tuple_data r1 r2 h1 h2 h3 q) op_notIn_sign
    (fun pins s σ H a y o u Q I g ry h => d_notIn (by have h3 : X.A.units + 100 < cLine := hu; omega) I g ry h)

/-! ### subscripts -/
theorem RepL.atI {mg : Mg} {F : Hp} {ds : List D} {vs : List V} {i : Int} {d : D} (h : RepL mg F ds vs) (e : L2.atI ds i = some d) : ∃ v, L2.atI vs i = some v ∧ RepD mg F d v := by
  unfold L2.atI at e ⊢
  rw [← h.length]
  cases ei : ixN ds.length i with
  | none => rw [ei] at e; cases e
  | some j =>
    rw [ei] at e
    exact h.get e
def fIx : D → D → Option R := fun a b => match a with
  | .lst xs => (match b with
    | .int i => (L2.atI xs i).map .d
    | _ => none)
  | .tup xs => (match b with
    | .int i => (L2.atI xs i).map .d
    | _ => none)
  | .str z => (match b with
    | .int i => if z.length ≤ lim then (L2.atI z.cps.toList i).map (fun c => .d (.str ⟨#[c]⟩)) else none
    | _ => none)
  | .dk kvs => (match dget (.dk kvs) b with
    | some (some x) => some (.d x)
    | _ => none)
  | .dt kvs => (match dget (.dt kvs) b with
    | some (some x) => some (.d x)
    | _ => none)
  | _ => none
theorem ix_dict (hu : U X) : IxR X (fun x y H Q => ∃ a v, x = .ref a ∧ DGet H a y (some v) ∧ Q v H) := by
  intro value slice pins s σ H x y v u Q I rx ry h hs
  obtain ⟨a, w, ex, g, q⟩ := h
  subst ex
  obtain rfl : v = Value.ref a := rx
  have h3 : X.A.units + 100 < cLine := hu
  exact PyProof.Rows.tail_any (dict_typeIs I g) PySem.F.slot_dict_getitem.lookup (d_getItem (by omega) I g ry fun w' s' I' rw' => ⟨w, H, I', rw', q⟩) hs
theorem op_ix' (hu : U X) : IxD X fIx := by
  intro value slice pins s σ H x y v u Q I rx ry h hs
  obtain ⟨F, a, b, r, l, ra, rb, e, k⟩ := h
  have dct : ∀ d : D, (match dget d b with | some (some x) => some (R.d x) | _ => none) = some r → RdD X.mg F H d x → wpAny (model X.prog X.w) X.A (subscriptTail value slice v u) (EP X pins σ Q) X.xe s := fun d e ra => by
    cases eo : dget d b with
    | none => rw [eo] at e; cases e
    | some o =>
      rw [eo] at e
      cases o with
      | none => cases e
      | some z =>
        cases e
        obtain ⟨p, r, ey, g1, w, er, g2⟩ := dget_rd ra rb eo
        subst er
        exact ix_dict hu value slice pins s σ H x y v u Q I rx ry ⟨p, w, ey, g1, res_same k g2⟩ hs
  cases a with
  | lst xs =>
    cases b with
    | int i =>
      have e' : (L2.atI xs i).map R.d = some r := e
      obtain ⟨d, e1, e2⟩ := Option.map_eq_some_iff.mp e'
      subst e2
      obtain ⟨p, vs, ex, hp, r1⟩ := rd_lst ra
      obtain ⟨w, e3, r2⟩ := r1.atI e1
      exact ix_list value slice pins s σ H x y v u Q I rx ry ⟨p, vs, i, w, ex, rd_int rb, .inl hp, e3, res_same k r2⟩ hs
    | _ => cases e
  | tup xs =>
    cases b with
    | int i =>
      have e' : (L2.atI xs i).map R.d = some r := e
      obtain ⟨d, e1, e2⟩ := Option.map_eq_some_iff.mp e'
      subst e2
      obtain ⟨p, vs, ex, hp, _, r1⟩ := rd_tup ra
      obtain ⟨w, e3, r2⟩ := r1.atI e1
      exact ix_tup value slice pins s σ H x y v u Q I rx ry ⟨p, vs, i, w, ex, rd_int rb, SqT.of hp, e3, res_same k r2⟩ hs
    | _ => cases e
  | str z =>
    cases b with
    | int i =>
      have e' : (if z.length ≤ lim then (L2.atI z.cps.toList i).map (fun c => R.d (.str ⟨#[c]⟩)) else none) = some r := e
      split at e'
      · rename_i c
        obtain ⟨d, e1, e2⟩ := Option.map_eq_some_iff.mp e'
        subst e2
        exact ix_str value slice pins s σ H x y v u Q I rx ry ⟨z, i, d, rd_str ra, rd_int rb, lim_line c, e1, res_flat k rfl⟩ hs
      · cases e'
    | _ => cases e
  | dk kvs => exact dct _ e ra
  | dt kvs => exact dct _ e ra
  | _ => cases e
end
end Sim

/-! Sim6: slices, boolean operators, conditional expressions, chains, displays. -/
namespace Sim
open PySem PySem.Spec PyProof.Rows L2

def relEq {α : Type} : Rel α α := fun _ _ _ _ _ a b => a = b
theorem back_eq {α : Type} : Back (relEq (α := α)) := fun _ _ _ _ _ _ _ _ _ h => h
section
variable {X : Cx} {W : WX}
/-! ### slices -/
def cO : Option (En → Out R) → En → Out (Option Int)
  | none, env => .ok none env
  | some c, env => (c env).bind fun r e => match r with
    | .d (.int i) => .ok (some i) e
    | _ => .stuck
structure SO (X : Cx) (W : WX) (e : Option Expr) (c : Option (En → Out R)) : Prop where
  po : PO X e (fun σ H Q => ∃ F env, FrS X.mg F env σ H ∧ GoodO X.mg W relEq Q F env σ H (cO c env))
theorem PO.imp {e : Option Expr} {t u : TO} (h : PO X e t) (k : ∀ σ H Q, u σ H Q → t σ H Q) : PO X e u := ⟨fun pins s σ H Q I q => h.run pins s σ H Q I (k σ H Q q)⟩
theorem so_none : SO X W none none := ⟨PO.imp po_none fun σ H Q ⟨F, env, f, g⟩ => g F H none f ExS.refl rfl⟩
theorem so_some {e : Expr} {c : En → Out R} (h : SE X W e c) : SO X W (some e) (some c) := by
  refine ⟨PO.imp (po_some h.pe) fun σ H Q ⟨F, env, f, g⟩ => ⟨F, env, f, GoodO.bind g fun r env1 F1 H1 v e1 f1 x1 r1 g1 => ?_⟩⟩
  cases r with
  | new x => exact False.elim g1
  | «at» i => exact False.elim g1
  | d x =>
    cases x with
    | int i =>
      rcases r1 with r1 | ⟨_, _, _, _, z⟩
      · cases r1; exact ⟨i, rfl, g1 F1 H1 (some i) f1 x1 rfl⟩
      · exact False.elim z
    | _ => exact False.elim g1
def cutL {α : Type} (xs : List α) (lo hi : Option Int) : List α := (xs.drop (HT.sIx xs.length 0 lo)).take (HT.sIx xs.length xs.length hi - HT.sIx xs.length 0 lo)
theorem RepL.cut {mg : Mg} {F : Hp} {ds : List D} {vs : List V} (h : RepL mg F ds vs) (lo hi : Option Int) : RepL mg F (cutL ds lo hi) (cutV vs lo hi) := by
  unfold cutL cutV
  rw [h.length]
  exact (h.drop _).take _
def fSl (x : D) (lo hi : Option Int) : Option R := match x with
  | .lst xs => some (.new (.lst (cutL xs lo hi)))
  | .tup xs => some (.d (.tup (cutL xs lo hi)))
  | .str z => if z.length ≤ lim then some (.d (.str (cutS z lo hi))) else none
  | _ => none
def rSlD (mg : Mg) : V → Option Int → Option Int → Hp → VK → Prop := fun x lo hi H Q => ∃ F dx r, Live F H ∧ RdD mg F H dx x ∧ fSl dx lo hi = some r ∧ ∀ F' H' v, Grow F H F' H' → relRes mg H F' H' r v → Q v H'
theorem sl_D : SlR X (rSlD X.mg) := by
  intro pins s σ H x v vl vu lo hi sl Q I rx ps pl pu h
  have key : (rSlL X.K x lo hi H Q ∨ rSlA X.K x lo hi H Q ∨ rSlS x lo hi H Q) := by
    obtain ⟨F, a, r, l, ra, e, k⟩ := h
    cases a with
    | lst xs =>
      cases e
      obtain ⟨p, vs, ex, hp, r1⟩ := rd_lst ra
      exact .inl ⟨p, vs, ex, .inl hp, fun q hq => res_new l k hq ⟨⟨_, rfl, r1.cut lo hi⟩, rfl⟩⟩
    | tup xs =>
      cases e
      obtain ⟨p, vs, ex, hp, fp, r1⟩ := rd_tup ra
      refine .inr (.inl ⟨p, vs, ex, SqT.of hp, fun z => ?_, fun _ q hq => res_fix l k hq ⟨_, rfl, r1.cut lo hi⟩⟩)
      have ec : cutL xs lo hi = xs := by
        unfold cutL
        rw [r1.length, z.1, z.2]
        rw [← r1.length, List.drop_zero, Nat.sub_zero, List.take_length]
      rw [ec] at k
      exact res_same k (.inr ⟨p, _, rfl, fp, vs, rfl, r1⟩)
    | str z =>
      have e' : (if z.length ≤ lim then some (R.d (.str (cutS z lo hi))) else none) = some r := e
      split at e'
      · rename_i c
        cases e'
        exact .inr (.inr ⟨z, rd_str ra, lim_line c, res_flat k rfl⟩)
      · cases e'
    | _ => cases e
  exact SlR.or sl_list (SlR.or sl_tupA sl_str) pins s σ H x v vl vu lo hi sl Q I rx ps pl pu key
def cSl (c : En → Out R) (lo hi : Option (En → Out R)) : En → Out R := fun env => (cP c env).bind fun p e1 => (cO lo e1).bind fun l e2 => (cO hi e2).bind fun u e3 => match look p e3 with
  | some x => (match fSl x l u with
    | some r => .ok r e3
    | none => .stuck)
  | none => .stuck
theorem se_slice {e : Expr} {lo hi : Option Expr} {c : En → Out R} {cl ch : Option (En → Out R)} {p2 pos : Pos} (he : SE X W e c) (hl : SO X W lo cl) (hh : SO X W hi ch) : SE X W (.Subscript e (.Slice lo hi none p2) pos) (cSl c cl ch) := by
  refine ⟨PE.imp (pe_slice sl_D (sp_of he).pe hl.po hh.po) fun σ H Q ⟨F, env, fr, g⟩ => ?_⟩
  refine ⟨F, env, fr, GoodO.bind g fun p env1 F1 H1 v e1 f1 x1 r1 g1 => ?_⟩
  refine ⟨F1, env1, f1, GoodO.bind (GoodO.shift back_R x1 g1) fun l env2 F2 H2 l' e2 f2 x2 r2 g2 => ?_⟩
  refine ⟨F2, env2, f2, GoodO.bind (GoodO.shift back_R x2 g2) fun u env3 F3 H3 u' e3 f3 x3 r3 g3 => ?_⟩
  cases r2
  cases r3
  cases l1 : look p env3 with
  | none => rw [l1] at g3; exact False.elim g3
  | some x =>
    rw [l1] at g3
    dsimp only at g3
    cases ef : fSl x l u with
    | none => rw [ef] at g3; exact False.elim g3
    | some r =>
      rw [ef] at g3
      refine ⟨F3, x, r, f3.live, look_rd f3 l1 (relP_on r1 (x2.le.trans x3.le)), ef, fun F' H' w gr rl => ?_⟩
      obtain ⟨f4, x4⟩ := f3.grow gr
      exact g3 F' H' w f4 (x3.trans x4) (back_R _ _ _ _ _ _ _ _ x3.live (res_rel f3 rl))

/-! ### tests -/
variable {a b c : Expr} {rest : List Expr} {ca cb cc : En → Out R} {ta tb : En → Out Bool} {pos : Pos}
structure SW (X : Cx) (W : WX) (e : Expr) (c : En → Out Bool) : Prop where
  pw : PW X e (tT X.mg W c)
theorem PW.imp {e : Expr} {t u : TT} (h : PW X e t) (k : ∀ σ H Q, u σ H Q → t σ H Q) : PW X e u := ⟨fun wh pins s σ H Q I q => h.run wh pins s σ H Q I (k σ H Q q)⟩
theorem SW.st {e : Expr} (h : SW X W e ta) : ST X W e ta := ⟨h.pw.pt⟩
def cAnd (ta tb : En → Out Bool) : En → Out Bool := fun env => (ta env).bind fun k e => if k = true then tb e else .ok false e
def cOr (ta tb : En → Out Bool) : En → Out Bool := fun env => (ta env).bind fun k e => if k = true then .ok true e else tb e
def cNot (ta : En → Out Bool) : En → Out Bool := fun env => (ta env).bind fun k e => .ok (!k) e
theorem sw_and1 (h : ST X W a ta) : SW X W (.BoolOp .And [a] pos) ta := ⟨pw_and1 h.pt⟩
theorem sw_or1 (h : ST X W a ta) : SW X W (.BoolOp .Or [a] pos) ta := ⟨pw_or1 h.pt⟩
theorem sw_and (h : ST X W a ta) (k : SW X W (.BoolOp .And (b :: rest) pos) tb) : SW X W (.BoolOp .And (a :: b :: rest) pos) (cAnd ta tb) := by
  refine ⟨PW.imp (pw_and h.pt k.pw) fun σ H Q ⟨F, env, fr, g⟩ => ?_⟩
  refine ⟨F, env, fr, GoodO.bind g fun m env1 F1 H1 m' e1 f1 x1 r1 g1 => ?_⟩
  cases r1
  cases m with
  | true => exact ⟨F1, env1, f1, GoodO.shift back_B x1 g1⟩
  | false => exact g1 F1 H1 false f1 x1 rfl
theorem sw_or (h : ST X W a ta) (k : SW X W (.BoolOp .Or (b :: rest) pos) tb) : SW X W (.BoolOp .Or (a :: b :: rest) pos) (cOr ta tb) := by
  refine ⟨PW.imp (pw_or h.pt k.pw) fun σ H Q ⟨F, env, fr, g⟩ => ?_⟩
  refine ⟨F, env, fr, GoodO.bind g fun m env1 F1 H1 m' e1 f1 x1 r1 g1 => ?_⟩
  cases r1
  cases m with
  | true => exact g1 F1 H1 true f1 x1 rfl
  | false => exact ⟨F1, env1, f1, GoodO.shift back_B x1 g1⟩
theorem st_not (h : ST X W a ta) : ST X W (.UnaryOp .Not a pos) (cNot ta) := by
  refine ⟨PT.imp (pt_not h.pt) fun σ H Q ⟨F, env, fr, g⟩ => ?_⟩
  refine ⟨F, env, fr, GoodO.bind g fun m env1 F1 H1 m' e1 f1 x1 r1 g1 => ?_⟩
  cases r1
  exact g1 F1 H1 (!m) f1 x1 rfl
/-! ### .. as values -/
def bval (r : R) : Option Bool := match r with
  | .d (.bl b) => some b
  | _ => none
def cAndV (ca cb : En → Out R) : En → Out R := fun env => (ca env).bind fun r e => match bval r with
  | some true => cb e
  | some false => .ok (.d (.bl false)) e
  | none => .stuck
def cOrV (ca cb : En → Out R) : En → Out R := fun env => (ca env).bind fun r e => match bval r with
  | some true => .ok (.d (.bl true)) e
  | some false => cb e
  | none => .stuck
def cNotV (ca : En → Out R) : En → Out R := fun env => (ca env).bind fun r e => match bval r with
  | some k => .ok (.d (.bl (!k))) e
  | none => .stuck
theorem bval_rel {mg : Mg} {H F' H' : Hp} {env : En} {σ : L2.St} {r : R} {v : V} {k : Bool} (e : bval r = some k) (h : relR mg H F' env σ H' r v) : v = .bl k := by
  cases r with
  | new x => cases e
  | «at» i => cases e
  | d x =>
    cases x with
    | bl b =>
      cases e
      rcases h with h | ⟨_, _, _, _, z⟩
      · cases h; rfl
      · exact z.elim
    | _ => cases e
theorem se_one {op : PySem.BoolOp} (h : SE X W a ca) : SE X W (.BoolOp op [a] pos) ca := ⟨pe_one h.pe⟩
theorem se_and (h : SE X W a ca) (k : SE X W (.BoolOp .And (b :: rest) pos) cb) : SE X W (.BoolOp .And (a :: b :: rest) pos) (cAndV ca cb) := by
  refine ⟨PE.imp (pe_and h.pe k.pe) fun σ H Q ⟨F, env, fr, g⟩ => ?_⟩
  refine ⟨F, env, fr, GoodO.bind g fun m env1 F1 H1 m' e1 f1 x1 r1 g1 => ?_⟩
  cases em : bval m with
  | none => rw [em] at g1; exact False.elim g1
  | some k =>
    rw [em] at g1
    refine ⟨k, bval_rel em r1, ?_⟩
    cases k with
    | true => exact ⟨F1, env1, f1, GoodO.shift back_R x1 g1⟩
    | false => exact g1 F1 H1 _ f1 x1 (.inl rfl)
theorem se_or (h : SE X W a ca) (k : SE X W (.BoolOp .Or (b :: rest) pos) cb) : SE X W (.BoolOp .Or (a :: b :: rest) pos) (cOrV ca cb) := by
  refine ⟨PE.imp (pe_or h.pe k.pe) fun σ H Q ⟨F, env, fr, g⟩ => ?_⟩
  refine ⟨F, env, fr, GoodO.bind g fun m env1 F1 H1 m' e1 f1 x1 r1 g1 => ?_⟩
  cases em : bval m with
  | none => rw [em] at g1; exact False.elim g1
  | some k =>
    rw [em] at g1
    refine ⟨k, bval_rel em r1, ?_⟩
    cases k with
    | true => exact g1 F1 H1 _ f1 x1 (.inl rfl)
    | false => exact ⟨F1, env1, f1, GoodO.shift back_R x1 g1⟩
theorem se_not (h : SE X W a ca) : SE X W (.UnaryOp .Not a pos) (cNotV ca) := by
  refine ⟨PE.imp (pe_not h.pe) fun σ H Q ⟨F, env, fr, g⟩ => ?_⟩
  refine ⟨F, env, fr, GoodO.bind g fun m env1 F1 H1 m' e1 f1 x1 r1 g1 => ?_⟩
  cases em : bval m with
  | none => rw [em] at g1; exact False.elim g1
  | some k =>
    rw [em] at g1
    exact ⟨k, bval_rel em r1, g1 F1 H1 _ f1 x1 (.inl rfl)⟩
/-- -n -/
def cNeg (ca : En → Out R) : En → Out R := fun env => (ca env).bind fun r e => match r with
  | .d (.int i) => .ok (.d (.int (-i))) e
  | _ => .stuck
theorem int_rel {mg : Mg} {H F' H' : Hp} {env : En} {σ : L2.St} {i : Int} {v : V} (h : relR mg H F' env σ H' (.d (.int i)) v) : v = .int i := by
  rcases h with h | ⟨_, _, _, _, z⟩
  · cases h; rfl
  · exact z.elim
theorem se_neg (h : SE X W a ca) : SE X W (.UnaryOp .USub a pos) (cNeg ca) := by
  refine ⟨PE.imp (pe_un un_neg h.pe) fun σ H Q ⟨F, env, fr, g⟩ => ?_⟩
  refine ⟨F, env, fr, GoodO.bind g fun m env1 F1 H1 m' e1 f1 x1 r1 g1 => ?_⟩
  cases m with
  | new x => exact False.elim g1
  | «at» i => exact False.elim g1
  | d x =>
    cases x with
    | int i => exact ⟨i, int_rel r1, g1 F1 H1 _ f1 x1 (.inl rfl)⟩
    | _ => exact False.elim g1
/-- a if t else b -/
def cIf (t : En → Out Bool) (ca cb : En → Out R) : En → Out R := fun env => (t env).bind fun k e => if k = true then ca e else cb e
theorem se_if (ht : ST X W c ta) (ha : SE X W a ca) (hb : SE X W b cb) : SE X W (.IfExp c a b pos) (cIf ta ca cb) := by
  refine ⟨PE.imp (pe_ifExp ht.pt ha.pe hb.pe) fun σ H Q ⟨F, env, fr, g⟩ => ?_⟩
  refine ⟨F, env, fr, GoodO.bind g fun m env1 F1 H1 m' e1 f1 x1 r1 g1 => ?_⟩
  cases r1
  cases m with
  | true => exact ⟨F1, env1, f1, GoodO.shift back_R x1 g1⟩
  | false => exact ⟨F1, env1, f1, GoodO.shift back_R x1 g1⟩
/-- a op b op' c -/
def cChain (f f' : D → D → Option R) (ca cb cc : En → Out R) : En → Out R := fun env => (cV ca env).bind fun x e1 => (cV cb e1).bind fun y e2 => match f x y with
  | some r => (match bval r with
    | some true => (cV cc e2).bind fun z e3 => (match f' y z with
      | some r => .ok r e3
      | none => .stuck)
    | some false => .ok (.d (.bl false)) e2
    | none => .stuck)
  | none => .stuck
theorem bval_res {mg : Mg} {F H F' H' : Hp} {r : R} {v : V} {k : Bool} (e : bval r = some k) (h : relRes mg H F' H' r v) : v = .bl k := by
  cases r with
  | new x => cases e
  | «at» i => cases e
  | d x =>
    cases x with
    | bl b =>
      cases e
      rcases h with h | ⟨_, _, _, _, z⟩
      · cases h; rfl
      · exact z.elim
    | _ => cases e
theorem chain_core {mg : Mg} {f f' : D → D → Option R} {ta tb tc : TE} (ha : ∀ σ H Q, tV mg W (cV ca) σ H Q → ta σ H Q) (hb : ∀ σ H Q, tV mg W (cV cb) σ H Q → tb σ H Q) (hc : ∀ σ H Q, tV mg W (cV cc) σ H Q → tc σ H Q) :
    ∀ σ H Q, tE mg W (cChain f f' ca cb cc) σ H Q → tChain (rD mg f) (rD mg f') ta tb tc σ H Q := by
  intro σ H Q ⟨F, env, fr, g⟩
  refine ha _ _ _ ⟨F, env, fr, GoodO.bind g fun x env1 F1 H1 v e1 f1 x1 r1 g1 => ?_⟩
  refine hb _ _ _ ⟨F1, env1, f1, GoodO.bind (GoodO.shift back_R x1 g1) fun y env2 F2 H2 u e2 f2 x2 r2 g2 => ?_⟩
  cases ef : f x y with
  | none => rw [ef] at g2; exact False.elim g2
  | some r =>
    rw [ef] at g2
    dsimp only at g2
    refine ⟨F2, x, y, r, f2.live, (r1.mono x2.le).rd f2.live, r2.rd f2.live, ef, fun F' H' w gr rl => ?_⟩
    obtain ⟨f3, x3⟩ := f2.grow gr
    cases eb : bval r with
    | none => rw [eb] at g2; exact False.elim g2
    | some k =>
      rw [eb] at g2
      refine ⟨k, bval_res (F := F2) eb rl, ?_⟩
      cases k with
      | false => exact g2 F' H' _ f3 (x2.trans x3) (.inl rfl)
      | true =>
        refine hc _ _ _ ⟨F', env2, f3, GoodO.bind (GoodO.shift back_R (x2.trans x3) g2) fun z env4 F4 H4 w4 e4 f4 x4 r4 g4 => ?_⟩
        cases ef' : f' y z with
        | none => rw [ef'] at g4; exact False.elim g4
        | some r' =>
          rw [ef'] at g4
          refine ⟨F4, y, z, r', f4.live, (RepD.mono (x3.le.trans x4.le) r2).rd f4.live, r4.rd f4.live, ef', fun F5 H5 w5 gr5 rl5 => ?_⟩
          obtain ⟨f6, x6⟩ := f4.grow gr5
          exact g4 F5 H5 w5 f6 (x4.trans x6) (back_R _ _ _ _ _ _ _ _ x4.live (res_rel f4 rl5))
theorem se_chain {op op' : CmpOp} {f f' : D → D → Option R} (ho : OpD X (compareOp op) f) (ho' : OpD X (compareOp op') f') (ha : SE X W a ca) (hb : SE X W b cb) (hc : SE X W c cc) (hm : lastMarks [op, op'] [b, c] = false := by with_unfolding_all rfl) :
    SE X W (.Compare a [op, op'] [b, c] pos) (cChain f f' ca cb cc) :=
  ⟨PE.imp (pe_chain ho ho' (sv_of ha).pe (sv_of hb).pe (sv_of hc).pe hm) (chain_core (fun _ _ _ q => q) (fun _ _ _ q => q) fun _ _ _ q => q)⟩
theorem st_chain {op op' : CmpOp} {f f' : D → D → Option R} (ho : OpD X (compareOp op) f) (ho' : OpD X (compareOp op') f') (ha : SE X W a ca) (hb : SE X W b cb) (hc : SE X W c cc) (hm : lastMarks [op, op'] [b, c] = false := by with_unfolding_all rfl) :
    ST X W (.Compare a [op, op'] [b, c] pos) (cB (cChain f f' ca cb cc)) :=
  ⟨PT.imp (pt_chain ho ho' (sv_of ha).pe (sv_of hb).pe (sv_of hc).pe hm) (tB_core (chain_core (fun _ _ _ q => q) (fun _ _ _ q => q) fun _ _ _ q => q))⟩
/-! ### argument lists, displays -/
def cA : List (En → Out R) → En → Out (List D)
  | [], env => .ok [] env
  | c :: cs, env => (cV c env).bind fun x e => (cA cs e).bind fun xs e2 => .ok (x :: xs) e2
def relL (mg : Mg) : Rel (List D) (List V) := fun _ F' _ _ _ xs vs => RepL mg F' xs vs
theorem back_L {mg : Mg} : Back (relL mg) := fun _ _ _ _ _ _ _ _ _ h => h
structure SA (X : Cx) (W : WX) (es : List Expr) (cs : List (En → Out R)) : Prop where
  pa : PA X es (fun σ H Q => ∃ F env, FrS X.mg F env σ H ∧ GoodO X.mg W (relL X.mg) Q F env σ H (cA cs env))
theorem PA.imp {es : List Expr} {t u : TA} (h : PA X es t) (k : ∀ σ H Q, u σ H Q → t σ H Q) : PA X es u := ⟨fun pos pins s σ H Q I q => h.run pos pins s σ H Q I (k σ H Q q)⟩
theorem sa_nil : SA X W [] [] := ⟨PA.imp pa_nil fun σ H Q ⟨F, env, fr, g⟩ => g F H [] fr ExS.refl RepL.nil⟩
theorem sa_cons {es : List Expr} {cs : List (En → Out R)} (h : SE X W a ca) (t : SA X W es cs) (hs : starEach (a :: es) X.env = (false, eval a X.env) :: starEach es X.env := by rfl) : SA X W (a :: es) (ca :: cs) := by
  refine ⟨PA.imp (pa_cons (sv_of h).pe t.pa hs) fun σ H Q ⟨F, env, fr, g⟩ => ?_⟩
  refine ⟨F, env, fr, GoodO.bind g fun x env1 F1 H1 v e1 f1 x1 r1 g1 => ?_⟩
  refine ⟨F1, env1, f1, GoodO.bind (GoodO.shift back_L x1 g1) fun xs env2 F2 H2 vs e2 f2 x2 r2 g2 => ?_⟩
  exact g2 F2 H2 _ f2 x2 (RepL.cons (r1.mono x2.le) r2)
def cTup (cs : List (En → Out R)) : En → Out R := fun env => (cA cs env).bind fun xs e => if xs.length ≤ lim then .ok (.d (.tup xs)) e else .stuck
def cLst (cs : List (En → Out R)) : En → Out R := fun env => (cA cs env).bind fun xs e => if xs.length ≤ lim then .ok (.new (.lst xs)) e else .stuck
theorem se_tup {es : List Expr} {cs : List (En → Out R)} {k : Nat} (h : SA X W es cs) : SE X W (.Tuple es k pos) (cTup cs) := by
  refine ⟨PE.imp (pe_tup h.pa) fun σ H Q ⟨F, env, fr, g⟩ => ?_⟩
  refine ⟨F, env, fr, GoodO.bind g fun xs env1 F1 H1 vs e1 f1 x1 r1 g1 => ?_⟩
  split at g1
  · rename_i c
    refine ⟨by rw [← r1.length]; exact lim_line c, fun p hp => ?_⟩
    obtain ⟨f2, x2⟩ := f1.grow (.inr (.inl ⟨p, .tup vs, hp, rfl, .inr rfl⟩))
    exact g1 _ _ _ f2 (x1.trans x2) (.inr ⟨p, _, rfl, upd_same, vs, rfl, RepL.mono (LeF.upd (f1.live.no hp)) _ _ r1⟩)
  · exact False.elim g1
theorem new_rel {mg : Mg} {H0 F H : Hp} {env : En} {σ : L2.St} {p : Addr} {o : HO} {x : D} (f : FrS mg F env σ H) (l : ∀ a o, H0 a = some o → ∃ o', H a = some o') (hp : H p = none) (r : RepM mg F x o) : relR mg H0 F env σ (upd H p o) (.new x) (.ref p) :=
  back_R _ _ _ _ _ _ _ _ l (res_rel f (show relRes mg H F (upd H p o) (.new x) (.ref p) from ⟨p, o, rfl, hp, f.live.no hp, upd_same, r⟩))
theorem se_lst {es : List Expr} {cs : List (En → Out R)} (h : SA X W es cs) : SE X W (.List es pos) (cLst cs) := by
  refine ⟨PE.imp (pe_lst h.pa) fun σ H Q ⟨F, env, fr, g⟩ => ?_⟩
  refine ⟨F, env, fr, GoodO.bind g fun xs env1 F1 H1 vs e1 f1 x1 r1 g1 => ?_⟩
  split at g1
  · rename_i c
    refine ⟨by rw [← r1.length]; exact lim_line c, fun p hp => ?_⟩
    obtain ⟨f2, x2⟩ := f1.grow (.inr (.inl ⟨p, .lst vs, hp, rfl, .inl rfl⟩))
    exact g1 _ _ _ f2 (x1.trans x2) (new_rel f1 x1.live hp ⟨⟨vs, rfl, r1⟩, rfl⟩)
  · exact False.elim g1
/-- {} (keys ints, texts | keys tuples) -/
theorem se_dnewK : SE X W (.Dict [] [] pos) (fun env => .ok (.new (.dk [])) env) := by
  refine ⟨PE.imp pe_dnewK fun σ H Q ⟨F, env, fr, g⟩ p hp => ?_⟩
  obtain ⟨f2, x2⟩ := fr.grow (.inr (.inl ⟨p, .dK [], hp, rfl, .inl rfl⟩))
  exact g _ _ _ f2 x2 (new_rel fr (fun _ _ h => ⟨_, h⟩) hp ⟨⟨[], rfl, rfl⟩, rfl⟩)
theorem se_dnewT : SE X W (.Dict [] [] pos) (fun env => .ok (.new (.dt [])) env) := by
  refine ⟨PE.imp pe_dnewT fun σ H Q ⟨F, env, fr, g⟩ p hp => ?_⟩
  obtain ⟨f2, x2⟩ := fr.grow (.inr (.inl ⟨p, .dT [], hp, rfl, .inl rfl⟩))
  exact g _ _ _ f2 x2 (new_rel fr (fun _ _ h => ⟨_, h⟩) hp ⟨⟨[], rfl, rfl⟩, rfl⟩)
end
end Sim

/-! Sim7: statements, stores. -/
namespace Sim
open PySem PySem.Spec PyProof.Rows L2

inductive OutS where
  | next (e : En) | ret (r : R) (e : En) | brk (e : En) | cont (e : En)
  | err (x : Str) (fs : List (Str × D)) (e : En)
  | stuck
def GoodS (mg : Mg) (W : WX) (D' : Ends) (F : Hp) (env : En) (σ : L2.St) (H : Hp) : OutS → Prop
  | .next env' => ∀ F' σ' H', FrS mg F' env' σ' H' → ExS F env σ H F' env' σ' H' → D'.nx σ' H'
  | .brk env' => ∀ F' σ' H', FrS mg F' env' σ' H' → ExS F env σ H F' env' σ' H' → D'.bk σ' H'
  | .cont env' => ∀ F' σ' H', FrS mg F' env' σ' H' → ExS F env σ H F' env' σ' H' → D'.ct σ' H'
  | .ret r env' => ∀ F' σ' H' v, FrS mg F' env' σ' H' → ExS F env σ H F' env' σ' H' → relR mg H F' env' σ' H' r v → D'.rt v H'
  | .err x fs env' => ∀ F' σ' H' c d, FrS mg F' env' σ' H' → ExS F env σ H F' env' σ' H' → ErrAt mg F' H' x fs c d → W c d σ' H'
  | .stuck => False
def tS (mg : Mg) (W : WX) (c : En → OutS) : TS := fun D' σ H => ∃ F env, FrS mg F env σ H ∧ GoodS mg W D' F env σ H (c env)
structure SS (X : Cx) (W : WX) (st : Stmt) (c : En → OutS) : Prop where
  ps : PS X st (tS X.mg W c)
structure SB (X : Cx) (W : WX) (sts : List Stmt) (c : En → OutS) : Prop where
  pss : PSs X sts (tS X.mg W c)
/-- an expression's outcome, then what is done with it -/
def Out.then {α : Type} : Out α → (α → En → OutS) → OutS
  | .ok a e, f => f a e
  | .err x fs e, _ => .err x fs e
  | .stuck, _ => .stuck
section
variable {mg : Mg} {W : WX} {F F' F1 : Hp} {env env' env1 : En} {σ σ' σ1 : L2.St} {H H' H1 : Hp} {α β : Type} {D' : Ends}
theorem GoodS.shift {o : OutS} (x : ExS F env σ H F1 env1 σ1 H1) (h : GoodS mg W D' F env σ H o) : GoodS mg W D' F1 env1 σ1 H1 o := by
  cases o with
  | next e => exact fun F' σ' H' f y => h F' σ' H' f (x.trans y)
  | brk e => exact fun F' σ' H' f y => h F' σ' H' f (x.trans y)
  | cont e => exact fun F' σ' H' f y => h F' σ' H' f (x.trans y)
  | ret r e => exact fun F' σ' H' v f y q => h F' σ' H' v f (x.trans y) (back_R _ _ _ _ _ _ _ _ x.live q)
  | err n fs e => exact fun F' σ' H' c d f y q => h F' σ' H' c d f (x.trans y) q
  | stuck => exact h
theorem GoodS.then {rel1 : Rel α β} {Q1 : β → Hp → Prop} {oa : Out α} {f : α → En → OutS} (h : GoodS mg W D' F env σ H (oa.then f))
    (k : ∀ a env1 F1 H1 b, oa = .ok a env1 → FrS mg F1 env1 σ H1 → ExS F env σ H F1 env1 σ H1 → rel1 H F1 env1 σ H1 a b → GoodS mg W D' F env σ H (f a env1) → Q1 b H1) : GoodO mg W rel1 Q1 F env σ H oa := by
  cases oa with
  | ok a e => exact fun F1 H1 b fr x r => k a e F1 H1 b rfl fr x r h
  | err n fs e => exact fun F' H' c d f y q => h F' σ H' c d f y q
  | stuck => exact h
/-! ### stores -/
theorem nth_set {α : Type} {l : List α} {i j : Nat} {x y : α} (h : (l.set i x)[j]? = some y) : (i = j ∧ y = x) ∨ (i ≠ j ∧ l[j]? = some y) := by
  by_cases e : i = j
  · subst e
    by_cases hl : i < l.length
    · simp [hl] at h; exact .inl ⟨rfl, h.symm⟩
    · rw [List.getElem?_eq_none (by simp; omega)] at h; cases h
  · rw [List.getElem?_set_ne e] at h; exact .inr ⟨e, h⟩
theorem nth_set_self {α : Type} {l : List α} {i : Nat} {x : α} (h : i < l.length) : (l.set i x)[i]? = some x := by simp [h]
theorem FrS.put {i : Nat} {x : D} {v : V} (f : FrS mg F env σ H) (r : RepD mg F x v) : FrS mg F (env.set i (.d x)) (σ.set i (some v)) H := by
  refine ⟨f.live, by simpa using f.len, fun j y e => ?_, fun j s y e m => ?_, fun j k s t a ej ek hs ht q1 q2 => ?_⟩
  · rcases nth_set e with ⟨rfl, e1⟩ | ⟨ne, e1⟩
    · cases e1
      have hl := (List.getElem?_eq_some_iff.mp e).1
      exact ⟨v, nth_set_self (by rw [← f.len]; simpa using hl), r⟩
    · obtain ⟨w, q1, q2⟩ := f.val j y e1
      exact ⟨w, by rw [List.getElem?_set_ne ne]; exact q1, q2⟩
  · rcases nth_set e with ⟨rfl, e1⟩ | ⟨ne, e1⟩
    · cases e1; cases m
    · obtain ⟨a, o, q1, q2⟩ := f.mt j s y e1 m
      exact ⟨a, o, by rw [List.getElem?_set_ne ne]; exact q1, q2⟩
  · rcases nth_set ej with ⟨rfl, e1⟩ | ⟨ne, e1⟩
    · cases e1; cases hs
    · rcases nth_set ek with ⟨rfl, e2⟩ | ⟨ne2, e2⟩
      · cases e2; cases ht
      · rw [List.getElem?_set_ne ne] at q1
        rw [List.getElem?_set_ne ne2] at q2
        exact f.dis j k s t a e1 e2 hs ht q1 q2
theorem owns_put {i : Nat} {s : Sl} {v : V} {a : Addr} (h : Owns (env.set i s) (σ.set i (some v)) a) : (s.mut.isSome = true ∧ v = .ref a) ∨ Owns env σ a := by
  obtain ⟨j, t, e, m, q⟩ := h
  rcases nth_set e with ⟨rfl, e1⟩ | ⟨ne, e1⟩
  · subst e1
    rcases nth_set q with ⟨_, q1⟩ | ⟨ne, _⟩
    · cases q1; exact .inl ⟨m, rfl⟩
    · exact absurd rfl ne
  · rw [List.getElem?_set_ne ne] at q
    exact .inr ⟨j, t, e1, m, q⟩
theorem ExS.put {i : Nat} {s t : Sl} {v : V} {env0 : En} {σ0 : L2.St} {H0 F0 : Hp} (x : ExS F0 env0 σ0 H0 F env σ H) (e : env[i]? = some t) (ht : ∀ y, t ≠ .ref y) (hn : s.mut.isSome = true → ∀ a, v = .ref a → H0 a = none) : ExS F0 env0 σ0 H0 F (env.set i s) (σ.set i (some v)) H := by
  refine ⟨x.le, x.keep, x.live, x.nofr, fun a q => ?_, fun j y q => ?_⟩
  · rcases owns_put q with ⟨m, e1⟩ | q
    · exact .inr (hn m a e1)
    · exact x.own a q
  · obtain ⟨y', q1, q2⟩ := x.refs j y q
    have ne : i ≠ j := fun z => by
      subst z
      rw [e] at q1
      cases q1
      exact ht y' rfl
    exact ⟨y', by rw [List.getElem?_set_ne ne]; exact q1, by rw [List.getElem?_set_ne ne]; exact q2⟩
theorem FrS.putOwn {i : Nat} {x : D} {a : Addr} {o : HO} (f : FrS mg F env σ H) (hF : F a = none) (hH : H a = some o) (r : RepM mg F x o) (no : ¬ Owns env σ a) : FrS mg F (env.set i (.own x)) (σ.set i (some (.ref a))) H := by
  refine ⟨f.live, by simpa using f.len, fun j y e => ?_, fun j s y e m => ?_, fun j k s t b ej ek hs ht q1 q2 => ?_⟩
  · rcases nth_set e with ⟨rfl, e1⟩ | ⟨ne, e1⟩
    · cases e1
    · obtain ⟨w, q1, q2⟩ := f.val j y e1
      exact ⟨w, by rw [List.getElem?_set_ne ne]; exact q1, q2⟩
  · rcases nth_set e with ⟨rfl, e1⟩ | ⟨ne, e1⟩
    · subst e1
      cases m
      have hl := (List.getElem?_eq_some_iff.mp e).1
      exact ⟨a, o, nth_set_self (by rw [← f.len]; simpa using hl), hF, hH, r⟩
    · obtain ⟨a', o', q1, q2⟩ := f.mt j s y e1 m
      exact ⟨a', o', by rw [List.getElem?_set_ne ne]; exact q1, q2⟩
  · rcases nth_set ej with ⟨rfl, e1⟩ | ⟨ne, e1⟩
    · rcases nth_set q1 with ⟨_, q1⟩ | ⟨z, _⟩
      · cases q1
        rcases nth_set ek with ⟨rfl, e2⟩ | ⟨ne2, e2⟩
        · rfl
        · rw [List.getElem?_set_ne ne2] at q2
          exact absurd ⟨k, t, e2, ht, q2⟩ no
      · exact absurd rfl z
    · rw [List.getElem?_set_ne ne] at q1
      rcases nth_set ek with ⟨rfl, e2⟩ | ⟨ne2, e2⟩
      · rcases nth_set q2 with ⟨_, q2⟩ | ⟨z, _⟩
        · cases q2
          exact absurd ⟨j, s, e1, hs, q1⟩ no
        · exact absurd rfl z
      · rw [List.getElem?_set_ne ne2] at q2
        exact f.dis j k s t b e1 e2 hs ht q1 q2
/-- the object of a slot changes -/
def Sl.with (s : Sl) (x : D) : Sl := match s with
  | .own _ => .own x | .ref _ => .ref x | .no => .no | .d _ => .d x
theorem Sl.with_mut {s : Sl} {x y : D} (h : s.mut = some y) : (s.with x).mut = some x := by
  cases s <;> first | rfl | cases h
theorem FrS.write {i : Nat} {s : Sl} {x y : D} {a : Addr} {o : HO} (f : FrS mg F env σ H) (e : env[i]? = some s) (m : s.mut = some y) (ea : σ[i]? = some (some (.ref a))) (r : RepM mg F x o) : FrS mg F (env.set i (s.with x)) σ (upd H a o) := by
  obtain ⟨a', o', q1, hF, hH, _⟩ := f.mt i s y e m
  rw [ea] at q1
  cases q1
  have hs : s.mut.isSome = true := by rw [m]; rfl
  have ms := Sl.with_mut (x := x) m
  refine ⟨fun b u q => ?_, by simpa using f.len, fun j z ej => ?_, fun j t z ej mj => ?_, fun j k t u b ej ek ht hu q1 q2 => ?_⟩
  · have ne : b ≠ a := ne_of_none q hF
    rw [upd_ne ne]; exact f.live b u q
  · rcases nth_set ej with ⟨rfl, e1⟩ | ⟨ne, e1⟩
    · rw [← e1] at ms; cases ms
    · exact f.val j z e1
  · rcases nth_set ej with ⟨rfl, e1⟩ | ⟨ne, e1⟩
    · rw [e1, ms] at mj
      cases mj
      exact ⟨a, o, ea, hF, upd_same, r⟩
    · obtain ⟨b, u, q1, q2, q3, q4⟩ := f.mt j t z e1 mj
      have nb : b ≠ a := fun w => by
        subst w
        exact ne (f.dis i j s t b e e1 hs (by rw [mj]; rfl) ea q1)
      exact ⟨b, u, q1, q2, by rw [upd_ne nb]; exact q3, q4⟩
  · have back : ∀ {j : Nat} {t : Sl}, (env.set i (s.with x))[j]? = some t → t.mut.isSome = true → ∃ t', env[j]? = some t' ∧ t'.mut.isSome = true := fun {j t} ej ht => by
      rcases nth_set ej with ⟨rfl, e1⟩ | ⟨ne, e1⟩
      · exact ⟨s, e, hs⟩
      · exact ⟨t, e1, ht⟩
    obtain ⟨t', e1, h1⟩ := back ej ht
    obtain ⟨u', e2, h2⟩ := back ek hu
    exact f.dis j k t' u' b e1 e2 h1 h2 q1 q2
theorem owns_with {i : Nat} {s : Sl} {x y : D} (e : env[i]? = some s) (m : s.mut = some y) {b : Addr} (h : Owns (env.set i (s.with x)) σ b) : Owns env σ b := by
  obtain ⟨j, t, ej, ht, q⟩ := h
  rcases nth_set ej with ⟨rfl, e1⟩ | ⟨ne, e1⟩
  · exact ⟨i, s, e, by rw [m]; rfl, q⟩
  · exact ⟨j, t, e1, ht, q⟩
theorem ExS.write {i : Nat} {s : Sl} {x y : D} {a : Addr} {o : HO} {env0 : En} {σ0 : L2.St} {H0 F0 : Hp} (z : ExS F0 env0 σ0 H0 F env σ H) (e : env[i]? = some s) (m : s.mut = some y) (ea : σ[i]? = some (some (.ref a))) :
    ExS F0 env0 σ0 H0 F (env.set i (s.with x)) σ (upd H a o) := by
  have ow : Owns env σ a := ⟨i, s, e, by rw [m]; rfl, ea⟩
  refine ⟨z.le, fun b u q no => ?_, fun b u q => ?_, z.nofr, fun b q => z.own b (owns_with e m q), fun j w q => ?_⟩
  · have nb : b ≠ a := fun w => by
      subst w
      rcases z.own b ow with w | w
      · exact no w
      · rw [w] at q; cases q
    rw [upd_ne nb]; exact z.keep b u q no
  · obtain ⟨u', q'⟩ := z.live b u q
    by_cases hb : b = a
    · subst hb; exact ⟨o, upd_same⟩
    · exact ⟨u', by rw [upd_ne hb]; exact q'⟩
  · obtain ⟨w', q1, q2⟩ := z.refs j w q
    by_cases hj : i = j
    · subst hj
      rw [e] at q1
      cases q1
      exact ⟨x, get_set_self e, q2⟩
    · exact ⟨w', by rw [get_set_ne hj]; exact q1, q2⟩
end

/-! ### blocks -/
section
variable {X : Cx} {W : WX} {st : Stmt} {rest : List Stmt} {e : Expr} {c ce : En → Out R} {t : En → Out Bool} {s s1 s2 : En → OutS} {pos : Pos}
def sSeq (a b : En → OutS) : En → OutS := fun env => match a env with
  | .next e => b e
  | o => o
def sNext : En → OutS := fun env => .next env
theorem sb_nil : SB X W [] sNext := ⟨PSs.imp pss_nil fun D' σ H ⟨F, env, f, g⟩ => g F σ H f ExS.refl⟩
theorem sb_one (h : SS X W st s) : SB X W [st] s := ⟨pss_one h.ps⟩
theorem good_nx {mg : Mg} {D1 D2 : Ends} {F env σ H} {o : OutS} (h : GoodS mg W D1 F env σ H o) (hn : ∀ e, o ≠ .next e) (e1 : D1.rt = D2.rt) (e2 : D1.bk = D2.bk) (e3 : D1.ct = D2.ct) : GoodS mg W D2 F env σ H o := by
  cases o with
  | next e => exact absurd rfl (hn e)
  | brk e => exact fun F' σ' H' f y => by rw [← e2]; exact h F' σ' H' f y
  | cont e => exact fun F' σ' H' f y => by rw [← e3]; exact h F' σ' H' f y
  | ret r e => exact fun F' σ' H' v f y q => by rw [← e1]; exact h F' σ' H' v f y q
  | err n fs e => exact h
  | stuck => exact h
theorem sb_cons (h : SS X W st s1) (k : SB X W rest s2) : SB X W (st :: rest) (sSeq s1 s2) := by
  refine ⟨PSs.imp (pss_cons h.ps k.pss) fun D' σ H ⟨F, env, f, g⟩ => ?_⟩
  refine ⟨F, env, f, ?_⟩
  unfold sSeq at g
  cases e : s1 env with
  | next env1 =>
    rw [e] at g
    exact fun F1 σ1 H1 f1 x1 => ⟨F1, env1, f1, GoodS.shift x1 g⟩
  | _ => rw [e] at g; exact good_nx g (fun _ z => nomatch z) rfl rfl rfl
def sIf (t : En → Out Bool) (a b : En → OutS) : En → OutS := fun env => (t env).then fun k e => if k = true then a e else b e
theorem ss_if {cnd : Expr} {a b : List Stmt} (ht : ST X W cnd t) (ha : SB X W a s1) (hb : SB X W b s2) : SS X W (.If cnd a b pos) (sIf t s1 s2) := by
  refine ⟨PS.imp (ps_if ht.pt ha.pss hb.pss) fun D' σ H ⟨F, env, f, g⟩ => ?_⟩
  refine ⟨F, env, f, GoodS.then g fun k env1 F1 H1 k' e1 f1 x1 r1 g1 => ?_⟩
  cases r1
  cases k with
  | true => exact ⟨F1, env1, f1, GoodS.shift x1 g1⟩
  | false => exact ⟨F1, env1, f1, GoodS.shift x1 g1⟩
def sRet (c : En → Out R) : En → OutS := fun env => (c env).then fun r e => .ret r e
theorem ss_ret (h : SE X W e c) : SS X W (.Return (some e) pos) (sRet c) := by
  refine ⟨PS.imp (ps_ret h.pe) fun D' σ H ⟨F, env, f, g⟩ => ?_⟩
  exact ⟨F, env, f, GoodS.then g fun r env1 F1 H1 v e1 f1 x1 r1 g1 => g1 F1 σ H1 v f1 x1 r1⟩
theorem ss_retN : SS X W (.Return none pos) (fun env => .ret (.d .non) env) := ⟨PS.imp ps_retN fun D' σ H ⟨F, env, f, g⟩ => g F σ H .non f ExS.refl (.inl rfl)⟩
theorem ss_pass : SS X W (.Pass pos) sNext := ⟨PS.imp ps_pass fun D' σ H ⟨F, env, f, g⟩ => g F σ H f ExS.refl⟩
theorem ss_break : SS X W (.Break pos) (fun env => .brk env) := ⟨PS.imp ps_break fun D' σ H ⟨F, env, f, g⟩ => g F σ H f ExS.refl⟩
theorem ss_continue : SS X W (.Continue pos) (fun env => .cont env) := ⟨PS.imp ps_continue fun D' σ H ⟨F, env, f, g⟩ => g F σ H f ExS.refl⟩
theorem ss_doc {x j pos'} : SS X W (.Expr (.Constant (.str x) j pos) pos') sNext := ⟨PS.imp ps_doc fun D' σ H ⟨F, env, f, g⟩ => g F σ H f ExS.refl⟩
def sDrop (c : En → Out R) : En → OutS := fun env => (c env).then fun _ e => .next e
theorem ss_expr (h : SE X W e c) (hs : swapsWith e none pos.line X.env = pure false := by rfl) : SS X W (.Expr e pos) (sDrop c) := by
  refine ⟨PS.imp (ps_expr h.pe hs) fun D' σ H ⟨F, env, f, g⟩ => ?_⟩
  exact ⟨F, env, f, GoodS.then g fun r env1 F1 H1 v e1 f1 x1 r1 g1 => g1 F1 σ H1 f1 x1⟩
/-- code that is not come to -/
theorem ss_never : SS X W st (fun _ => .stuck) := ⟨PS.imp ps_never fun D' σ H ⟨F, env, f, g⟩ => g⟩
/-! ### name = e -/
def isRef : Sl → Bool
  | .ref _ => true | _ => false
def store (i : Nat) (r : R) (env : En) : OutS := match env[i]? with
  | some s => if isRef s = true then .stuck else (match r with
    | .d x => .next (env.set i (.d x))
    | .new x => .next (env.set i (.own x))
    | .at j => (match settle (.at j) env with
      | .ok x e => .next (e.set i (.d x))
      | _ => .stuck))
  | none => .stuck
theorem store_good {mg : Mg} {D' : Ends} {i : Nat} {r : R} {v : V} {F F1 H H1 : Hp} {env env1 : En} {σ : L2.St} (f1 : FrS mg F1 env1 σ H1) (x1 : ExS F env σ H F1 env1 σ H1) (r1 : relR mg H F1 env1 σ H1 r v) (g : GoodS mg W D' F env σ H (store i r env1)) : D'.nx (σ.set i (some v)) H1 := by
  unfold store at g
  cases es : env1[i]? with
  | none => rw [es] at g; exact False.elim g
  | some s =>
    rw [es] at g
    dsimp only at g
    have nr : ∀ y, s = .ref y → isRef s = true := fun y z => by subst z; rfl
    split at g
    · exact False.elim g
    · rename_i hs
      have ht : ∀ y, s ≠ .ref y := fun y z => hs (nr y z)
      cases r with
      | d x => exact g F1 _ H1 (f1.put r1) (x1.put es ht fun z => nomatch z)
      | new x =>
        obtain ⟨a, o, rfl, n, hF, hH, rp, no⟩ := r1
        exact g F1 _ H1 (f1.putOwn hF hH rp no) (x1.put es ht fun _ b z => by cases z; exact n)
      | «at» j =>
        obtain ⟨e1, t, e2, m⟩ := r1
        dsimp only [settle] at g
        rw [e2] at g
        cases t with
        | no => cases m
        | d x => cases m
        | ref x => exact False.elim g
        | own x =>
          dsimp only at g
          obtain ⟨a, o, q1, n, q2, q3, ow⟩ := f1.own_at e2 rfl
          rw [e1] at q1
          cases q1
          have f2 := f1.freezeAt e2 e1 n q2 q3
          have x2 := x1.freezeAt (o := o) e2 e1 n
          have es2 : ∃ t, (env1.set j (.d x))[i]? = some t ∧ ∀ y, t ≠ .ref y := by
            by_cases hj : j = i
            · subst hj; exact ⟨_, get_set_self e2, fun y z => nomatch z⟩
            · exact ⟨s, by rw [get_set_ne hj]; exact es, ht⟩
          obtain ⟨t, es2, ht2⟩ := es2
          exact g _ _ H1 (f2.put (.inr ⟨a, o, rfl, upd_same, (q3.mono (LeF.upd n)).1⟩)) (x2.put es2 ht2 fun z => nomatch z)
def sSet (i : Nat) (c : En → Out R) : En → OutS := fun env => (c env).then fun r e => store i r e
theorem ss_set {i : Nat} {x : Str} {pos' : Pos} (hN : X.N.Nodup) (hi : X.N[i]? = some x) (hx : Loc X.env.scope x) (he : SE X W e c) (hs : swapsWith e (some (.Name x pos')) pos.line X.env = pure false := by rfl) (hf : X.fn x = true ∨ X.env.scope.names.lookup x = some .local := by first | exact .inl rfl | exact .inr rfl | assumption) :
    SS X W (.Assign [.Name x pos'] e pos) (sSet i c) := by
  refine ⟨PS.imp (ps_set hN hi hx he.pe hs hf) fun D' σ H ⟨F, env, f, g⟩ => ?_⟩
  exact ⟨F, env, f, GoodS.then g fun r env1 F1 H1 v e1 f1 x1 r1 g1 => store_good f1 x1 r1 g1⟩
/-! ### xs.append(e) -/
def mlst (s : Sl) : Option (List D) := match s.mut with
  | some (.lst ds) => some ds
  | _ => none
theorem mlst_mut {s : Sl} {ds : List D} (h : mlst s = some ds) : s.mut = some (.lst ds) := by
  unfold mlst at h
  cases e : s.mut with
  | none => rw [e] at h; cases h
  | some x => rw [e] at h; cases x <;> first | (cases h; rfl) | cases h
def cAppend (i : Nat) (c : En → Out R) : En → Out R := fun env => match env[i]?.bind mlst with
  | some _ => (cV c env).bind fun x e => (match e[i]? with
    | some s => (match mlst s with
      | some ds => if ds.length < lim then .ok (.d .non) (e.set i (s.with (.lst (ds ++ [x])))) else .stuck
      | none => .stuck)
    | none => .stuck)
  | none => .stuck
theorem slot_lst {mg : Mg} {F H : Hp} {env : En} {σ : L2.St} {i : Nat} {s : Sl} {ds : List D} (f : FrS mg F env σ H) (e : env[i]? = some s) (m : mlst s = some ds) : ∃ a vs, σ[i]? = some (some (.ref a)) ∧ H a = some (.lst vs) ∧ RepL mg F ds vs := by
  obtain ⟨a, o, e1, n, e2, q, _⟩ := f.own_at e (mlst_mut m)
  obtain ⟨⟨vs, eo, r⟩, _⟩ := q
  subst eo
  exact ⟨a, vs, e1, e2, r⟩
theorem se_append {i : Nat} {n : Str} {p apos : Pos} (hN : X.N[i]? = some n) (hv : Vis X.env.scope n) (he : SE X W e c) (hd : (n == ("__debug__" : Str)) = false := by decide) (hcd : (n == ("__classdict__" : Str)) = false := by decide)
    (hbase : attributeBase (.Name n p) "append" X.env (eval (.Name n p) X.env) = eval (.Name n p) X.env := by rfl)
    (hfew : ((backTo pos (starEach (e :: []) X.env)).all (fun x => !x.1) && (backToKw pos (keywordEach [] X.env)).all (fun x => x.1.isSome)
      && decide ((e :: []).length + ([] : List Keyword).length + (if ([] : List Keyword).isEmpty then 0 else 1) < 30)) = true := by rfl)
    (hline : (apos.endLine == pos.line) = true := by rfl) (hs : starEach (e :: []) X.env = (false, eval e X.env) :: starEach [] X.env := by rfl) (hplain : (backTo pos (starEach [] X.env)).any (·.1) = false := by rfl) :
    SE X W (.Call (.Attribute (.Name n p) "append" apos) [e] [] pos) (cAppend i c) := by
  refine ⟨PE.imp (pe_bm PySem.F.plainAttrs_list PySem.F.slot_list_append PySem.F.type_list_append mt_append (pe_var hN hv hd hcd) (pa_cons (sv_of he).pe pa_nil hs) hbase hfew hline hs hplain) fun σ H Q ⟨F, env, f, g⟩ => ?_⟩
  unfold cAppend at g
  cases es : env[i]? with
  | none => rw [es] at g; exact False.elim g
  | some s =>
    rw [es] at g
    cases em : mlst s with
    | none => rw [Option.bind_some, em] at g; exact False.elim g
    | some ds =>
      rw [Option.bind_some, em] at g
      dsimp only at g
      obtain ⟨a, vs, ea, hH, r⟩ := slot_lst f es em
      refine ⟨.ref a, ea, .inl ⟨rfl, vs, SqL.of hH⟩, F, env, f, GoodO.bind g fun x env1 F1 H1 v e1 f1 x1 r1 g1 => ?_⟩
      cases es1 : env1[i]? with
      | none => rw [es1] at g1; exact False.elim g1
      | some s1 =>
        rw [es1] at g1
        dsimp only at g1
        cases em1 : mlst s1 with
        | none => rw [em1] at g1; exact False.elim g1
        | some ds1 =>
          rw [em1] at g1
          dsimp only at g1
          split at g1
          · rename_i hl
            obtain ⟨a1, vs1, ea1, hH1, r2⟩ := slot_lst f1 es1 em1
            rw [ea] at ea1
            cases ea1
            refine ⟨a, vs1, v, rfl, rfl, hH1, by rw [← r2.length]; exact Nat.lt_of_lt_of_le hl (lim_line (Nat.le_refl _)), ?_⟩
            exact g1 F1 _ .non (f1.write es1 (mlst_mut em1) ea ⟨⟨_, rfl, r2.snoc r1⟩, rfl⟩) (x1.write es1 (mlst_mut em1) ea) (.inl rfl)
          · exact False.elim g1
end
end Sim

/-! Sim8: items stored, targets, for, while. -/
namespace Sim
open PySem PySem.Spec PyProof.Rows L2

theorem PS.or {X : Cx} {st : Stmt} {t u : TS} (h : PS X st t) (k : PS X st u) : PS X st (fun D σ H => t D σ H ∨ u D σ H) :=
  ⟨fun pins s σ H Q I q => q.elim (h.run pins s σ H Q I) (k.run pins s σ H Q I)⟩
theorem PI.or {X : Cx} {tg e : Expr} {t u : TI} (h : PI X tg e t) (k : PI X tg e u) : PI X tg e (fun σ H R => t σ H R ∨ u σ H R) :=
  ⟨fun pins s σ H Q I q => q.elim (h.run pins s σ H Q I) (k.run pins s σ H Q I)⟩
theorem PI.imp {X : Cx} {tg e : Expr} {t u : TI} (h : PI X tg e t) (k : ∀ σ H Q, u σ H Q → t σ H Q) : PI X tg e u := ⟨fun pins s σ H Q I q => h.run pins s σ H Q I (k σ H Q q)⟩
theorem PG.imp {X : Cx} {tg : Expr} {t u : TG} (h : PG X tg t) (k : ∀ v σ H Q, u v σ H Q → t v σ H Q) : PG X tg u := ⟨fun pins s σ H v w Q I r q => h.run pins s σ H v w Q I r (k v σ H Q q)⟩
theorem PGs.imp {X : Cx} {tg : List Expr} {t u : TGs} (h : PGs X tg t) (k : ∀ v σ H Q, u v σ H Q → t v σ H Q) : PGs X tg u := ⟨fun pins s σ H v w Q I r q => h.run pins s σ H v w Q I r (k v σ H Q q)⟩

/-! ### dicts written -/
def dput {κ : Type} [DecidableEq κ] (kvs : List (κ × D)) (k : κ) (x : D) : List (κ × D) :=
  if (kvs.any fun kv => decide (kv.1 = k)) = true then kvs.map (fun kv => if kv.1 = k then (kv.1, x) else kv) else kvs ++ [(k, x)]
section
variable {mg : Mg} {F : Hp}
theorem RepKK.length : ∀ {ds : List (Key × D)} {gs : List (Key × V)}, RepKK mg F ds gs → ds.length = gs.length
  | [], gs, h => by have e : gs = [] := h; subst e; rfl
  | p :: ds, gs, h => by obtain ⟨v, r, e, _, t⟩ := h; subst e; simp [RepKK.length t]
theorem RepKT.length : ∀ {ds : List (List Key × D)} {gs : List (List Key × V)}, RepKT mg F ds gs → ds.length = gs.length
  | [], gs, h => by have e : gs = [] := h; subst e; rfl
  | p :: ds, gs, h => by obtain ⟨v, r, e, _, t⟩ := h; subst e; simp [RepKT.length t]
theorem RepKK.any {ds : List (Key × D)} {gs : List (Key × V)} (k : Key) (h : RepKK mg F ds gs) : (ds.any fun kv => decide (kv.1 = k)) = (gs.any fun kv => decide (kv.1 = k)) := by
  induction ds generalizing gs with
  | nil => have e : gs = [] := h; subst e; rfl
  | cons p ds ih => obtain ⟨v, r, e, _, t⟩ := h; subst e; rw [List.any_cons, List.any_cons, ih t]
theorem RepKT.any {ds : List (List Key × D)} {gs : List (List Key × V)} (k : List Key) (h : RepKT mg F ds gs) : (ds.any fun kv => decide (kv.1 = k)) = (gs.any fun kv => decide (kv.1 = k)) := by
  induction ds generalizing gs with
  | nil => have e : gs = [] := h; subst e; rfl
  | cons p ds ih => obtain ⟨v, r, e, _, t⟩ := h; subst e; rw [List.any_cons, List.any_cons, ih t]
theorem RepKK.put {ds : List (Key × D)} {gs : List (Key × V)} {k : Key} {x : D} {v : V} (hx : RepD mg F x v) (h : RepKK mg F ds gs) : RepKK mg F (dput ds k x) (putK gs k v) := by
  unfold dput putK
  rw [h.any k]
  by_cases c : (gs.any fun kv => decide (kv.1 = k)) = true
  · rw [if_pos c, if_pos c]
    clear c
    induction ds generalizing gs with
    | nil => have e : gs = [] := h; subst e; rfl
    | cons p ds ih =>
      obtain ⟨w, r, e, q, t⟩ := h
      subst e
      by_cases hk : p.1 = k
      · simp only [List.map_cons, if_pos hk]
        exact ⟨v, _, rfl, hx, ih t⟩
      · simp only [List.map_cons, if_neg hk]
        exact ⟨w, _, rfl, q, ih t⟩
  · rw [if_neg c, if_neg c]
    clear c
    induction ds generalizing gs with
    | nil => have e : gs = [] := h; subst e; exact ⟨v, [], rfl, hx, rfl⟩
    | cons p ds ih =>
      obtain ⟨w, r, e, q, t⟩ := h
      subst e
      exact ⟨w, _, rfl, q, ih t⟩
theorem RepKT.put {ds : List (List Key × D)} {gs : List (List Key × V)} {k : List Key} {x : D} {v : V} (hx : RepD mg F x v) (h : RepKT mg F ds gs) : RepKT mg F (dput ds k x) (putK gs k v) := by
  unfold dput putK
  rw [h.any k]
  by_cases c : (gs.any fun kv => decide (kv.1 = k)) = true
  · rw [if_pos c, if_pos c]
    clear c
    induction ds generalizing gs with
    | nil => have e : gs = [] := h; subst e; rfl
    | cons p ds ih =>
      obtain ⟨w, r, e, q, t⟩ := h
      subst e
      by_cases hk : p.1 = k
      · simp only [List.map_cons, if_pos hk]
        exact ⟨v, _, rfl, hx, ih t⟩
      · simp only [List.map_cons, if_neg hk]
        exact ⟨w, _, rfl, q, ih t⟩
  · rw [if_neg c, if_neg c]
    clear c
    induction ds generalizing gs with
    | nil => have e : gs = [] := h; subst e; exact ⟨v, [], rfl, hx, rfl⟩
    | cons p ds ih =>
      obtain ⟨w, r, e, q, t⟩ := h
      subst e
      exact ⟨w, _, rfl, q, ih t⟩
end
/-- o[k] = x, by trees -/
def putD (o k x : D) : Option D := match o with
  | .lst ds => (match k with
    | .int i => (ixN ds.length i).map fun j => .lst (ds.set j x)
    | _ => none)
  | .dk kvs => (match keyOf k with
    | some k => if kvs.length < lim then some (.dk (dput kvs k x)) else none
    | none => none)
  | .dt kvs => (match k with
    | .tup ks => (match keysOf ks with
      | some k => if kvs.length < lim then some (.dt (dput kvs k x)) else none
      | none => none)
    | _ => none)
  | _ => none
theorem putD_tup {o k x d : D} (h : putD o k x = some d) : isTup d = false := by
  cases o with
  | lst ds =>
    cases k with
    | int i => obtain ⟨j, _, e⟩ := Option.map_eq_some_iff.mp (show (ixN ds.length i).map (fun j => D.lst (ds.set j x)) = some d from h); subst e; rfl
    | _ => cases h
  | dk kvs =>
    have h' : (match keyOf k with | some k => if kvs.length < lim then some (D.dk (dput kvs k x)) else none | none => none) = some d := h
    split at h'
    · split at h'
      · cases h'; rfl
      · cases h'
    · cases h'
  | dt kvs =>
    cases k with
    | tup ks =>
      have h' : (match keysOf ks with | some k => if kvs.length < lim then some (D.dt (dput kvs k x)) else none | none => none) = some d := h
      split at h'
      · split at h'
        · cases h'; rfl
        · cases h'
      · cases h'
    | _ => cases h
  | _ => cases h
def isLst : D → Bool
  | .lst _ => true | _ => false
section
variable {X : Cx} {W : WX} {e : Expr} {c ck : En → Out R} {pos : Pos}
/-- x[k] = e, x a slot that owns its list or dict -/
def sSetIx (i : Nat) (c ck : En → Out R) : En → OutS := fun env => (cV c env).then fun x e1 => match e1[i]?.bind Sl.mut with
  | none => .stuck
  | some _ => (cV ck e1).then fun k e2 => match e2[i]? with
    | some s => (match s.mut with
      | some o => (match putD o k x with
        | some o' => .next (e2.set i (s.with o'))
        | none => .stuck)
      | none => .stuck)
    | none => .stuck
theorem lt_lim {n : Nat} (h : n < lim) : n < sizeLine := Nat.lt_of_lt_of_le h (lim_line (Nat.le_refl _))
/-- what is stored where -/
def lstEnd (i : Nat) (c ck : En → Out R) (env : En) : Prop := ∃ x e1 k e2 s ds, cV c env = .ok x e1 ∧ cV ck e1 = .ok k e2 ∧ e2[i]? = some s ∧ s.mut = some (.lst ds)
theorem set_core {mg : Mg} {i : Nat} {D' : Ends} {F : Hp} {env : En} {σ : L2.St} {H : Hp} {te ti : TE} (he : ∀ σ H Q, tV mg W (cV c) σ H Q → te σ H Q) (hk : ∀ σ H Q, tV mg W (cV ck) σ H Q → ti σ H Q) (f : FrS mg F env σ H)
    (g : GoodS mg W D' F env σ H (sSetIx i c ck env)) {Z : V → V → V → Hp → (Hp → Prop) → Prop}
    (hz : ∀ s o k x o' a ov F H (v y : V) Q e1 e2, cV c env = .ok x e1 → cV ck e1 = .ok k e2 → e2[i]? = some s → s.mut = some o → putD o k x = some o' → Live F H → H a = some ov → RepM mg F o ov → RepD mg F x v → RepD mg F k y →
      (∀ on, RepO mg F o' on → Q (upd H a on)) → Z (.ref a) y v H Q) :
    te σ H fun v H1 => tVar i σ H1 fun x H2 => ti σ H2 fun y H3 => Z x y v H3 fun H4 => D'.nx σ H4 := by
  refine he _ _ _ ⟨F, env, f, GoodS.then g fun x env1 F1 H1 v e1 f1 x1 r1 g1 => ?_⟩
  cases eb : env1[i]?.bind Sl.mut with
  | none => rw [eb] at g1; exact False.elim g1
  | some o0 =>
    rw [eb] at g1
    dsimp only at g1
    obtain ⟨s0, es0, em0⟩ := Option.bind_eq_some_iff.mp eb
    obtain ⟨a, ov0, ea, _, _, _, _⟩ := f1.own_at es0 em0
    refine ⟨.ref a, ea, hk _ _ _ ⟨F1, env1, f1, GoodS.then (GoodS.shift x1 g1) fun k env2 F2 H2 y e2 f2 x2 r2 g2 => ?_⟩⟩
    cases es : env2[i]? with
    | none => rw [es] at g2; exact False.elim g2
    | some s =>
      rw [es] at g2
      dsimp only at g2
      cases em : s.mut with
      | none => rw [em] at g2; exact False.elim g2
      | some o =>
        rw [em] at g2
        dsimp only at g2
        cases ep : putD o k x with
        | none => rw [ep] at g2; exact False.elim g2
        | some o' =>
          rw [ep] at g2
          obtain ⟨a', ov, ea', hF, hH, rp, ow⟩ := f2.own_at es em
          rw [ea] at ea'
          cases ea'
          refine hz s o k x o' a ov F2 H2 v y _ _ _ e1 e2 es em ep f2.live hH rp (r1.mono x2.le) r2 fun on ro => ?_
          exact g2 F2 σ _ (f2.write es em ea ⟨ro, putD_tup ep⟩) (x2.write es em ea)
theorem ss_setIx {i : Nat} {n : Str} {p pos' : Pos} {k : Expr} (hu : U X) (hN : X.N[i]? = some n) (hv : Vis X.env.scope n) (he : SE X W e c) (hk : SE X W k ck) (hd : (n == ("__debug__" : Str)) = false := by decide) (hcd : (n == ("__classdict__" : Str)) = false := by decide)
    (hs : swapsWith e (some (.Subscript (.Name n p) k pos')) pos.line X.env = pure false := by rfl)
    (ha : ∀ v, assign (.Subscript (.Name n p) k pos') X.env v = (do
      let ov ← holding [v] (eval (.Name n p) X.env)
      let iv ← holding [v, ov] (eval k X.env)
      standAt pos'
      holding [v, ov, iv] (setItem ov iv v)
      release [v, ov, iv] []) := by intro _; rfl)
    (hs1 : swapsWithSole [.Subscript (.Name n p) k pos'] e pos.line X.env = pure false := by rfl) (hw : swappedStores [.Subscript (.Name n p) k pos'] e X.env = pure none := by rfl)
    (h1 : (assignEach [.Subscript (.Name n p) k pos'] X.env).map (·.2) = [assign (.Subscript (.Name n p) k pos') X.env] := by rfl) :
    SS X W (.Assign [.Subscript (.Name n p) k pos'] e pos) (sSetIx i c ck) := by
  have h3 : X.A.units + 100 < cLine := hu
  refine ⟨PS.imp (PS.or (ps_asg (sv_of he).pe (pg_sub (pe_var hN hv hd hcd) (sv_of hk).pe set_list ha) hs1 hw h1) (ps_dput (by omega) (pe_var hN hv hd hcd) (sv_of hk).pe (sv_of he).pe hs)) fun D' σ H ⟨F, env, f, g⟩ => ?_⟩
  by_cases hl : lstEnd i c ck env
  · obtain ⟨x0, e10, k0, e20, s0, ds0, q1, q2, q3, q4⟩ := hl
    refine .inl (set_core (fun _ _ _ q => q) (fun _ _ _ q => q) f g (Z := rSetL) fun s o k x o' a ov F H v y Q e1 e2 h1 h2 h3 h4 h5 l hH rp rx rk fin => ?_)
    rw [q1] at h1
    cases h1
    rw [q2] at h2
    cases h2
    rw [q3] at h3
    cases h3
    rw [q4] at h4
    cases h4
    obtain ⟨⟨vs, eo, r⟩, _⟩ := rp
    subst eo
    cases k0 with
    | int j =>
      obtain ⟨m, em, eo⟩ := Option.map_eq_some_iff.mp (show (ixN ds0.length j).map (fun j => D.lst (ds0.set j x0)) = some o' from h5)
      subst eo
      refine ⟨a, vs, j, m, rfl, key_v (k := .inl j) rk rfl, hH, by rw [← r.length]; exact em, fin _ ⟨_, rfl, r.set m rx⟩⟩
    | _ => cases h5
  · refine .inr ?_
    show sDPut _ _ _ _ _ _
    unfold sDPut
    refine set_core (fun _ _ _ q => q) (fun _ _ _ q => q) f g (Z := fun o y v H Q => ∃ a H4, o = .ref a ∧ DPut H a y v H4 ∧ Q H4) fun s o k x o' a ov F H v y Q e1 e2 h1 h2 h3 h4 h5 l hH rp rx rk fin => ?_
    cases o with
    | lst ds => exact absurd ⟨x, e1, k, e2, s, ds, h1, h2, h3, h4⟩ hl
    | dk kvs =>
      obtain ⟨⟨gs, eo, r⟩, _⟩ := rp
      subst eo
      have h5' : (match keyOf k with | some k => if kvs.length < lim then some (D.dk (dput kvs k x)) else none | none => none) = some o' := h5
      cases ek : keyOf k with
      | none => rw [ek] at h5'; cases h5'
      | some k' =>
        rw [ek] at h5'
        dsimp only at h5'
        split at h5'
        · rename_i hl
          cases h5'
          exact ⟨a, _, rfl, .inl ⟨gs, k', hH, key_v rk ek, by rw [← r.length]; exact lt_lim hl, rfl⟩, fin _ ⟨_, rfl, r.put rx⟩⟩
        · cases h5'
    | dt kvs =>
      obtain ⟨⟨gs, eo, r⟩, _⟩ := rp
      subst eo
      cases k with
      | tup ks =>
        have h5' : (match keysOf ks with | some k => if kvs.length < lim then some (D.dt (dput kvs k x)) else none | none => none) = some o' := h5
        cases ek : keysOf ks with
        | none => rw [ek] at h5'; cases h5'
        | some k' =>
          rw [ek] at h5'
          dsimp only at h5'
          split at h5'
          · rename_i hl
            cases h5'
            obtain ⟨b, vs, ey, hb, _, r2⟩ := rd_tup (rk.rd l)
            exact ⟨a, _, rfl, .inr ⟨gs, k', b, hH, ey, by rw [hb, keys_v r2 ek], by rw [← r.length]; exact lt_lim hl, rfl⟩, fin _ ⟨_, rfl, r.put rx⟩⟩
          · cases h5'
      | _ => cases h5
    | _ => cases h5
end
end Sim

/-! Sim9: targets, what is walked, for, while. -/
namespace Sim
open PySem PySem.Spec PyProof.Rows L2

section
variable {X : Cx} {W : WX} {e : Expr} {c ck : En → Out R} {pos : Pos}
/-! ### targets -/
def storeD (i : Nat) (x : D) (env : En) : Option En := match env[i]? with
  | some s => if isRef s = true then none else some (env.set i (.d x))
  | none => none
def storeDs : List Nat → List D → En → Option En
  | [], [], env => some env
  | i :: is, x :: xs, env => (storeD i x env).bind (storeDs is xs)
  | _, _, _ => none
def tG (mg : Mg) (k : D → En → Option En) (ks : List Nat) : TG := fun v σ H Q => ∃ F env x env', FrS mg F env σ H ∧ RepD mg F x v ∧ k x env = some env' ∧ ∀ σ', FrS mg F env' σ' H → ExS F env σ H F env' σ' H → (∀ i, i ∉ ks → σ'[i]? = σ[i]?) → Q σ' H
structure SG (X : Cx) (tg : Expr) (k : D → En → Option En) (ks : List Nat) : Prop where
  pg : PG X tg (tG X.mg k ks)
  len : ∀ x e e', k x e = some e' → e'.length = e.length
theorem storeD_len {i : Nat} {x : D} {e e' : En} (h : storeD i x e = some e') : e'.length = e.length := by
  unfold storeD at h
  cases es : e[i]? with
  | none => rw [es] at h; cases h
  | some s =>
    rw [es] at h
    dsimp only at h
    split at h
    · cases h
    · cases h; simp
theorem storeDs_lenE : ∀ {is : List Nat} {xs : List D} {env env' : En}, storeDs is xs env = some env' → env'.length = env.length
  | [], [], _, _, h => by cases h; rfl
  | i :: is, x :: xs, env, env', e => by
    obtain ⟨env1, e1, e2⟩ := Option.bind_eq_some_iff.mp (show (storeD i x env).bind (storeDs is xs) = some env' from e)
    rw [storeDs_lenE e2, storeD_len e1]
  | [], _ :: _, _, _, e => nomatch e
  | _ :: _, [], _, _, e => nomatch e
theorem storeD_ok {mg : Mg} {i : Nat} {F : Hp} {env env' : En} {σ : L2.St} {H : Hp} {x : D} {v : V} (f : FrS mg F env σ H) (r : RepD mg F x v) (e : storeD i x env = some env') :
    FrS mg F env' (σ.set i (some v)) H ∧ ExS F env σ H F env' (σ.set i (some v)) H := by
  unfold storeD at e
  cases es : env[i]? with
  | none => rw [es] at e; cases e
  | some s =>
    rw [es] at e
    dsimp only at e
    split at e
    · cases e
    · rename_i hs
      cases e
      exact ⟨f.put r, ExS.refl.put es (fun y z => hs (by subst z; rfl)) fun z => nomatch z⟩
theorem sg_name {i : Nat} {x : Str} (hN : X.N.Nodup) (hi : X.N[i]? = some x) (hx : Loc X.env.scope x) (hf : X.fn x = true ∨ X.env.scope.names.lookup x = some .local := by first | exact .inl rfl | exact .inr rfl | assumption) : SG X (.Name x pos) (storeD i) [i] := by
  refine ⟨PG.imp (pg_name hN hi hx hf) fun v σ H Q ⟨F, env, x, env', f, r, e, k⟩ => ?_, fun _ _ _ h => storeD_len h⟩
  obtain ⟨f2, x2⟩ := storeD_ok f r e
  exact k _ f2 x2 fun j hj => List.getElem?_set_ne (fun z => hj (by simp [z]))
structure SGs (X : Cx) (tg : List Expr) (is : List Nat) : Prop where
  pgs : PGs X tg (fun vs σ H Q => ∃ F env xs env', FrS X.mg F env σ H ∧ RepL X.mg F xs vs ∧ storeDs is xs env = some env' ∧ ∀ σ', FrS X.mg F env' σ' H → ExS F env σ H F env' σ' H → (∀ i, i ∉ is → σ'[i]? = σ[i]?) → Q σ' H)
theorem sgs_nil : SGs X [] [] := by
  refine ⟨PGs.imp pgs_nil fun vs σ H Q ⟨F, env, xs, env', f, r, e, k⟩ => ?_⟩
  cases xs with
  | nil => cases e; exact ⟨r, k σ f ExS.refl fun _ _ => rfl⟩
  | cons _ _ => cases e
theorem sgs_cons {i : Nat} {x : Str} {is : List Nat} {es : List Expr} (hN : X.N.Nodup) (hi : X.N[i]? = some x) (hx : Loc X.env.scope x) (t : SGs X es is) (hf : X.fn x = true ∨ X.env.scope.names.lookup x = some .local := by first | exact .inl rfl | exact .inr rfl | assumption)
    (hs : (assignEach (.Name x pos :: es) X.env).map (·.2) = assign (.Name x pos) X.env :: (assignEach es X.env).map (·.2) := by rfl) : SGs X (.Name x pos :: es) (i :: is) := by
  refine ⟨PGs.imp (pgs_cons (pg_name hN hi hx hf) t.pgs hs) fun vs σ H Q ⟨F, env, xs, env', f, r, e, k⟩ => ?_⟩
  cases xs with
  | nil => cases e
  | cons d ds =>
    obtain ⟨v, w, ev, rv, rw'⟩ := r
    subst ev
    obtain ⟨env1, e1, e2⟩ := Option.bind_eq_some_iff.mp (show (storeD i d env).bind (storeDs is ds) = some env' from e)
    obtain ⟨f2, x2⟩ := storeD_ok f rv e1
    exact ⟨v, w, rfl, F, env1, ds, env', f2, rw', e2, fun σ' f3 x3 h3 => k σ' f3 (x2.trans x3) fun j hj => by
      simp only [List.mem_cons, not_or] at hj
      rw [h3 j hj.2, List.getElem?_set_ne (Ne.symm hj.1)]⟩
def unpack (is : List Nat) : D → En → Option En := fun x env => match x with
  | .tup ds => storeDs is ds env
  | _ => none
theorem storeDs_len : ∀ {is : List Nat} {xs : List D} {env env' : En}, storeDs is xs env = some env' → xs.length = is.length
  | [], [], _, _, _ => rfl
  | i :: is, x :: xs, env, env', e => by
    obtain ⟨env1, e1, e2⟩ := Option.bind_eq_some_iff.mp (show (storeD i x env).bind (storeDs is xs) = some env' from e)
    simp [storeDs_len e2]
  | [], _ :: _, _, _, e => nomatch e
  | _ :: _, [], _, _, e => nomatch e
theorem sg_tup {es : List Expr} {k : Nat} {is : List Nat} (hc : X.calm = true) (h : SGs X es is) (hn : (assignEach es X.env).length = is.length := by rfl) (hst : (assignEach es X.env).findIdx? (·.1) = none := by rfl) : SG X (.Tuple es k pos) (unpack is) is := by
  refine ⟨PG.imp (pg_tup hc h.pgs hn hst) fun v σ H Q ⟨F, env, x, env', f, r, e, k⟩ => ?_, fun x _ _ h => by cases x <;> first | exact storeDs_lenE h | cases h⟩
  cases x with
  | tup ds =>
    obtain ⟨a, vs, ev, hH, _, rl⟩ := rd_tup (r.rd f.live)
    exact ⟨a, vs, ev, SqT.of hH, by rw [← rl.length]; exact storeDs_len e, F, env, ds, env', f, rl, e, k⟩
  | _ => cases e
/-- target = e, e frozen -/
def sAsg (k : D → En → Option En) (c : En → Out R) : En → OutS := fun env => (cV c env).then fun x e => match k x e with
  | some e' => .next e'
  | none => .stuck
theorem ss_asg {tg : Expr} {k : D → En → Option En} {ks : List Nat} (he : SE X W e c) (hg : SG X tg k ks) (hs : swapsWithSole [tg] e pos.line X.env = pure false := by rfl) (hw : swappedStores [tg] e X.env = pure none := by rfl)
    (h1 : (assignEach [tg] X.env).map (·.2) = [assign tg X.env] := by rfl) : SS X W (.Assign [tg] e pos) (sAsg k c) := by
  refine ⟨PS.imp (ps_asg (sv_of he).pe hg.pg hs hw h1) fun D' σ H ⟨F, env, f, g⟩ => ?_⟩
  refine ⟨F, env, f, GoodS.then g fun x env1 F1 H1 v e1 f1 x1 r1 g1 => ?_⟩
  cases ek : k x env1 with
  | none => rw [ek] at g1; exact False.elim g1
  | some env2 =>
    rw [ek] at g1
    exact ⟨F1, env1, x, env2, f1, r1, ek, fun σ' f2 x2 _ => g1 F1 σ' H1 f2 (x1.trans x2)⟩

/-! ### what is walked -/
def ItOk (mg : Mg) (J : It) (items : List D) (F H : Hp) : Prop := ∀ F' H', LeF F F' → Live F' H' → (∀ a o, F a ≠ none → H a = some o → H' a = some o) → ∀ i, (i = items.length → J.stop i H') ∧
  ∀ d, items[i]? = some d → J.go i H' ∧ ∀ x H'', J.yld i H' x H'' → ∃ F'', Grow F' H' F'' H'' ∧ RepD mg F'' d x
structure SI (X : Cx) (W : WX) (tg e : Expr) (c : En → Out (List D)) : Prop where
  pi : PI X tg e (fun σ H R => ∃ F env, FrS X.mg F env σ H ∧ GoodO X.mg W (fun _ F' _ _ H' items J => ItOk X.mg J items F' H') R F env σ H (c env))
variable {tg : Expr}
theorem it_list {mg : Mg} {K : PySem.W.Frag} {F H : Hp} {a : Addr} {ds : List D} {vs : List V} (hF : F a = some (.lst vs)) (r : RepL mg F ds vs) : ItOk mg (Itl K a) ds F H := by
  intro F' H' le l k i
  have hH : Rd H' a (.lst vs) := live_lst l (le a _ hF)
  refine ⟨fun e => ⟨vs, .inl hH, by rw [← r.length, e]; exact Nat.le_refl _⟩, fun d ed => ?_⟩
  obtain ⟨v, ev, rv⟩ := r.get ed
  refine ⟨⟨vs, v, .inl hH, ev⟩, fun x H'' y => ?_⟩
  obtain ⟨e1, y⟩ := y
  subst e1
  have := y vs (.inl hH)
  rw [ev] at this
  cases this
  exact ⟨F', .inl ⟨rfl, rfl⟩, rv.mono le⟩
theorem it_tup {mg : Mg} {K : PySem.W.Frag} {F H : Hp} {a : Addr} {ds : List D} {vs : List V} (hF : F a = some (.tup vs)) (r : RepL mg F ds vs) : ItOk mg (Itt K a) ds F H := by
  intro F' H' le l k i
  have hH : H' a = some (.tup vs) := live_tup l (le a _ hF)
  refine ⟨fun e => ⟨vs, SqT.of hH, by rw [← r.length, e]; exact Nat.le_refl _⟩, fun d ed => ?_⟩
  obtain ⟨v, ev, rv⟩ := r.get ed
  refine ⟨⟨vs, v, SqT.of hH, ev⟩, fun x H'' y => ?_⟩
  obtain ⟨e1, y⟩ := y
  subst e1
  have := y vs (SqT.of hH)
  rw [ev] at this
  cases this
  exact ⟨F', .inl ⟨rfl, rfl⟩, rv.mono le⟩
theorem it_str {mg : Mg} {F H : Hp} {z : Str} : ItOk mg (Its z) (z.cps.toList.map fun c => .str ⟨#[c]⟩) F H := by
  intro F' H' le l k i
  refine ⟨fun e => by show z.cps.size ≤ i; simp at e; omega, fun d ed => ?_⟩
  rw [List.getElem?_map] at ed
  obtain ⟨c, ec, e2⟩ := Option.map_eq_some_iff.mp ed
  subst e2
  have hc : z.cps[i]? = some c := by simpa using ec
  refine ⟨(Array.getElem?_eq_some_iff.mp hc).1, fun x H'' y => ?_⟩
  obtain ⟨e1, c', h1, h2⟩ := y
  subst e1 h2
  rw [hc] at h1
  cases h1
  exact ⟨F', .inl ⟨rfl, rfl⟩, .inl rfl⟩
def itemsOf : D → Option (List D)
  | .lst ds => some ds
  | .tup ds => some ds
  | .str z => some (z.cps.toList.map fun c => .str ⟨#[c]⟩)
  | _ => none
/-- a list, a tuple, a text -/
def cIt (c : En → Out R) : En → Out (List D) := fun env => (cV c env).bind fun x e => match itemsOf x with
  | some l => .ok l e
  | none => .stuck
theorem si_val (h : SE X W e c) : SI X W tg e (cIt c) := by
  refine ⟨PI.imp (PI.or (pi_list (sv_of h).pe) (PI.or (pi_tup (sv_of h).pe) (pi_str (sv_of h).pe))) fun σ H Q ⟨F, env, f, g⟩ => ?_⟩
  have key : ∀ {rel1 : Rel D V} {Q1 : V → Hp → Prop}, (∀ x env1 F1 H1 v, cV c env = .ok x env1 → FrS X.mg F1 env1 σ H1 → ExS F env σ H F1 env1 σ H1 → rel1 H F1 env1 σ H1 x v → (∀ items J, itemsOf x = some items → ItOk X.mg J items F1 H1 → Q J H1) → (itemsOf x ≠ none) → Q1 v H1) → GoodO X.mg W rel1 Q1 F env σ H (cV c env) := fun {rel1 Q1} k => by
    refine GoodO.bind g fun x env1 F1 H1 v e1 f1 x1 r1 g1 => ?_
    refine k x env1 F1 H1 v e1 f1 x1 r1 (fun items J ei it => ?_) fun z => ?_
    · rw [ei] at g1
      exact g1 F1 H1 J f1 x1 it
    · rw [z] at g1; exact g1
  cases ec : cV c env with
  | stuck => exact .inl ⟨F, env, f, key fun x env1 F1 H1 v e1 => by rw [ec] at e1; cases e1⟩
  | err n fs e2 => exact .inl ⟨F, env, f, key fun x env1 F1 H1 v e1 => by rw [ec] at e1; cases e1⟩
  | ok x0 e2 =>
    have hx : ∀ {x env1}, cV c env = .ok x env1 → x = x0 := fun e1 => by rw [ec] at e1; cases e1; rfl
    cases x0 with
    | lst ds =>
      refine .inl ⟨F, env, f, key fun x env1 F1 H1 v e1 f1 x1 r1 k _ => ?_⟩
      rw [hx e1] at r1 k
      rcases r1 with r1 | ⟨a, o, ev, hF, vs, eo, rl⟩
      · cases r1
      · subst eo
        exact ⟨a, ev, ⟨vs, Or.inl (live_lst f1.live hF)⟩, k _ _ rfl (it_list hF rl)⟩
    | tup ds =>
      refine .inr (.inl ⟨F, env, f, key fun x env1 F1 H1 v e1 f1 x1 r1 k _ => ?_⟩)
      rw [hx e1] at r1 k
      rcases r1 with r1 | ⟨a, o, ev, hF, vs, eo, rl⟩
      · cases r1
      · subst eo
        exact ⟨a, ev, ⟨vs, SqT.of (live_tup f1.live hF)⟩, k _ _ rfl (it_tup hF rl)⟩
    | str z =>
      refine .inr (.inr ⟨F, env, f, key fun x env1 F1 H1 v e1 f1 x1 r1 k _ => ?_⟩)
      rw [hx e1] at r1 k
      rcases r1 with r1 | ⟨a, o, ev, hF, r⟩
      · cases r1; exact ⟨z, rfl, k _ _ rfl it_str⟩
      · exact r.elim
    | _ =>
      refine .inl ⟨F, env, f, key fun x env1 F1 H1 v e1 f1 x1 r1 k kn => ?_⟩
      rw [hx e1] at kn
      exact absurd rfl kn
/-- range(n), range(a, b), range(a, b, c) -/
def rng (lo : Int) (n : Nat) : List D := (List.range n).map fun (k : Nat) => D.int (lo + (k : Int))
theorem it_rng {mg : Mg} {F H : Hp} {lo : Int} {n : Nat} : ItOk mg (Itr lo n) (rng lo n) F H := by
  intro F' H' le l k i
  have hl : (rng lo n).length = n := by simp [rng]
  refine ⟨fun e => by show n ≤ i; omega, fun d ed => ?_⟩
  have hi : i < n := by have := (List.getElem?_eq_some_iff.mp ed).1; omega
  refine ⟨hi, fun x H'' y => ?_⟩
  obtain ⟨e1, e2⟩ := y
  subst e1 e2
  refine ⟨F', .inl ⟨rfl, rfl⟩, ?_⟩
  unfold rng at ed
  rw [List.getElem?_map, List.getElem?_range hi] at ed
  cases ed
  exact .inl rfl
def cRng1 (ca : En → Out R) : En → Out (List D) := fun env => (cA [ca] env).bind fun xs e => match xs with
  | [.int j] => if -(2 ^ 62) ≤ j ∧ j < 2 ^ 62 then .ok (rng 0 j.toNat) e else .stuck
  | _ => .stuck
def cRng2 (ca cb : En → Out R) : En → Out (List D) := fun env => (cA [ca, cb] env).bind fun xs e => match xs with
  | [.int i, .int j] => if (-(2 ^ 62) ≤ i ∧ i < 2 ^ 62) ∧ -(2 ^ 62) ≤ j ∧ j < 2 ^ 62 then .ok (rng i (j - i).toNat) e else .stuck
  | _ => .stuck
theorem repL_int {mg : Mg} {F : Hp} {i : Int} {ds : List D} {vs : List V} (h : RepL mg F (.int i :: ds) vs) : ∃ ws, vs = .int i :: ws ∧ RepL mg F ds ws := by
  obtain ⟨v, w, e, r, t⟩ := h
  refine ⟨w, ?_, t⟩
  rcases r with r | ⟨_, _, _, _, z⟩
  · cases r; exact e
  · exact z.elim
theorem si_range1 {a : Expr} {ca : En → Out R} {p : Pos} (hg : Gl X "range") (hm : X.mg "range" = none) (ha : SE X W a ca) (hs : starEach [a] X.env = [(false, eval a X.env)] := by rfl) : SI X W tg (.Call (.Name "range" p) [a] [] pos) (cRng1 ca) := by
  refine ⟨PI.imp (pi_range1 hg hm (sa_cons ha sa_nil hs).pa hs) fun σ H Q ⟨F, env, f, g⟩ => ?_⟩
  refine ⟨F, env, f, GoodO.bind g fun xs env1 F1 H1 vs e1 f1 x1 r1 g1 => ?_⟩
  cases xs with
  | nil => exact False.elim g1
  | cons d ds =>
    cases d with
    | int j =>
      cases ds with
      | cons _ _ => exact False.elim g1
      | nil =>
        obtain ⟨ws, ev, t⟩ := repL_int r1
        have et : ws = [] := t
        subst et
        dsimp only at g1
        split at g1
        · rename_i h
          exact ⟨j, ev, h.1, h.2, g1 F1 H1 _ f1 x1 it_rng⟩
        · exact False.elim g1
    | _ => exact False.elim g1
theorem si_range2 {a b : Expr} {ca cb : En → Out R} {p : Pos} (hg : Gl X "range") (hm : X.mg "range" = none) (ha : SE X W a ca) (hb : SE X W b cb) (hs : starEach [a, b] X.env = [(false, eval a X.env), (false, eval b X.env)] := by rfl) (hs2 : starEach [b] X.env = [(false, eval b X.env)] := by rfl) :
    SI X W tg (.Call (.Name "range" p) [a, b] [] pos) (cRng2 ca cb) := by
  refine ⟨PI.imp (pi_range2 hg hm (sa_cons ha (sa_cons hb sa_nil hs2) (by rw [hs, hs2])).pa hs hs2) fun σ H Q ⟨F, env, f, g⟩ => ?_⟩
  refine ⟨F, env, f, GoodO.bind g fun xs env1 F1 H1 vs e1 f1 x1 r1 g1 => ?_⟩
  cases xs with
  | nil => exact False.elim g1
  | cons d ds =>
    cases d with
    | int j =>
      cases ds with
      | nil => exact False.elim g1
      | cons d2 ds2 =>
        cases d2 with
        | int k =>
          cases ds2 with
          | cons _ _ => exact False.elim g1
          | nil =>
            obtain ⟨ws, ev, t⟩ := repL_int r1
            obtain ⟨ws2, ev2, t2⟩ := repL_int t
            have et : ws2 = [] := t2
            subst et ev2
            dsimp only at g1
            split at g1
            · rename_i h
              exact ⟨j, k, ev, ⟨h.1.1, h.1.2, h.2.1, h.2.2⟩, g1 F1 H1 _ f1 x1 it_rng⟩
            · exact False.elim g1
        | _ => exact False.elim g1
    | _ => exact False.elim g1
/-! ### for -/
def forL (k : D → En → Option En) (b : En → OutS) : List D → En → OutS
  | [], env => .next env
  | x :: xs, env => match k x env with
    | none => .stuck
    | some e1 => match b e1 with
      | .next e => forL k b xs e
      | .cont e => forL k b xs e
      | .brk e => .next e
      | .ret r e => .ret r e
      | .err n fs e => .err n fs e
      | .stuck => .stuck
def sFor (ci : En → Out (List D)) (k : D → En → Option En) (b : En → OutS) : En → OutS := fun env => (ci env).then fun items e => forL k b items e
/-- one turn -/
theorem for_turn {mg : Mg} {D' : Ends} {k : D → En → Option En} {b : En → OutS} {tb : TS} {x : D} {v : V} {xs : List D} {F : Hp} {env : En} {σ : L2.St} {H : Hp} {g : TG} {ks : List Nat} {N : L2.St → Hp → Prop}
    (hg : ∀ v σ H Q, tG mg k ks v σ H Q → g v σ H Q) (hb : ∀ D σ H, tS mg W b D σ H → tb D σ H) (f : FrS mg F env σ H) (r : RepD mg F x v) (q : GoodS mg W D' F env σ H (forL k b (x :: xs) env))
    (hN : ∀ F' env' σ' H', FrS mg F' env' σ' H' → ExS F env σ H F' env' σ' H' → GoodS mg W D' F' env' σ' H' (forL k b xs env') → N σ' H') :
    g v σ H fun σ2 H2 => tb { D' with nx := N, ct := N, bk := D'.nx } σ2 H2 := by
  unfold forL at q
  cases ek : k x env with
  | none => rw [ek] at q; exact False.elim q
  | some e1 =>
    rw [ek] at q
    dsimp only at q
    refine hg _ _ _ _ ⟨F, env, x, e1, f, r, ek, fun σ2 f2 x2 _ => hb _ _ _ ⟨F, e1, f2, ?_⟩⟩
    cases eb : b e1 with
    | next e =>
      rw [eb] at q
      exact fun F' σ' H' f3 x3 => hN F' e σ' H' f3 (x2.trans x3) (GoodS.shift (x2.trans x3) q)
    | cont e =>
      rw [eb] at q
      exact fun F' σ' H' f3 x3 => hN F' e σ' H' f3 (x2.trans x3) (GoodS.shift (x2.trans x3) q)
    | brk e =>
      rw [eb] at q
      exact fun F' σ' H' f3 x3 => q F' σ' H' f3 (x2.trans x3)
    | ret z e =>
      rw [eb] at q
      exact GoodS.shift (o := .ret z e) x2 q
    | err n fs e =>
      rw [eb] at q
      exact GoodS.shift (o := .err n fs e) x2 q
    | stuck => rw [eb] at q; exact q
theorem owns_none {mg : Mg} {F : Hp} {env : En} {σ : L2.St} {H : Hp} {a : Addr} (f : FrS mg F env σ H) (h : Owns env σ a) : F a = none := by
  obtain ⟨i, s, e, m, q⟩ := h
  cases em : s.mut with
  | none => rw [em] at m; cases m
  | some y =>
    obtain ⟨b, o, q1, n, _⟩ := f.mt i s y e em
    rw [q] at q1
    cases q1
    exact n
/-- the whole walk, given J -/
theorem for_core {mg : Mg} {D' : Ends} {k : D → En → Option En} {b : En → OutS} {tb : TS} {items : List D} {F : Hp} {env : En} {σ : L2.St} {H : Hp} {g : TG} {ks : List Nat} {J : It}
    (hg : ∀ v σ H Q, tG mg k ks v σ H Q → g v σ H Q) (hb : ∀ D σ H, tS mg W b D σ H → tb D σ H) (f : FrS mg F env σ H) (it : ItOk mg J items F H) (q : GoodS mg W D' F env σ H (forL k b items env)) :
    ∃ W' : Nat → Nat → L2.St → Hp → Prop, (∃ m, W' 0 m σ H) ∧ ∀ i m σ H, W' i m σ H →
      (J.stop i H ∧ D'.nx σ H) ∨ (J.go i H ∧ ∃ N : L2.St → Hp → Prop, (∀ σ' H', N σ' H' → ∃ m', m' < m ∧ W' (i + 1) m' σ' H') ∧ ∀ x H', J.yld i H x H' → g x σ H' fun σ2 H2 => tb { D' with nx := N, ct := N, bk := D'.nx } σ2 H2) := by
  refine ⟨fun i m σ' H' => m = items.length - i ∧ i ≤ items.length ∧ ∃ F' env', FrS mg F' env' σ' H' ∧ ExS F env σ H F' env' σ' H' ∧ GoodS mg W D' F' env' σ' H' (forL k b (items.drop i) env'), ⟨_, rfl, Nat.zero_le _, F, env, f, ExS.refl, q⟩, ?_⟩
  rintro i m σ' H' ⟨rfl, hi, F', env', f', x', q'⟩
  have kp : ∀ a o, F a ≠ none → H a = some o → H' a = some o := fun a o nF hH => x'.keep a o hH fun ow => nF (owns_none f ow)
  have ii := it F' H' x'.le f'.live kp i
  by_cases hlt : i < items.length
  · have hd : items.drop i = items[i] :: items.drop (i + 1) := List.drop_eq_getElem_cons hlt
    rw [hd] at q'
    obtain ⟨go, yl⟩ := ii.2 items[i] (by simp [hlt])
    refine .inr ⟨go, fun σ2 H2 => ∃ F2 env2, FrS mg F2 env2 σ2 H2 ∧ ExS F env σ H F2 env2 σ2 H2 ∧ GoodS mg W D' F2 env2 σ2 H2 (forL k b (items.drop (i + 1)) env2), fun σ2 H2 ⟨F2, env2, f2, x2, q2⟩ => ⟨items.length - (i + 1), by omega, rfl, hlt, F2, env2, f2, x2, q2⟩, fun x H2 y => ?_⟩
    obtain ⟨F2, gr, rx⟩ := yl x H2 y
    obtain ⟨f2, x2⟩ := f'.grow gr
    exact for_turn hg hb f2 rx (GoodS.shift x2 q') fun F3 env3 σ3 H3 f3 x3 q3 => ⟨F3, env3, f3, (x'.trans x2).trans x3, q3⟩
  · have e : i = items.length := by omega
    refine .inl ⟨ii.1 e, ?_⟩
    rw [e, List.drop_length] at q'
    exact q' F' σ' H' f' ExS.refl
theorem ss_for {iter : Expr} {body : List Stmt} {ci : En → Out (List D)} {k : D → En → Option En} {ks : List Nat} {b : En → OutS} (hp : PassesOwn (model X.prog X.w) X.A X.env X.xe) (hc : X.calm = true) (hi : SI X W tg iter ci) (hg : SG X tg k ks) (hb : SB X W body b)
    (hs : ∀ x, foldedSetIterable iter X.env x = pure x := by intro _; rfl) : SS X W (.For tg iter body [] pos) (sFor ci k b) := by
  refine ⟨PS.imp (ps_for hp hc hi.pi hg.pg hb.pss hs) fun D' σ H ⟨F, env, f, g⟩ => ?_⟩
  refine ⟨F, env, f, GoodS.then g fun items env1 F1 H1 J e1 f1 x1 r1 g1 => ?_⟩
  exact for_core (fun _ _ _ _ q => q) (fun _ _ _ q => q) f1 r1 (GoodS.shift x1 g1)
/-! ### while -/
def whileN (t : En → Out Bool) (b : En → OutS) : Nat → En → Option OutS
  | 0, _ => none
  | n + 1, env => match t env with
    | .ok false e => some (.next e)
    | .ok true e => (match b e with
      | .next e' => whileN t b n e'
      | .cont e' => whileN t b n e'
      | .brk e' => some (.next e')
      | .ret r e' => some (.ret r e')
      | .err x fs e' => some (.err x fs e')
      | .stuck => some .stuck)
    | .err x fs e => some (.err x fs e)
    | .stuck => some .stuck
open Classical in
noncomputable def sWhile (t : En → Out Bool) (b : En → OutS) : En → OutS := fun env => if h : ∃ n o, whileN t b n env = some o then h.choose_spec.choose else .stuck
theorem ss_while {cnd : Expr} {body : List Stmt} {t : En → Out Bool} {b : En → OutS} (hp : PassesOwn (model X.prog X.w) X.A X.env X.xe) (ht : ST X W cnd t) (hb : SB X W body b) : SS X W (.While cnd body [] pos) (sWhile t b) := by
  refine ⟨PS.imp (ps_while hp ht.pt hb.pss) fun D' σ H ⟨F, env, f, g⟩ => ?_⟩
  unfold sWhile at g
  split at g
  · rename_i h
    refine ⟨fun m σ H => ∃ F env o, FrS X.mg F env σ H ∧ whileN t b m env = some o ∧ GoodS X.mg W D' F env σ H o, ⟨h.choose, F, env, _, f, h.choose_spec.choose_spec, g⟩, ?_⟩
    rintro m σ H ⟨F, env, o, f, e, g⟩
    cases m with
    | zero => cases e
    | succ m =>
      unfold whileN at e
      cases et : t env with
      | stuck =>
        rw [et] at e
        cases e
        exact False.elim g
      | err x fs e1 =>
        rw [et] at e
        cases e
        refine ⟨F, env, f, ?_⟩
        rw [et]
        exact fun F' H' c d f y q => g F' σ H' c d f y q
      | ok k e1 =>
        rw [et] at e
        refine ⟨F, env, f, ?_⟩
        rw [et]
        intro F1 H1 k' f1 x1 ek
        cases ek
        cases k with
        | false =>
          cases e
          exact g F1 σ H1 f1 x1
        | true =>
          refine ⟨fun σ2 H2 => ∃ F2 env2 o2, FrS X.mg F2 env2 σ2 H2 ∧ whileN t b m env2 = some o2 ∧ GoodS X.mg W D' F2 env2 σ2 H2 o2, fun σ2 H2 h2 => ⟨m, Nat.lt_succ_self _, h2⟩, F1, e1, f1, ?_⟩
          dsimp only at e
          cases eb : b e1 with
          | next e2 =>
            rw [eb] at e
            exact fun F2 σ2 H2 f2 x2 => ⟨F2, e2, o, f2, e, GoodS.shift (x1.trans x2) g⟩
          | cont e2 =>
            rw [eb] at e
            exact fun F2 σ2 H2 f2 x2 => ⟨F2, e2, o, f2, e, GoodS.shift (x1.trans x2) g⟩
          | brk e2 =>
            rw [eb] at e
            cases e
            exact fun F2 σ2 H2 f2 x2 => g F2 σ2 H2 f2 (x1.trans x2)
          | ret r e2 =>
            rw [eb] at e
            cases e
            exact GoodS.shift (o := .ret r e2) x1 g
          | err n fs e2 =>
            rw [eb] at e
            cases e
            exact GoodS.shift (o := .err n fs e2) x1 g
          | stuck =>
            rw [eb] at e
            cases e
            exact g
  · exact False.elim g
end
end Sim

/-! Sim10: comprehensions. -/
namespace Sim
open PySem PySem.Spec PyProof.Rows L2

/-! ### slots of a comprehension's own names -/
def wipeE (env : En) : List Nat → En
  | [] => env
  | v :: vs => (wipeE env vs).set v .no
def restE (e0 e : En) : List Nat → En
  | [] => e
  | v :: vs => match e0[v]? with
    | some s => (restE e0 e vs).set v s
    | none => restE e0 e vs
theorem wipeE_len (env : En) : ∀ vs : List Nat, (wipeE env vs).length = env.length
  | [] => rfl
  | v :: vs => by unfold wipeE; rw [List.length_set, wipeE_len env vs]
theorem restE_len (e0 e : En) : ∀ vs : List Nat, (restE e0 e vs).length = e.length
  | [] => rfl
  | v :: vs => by
    unfold restE
    cases e0[v]? with
    | none => exact restE_len e0 e vs
    | some s => simp [restE_len e0 e vs]
theorem wipeE_out {env : En} {i : Nat} : ∀ {vs : List Nat}, i ∉ vs → (wipeE env vs)[i]? = env[i]?
  | [], _ => rfl
  | v :: vs, h => by
    unfold wipeE
    simp only [List.mem_cons, not_or] at h
    rw [List.getElem?_set_ne (Ne.symm h.1), wipeE_out h.2]
theorem wipeE_in {env : En} {i : Nat} {s : Sl} : ∀ {vs : List Nat}, i ∈ vs → (wipeE env vs)[i]? = some s → s = .no
  | v :: vs, h, e => by
    unfold wipeE at e
    rcases nth_set e with ⟨rfl, e1⟩ | ⟨ne, e1⟩
    · exact e1
    · rcases List.mem_cons.mp h with h | h
      · exact absurd h.symm ne
      · exact wipeE_in h e1
theorem wipe_out' {σ : L2.St} {i : Nat} : ∀ {vs : List Nat}, i ∉ vs → (wipe σ vs)[i]? = σ[i]?
  | [], _ => rfl
  | v :: vs, h => by
    unfold wipe
    simp only [List.mem_cons, not_or] at h
    rw [List.getElem?_set_ne (Ne.symm h.1), wipe_out' h.2]
theorem restE_out {e0 e : En} {i : Nat} : ∀ {vs : List Nat}, i ∉ vs → (restE e0 e vs)[i]? = e[i]?
  | [], _ => rfl
  | v :: vs, h => by
    unfold restE
    simp only [List.mem_cons, not_or] at h
    cases e0[v]? with
    | none => exact restE_out h.2
    | some s =>
      dsimp only
      rw [List.getElem?_set_ne (Ne.symm h.1), restE_out h.2]
theorem restE_in {e0 e : En} {i : Nat} (hl : e.length = e0.length) : ∀ {vs : List Nat}, i ∈ vs → (restE e0 e vs)[i]? = e0[i]?
  | v :: vs, h => by
    unfold restE
    by_cases hv : v = i
    · subst hv
      cases ev : e0[v]? with
      | none =>
        dsimp only
        rw [List.getElem?_eq_none]
        have := List.getElem?_eq_none_iff.mp ev
        rw [restE_len]; omega
      | some s =>
        dsimp only
        rw [nth_set_self]
        have := (List.getElem?_eq_some_iff.mp ev).1
        rw [restE_len]; omega
    · rcases List.mem_cons.mp h with h | h
      · exact absurd h.symm hv
      · cases e0[v]? with
        | none => exact restE_in hl h
        | some s =>
          dsimp only
          rw [List.getElem?_set_ne hv]
          exact restE_in hl h
theorem wipe_in {σ : L2.St} {i : Nat} : ∀ {vs : List Nat}, i ∈ vs → (wipe σ vs)[i]? = if i < σ.length then some none else none
  | v :: vs, h => by
    unfold wipe
    by_cases hv : v = i
    · subst hv
      by_cases hl : v < σ.length
      · rw [if_pos hl, nth_set_self (by rw [wipe_length]; exact hl)]
      · rw [if_neg hl, List.getElem?_eq_none (by rw [List.length_set, wipe_length]; omega)]
    · rw [List.getElem?_set_ne hv]
      rcases List.mem_cons.mp h with h | h
      · exact absurd h.symm hv
      · exact wipe_in h
theorem wipe_eq {σ σ2 : L2.St} {vs : List Nat} (hl : σ2.length = σ.length) (h : ∀ i, i ∉ vs → σ2[i]? = σ[i]?) : wipe σ2 vs = wipe σ vs := by
  refine List.ext_getElem? fun i => ?_
  by_cases hi : i ∈ vs
  · rw [wipe_in hi, wipe_in hi, hl]
  · rw [wipe_out' hi, wipe_out' hi]; exact h i hi
theorem wipe_wipe {σ : L2.St} {vs : List Nat} : wipe (wipe σ vs) vs = wipe σ vs := wipe_eq (wipe_length _ _) fun _ hi => wipe_out' hi
section
variable {mg : Mg} {F F' F0 : Hp} {env env' env0 : En} {σ σ' σ0 : L2.St} {H H' H0 : Hp} {vs : List Nat}
theorem wipe_slot {i : Nat} {s : Sl} (e : (wipeE env vs)[i]? = some s) (h : s ≠ .no) : i ∉ vs ∧ env[i]? = some s := by
  have hi : i ∉ vs := fun z => h (wipeE_in z e)
  rw [wipeE_out hi] at e
  exact ⟨hi, e⟩
theorem FrS.wipe (f : FrS mg F env σ H) (vs : List Nat) : FrS mg F (wipeE env vs) (L2.wipe σ vs) H := by
  refine ⟨f.live, by rw [wipeE_len, wipe_length]; exact f.len, fun i x e => ?_, fun i s x e m => ?_, fun i j s t a ei ej hs ht q1 q2 => ?_⟩
  · obtain ⟨hi, e1⟩ := wipe_slot e (fun z => nomatch z)
    rw [wipe_out' hi]; exact f.val i x e1
  · obtain ⟨hi, e1⟩ := wipe_slot e (fun z => by subst z; cases m)
    rw [wipe_out' hi]; exact f.mt i s x e1 m
  · obtain ⟨hi, e1⟩ := wipe_slot ei (fun z => by subst z; cases hs)
    obtain ⟨hj, e2⟩ := wipe_slot ej (fun z => by subst z; cases ht)
    rw [wipe_out' hi] at q1
    rw [wipe_out' hj] at q2
    exact f.dis i j s t a e1 e2 hs ht q1 q2
theorem owns_wipe {a : Addr} (h : Owns (wipeE env vs) (L2.wipe σ vs) a) : Owns env σ a := by
  obtain ⟨i, s, e, m, q⟩ := h
  obtain ⟨hi, e1⟩ := wipe_slot e (fun z => by subst z; cases m)
  rw [wipe_out' hi] at q
  exact ⟨i, s, e1, m, q⟩
/-- a turn's names forgotten -/
theorem ExS.wipe (x : ExS F0 env0 σ0 H0 F env σ H) (hv : ∀ i ∈ vs, ∀ y, env0[i]? ≠ some (.ref y)) : ExS F0 env0 σ0 H0 F (wipeE env vs) (L2.wipe σ vs) H := by
  refine ⟨x.le, x.keep, x.live, x.nofr, fun a q => x.own a (owns_wipe q), fun i y e => ?_⟩
  obtain ⟨y', q1, q2⟩ := x.refs i y e
  have hi : i ∉ vs := fun z => hv i z y e
  exact ⟨y', by rw [wipeE_out hi]; exact q1, by rw [wipe_out' hi]; exact q2⟩
/-- into the block, out of it -/
theorem ExS.back (f0 : FrS mg F env σ H) (x : ExS F (wipeE env vs) (L2.wipe σ vs) H F' env' (L2.wipe σ vs) H') (f' : FrS mg F' env' (L2.wipe σ vs) H') : FrS mg F' (restE env env' vs) σ H' ∧ ExS F env σ H F' (restE env env' vs) σ H' := by
  have hl : env'.length = env.length := by rw [f'.len, wipe_length, f0.len]
  have hid : ∀ {i : Nat} {s : Sl} {a : Addr}, i ∈ vs → env[i]? = some s → s.mut.isSome = true → σ[i]? = some (some (.ref a)) → ¬ Owns (wipeE env vs) (L2.wipe σ vs) a := fun {i s a} hi e m q ⟨j, t, ej, mt, qj⟩ => by
    obtain ⟨hj, e1⟩ := wipe_slot ej (fun z => by subst z; cases mt)
    rw [wipe_out' hj] at qj
    have := f0.dis i j s t a e e1 m mt q qj
    subst this
    exact hj hi
  have mts : ∀ {s : Sl}, s.mut.isSome = true → ∃ y, s.mut = some y := fun {s} h => by
    cases e : s.mut with
    | none => rw [e] at h; cases h
    | some y => exact ⟨y, rfl⟩
  refine ⟨⟨f'.live, by rw [restE_len, hl]; exact f0.len, fun i y e => ?_, fun i s y e m => ?_, fun i j s t a ei ej hs ht q1 q2 => ?_⟩, ⟨x.le, fun a o h n => x.keep a o h fun q => n (owns_wipe q), x.live, fun a o h t n no => x.nofr a o h t n fun q => no (owns_wipe q), fun a q => ?_, fun i y e => ?_⟩⟩
  · by_cases hi : i ∈ vs
    · rw [restE_in hl hi] at e
      obtain ⟨v, q1, q2⟩ := f0.val i y e
      exact ⟨v, q1, q2.mono x.le⟩
    · rw [restE_out hi] at e
      have := f'.val i y e
      rw [wipe_out' hi] at this
      exact this
  · by_cases hi : i ∈ vs
    · rw [restE_in hl hi] at e
      obtain ⟨a, o, q1, n, q2, q3⟩ := f0.mt i s y e m
      have no := hid hi e (by rw [m]; rfl) q1
      exact ⟨a, o, q1, x.nofr a o q2 q3.nt n no, x.keep a o q2 no, q3.mono x.le⟩
    · rw [restE_out hi] at e
      have := f'.mt i s y e m
      rw [wipe_out' hi] at this
      exact this
  · have mixed : ∀ {i j : Nat} {s t : Sl} {a : Addr}, i ∈ vs → j ∉ vs → env[i]? = some s → s.mut.isSome = true → σ[i]? = some (some (.ref a)) → env'[j]? = some t → t.mut.isSome = true → σ[j]? = some (some (.ref a)) → False := fun {i j s t a} hi hj e m q e' m' q' => by
      have ow : Owns env' (L2.wipe σ vs) a := ⟨j, t, e', m', by rw [wipe_out' hj]; exact q'⟩
      rcases x.own a ow with w | w
      · exact hid hi e m q w
      · obtain ⟨y, my⟩ := mts m
        obtain ⟨b, o, q1, _, q2, _⟩ := f0.mt i s y e my
        rw [q] at q1
        cases q1
        rw [w] at q2; cases q2
    by_cases hi : i ∈ vs
    · rw [restE_in hl hi] at ei
      by_cases hj : j ∈ vs
      · rw [restE_in hl hj] at ej
        exact f0.dis i j s t a ei ej hs ht q1 q2
      · rw [restE_out hj] at ej
        exact (mixed hi hj ei hs q1 ej ht q2).elim
    · rw [restE_out hi] at ei
      by_cases hj : j ∈ vs
      · rw [restE_in hl hj] at ej
        exact (mixed hj hi ej ht q2 ei hs q1).elim
      · rw [restE_out hj] at ej
        exact f'.dis i j s t a ei ej hs ht (by rw [wipe_out' hi]; exact q1) (by rw [wipe_out' hj]; exact q2)
  · obtain ⟨i, s, e, m, q⟩ := q
    by_cases hi : i ∈ vs
    · rw [restE_in hl hi] at e
      exact .inl ⟨i, s, e, m, q⟩
    · rw [restE_out hi] at e
      rcases x.own a ⟨i, s, e, m, by rw [wipe_out' hi]; exact q⟩ with w | w
      · exact .inl (owns_wipe w)
      · exact .inr w
  · by_cases hi : i ∈ vs
    · exact ⟨y, by rw [restE_in hl hi]; exact e, rfl⟩
    · obtain ⟨y', q1, q2⟩ := x.refs i y (by rw [wipeE_out hi]; exact e)
      exact ⟨y', by rw [restE_out hi]; exact q1, rfl⟩
/-- an object aside changes or comes -/
theorem FrS.aside {a : Addr} {o : HO} (f : FrS mg F env σ H) (hF : F a = none) (no : ¬ Owns env σ a) : FrS mg F env σ (upd H a o) := by
  refine ⟨fun b u e => ?_, f.len, f.val, fun i s y e m => ?_, f.dis⟩
  · rw [upd_ne (ne_of_none e hF)]; exact f.live b u e
  · obtain ⟨b, u, q1, n, q2, q3⟩ := f.mt i s y e m
    have hb : b ≠ a := fun z => by subst z; exact no ⟨i, s, e, by rw [m]; rfl, q1⟩
    exact ⟨b, u, q1, n, by rw [upd_ne hb]; exact q2, q3⟩
theorem ExS.aside {a : Addr} {o : HO} (x : ExS F0 env0 σ0 H0 F env σ H) (h0 : H0 a = none) : ExS F0 env0 σ0 H0 F env σ (upd H a o) :=
  ⟨x.le, fun b u e n => by rw [upd_ne (ne_of_none e h0)]; exact x.keep b u e n, fun b u e => by
    obtain ⟨u', e'⟩ := x.live b u e
    exact ⟨u', by rw [upd_ne (ne_of_none e h0)]; exact e'⟩, x.nofr, x.own, x.refs⟩
end
/-! ### [elt for target in iter if test] -/
def lcL (k : D → En → Option En) (t : En → Out Bool) (c : En → Out D) (vs : List Nat) : List D → En → Out (List D)
  | [], env => .ok [] env
  | x :: xs, env => match k x env with
    | none => .stuck
    | some e1 => (match t e1 with
      | .ok true e2 => (match c e2 with
        | .ok y e3 => (lcL k t c vs xs (wipeE e3 vs)).bind fun ys e => .ok (y :: ys) e
        | _ => .stuck)
      | .ok false e2 => lcL k t c vs xs (wipeE e2 vs)
      | _ => .stuck)
def cLC (ci : En → Out (List D)) (k : D → En → Option En) (t : En → Out Bool) (c : En → Out R) (vs : List Nat) : En → Out R := fun env => (ci env).bind fun items e1 => (lcL k t (cV c) vs items (wipeE e1 vs)).bind fun ys e2 => if ys.length ≤ lim then .ok (.new (.lst ys)) (restE e1 e2 vs) else .stuck
abbrev W0 : WX := fun _ _ _ _ => False
theorem out_ok {α : Type} {mg : Mg} {β : Type} {rel : Rel α β} {Q : β → Hp → Prop} {F : Hp} {env : En} {σ : L2.St} {H : Hp} {a : α} {e : En} {o : Out α} (ho : o = .ok a e) (h : ∀ F' H' b, FrS mg F' e σ H' → ExS F env σ H F' e σ H' → rel H F' e σ H' a b → Q b H') : GoodO mg W0 rel Q F env σ H o := by
  subst ho; exact h
section
variable {X : Cx} {W : WX}
theorem lcL_err {k : D → En → Option En} {t : En → Out Bool} {c : En → Out D} {vs : List Nat} {n : Str} {fs : List (Str × D)} {e : En} : ∀ (xs : List D) (env : En), lcL k t c vs xs env ≠ .err n fs e
  | [], env, h => nomatch h
  | x :: xs, env, h => by
    unfold lcL at h
    cases ek : k x env with
    | none => rw [ek] at h; cases h
    | some e1 =>
      rw [ek] at h
      dsimp only at h
      cases et : t e1 with
      | stuck => rw [et] at h; cases h
      | err _ _ _ => rw [et] at h; cases h
      | ok b e2 =>
        rw [et] at h
        cases b with
        | false => exact lcL_err xs _ h
        | true =>
          dsimp only at h
          cases ec : c e2 with
          | stuck => rw [ec] at h; cases h
          | err _ _ _ => rw [ec] at h; cases h
          | ok y e3 =>
            rw [ec] at h
            dsimp only at h
            cases el : lcL k t c vs xs (wipeE e3 vs) with
            | stuck => rw [el] at h; cases h
            | err n' fs' e' => exact absurd el (lcL_err xs _)
            | ok ys e4 => rw [el] at h; cases h
/-- the end of a comprehension -/
def lcEnd (e1 : En) (vs : List Nat) (ys : List D) (e2 : En) : Out R := if ys.length ≤ lim then .ok (.new (.lst ys)) (restE e1 e2 vs) else .stuck
theorem lc_body {mg : Mg} {k : D → En → Option En} {t : En → Out Bool} {c : En → Out R} {vs ks : List Nat} {g : TG} {tt : TT} {te : TE} {σ : L2.St} {Q : VK} {items : List D} {env1 : En} {F1 H1 : Hp} {J : It}
    (hg : ∀ v σ H Q, tG mg k ks v σ H Q → g v σ H Q) (hks : ∀ i ∈ ks, i ∈ vs) (hkl : ∀ x e e', k x e = some e' → e'.length = e.length) (ht : ∀ σ H Q, tT mg W0 t σ H Q → tt σ H Q) (he : ∀ σ H Q, tV mg W0 (cV c) σ H Q → te σ H Q)
    (f1 : FrS mg F1 env1 σ H1) (it : ItOk mg J items F1 H1) (q1 : GoodO mg W (relR mg) Q F1 env1 σ H1 ((lcL k t (cV c) vs items (wipeE env1 vs)).bind (lcEnd env1 vs))) :
    ∀ D, H1 D = none → ∃ W : Nat → Nat → Hp → Prop, (∃ m, W 0 m (upd H1 D (.lst []))) ∧ ∀ i m H, W i m H →
      (J.stop i H ∧ Q (.ref D) H) ∨ (J.go i H ∧ ∃ Nx : Hp → Prop, (∀ H', Nx H' → ∃ m', m' < m ∧ W (i + 1) m' H') ∧ ∀ x H', J.yld i H x H' → g x (L2.wipe σ vs) H' fun σ2 H2 => L2.wipe σ2 vs = L2.wipe σ vs ∧ tt σ2 H2 fun b H3 =>
        if b = true then te σ2 H3 fun y H4 => ∃ acc, H4 D = some (.lst acc) ∧ acc.length < sizeLine ∧ Nx (upd H4 D (.lst (acc ++ [y]))) else Nx H3) := by
  intro Dp hD
  have fw := f1.wipe vs
  have hF1 : F1 Dp = none := f1.live.no hD
  have noO : ∀ {env : En} {σ : L2.St} {H : Hp}, FrS mg F1 env σ H1 → ¬ Owns env σ Dp := fun f ⟨i, s, e, m, q⟩ => by
    cases em : s.mut with
    | none => rw [em] at m; cases m
    | some y =>
      obtain ⟨b, o, z1, _, z2, _⟩ := f.mt i s y e em
      rw [q] at z1
      cases z1
      rw [hD] at z2; cases z2
  -- the invariant
  refine ⟨fun i m H' => m = items.length - i ∧ i ≤ items.length ∧ ∃ F' env' acc ws, FrS mg F' env' (L2.wipe σ vs) H' ∧ ExS F1 (wipeE env1 vs) (L2.wipe σ vs) H1 F' env' (L2.wipe σ vs) H' ∧ H' Dp = some (.lst ws) ∧ RepL mg F' acc ws ∧ F' Dp = none ∧ ¬ Owns env' (L2.wipe σ vs) Dp ∧
      GoodO mg W (relR mg) Q F1 env1 σ H1 ((lcL k t (cV c) vs (items.drop i) env').bind fun ys e2 => if (acc ++ ys).length ≤ lim then .ok (.new (.lst (acc ++ ys))) (restE env1 e2 vs) else .stuck),
    ⟨_, rfl, Nat.zero_le _, F1, wipeE env1 vs, [], [], fw.aside hF1 (noO fw (H := H1)), (ExS.refl.aside hD), upd_same, RepL.nil, hF1, noO fw (H := H1), q1⟩, ?_⟩
  rintro i m H' ⟨rfl, hi', F', env', acc, ws, f', x', hDl, ra, hDF, hDo, q'⟩
  have kp : ∀ a o, F1 a ≠ none → H1 a = some o → H' a = some o := fun a o nF hH => x'.keep a o hH fun ow => nF (owns_none f1 (owns_wipe ow))
  have ii := it F' H' x'.le f'.live kp i
  by_cases hlt : i < items.length
  · have hd : items.drop i = items[i] :: items.drop (i + 1) := List.drop_eq_getElem_cons hlt
    rw [hd] at q'
    unfold lcL at q'
    obtain ⟨go, yl⟩ := ii.2 items[i] (by simp [hlt])
    -- the next turn's start, from the end of this one
    have next : ∀ {F3 : Hp} {env3 : En} {σ2 : L2.St} {H3 : Hp} {acc' : List D} {ws' : List V}, L2.wipe σ2 vs = L2.wipe σ vs → FrS mg F3 env3 σ2 H3 → ExS F1 (wipeE env1 vs) (L2.wipe σ vs) H1 F3 env3 σ2 H3 → H3 Dp = some (.lst ws') → RepL mg F3 acc' ws' → F3 Dp = none → ¬ Owns env3 σ2 Dp →
        GoodO mg W (relR mg) Q F1 env1 σ H1 ((lcL k t (cV c) vs (items.drop (i + 1)) (wipeE env3 vs)).bind fun ys e2 => if (acc' ++ ys).length ≤ lim then .ok (.new (.lst (acc' ++ ys))) (restE env1 e2 vs) else .stuck) →
        ∃ F' env' acc ws, FrS mg F' env' (L2.wipe σ vs) H3 ∧ ExS F1 (wipeE env1 vs) (L2.wipe σ vs) H1 F' env' (L2.wipe σ vs) H3 ∧ H3 Dp = some (.lst ws) ∧ RepL mg F' acc ws ∧ F' Dp = none ∧ ¬ Owns env' (L2.wipe σ vs) Dp ∧
          GoodO mg W (relR mg) Q F1 env1 σ H1 ((lcL k t (cV c) vs (items.drop (i + 1)) env').bind fun ys e2 => if (acc ++ ys).length ≤ lim then .ok (.new (.lst (acc ++ ys))) (restE env1 e2 vs) else .stuck) := fun {F3 env3 σ2 H3 acc' ws'} ew f3 x3 h1 h2 h3 h4 h5 => by
      have f4 := f3.wipe vs
      have x4 := x3.wipe (vs := vs) (fun i hi y z => by have := wipeE_in hi z; cases this)
      rw [ew] at f4 x4
      exact ⟨F3, wipeE env3 vs, acc', ws', f4, x4, h1, h2, h3, fun z => h4 (by rw [← ew] at z; exact owns_wipe z), h5⟩
    refine .inr ⟨go, fun H3 => ∃ F' env' acc ws, FrS mg F' env' (L2.wipe σ vs) H3 ∧ ExS F1 (wipeE env1 vs) (L2.wipe σ vs) H1 F' env' (L2.wipe σ vs) H3 ∧ H3 Dp = some (.lst ws) ∧ RepL mg F' acc ws ∧ F' Dp = none ∧ ¬ Owns env' (L2.wipe σ vs) Dp ∧
          GoodO mg W (relR mg) Q F1 env1 σ H1 ((lcL k t (cV c) vs (items.drop (i + 1)) env').bind fun ys e2 => if (acc ++ ys).length ≤ lim then .ok (.new (.lst (acc ++ ys))) (restE env1 e2 vs) else .stuck), fun H3 h3 => ⟨items.length - (i + 1), by omega, rfl, hlt, h3⟩, fun x H2 y => ?_⟩
    obtain ⟨F2, gr, rx⟩ := yl x H2 y
    obtain ⟨f2, x2⟩ := f'.grow gr
    have hD2 : H2 Dp = some (.lst ws) := x2.keep _ _ hDl hDo
    have hF2 : F2 Dp = none := x2.nofr _ _ hDl (fun _ z => nomatch z) hDF hDo
    have hDo2 : ¬ Owns env' (L2.wipe σ vs) Dp := hDo
    have ra2 := RepL.mono x2.le _ _ ra
    cases ek : k items[i] env' with
    | none => rw [ek] at q'; exact False.elim q'
    | some e1' =>
      rw [ek] at q'
      dsimp only at q'
      refine hg _ _ _ _ ⟨F2, env', items[i], e1', f2, rx, ek, fun σ2 f3 x3 hout => ?_⟩
      have hD3 : ¬ Owns e1' σ2 Dp := fun z => (x3.own _ z).elim hDo2 fun w => by rw [w] at hD2; cases hD2
      -- the target's names are the comprehension's own
      have ew : L2.wipe σ2 vs = L2.wipe σ vs := by
        rw [← wipe_wipe (σ := σ)]
        refine wipe_eq ?_ fun j hj => hout j fun z => hj (hks j z)
        have h1 := f3.len
        have h2 := f2.len
        have h3 : e1'.length = env'.length := hkl items[i] env' e1' ek
        omega
      have x13 := (x'.trans x2).trans x3
      refine ⟨ew, ?_⟩
      cases et : t e1' with
      | stuck => rw [et] at q'; exact False.elim q'
      | err n fs e => rw [et] at q'; exact False.elim q'
      | ok b e2 =>
        rw [et] at q'
        refine ht _ _ _ ⟨F2, e1', f3, out_ok et fun F4 H4 b' f4 x4 eb => ?_⟩
        cases eb
        have hD4 : H4 Dp = some (.lst ws) := x4.keep _ _ hD2 hD3
        have hF4 : F4 Dp = none := x4.nofr _ _ hD2 (fun _ z => nomatch z) hF2 hD3
        have hO4 : ¬ Owns e2 σ2 Dp := fun z => (x4.own _ z).elim hD3 fun w => by rw [w] at hD2; cases hD2
        cases b with
        | false => exact next ew f4 (x13.trans x4) hD4 (RepL.mono x4.le _ _ ra2) hF4 hO4 q'
        | true =>
          dsimp only at q'
          cases ec : cV c e2 with
          | stuck => rw [ec] at q'; exact False.elim q'
          | err n fs e => rw [ec] at q'; exact False.elim q'
          | ok y e3 =>
            rw [ec] at q'
            dsimp only at q'
            refine he _ _ _ ⟨F4, e2, f4, out_ok ec fun F5 H5 v f5 x5 rv => ?_⟩
            have hD5 : H5 Dp = some (.lst ws) := x5.keep _ _ hD4 hO4
            have hF5 : F5 Dp = none := x5.nofr _ _ hD4 (fun _ z => nomatch z) hF4 hO4
            have hO5 : ¬ Owns e3 σ2 Dp := fun z => (x5.own _ z).elim hO4 fun w => by rw [w] at hD4; cases hD4
            have ra5 := RepL.mono (x4.le.trans x5.le) _ _ ra2
            have x15 := (x13.trans x4).trans x5
            -- the list is short: it will be at the end
            have q6 : GoodO mg W (relR mg) Q F1 env1 σ H1 ((lcL k t (cV c) vs (items.drop (i + 1)) (wipeE e3 vs)).bind fun ys e2 => if ((acc ++ [y]) ++ ys).length ≤ lim then .ok (.new (.lst ((acc ++ [y]) ++ ys))) (restE env1 e2 vs) else .stuck) := by
              cases el : lcL k t (cV c) vs (items.drop (i + 1)) (wipeE e3 vs) with
              | stuck => rw [el] at q'; exact False.elim q'
              | err n fs e => rw [el] at q'; exact q'
              | ok ys e4 =>
                rw [el] at q'
                show GoodO mg W (relR mg) Q F1 env1 σ H1 (if ((acc ++ [y]) ++ ys).length ≤ lim then .ok (.new (.lst ((acc ++ [y]) ++ ys))) (restE env1 e4 vs) else .stuck)
                rw [List.append_assoc]
                exact q'
            have hsz : ws.length < sizeLine := by
              rw [← ra.length]
              refine lt_lim ?_
              cases el : lcL k t (cV c) vs (items.drop (i + 1)) (wipeE e3 vs) with
              | stuck => rw [el] at q'; exact False.elim q'
              | err n fs e => exact absurd el (lcL_err _ _)
              | ok ys e4 =>
                rw [el] at q'
                have q' : GoodO mg W (relR mg) Q F1 env1 σ H1 (if (acc ++ (y :: ys)).length ≤ lim then .ok (.new (.lst (acc ++ (y :: ys)))) (restE env1 e4 vs) else .stuck) := q'
                split at q'
                · rename_i hz
                  rw [List.length_append, List.length_cons] at hz
                  omega
                · exact False.elim q'
            refine ⟨ws, hD5, hsz, ?_⟩
            exact next ew (f5.aside hF5 hO5) (x15.aside hD) upd_same (ra5.snoc rv) hF5 hO5 q6
  · have e : i = items.length := by omega
    refine .inl ⟨ii.1 e, ?_⟩
    rw [e, List.drop_length] at q'
    have q' : GoodO mg W (relR mg) Q F1 env1 σ H1 (if (acc ++ []).length ≤ lim then .ok (.new (.lst (acc ++ []))) (restE env1 env' vs) else .stuck) := q'
    rw [List.append_nil] at q'
    split at q'
    · obtain ⟨f7, x7⟩ := ExS.back f1 x' f'
      refine q' F' H' (.ref Dp) f7 x7 ⟨Dp, _, rfl, hD, hDF, hDl, ⟨⟨ws, rfl, ra⟩, rfl⟩, fun z => ?_⟩
      obtain ⟨j, s, ej, m, qj⟩ := z
      have hl : env'.length = env1.length := by rw [f'.len, wipe_length, f1.len]
      by_cases hj : j ∈ vs
      · rw [restE_in hl hj] at ej
        exact noO (H := H1) f1 ⟨j, s, ej, m, qj⟩
      · rw [restE_out hj] at ej
        exact hDo ⟨j, s, ej, m, by rw [wipe_out' hj]; exact qj⟩
    · exact False.elim q'
theorem lc_read {mg : Mg} {ci : En → Out (List D)} {k : D → En → Option En} {t : En → Out Bool} {c : En → Out R} {vs ks : List Nat} {wi : TI} {g : TG} {tt : TT} {te : TE} {σ : L2.St} {H : Hp} {Q : VK} {F : Hp} {env : En}
    (hi : ∀ σ H R, (∃ F env, FrS mg F env σ H ∧ GoodO mg W (fun _ F' _ _ H' items J => ItOk mg J items F' H') R F env σ H (ci env)) → wi σ H R)
    (hg : ∀ v σ H Q, tG mg k ks v σ H Q → g v σ H Q) (hks : ∀ i ∈ ks, i ∈ vs) (hkl : ∀ x e e', k x e = some e' → e'.length = e.length) (ht : ∀ σ H Q, tT mg W0 t σ H Q → tt σ H Q) (he : ∀ σ H Q, tV mg W0 (cV c) σ H Q → te σ H Q)
    (f : FrS mg F env σ H) (q : GoodO mg W (relR mg) Q F env σ H (cLC ci k t c vs env)) : tLc wi g tt te vs σ H Q := by
  refine hi _ _ _ ⟨F, env, f, GoodO.bind q fun items env1 F1 H1 J e1 f1 x1 it q1 => ?_⟩
  exact lc_body hg hks hkl ht he f1 it (GoodO.shift back_R x1 q1)
/-- the tests of a comprehension -/
structure SI' (X : Cx) (ifs : List Expr) (t : En → Out Bool) : Prop where
  pts : PTs X ifs (tT X.mg W0 t)
theorem PTs.imp {X : Cx} {ifs : List Expr} {t u : TT} (h : PTs X ifs t) (k : ∀ σ H Q, u σ H Q → t σ H Q) : PTs X ifs u := ⟨fun pins s σ H Q I q => h.run pins s σ H Q I (k σ H Q q)⟩
def cYes : En → Out Bool := fun env => .ok true env
theorem si_nil : SI' X [] cYes := ⟨PTs.imp pts_nil fun σ H Q ⟨F, env, f, g⟩ => g F H true f ExS.refl rfl⟩
theorem si_one {a : Expr} {t : En → Out Bool} (h : ST X W0 a t) : SI' X [a] t := ⟨pts_one h.pt⟩
/-- for every block that a comprehension of the scope runs -/
abbrev Blk (X : Cx) (scope : Scope) (P : Cx → Prop) : Prop := ∀ (s : Shared) (H : Hp) (C : Addr) (cl : List (Str × Addr)) (fp : List Addr), P (X.blk s H scope (compEnvC scope cl C X.env) fp)
variable {elt tg iter : Expr} {ifs : List Expr} {scope : Scope} {own : List (Str × Nat)} {pos spos : Pos} {ci : En → Out (List D)} {k : D → En → Option En} {ks : List Nat} {t : En → Out Bool} {c : En → Out R}
theorem se_lc (hc : X.calm = true) (hN : X.N.Nodup) (hi : SI X W tg iter ci) (ok : BlkOk X.N X.env.scope scope own) (hg : Blk X scope fun Y => SG Y tg k ks) (ht : Blk X scope fun Y => SI' Y ifs t) (he : Blk X scope fun Y => SE Y W0 elt c)
    (hks : ∀ i ∈ ks, i ∈ own.map (·.2) := by decide) (hs : ∀ x, foldedSetIterable iter X.env x = pure x := by intro _; rfl) : SE X W (.ListComp elt [⟨tg, iter, ifs, 0⟩] scope pos) (cLC ci k t c (own.map (·.2))) := by
  refine ⟨PE.imp (pe_lc (g := tG X.mg k ks) (tt := tT X.mg W0 t) (te := tV X.mg W0 (cV c)) hc hN hi.pi ok (fun s H C cl fp => (hg s H C cl fp).pg) (fun s H C cl fp => (ht s H C cl fp).pts) (fun s H C cl fp => (sv_of (he s H C cl fp)).pe) hs) fun σ H Q ⟨F, env, f, g⟩ => ?_⟩
  exact lc_read (fun _ _ _ q => q) (fun _ _ _ _ q => q) hks (hg X.s_0 (fun _ => none) 0 [] []).len (fun _ _ _ q => q) (fun _ _ _ q => q) f g
theorem ss_setLc {i : Nat} {y : Str} {py : Pos} (hc : X.calm = true) (hN : X.N.Nodup) (hy : X.N[i]? = some y) (hyl : X.env.scope.names.lookup y = some .local)
    (hsw : swapsWith (.ListComp elt [⟨tg, iter, ifs, 0⟩] scope pos) (some (.Name y py)) spos.line X.env = pure true) (hi : SI X W tg iter ci) (ok : BlkOk X.N X.env.scope scope own) (hg : Blk X scope fun Y => SG Y tg k ks) (ht : Blk X scope fun Y => SI' Y ifs t) (he : Blk X scope fun Y => SE Y W0 elt c)
    (hks : ∀ i ∈ ks, i ∈ own.map (·.2) := by decide) (hs : ∀ x, foldedSetIterable iter X.env x = pure x := by intro _; rfl) : SS X W (.Assign [.Name y py] (.ListComp elt [⟨tg, iter, ifs, 0⟩] scope pos) spos) (sSet i (cLC ci k t c (own.map (·.2)))) := by
  refine ⟨PS.imp (ps_setLc (g := tG X.mg k ks) (tt := tT X.mg W0 t) (te := tV X.mg W0 (cV c)) hc hN hy hyl hsw hi.pi ok (fun s H C cl fp => (hg s H C cl fp).pg) (fun s H C cl fp => (ht s H C cl fp).pts) (fun s H C cl fp => (sv_of (he s H C cl fp)).pe) hs) fun D' σ H ⟨F, env, f, g⟩ => ?_⟩
  exact lc_read (fun _ _ _ q => q) (fun _ _ _ _ q => q) hks (hg X.s_0 (fun _ => none) 0 [] []).len (fun _ _ _ q => q) (fun _ _ _ q => q) f
    (GoodS.then g fun r env1 F1 H1 v e1 f1 x1 r1 g1 => store_good f1 x1 r1 g1)
end
end Sim

/-! Sim11: dicts walked, dict comprehensions. -/
namespace Sim
open PySem PySem.Spec PyProof.Rows L2

/-! ### a dict is locked while it is walked -/
section
variable {mg : Mg} {F F' : Hp} {env env' : En} {σ σ' : L2.St} {H H' : Hp} {d : Addr} {u : HO} {od : Obj}
theorem FrS.lock (f : FrS mg F env σ H) (hF : F d = some u) (hH : H d = some u) (hd : isDct u) : FrS mg F env σ (upd H d (.frz od u)) := by
  refine ⟨fun a o e => ?_, f.len, f.val, fun i s x e m => ?_, f.dis⟩
  · by_cases ha : a = d
    · subst ha
      rw [hF] at e
      cases e
      exact .inr ⟨hd.fz, od, upd_same⟩
    · rw [upd_ne ha]; exact f.live a o e
  · obtain ⟨a, o, q1, n, q2, q3⟩ := f.mt i s x e m
    have ha : a ≠ d := fun z => by subst z; rw [hF] at n; cases n
    exact ⟨a, o, q1, n, by rw [upd_ne ha]; exact q2, q3⟩
theorem FrS.unlock (f : FrS mg F env σ H) (hF : F d = some u) : FrS mg F env σ (upd H d u) := by
  refine ⟨fun a o e => ?_, f.len, f.val, fun i s x e m => ?_, f.dis⟩
  · by_cases ha : a = d
    · subst ha
      rw [hF] at e
      cases e
      exact .inl upd_same
    · rw [upd_ne ha]; exact f.live a o e
  · obtain ⟨a, o, q1, n, q2, q3⟩ := f.mt i s x e m
    have ha : a ≠ d := fun z => by subst z; rw [hF] at n; cases n
    exact ⟨a, o, q1, n, by rw [upd_ne ha]; exact q2, q3⟩
theorem ExS.unlock (x : ExS F env σ (upd H d (.frz od u)) F' env' σ' H') (hF : F d = some u) (hH : H d = some u) : ExS F env σ H F' env' σ' (upd H' d u) := by
  refine ⟨x.le, fun a o e n => ?_, fun a o e => ?_, fun a o e t n no => ?_, fun a q => ?_, x.refs⟩
  · by_cases ha : a = d
    · subst ha
      rw [hH] at e
      cases e
      exact upd_same
    · rw [upd_ne ha]; exact x.keep a o (by rw [upd_ne ha]; exact e) n
  · by_cases ha : a = d
    · subst ha; exact ⟨u, upd_same⟩
    · rw [upd_ne ha]; exact x.live a o (by rw [upd_ne ha]; exact e)
  · have ha : a ≠ d := fun z => by subst z; rw [hF] at n; cases n
    exact x.nofr a o (by rw [upd_ne ha]; exact e) t n no
  · rcases x.own a q with w | w
    · exact .inl w
    · refine .inr ?_
      by_cases ha : a = d
      · subst ha; rw [upd_same] at w; cases w
      · rw [upd_ne ha] at w; exact w
theorem relR_unlock {r : R} {v : V} (h : relR mg (upd H d (.frz od u)) F' env' σ' H' r v) (hF : F' d = some u) : relR mg H F' env' σ' (upd H' d u) r v := by
  cases r with
  | d x => exact h
  | «at» i => exact h
  | new x =>
    obtain ⟨a, o, e, n, q1, q2, q3, q4⟩ := h
    have ha : a ≠ d := fun z => by subst z; rw [hF] at q1; cases q1
    exact ⟨a, o, e, by rw [upd_ne ha] at n; exact n, q1, by rw [upd_ne ha]; exact q2, q3, q4⟩
end
def keyD : Key → D
  | .inl i => .int i
  | .inr s => .str s
def keysD : D → Option (List D)
  | .dk kvs => some (kvs.map fun p => keyD p.1)
  | .dt kvs => some (kvs.map fun p => .tup (p.1.map keyD))
  | _ => none
theorem keyD_rep {mg : Mg} {F : Hp} (k : Key) : RepD mg F (keyD k) (kV k) := by
  cases k <;> exact .inl rfl
theorem keysD_rep {mg : Mg} {F : Hp} : ∀ ks : List Key, RepL mg F (ks.map keyD) (ks.map kV)
  | [] => RepL.nil
  | k :: ks => RepL.cons (keyD_rep k) (keysD_rep ks)
section
variable {mg : Mg}
theorem RepKK.keys {F : Hp} : ∀ {ds : List (Key × D)} {gs : List (Key × V)}, RepKK mg F ds gs → ds.map (·.1) = gs.map (·.1)
  | [], gs, h => by have e : gs = [] := h; subst e; rfl
  | p :: ds, gs, h => by obtain ⟨v, r, e, _, t⟩ := h; subst e; simp [RepKK.keys t]
theorem RepKT.keys {F : Hp} : ∀ {ds : List (List Key × D)} {gs : List (List Key × V)}, RepKT mg F ds gs → ds.map (·.1) = gs.map (·.1)
  | [], gs, h => by have e : gs = [] := h; subst e; rfl
  | p :: ds, gs, h => by obtain ⟨v, r, e, _, t⟩ := h; subst e; simp [RepKT.keys t]
theorem it_keys {F H : Hp} {d : Addr} {o : Obj} {kvs : List (Key × D)} {gs : List (Key × V)} (hF : F d ≠ none) (hH : H d = some (.frz o (.dK gs))) (r : RepKK mg F kvs gs) : ItOk mg (Itk d o gs) (kvs.map fun p => keyD p.1) F H := by
  intro F' H' le l k i
  have h' := k d _ hF hH
  have hl := r.length
  refine ⟨fun e => ⟨h', by rw [e, List.length_map, hl]; exact Nat.le_refl _⟩, fun x ex => ?_⟩
  have hi : i < gs.length := by have := (List.getElem?_eq_some_iff.mp ex).1; rw [List.length_map, hl] at this; exact this
  refine ⟨⟨h', hi⟩, fun y H'' q => ?_⟩
  obtain ⟨e1, kk, v, eg, ey⟩ := q
  subst e1 ey
  refine ⟨F', .inl ⟨rfl, rfl⟩, ?_⟩
  have ek : (kvs.map (·.1))[i]? = some kk := by rw [r.keys, List.getElem?_map, eg]; rfl
  rw [List.getElem?_map] at ek ex
  cases ep : kvs[i]? with
  | none => rw [ep] at ek; cases ek
  | some p =>
    rw [ep] at ek ex
    cases ek; cases ex
    exact keyD_rep p.1
theorem it_keysT {F H : Hp} {d : Addr} {o : Obj} {kvs : List (List Key × D)} {gs : List (List Key × V)} (hF : F d ≠ none) (hH : H d = some (.frz o (.dT gs))) (r : RepKT mg F kvs gs) : ItOk mg (Itkt d o gs) (kvs.map fun p => .tup (p.1.map keyD)) F H := by
  intro F' H' le l k i
  have h' := k d _ hF hH
  have hl := r.length
  refine ⟨fun e => ⟨h', by rw [e, List.length_map, hl]; exact Nat.le_refl _⟩, fun x ex => ?_⟩
  have hi : i < gs.length := by have := (List.getElem?_eq_some_iff.mp ex).1; rw [List.length_map, hl] at this; exact this
  refine ⟨⟨h', hi⟩, fun y H'' q => ?_⟩
  obtain ⟨e1, kk, v, a, eg, ey, ha⟩ := q
  subst e1 ey
  have ek : (kvs.map (·.1))[i]? = some kk := by rw [r.keys, List.getElem?_map, eg]; rfl
  rw [List.getElem?_map] at ek ex
  cases ep : kvs[i]? with
  | none => rw [ep] at ek; cases ek
  | some p =>
    rw [ep] at ek ex
    cases ek; cases ex
    cases ef : F' a with
    | some u =>
      rcases l a u ef with q | ⟨q, ob, q2⟩
      · rw [ha] at q
        cases q
        exact ⟨F', .inl ⟨rfl, rfl⟩, .inr ⟨a, _, rfl, ef, _, rfl, keysD_rep _⟩⟩
      · rw [ha] at q2; cases q2
    | none => exact ⟨_, .inr (.inr ⟨a, _, ha, ef, rfl, rfl⟩), .inr ⟨a, _, rfl, upd_same, _, rfl, keysD_rep _⟩⟩
end
/-- nothing leaves by an error -/
def noErrS : OutS → OutS
  | .err _ _ _ => .stuck
  | o => o
def noErr {α : Type} : Out α → Out α
  | .err _ _ _ => .stuck
  | o => o
theorem GoodS.noErr {mg : Mg} {W : WX} {D' : Ends} {F : Hp} {env : En} {σ : L2.St} {H : Hp} {o : OutS} (h : GoodS mg W D' F env σ H (noErrS o)) : GoodS mg W0 D' F env σ H o := by
  cases o <;> first | exact h | exact False.elim h
theorem GoodS.w0 {mg : Mg} {W : WX} {D' : Ends} {F : Hp} {env : En} {σ : L2.St} {H : Hp} {o : OutS} (h : GoodS mg W0 D' F env σ H o) : GoodS mg W D' F env σ H o := by
  cases o with
  | err n fs e => exact fun F' σ' H' c d f x q => (h F' σ' H' c d f x q).elim
  | _ => exact h
def cKeys (i : Nat) : En → Out (List D) := fun env => (cV (cVar i) env).bind fun x e => match keysD x with
  | some l => .ok l e
  | none => .stuck
def sForD (i : Nat) (k : D → En → Option En) (b : En → OutS) : En → OutS := fun env => (cKeys i env).then fun items e => noErrS (forL k b items e)
/-- a slot's dict, frozen: where it stands -/
theorem dict_at {mg : Mg} {F : Hp} {env env1 : En} {σ : L2.St} {H : Hp} {i : Nat} {items : List D} (f : FrS mg F env σ H) (e : cKeys i env = .ok items env1) :
    ∃ F1 d u, FrS mg F1 env1 σ H ∧ ExS F env σ H F1 env1 σ H ∧ σ[i]? = some (some (.ref d)) ∧ F1 d = some u ∧ isDct u ∧
      (∀ ob H', H' d = some (.frz ob u) → (∃ J, ItOk mg J items F1 H' ∧ ∀ (R : It → Hp → Prop), R J H' → iKeys (tVar i) σ H' R)) := by
  have fin : ∀ {F1 : Hp} {env2 : En} {x : D} {d : Addr} {o : HO}, FrS mg F1 env2 σ H → ExS F env σ H F1 env2 σ H → σ[i]? = some (some (.ref d)) → F1 d = some o → RepO mg F1 x o → (match keysD x with | some l => Out.ok l env2 | none => .stuck) = .ok items env1 →
      ∃ F1 d u, FrS mg F1 env1 σ H ∧ ExS F env σ H F1 env1 σ H ∧ σ[i]? = some (some (.ref d)) ∧ F1 d = some u ∧ isDct u ∧ (∀ ob H', H' d = some (.frz ob u) → (∃ J, ItOk mg J items F1 H' ∧ ∀ (R : It → Hp → Prop), R J H' → iKeys (tVar i) σ H' R)) := fun {F1 env2 x d o} f1 x1 es hF r e => by
    cases x with
    | dk kvs =>
      cases e
      obtain ⟨gs, eo, r⟩ := r
      subst eo
      exact ⟨F1, d, _, f1, x1, es, hF, trivial, fun ob H' h => ⟨_, it_keys (by rw [hF]; exact fun z => nomatch z) h r, fun R q => ⟨.ref d, es, d, ob, rfl, .inl ⟨gs, h, q⟩⟩⟩⟩
    | dt kvs =>
      cases e
      obtain ⟨gs, eo, r⟩ := r
      subst eo
      exact ⟨F1, d, _, f1, x1, es, hF, trivial, fun ob H' h => ⟨_, it_keysT (by rw [hF]; exact fun z => nomatch z) h r, fun R q => ⟨.ref d, es, d, ob, rfl, .inr ⟨gs, h, q⟩⟩⟩⟩
    | _ => cases e
  have noflat : ∀ {x : D} {v : V} {env2 : En}, flatOf x = some v → (match keysD x with | some l => Out.ok l env2 | none => .stuck) = .ok items env1 → False := fun {x v env2} h e => by
    cases x <;> first | (cases h; done) | (cases h; cases e)
  unfold cKeys cV cVar at e
  cases es : env[i]? with
  | none => rw [es] at e; cases e
  | some s =>
    rw [es] at e
    cases s with
    | no => cases e
    | d x =>
      have e : (match keysD x with | some l => Out.ok l env | none => .stuck) = .ok items env1 := e
      obtain ⟨v, q1, q2⟩ := f.val i x es
      rcases q2 with q2 | ⟨a, o, ev, hF, r⟩
      · exact (noflat q2 e).elim
      · subst ev; exact fin f ExS.refl q1 hF r e
    | ref x =>
      dsimp only [Out.bind, settle] at e
      rw [es] at e
      cases e
    | own x =>
      dsimp only [Out.bind, settle] at e
      rw [es] at e
      have e : (match keysD x with | some l => Out.ok l (env.set i (.d x)) | none => .stuck) = .ok items env1 := e
      obtain ⟨a, o, q1, n, q2, q3, ow⟩ := f.own_at es rfl
      exact fin (f.freezeAt es q1 n q2 q3) (ExS.refl.freezeAt es q1 n) q1 upd_same (q3.mono (LeF.upd n)).1 e
theorem cKeys_err {i : Nat} {env : En} {n : Str} {fs : List (Str × D)} {e : En} (h : cKeys i env = .err n fs e) : False := by
  unfold cKeys cV cVar at h
  cases es : env[i]? with
  | none => rw [es] at h; cases h
  | some s =>
    rw [es] at h
    cases s with
    | no => cases h
    | d x =>
      have h : (match keysD x with | some l => Out.ok l env | none => .stuck) = .err n fs e := h
      cases ek : keysD x with
      | none => rw [ek] at h; cases h
      | some l => rw [ek] at h; cases h
    | ref x => dsimp only [Out.bind, settle] at h; rw [es] at h; cases h
    | own x =>
      dsimp only [Out.bind, settle] at h
      rw [es] at h
      have h : (match keysD x with | some l => Out.ok l (env.set i (.d x)) | none => .stuck) = .err n fs e := h
      cases ek : keysD x with
      | none => rw [ek] at h; cases h
      | some l => rw [ek] at h; cases h
theorem dct_mut {u : HO} (h : isDct u) : Mut (some u) := by
  cases u <;> first | exact trivial | exact h
section
variable {X : Cx} {W : WX} {tg : Expr} {pos p : Pos} {n : Str} {i : Nat} {k : D → En → Option En} {ks : List Nat}
theorem ss_forD {body : List Stmt} {b : En → OutS} (hp : PassesOwn (model X.prog X.w) X.A X.env X.xe) (hc : X.calm = true) (hN : X.N[i]? = some n) (hv : Vis X.env.scope n) (hg : SG X tg k ks) (hb : SB X W body b) (hd : (n == ("__debug__" : Str)) = false := by decide) (hcd : (n == ("__classdict__" : Str)) = false := by decide)
    (hs : ∀ x, foldedSetIterable (.Name n p) X.env x = pure x := by intro _; rfl) : SS X W (.For tg (.Name n p) body [] pos) (sForD i k b) := by
  have base := ps_for (pos := pos) hp hc (pi_keys (pe_var (pos := p) hN hv hd hcd)) hg.pg hb.pss hs
  refine ⟨PS.imp (PS.or (ps_lock base) base) fun D' σ H ⟨F, env, f, g⟩ => ?_⟩
  cases e : cKeys i env with
  | stuck => unfold sForD at g; rw [e] at g; exact False.elim g
  | err m fs e1 => exact (cKeys_err e).elim
  | ok items env1 =>
    unfold sForD at g
    rw [e] at g
    have g : GoodS X.mg W D' F env σ H (noErrS (forL k b items env1)) := g
    obtain ⟨F1, d, u, f1, x1, es, hF, hdc, it⟩ := dict_at f e
    have g0 := GoodS.noErr (GoodS.shift x1 g)
    have hbb : ∀ D σ H, tS X.mg W0 b D σ H → tS X.mg W b D σ H := fun D σ H ⟨F, env, f, g⟩ => ⟨F, env, f, g.w0⟩
    have no : ¬ Owns env1 σ d := fun z => by have := owns_none f1 z; rw [hF] at this; cases this
    rcases f1.live d u hF with hH | ⟨_, ob, hH⟩
    · refine .inl ⟨d, u, hH, dct_mut hdc, fun od => ?_⟩
      obtain ⟨J, hJ, hR⟩ := it od (upd H d (.frz od u)) upd_same
      refine hR _ ?_
      refine for_core (fun _ _ _ _ q => q) hbb (f1.lock hF hH hdc) hJ ?_
      -- what is wanted, seen from the locked heap
      have kp : ∀ {F' : Hp} {env' : En} {σ' : L2.St} {H' : Hp}, ExS F1 env1 σ (upd H d (.frz od u)) F' env' σ' H' → H' d = some (.frz od u) ∧ F' d = some u := fun x => ⟨x.keep _ _ upd_same no, x.le _ _ hF⟩
      cases eo : forL k b items env1 with
      | next e2 => rw [eo] at g0; exact fun F' σ' H' f' x' => ⟨(kp x').1, g0 F' σ' _ (f'.unlock (kp x').2) (x'.unlock hF hH)⟩
      | brk e2 => rw [eo] at g0; exact fun F' σ' H' f' x' => ⟨(kp x').1, g0 F' σ' _ (f'.unlock (kp x').2) (x'.unlock hF hH)⟩
      | cont e2 => rw [eo] at g0; exact fun F' σ' H' f' x' => ⟨(kp x').1, g0 F' σ' _ (f'.unlock (kp x').2) (x'.unlock hF hH)⟩
      | ret r e2 => rw [eo] at g0; exact fun F' σ' H' v f' x' q => ⟨(kp x').1, g0 F' σ' _ v (f'.unlock (kp x').2) (x'.unlock hF hH) (relR_unlock q (kp x').2)⟩
      | err m fs e2 => rw [eo] at g; exact False.elim g
      | stuck => rw [eo] at g; exact False.elim g
    · obtain ⟨J, hJ, hR⟩ := it ob H hH
      exact .inr (hR _ (for_core (fun _ _ _ _ q => q) hbb f1 hJ g0))
end
/-! ### {key: value for target in iter if test}, keys ints or texts -/
def dcL (k : D → En → Option En) (t : En → Out Bool) (ck c : En → Out D) (vs : List Nat) : List D → En → List (Key × D) → Out (List (Key × D))
  | [], env, acc => .ok acc env
  | x :: xs, env, acc => match k x env with
    | none => .stuck
    | some e1 => (match t e1 with
      | .ok true e2 => (match ck e2 with
        | .ok y e3 => (match c e3 with
          | .ok z e4 => (match keyOf y with
            | some kk => if acc.length < lim then dcL k t ck c vs xs (wipeE e4 vs) (dput acc kk z) else .stuck
            | none => .stuck)
          | _ => .stuck)
        | _ => .stuck)
      | .ok false e2 => dcL k t ck c vs xs (wipeE e2 vs) acc
      | _ => .stuck)
def dcEnd (e1 : En) (vs : List Nat) (kvs : List (Key × D)) (e2 : En) : Out R := .ok (.new (.dk kvs)) (restE e1 e2 vs)
def cDC (ci : En → Out (List D)) (k : D → En → Option En) (t : En → Out Bool) (ck c : En → Out R) (vs : List Nat) : En → Out R := fun env => (ci env).bind fun items e1 => (dcL k t (cV ck) (cV c) vs items (wipeE e1 vs) []).bind (dcEnd e1 vs)
section
variable {W : WX}
theorem dc_body {mg : Mg} {k : D → En → Option En} {t : En → Out Bool} {ck c : En → Out R} {vs ks : List Nat} {g : TG} {tt : TT} {tk te : TE} {σ : L2.St} {Q : VK} {items : List D} {env1 : En} {F1 H1 : Hp} {J : It}
    (hg : ∀ v σ H Q, tG mg k ks v σ H Q → g v σ H Q) (hks : ∀ i ∈ ks, i ∈ vs) (hkl : ∀ x e e', k x e = some e' → e'.length = e.length) (ht : ∀ σ H Q, tT mg W0 t σ H Q → tt σ H Q) (hk : ∀ σ H Q, tV mg W0 (cV ck) σ H Q → tk σ H Q) (he : ∀ σ H Q, tV mg W0 (cV c) σ H Q → te σ H Q)
    (f1 : FrS mg F1 env1 σ H1) (it : ItOk mg J items F1 H1) (q1 : GoodO mg W (relR mg) Q F1 env1 σ H1 ((dcL k t (cV ck) (cV c) vs items (wipeE env1 vs) []).bind (dcEnd env1 vs))) :
    ∀ D, H1 D = none → ∃ W : Nat → Nat → Hp → Prop, (∃ m, W 0 m (upd H1 D (.dK []))) ∧ ∀ i m H, W i m H →
      (J.stop i H ∧ Q (.ref D) H) ∨ (J.go i H ∧ ∃ Nx : Hp → Prop, (∀ H', Nx H' → ∃ m', m' < m ∧ W (i + 1) m' H') ∧ ∀ x H', J.yld i H x H' → g x (L2.wipe σ vs) H' fun σ2 H2 => L2.wipe σ2 vs = L2.wipe σ vs ∧ tt σ2 H2 fun b H3 =>
        if b = true then tk σ2 H3 fun y H4 => te σ2 H4 fun z H5 => ∃ kvs k, y = kV k ∧ H5 D = some (.dK kvs) ∧ kvs.length < sizeLine ∧ Nx (upd H5 D (.dK (putK kvs k z))) else Nx H3) := by
  intro Dp hD
  have fw := f1.wipe vs
  have hF1 : F1 Dp = none := f1.live.no hD
  have noO : ∀ {env : En} {σ : L2.St} {H : Hp}, FrS mg F1 env σ H1 → ¬ Owns env σ Dp := fun f ⟨i, s, e, m, q⟩ => by
    cases em : s.mut with
    | none => rw [em] at m; cases m
    | some y =>
      obtain ⟨b, o, z1, _, z2, _⟩ := f.mt i s y e em
      rw [q] at z1
      cases z1
      rw [hD] at z2; cases z2
  refine ⟨fun i m H' => m = items.length - i ∧ i ≤ items.length ∧ ∃ F' env' acc ws, FrS mg F' env' (L2.wipe σ vs) H' ∧ ExS F1 (wipeE env1 vs) (L2.wipe σ vs) H1 F' env' (L2.wipe σ vs) H' ∧ H' Dp = some (.dK ws) ∧ RepKK mg F' acc ws ∧ F' Dp = none ∧ ¬ Owns env' (L2.wipe σ vs) Dp ∧
      GoodO mg W (relR mg) Q F1 env1 σ H1 ((dcL k t (cV ck) (cV c) vs (items.drop i) env' acc).bind (dcEnd env1 vs)),
    ⟨_, rfl, Nat.zero_le _, F1, wipeE env1 vs, [], [], fw.aside hF1 (noO fw (H := H1)), (ExS.refl.aside hD), upd_same, rfl, hF1, noO fw (H := H1), q1⟩, ?_⟩
  rintro i m H' ⟨rfl, hi', F', env', acc, ws, f', x', hDl, ra, hDF, hDo, q'⟩
  have kp : ∀ a o, F1 a ≠ none → H1 a = some o → H' a = some o := fun a o nF hH => x'.keep a o hH fun ow => nF (owns_none f1 (owns_wipe ow))
  have ii := it F' H' x'.le f'.live kp i
  by_cases hlt : i < items.length
  · have hd : items.drop i = items[i] :: items.drop (i + 1) := List.drop_eq_getElem_cons hlt
    rw [hd] at q'
    unfold dcL at q'
    obtain ⟨go, yl⟩ := ii.2 items[i] (by simp [hlt])
    have next : ∀ {F3 : Hp} {env3 : En} {σ2 : L2.St} {H3 : Hp} {acc' : List (Key × D)} {ws' : List (Key × V)}, L2.wipe σ2 vs = L2.wipe σ vs → FrS mg F3 env3 σ2 H3 → ExS F1 (wipeE env1 vs) (L2.wipe σ vs) H1 F3 env3 σ2 H3 → H3 Dp = some (.dK ws') → RepKK mg F3 acc' ws' → F3 Dp = none → ¬ Owns env3 σ2 Dp →
        GoodO mg W (relR mg) Q F1 env1 σ H1 ((dcL k t (cV ck) (cV c) vs (items.drop (i + 1)) (wipeE env3 vs) acc').bind (dcEnd env1 vs)) →
        ∃ F' env' acc ws, FrS mg F' env' (L2.wipe σ vs) H3 ∧ ExS F1 (wipeE env1 vs) (L2.wipe σ vs) H1 F' env' (L2.wipe σ vs) H3 ∧ H3 Dp = some (.dK ws) ∧ RepKK mg F' acc ws ∧ F' Dp = none ∧ ¬ Owns env' (L2.wipe σ vs) Dp ∧
          GoodO mg W (relR mg) Q F1 env1 σ H1 ((dcL k t (cV ck) (cV c) vs (items.drop (i + 1)) env' acc).bind (dcEnd env1 vs)) := fun {F3 env3 σ2 H3 acc' ws'} ew f3 x3 h1 h2 h3 h4 h5 => by
      have f4 := f3.wipe vs
      have x4 := x3.wipe (vs := vs) (fun i hi y z => by have := wipeE_in hi z; cases this)
      rw [ew] at f4 x4
      exact ⟨F3, wipeE env3 vs, acc', ws', f4, x4, h1, h2, h3, fun z => h4 (by rw [← ew] at z; exact owns_wipe z), h5⟩
    refine .inr ⟨go, fun H3 => ∃ F' env' acc ws, FrS mg F' env' (L2.wipe σ vs) H3 ∧ ExS F1 (wipeE env1 vs) (L2.wipe σ vs) H1 F' env' (L2.wipe σ vs) H3 ∧ H3 Dp = some (.dK ws) ∧ RepKK mg F' acc ws ∧ F' Dp = none ∧ ¬ Owns env' (L2.wipe σ vs) Dp ∧
          GoodO mg W (relR mg) Q F1 env1 σ H1 ((dcL k t (cV ck) (cV c) vs (items.drop (i + 1)) env' acc).bind (dcEnd env1 vs)), fun H3 h3 => ⟨items.length - (i + 1), by omega, rfl, hlt, h3⟩, fun x H2 y => ?_⟩
    obtain ⟨F2, gr, rx⟩ := yl x H2 y
    obtain ⟨f2, x2⟩ := f'.grow gr
    have hD2 : H2 Dp = some (.dK ws) := x2.keep _ _ hDl hDo
    have hF2 : F2 Dp = none := x2.nofr _ _ hDl (fun _ z => nomatch z) hDF hDo
    have hDo2 : ¬ Owns env' (L2.wipe σ vs) Dp := hDo
    have ra2 := RepKK.mono x2.le _ _ ra
    cases ek : k items[i] env' with
    | none => rw [ek] at q'; exact False.elim q'
    | some e1' =>
      rw [ek] at q'
      dsimp only at q'
      refine hg _ _ _ _ ⟨F2, env', items[i], e1', f2, rx, ek, fun σ2 f3 x3 hout => ?_⟩
      have hD3 : ¬ Owns e1' σ2 Dp := fun z => (x3.own _ z).elim hDo2 fun w => by rw [w] at hD2; cases hD2
      have ew : L2.wipe σ2 vs = L2.wipe σ vs := by
        rw [← wipe_wipe (σ := σ)]
        refine wipe_eq ?_ fun j hj => hout j fun z => hj (hks j z)
        have h1 := f3.len
        have h2 := f2.len
        have h3 : e1'.length = env'.length := hkl items[i] env' e1' ek
        omega
      have x13 := (x'.trans x2).trans x3
      refine ⟨ew, ?_⟩
      cases et : t e1' with
      | stuck => rw [et] at q'; exact False.elim q'
      | err n fs e => rw [et] at q'; exact False.elim q'
      | ok b e2 =>
        rw [et] at q'
        refine ht _ _ _ ⟨F2, e1', f3, out_ok et fun F4 H4 b' f4 x4 eb => ?_⟩
        cases eb
        have hD4 : H4 Dp = some (.dK ws) := x4.keep _ _ hD2 hD3
        have hF4 : F4 Dp = none := x4.nofr _ _ hD2 (fun _ z => nomatch z) hF2 hD3
        have hO4 : ¬ Owns e2 σ2 Dp := fun z => (x4.own _ z).elim hD3 fun w => by rw [w] at hD2; cases hD2
        cases b with
        | false => exact next ew f4 (x13.trans x4) hD4 (RepKK.mono x4.le _ _ ra2) hF4 hO4 q'
        | true =>
          dsimp only at q'
          cases eck : cV ck e2 with
          | stuck => rw [eck] at q'; exact False.elim q'
          | err n fs e => rw [eck] at q'; exact False.elim q'
          | ok y e3 =>
            rw [eck] at q'
            dsimp only at q'
            refine hk _ _ _ ⟨F4, e2, f4, out_ok eck fun F5 H5 v f5 x5 ry => ?_⟩
            have hD5 : H5 Dp = some (.dK ws) := x5.keep _ _ hD4 hO4
            have hF5 : F5 Dp = none := x5.nofr _ _ hD4 (fun _ z => nomatch z) hF4 hO4
            have hO5 : ¬ Owns e3 σ2 Dp := fun z => (x5.own _ z).elim hO4 fun w => by rw [w] at hD4; cases hD4
            cases ec : cV c e3 with
            | stuck => rw [ec] at q'; exact False.elim q'
            | err n fs e => rw [ec] at q'; exact False.elim q'
            | ok z e4 =>
              rw [ec] at q'
              dsimp only at q'
              refine he _ _ _ ⟨F5, e3, f5, out_ok ec fun F6 H6 w f6 x6 rz => ?_⟩
              have hD6 : H6 Dp = some (.dK ws) := x6.keep _ _ hD5 hO5
              have hF6 : F6 Dp = none := x6.nofr _ _ hD5 (fun _ z => nomatch z) hF5 hO5
              have hO6 : ¬ Owns e4 σ2 Dp := fun z => (x6.own _ z).elim hO5 fun w => by rw [w] at hD5; cases hD5
              have ra6 := RepKK.mono ((x4.le.trans x5.le).trans x6.le) _ _ ra2
              have x16 := ((x13.trans x4).trans x5).trans x6
              cases eky : keyOf y with
              | none => rw [eky] at q'; exact False.elim q'
              | some kk =>
                rw [eky] at q'
                dsimp only at q'
                split at q'
                · rename_i hz
                  refine ⟨ws, kk, key_v ry eky, hD6, by rw [← ra.length]; exact lt_lim hz, ?_⟩
                  exact next ew (f6.aside hF6 hO6) (x16.aside hD) upd_same (ra6.put rz) hF6 hO6 q'
                · exact False.elim q'
  · have e : i = items.length := by omega
    refine .inl ⟨ii.1 e, ?_⟩
    rw [e, List.drop_length] at q'
    obtain ⟨f7, x7⟩ := ExS.back f1 x' f'
    refine q' F' H' (.ref Dp) f7 x7 ⟨Dp, _, rfl, hD, hDF, hDl, ⟨⟨ws, rfl, ra⟩, rfl⟩, fun z => ?_⟩
    obtain ⟨j, s, ej, m, qj⟩ := z
    have hl : env'.length = env1.length := by rw [f'.len, wipe_length, f1.len]
    by_cases hj : j ∈ vs
    · rw [restE_in hl hj] at ej
      exact noO (H := H1) f1 ⟨j, s, ej, m, qj⟩
    · rw [restE_out hj] at ej
      exact hDo ⟨j, s, ej, m, by rw [wipe_out' hj]; exact qj⟩
end
end Sim

/-! Sim12: comprehensions, the forms one uses. -/
namespace Sim
open PySem PySem.Spec PyProof.Rows L2
section
variable {X : Cx} {W : WX}
theorem dc_read {mg : Mg} {ci : En → Out (List D)} {k : D → En → Option En} {t : En → Out Bool} {ck c : En → Out R} {vs ks : List Nat} {wi : TI} {g : TG} {tt : TT} {tk te : TE} {σ : L2.St} {H : Hp} {Q : VK} {F : Hp} {env : En}
    (hi : ∀ σ H R, (∃ F env, FrS mg F env σ H ∧ GoodO mg W (fun _ F' _ _ H' items J => ItOk mg J items F' H') R F env σ H (ci env)) → wi σ H R)
    (hg : ∀ v σ H Q, tG mg k ks v σ H Q → g v σ H Q) (hks : ∀ i ∈ ks, i ∈ vs) (hkl : ∀ x e e', k x e = some e' → e'.length = e.length) (ht : ∀ σ H Q, tT mg W0 t σ H Q → tt σ H Q) (hk : ∀ σ H Q, tV mg W0 (cV ck) σ H Q → tk σ H Q) (he : ∀ σ H Q, tV mg W0 (cV c) σ H Q → te σ H Q)
    (f : FrS mg F env σ H) (q : GoodO mg W (relR mg) Q F env σ H (cDC ci k t ck c vs env)) : tDc wi g tt tk te vs σ H Q := by
  refine hi _ _ _ ⟨F, env, f, GoodO.bind q fun items env1 F1 H1 J e1 f1 x1 it q1 => ?_⟩
  exact dc_body hg hks hkl ht hk he f1 it (GoodO.shift back_R x1 q1)
variable {elt key tg iter : Expr} {ifs : List Expr} {scope : Scope} {own : List (Str × Nat)} {pos spos p : Pos} {ci : En → Out (List D)} {k : D → En → Option En} {ks : List Nat} {t : En → Out Bool} {c ck : En → Out R} {i : Nat} {n : Str}
theorem se_dc (hc : X.calm = true) (hN : X.N.Nodup) (hi : SI X W tg iter ci) (ok : BlkOk X.N X.env.scope scope own) (hg : Blk X scope fun Y => SG Y tg k ks) (ht : Blk X scope fun Y => SI' Y ifs t) (hk : Blk X scope fun Y => SE Y W0 key ck) (he : Blk X scope fun Y => SE Y W0 elt c)
    (hks : ∀ i ∈ ks, i ∈ own.map (·.2) := by decide) (hs : ∀ x, foldedSetIterable iter X.env x = pure x := by intro _; rfl) : SE X W (.DictComp key elt [⟨tg, iter, ifs, 0⟩] scope pos) (cDC ci k t ck c (own.map (·.2))) := by
  refine ⟨PE.imp (pe_dc (g := tG X.mg k ks) (tt := tT X.mg W0 t) (tk := tV X.mg W0 (cV ck)) (tv := tV X.mg W0 (cV c)) hc hN hi.pi ok (fun s H C cl fp => (hg s H C cl fp).pg) (fun s H C cl fp => (ht s H C cl fp).pts) (fun s H C cl fp => (sv_of (hk s H C cl fp)).pe) (fun s H C cl fp => (sv_of (he s H C cl fp)).pe) hs) fun σ H Q ⟨F, env, f, g⟩ => ?_⟩
  exact dc_read (fun _ _ _ q => q) (fun _ _ _ _ q => q) hks (hg X.s_0 (fun _ => none) 0 [] []).len (fun _ _ _ q => q) (fun _ _ _ q => q) (fun _ _ _ q => q) f g
/-- name = {..} on one line -/
theorem ps_setDc {y : Str} {py : Pos} {wi : TI} {g : TG} {tt : TT} {tk te : TE} (hc : X.calm = true) (hN : X.N.Nodup) (hy : X.N[i]? = some y) (hyl : X.env.scope.names.lookup y = some .local)
    (hsw : swapsWith (.DictComp key elt [⟨tg, iter, ifs, 0⟩] scope pos) (some (.Name y py)) spos.line X.env = pure true) (hi : PI X tg iter wi) (ok : BlkOk X.N X.env.scope scope own)
    (hg : ∀ (s : Shared) (H : Hp) (C : Addr) (cl : List (Str × Addr)) (fp : List Addr), PG (X.blk s H scope (compEnvC scope cl C X.env) fp) tg g) (ht : ∀ (s : Shared) (H : Hp) (C : Addr) (cl : List (Str × Addr)) (fp : List Addr), PTs (X.blk s H scope (compEnvC scope cl C X.env) fp) ifs tt)
    (hk : ∀ (s : Shared) (H : Hp) (C : Addr) (cl : List (Str × Addr)) (fp : List Addr), PE (X.blk s H scope (compEnvC scope cl C X.env) fp) key tk)
    (he : ∀ (s : Shared) (H : Hp) (C : Addr) (cl : List (Str × Addr)) (fp : List Addr), PE (X.blk s H scope (compEnvC scope cl C X.env) fp) elt te) (hs : ∀ x, foldedSetIterable iter X.env x = pure x := by intro _; rfl) :
    PS X (.Assign [.Name y py] (.DictComp key elt [⟨tg, iter, ifs, 0⟩] scope pos) spos) (tAsg (tDc wi g tt tk te (own.map (·.2))) (gName i)) := by
  refine ⟨fun pins s σ H D I h => ?_⟩
  rw [exec_Assign_Name_used _ _ _ _ hsw]
  refine wpAny_bind (wpAny_standAt (wpAny_bind ?_))
  have h : tDc wi g tt tk te (own.map (·.2)) σ H (fun x H1 => gName i x σ H1 D.nx) := h
  refine wpAny_bind (thn (dc_core (Qf := fun _ s' => SP X pins D .next s') hc hN I hi ok hg ht hk he hs h fun L C s' m H' I' q hn f => ?_) fun _ s' hq => wpAny_pure (wpAny_pure hq))
  show wpAny _ _ (assign (.Name y py) X.env (.ref L)) _ _ _
  refine wpAny_assign_Name (store_ok2 (v := V.ref L) I' hN hy (.inl hyl) rfl (fun s2 I2 ⟨a, sb, ha⟩ => ?_) (.inr hyl))
  obtain ⟨f0, f1, f2, f3, f4, f5⟩ := f
  have haC : C ≠ a := by
    rcases ha with z | z
    · rw [z]; exact f1
    · exact fun e => f4 y a z e.symm
  refine ⟨m, hn.sameBut sb haC, fun h3 sb3 => ?_⟩
  exact ⟨_, H', I2.turned (t' := s2.toks) (fun b o hb e => (sb3.2 b hb).trans e) f0 f1 f3 f4 f5, q⟩
theorem swD_true {elt key : Expr} {gs : List Comprehension} {scope : Scope} {pos py : Pos} {y : Str} {l : Nat} {env : Env} (hk : env.scope.kind = .function) (hy : env.scope.names.lookup y = some .local) (hl : (py.line == pos.line) = true)
    (ha : (scope.names.any fun (n, k) => n == y && (k == .local || k == .cell)) = false) : swapsWith (.DictComp key elt gs scope pos) (some (.Name y py)) l env = pure true := by
  have ky : env.kindOf y = some .local := hy
  have hb : env.blockKind = .function := by unfold Env.blockKind; rw [hk]; rfl
  unfold swapsWith
  simp only [hb, ky, ha, Expr.pos, hl]
  rfl
theorem ss_setDc {y : Str} {py : Pos} (hc : X.calm = true) (hN : X.N.Nodup) (hy : X.N[i]? = some y) (hyl : X.env.scope.names.lookup y = some .local)
    (hsw : swapsWith (.DictComp key elt [⟨tg, iter, ifs, 0⟩] scope pos) (some (.Name y py)) spos.line X.env = pure true) (hi : SI X W tg iter ci) (ok : BlkOk X.N X.env.scope scope own) (hg : Blk X scope fun Y => SG Y tg k ks) (ht : Blk X scope fun Y => SI' Y ifs t) (hk : Blk X scope fun Y => SE Y W0 key ck) (he : Blk X scope fun Y => SE Y W0 elt c)
    (hks : ∀ i ∈ ks, i ∈ own.map (·.2) := by decide) (hs : ∀ x, foldedSetIterable iter X.env x = pure x := by intro _; rfl) : SS X W (.Assign [.Name y py] (.DictComp key elt [⟨tg, iter, ifs, 0⟩] scope pos) spos) (sSet i (cDC ci k t ck c (own.map (·.2)))) := by
  refine ⟨PS.imp (ps_setDc (g := tG X.mg k ks) (tt := tT X.mg W0 t) (tk := tV X.mg W0 (cV ck)) (te := tV X.mg W0 (cV c)) hc hN hy hyl hsw hi.pi ok (fun s H C cl fp => (hg s H C cl fp).pg) (fun s H C cl fp => (ht s H C cl fp).pts) (fun s H C cl fp => (sv_of (hk s H C cl fp)).pe) (fun s H C cl fp => (sv_of (he s H C cl fp)).pe) hs) fun D' σ H ⟨F, env, f, g⟩ => ?_⟩
  exact dc_read (fun _ _ _ q => q) (fun _ _ _ _ q => q) hks (hg X.s_0 (fun _ => none) 0 [] []).len (fun _ _ _ q => q) (fun _ _ _ q => q) (fun _ _ _ q => q) f
    (GoodS.then g fun r env1 F1 H1 v e1 f1 x1 r1 g1 => store_good f1 x1 r1 g1)
/-! ### over a dict's keys -/
/-- a comprehension over a slot's dict: no error leaves it -/
theorem lock_good {mg : Mg} {F1 : Hp} {env1 : En} {σ : L2.St} {H : Hp} {d : Addr} {u : HO} {od : Obj} {Q : VK} {o : Out R} (f1 : FrS mg F1 env1 σ H) (hF : F1 d = some u) (hH : H d = some u) (g : GoodO mg W (relR mg) Q F1 env1 σ H o) :
    GoodO mg W (relR mg) (fun v H' => H' d = some (.frz od u) ∧ Q v (upd H' d u)) F1 env1 σ (upd H d (.frz od u)) o ∨ ∃ n fs e, o = .err n fs e := by
  have no : ¬ Owns env1 σ d := fun z => by have := owns_none f1 z; rw [hF] at this; cases this
  cases o with
  | ok r e2 => exact .inl fun F' H' v f' x' q => ⟨x'.keep _ _ upd_same no, g F' _ v (f'.unlock (x'.le _ _ hF)) (x'.unlock hF hH) (relR_unlock q (x'.le _ _ hF))⟩
  | err n fs e => exact .inr ⟨n, fs, e, rfl⟩
  | stuck => exact .inl g
theorem bind_err {α : Type} {o : Out α} {f : α → En → Out R} {n : Str} {fs : List (Str × D)} {e : En} (h : o.bind f = .err n fs e) (h1 : ∀ n fs e, o ≠ .err n fs e) (h2 : ∀ a e1 n fs e, f a e1 ≠ .err n fs e) : False := by
  cases o with
  | ok a e1 => exact h2 a e1 n fs e h
  | err m gs e1 => exact h1 m gs e1 rfl
  | stuck => cases h
theorem lcEnd_err {e1 : En} {vs : List Nat} {ys : List D} {e2 : En} {n : Str} {fs : List (Str × D)} {e : En} : lcEnd e1 vs ys e2 ≠ .err n fs e := fun h => by
  unfold lcEnd at h
  split at h <;> cases h
theorem dcL_err {k : D → En → Option En} {t : En → Out Bool} {ck c : En → Out D} {vs : List Nat} {n : Str} {fs : List (Str × D)} {e : En} : ∀ (xs : List D) (env : En) (acc : List (Key × D)), dcL k t ck c vs xs env acc ≠ .err n fs e
  | [], env, acc, h => nomatch h
  | x :: xs, env, acc, h => by
    unfold dcL at h
    cases ek : k x env with
    | none => rw [ek] at h; cases h
    | some e1 =>
      rw [ek] at h
      dsimp only at h
      cases et : t e1 with
      | stuck => rw [et] at h; cases h
      | err _ _ _ => rw [et] at h; cases h
      | ok b e2 =>
        rw [et] at h
        cases b with
        | false => exact dcL_err xs _ _ h
        | true =>
          dsimp only at h
          cases ec : ck e2 with
          | stuck => rw [ec] at h; cases h
          | err _ _ _ => rw [ec] at h; cases h
          | ok y e3 =>
            rw [ec] at h
            dsimp only at h
            cases ez : c e3 with
            | stuck => rw [ez] at h; cases h
            | err _ _ _ => rw [ez] at h; cases h
            | ok z e4 =>
              rw [ez] at h
              dsimp only at h
              cases eky : keyOf y with
              | none => rw [eky] at h; cases h
              | some kk =>
                rw [eky] at h
                dsimp only at h
                split at h
                · exact dcL_err xs _ _ h
                · cases h
theorem keys_read {mg : Mg} {F : Hp} {env : En} {σ : L2.St} {H : Hp} {Q : VK} {t : TE} {o : List D → En → Out R} (f : FrS mg F env σ H) (g : GoodO mg W (relR mg) Q F env σ H ((cKeys i env).bind o)) (ne : ∀ a e1 n fs e, o a e1 ≠ .err n fs e)
    (ht : ∀ {F1 : Hp} {env1 : En} {H1 : Hp} {Q : VK} {items : List D} {J : It}, FrS mg F1 env1 σ H1 → ItOk mg J items F1 H1 → (∀ (R : It → Hp → Prop), R J H1 → iKeys (tVar i) σ H1 R) → GoodO mg W (relR mg) Q F1 env1 σ H1 (o items env1) → t σ H1 Q) : tLockE t σ H Q ∨ t σ H Q := by
  cases e : cKeys i env with
  | stuck => rw [e] at g; exact False.elim g
  | err m fs e1 => exact (cKeys_err e).elim
  | ok items env1 =>
    rw [e] at g
    have g : GoodO mg W (relR mg) Q F env σ H (o items env1) := g
    obtain ⟨F1, d, u, f1, x1, es, hF, hdc, it⟩ := dict_at f e
    have g0 := GoodO.shift back_R x1 g
    rcases f1.live d u hF with hH | ⟨_, ob, hH⟩
    · refine .inl ⟨d, u, hH, dct_mut hdc, fun od => ?_⟩
      obtain ⟨J, hJ, hR⟩ := it od (upd H d (.frz od u)) upd_same
      rcases lock_good (od := od) f1 hF hH g0 with g1 | ⟨n, fs, e2, ee⟩
      · exact ht (f1.lock hF hH hdc) hJ hR g1
      · exact (ne _ _ _ _ _ ee).elim
    · obtain ⟨J, hJ, hR⟩ := it ob H hH
      exact .inr (ht f1 hJ hR g0)
theorem PE.or {e : Expr} {t u : TE} (h : PE X e t) (k : PE X e u) : PE X e (fun σ H Q => t σ H Q ∨ u σ H Q) :=
  ⟨fun pins s σ H Q I q => q.elim (h.run pins s σ H Q I) (k.run pins s σ H Q I)⟩
theorem se_lcD (hc : X.calm = true) (hN : X.N.Nodup) (hn : X.N[i]? = some n) (hv : Vis X.env.scope n) (ok : BlkOk X.N X.env.scope scope own) (hg : Blk X scope fun Y => SG Y tg k ks) (ht : Blk X scope fun Y => SI' Y ifs t) (he : Blk X scope fun Y => SE Y W0 elt c)
    (hks : ∀ i ∈ ks, i ∈ own.map (·.2) := by decide) (hd : (n == ("__debug__" : Str)) = false := by decide) (hcd : (n == ("__classdict__" : Str)) = false := by decide) (hs : ∀ x, foldedSetIterable (.Name n p) X.env x = pure x := by intro _; rfl) : SE X W (.ListComp elt [⟨tg, .Name n p, ifs, 0⟩] scope pos) (cLC (cKeys i) k t c (own.map (·.2))) := by
  have base := pe_lc (pos := pos) (g := tG X.mg k ks) (tt := tT X.mg W0 t) (te := tV X.mg W0 (cV c)) hc hN (pi_keys (tg := tg) (pe_var (pos := p) hn hv hd hcd)) ok (fun s H C cl fp => (hg s H C cl fp).pg) (fun s H C cl fp => (ht s H C cl fp).pts) (fun s H C cl fp => (sv_of (he s H C cl fp)).pe) hs
  refine ⟨PE.imp (PE.or (pe_lock base) base) fun σ H Q ⟨F, env, f, g⟩ => ?_⟩
  refine keys_read f g (fun a e1 n fs e z => bind_err z (fun _ _ _ => lcL_err _ _) fun _ _ _ _ _ => lcEnd_err) fun {F1 env1 H1 Q items J} f1 hJ hR g1 => hR _ ?_
  exact lc_body (fun _ _ _ _ q => q) hks (hg X.s_0 (fun _ => none) 0 [] []).len (fun _ _ _ q => q) (fun _ _ _ q => q) f1 hJ g1
theorem se_dcD (hc : X.calm = true) (hN : X.N.Nodup) (hn : X.N[i]? = some n) (hv : Vis X.env.scope n) (ok : BlkOk X.N X.env.scope scope own) (hg : Blk X scope fun Y => SG Y tg k ks) (ht : Blk X scope fun Y => SI' Y ifs t) (hk : Blk X scope fun Y => SE Y W0 key ck) (he : Blk X scope fun Y => SE Y W0 elt c)
    (hks : ∀ i ∈ ks, i ∈ own.map (·.2) := by decide) (hd : (n == ("__debug__" : Str)) = false := by decide) (hcd : (n == ("__classdict__" : Str)) = false := by decide) (hs : ∀ x, foldedSetIterable (.Name n p) X.env x = pure x := by intro _; rfl) : SE X W (.DictComp key elt [⟨tg, .Name n p, ifs, 0⟩] scope pos) (cDC (cKeys i) k t ck c (own.map (·.2))) := by
  have base := pe_dc (pos := pos) (g := tG X.mg k ks) (tt := tT X.mg W0 t) (tk := tV X.mg W0 (cV ck)) (tv := tV X.mg W0 (cV c)) hc hN (pi_keys (tg := tg) (pe_var (pos := p) hn hv hd hcd)) ok (fun s H C cl fp => (hg s H C cl fp).pg) (fun s H C cl fp => (ht s H C cl fp).pts) (fun s H C cl fp => (sv_of (hk s H C cl fp)).pe) (fun s H C cl fp => (sv_of (he s H C cl fp)).pe) hs
  refine ⟨PE.imp (PE.or (pe_lock base) base) fun σ H Q ⟨F, env, f, g⟩ => ?_⟩
  refine keys_read f g (fun a e1 n fs e z => bind_err z (fun _ _ _ => dcL_err _ _ _) fun _ _ _ _ _ z => nomatch z) fun {F1 env1 H1 Q items J} f1 hJ hR g1 => hR _ ?_
  exact dc_body (fun _ _ _ _ q => q) hks (hg X.s_0 (fun _ => none) 0 [] []).len (fun _ _ _ q => q) (fun _ _ _ q => q) (fun _ _ _ q => q) f1 hJ g1
end
end Sim

/-! Sim13: defs and calls. -/
namespace Sim
open PySem PySem.Spec PyProof.Rows L2

/-! ### what a def is worth -/
inductive OutF where
  | ret (r : R) (post : List Sl)
  | err (x : Str) (fs : List (Str × D)) (post : List Sl)
  | stuck
abbrev Fn := List Sl → OutF
def GoodF (mg : Mg) (Q : VK) (E : XK) (F : Hp) (env : En) (σ : L2.St) (H : Hp) : OutF → Prop
  | .ret r post => ∀ F' H' v, FrS mg F' post σ H' → ExS F env σ H F' post σ H' → relR mg H F' post σ H' r v → Q v H'
  | .err x fs post => ∀ F' H' c d, FrS mg F' post σ H' → ExS F env σ H F' post σ H' → ErrAt mg F' H' x fs c d → E c d H'
  | .stuck => False
def isPar : Sl → Bool
  | .d _ => true | .ref _ => true | _ => false
def spOf (mg : Mg) (n : Nat) (fn : Fn) : Sp := fun vs H Q E => vs.length = n ∧ ∃ F slots, (∀ s ∈ slots, isPar s = true) ∧ FrS mg F slots (vs.map some) H ∧ GoodF mg Q E F slots (vs.map some) H (fn slots)
/-- the parameters behind the body -/
def postOf : List Sl → En → List Sl
  | [], _ => []
  | s :: ss, e => (if isRef s = true then e.headD .no else s) :: postOf ss e.tail
def mkFn (m : Nat) (body : En → OutS) : Fn := fun slots => match body (slots ++ List.replicate (m - slots.length) .no) with
  | .next e => .ret (.d .non) (postOf slots e)
  | .ret r e => (match r with
    | .d x => .ret (.d x) (postOf slots e)
    | .new x => .ret (.new x) (postOf slots e)
    | .at i => (match e[i]? with
      | some (.own x) => if i < slots.length then .stuck else .ret (.new x) (postOf slots e)
      | some (.d x) => .ret (.d x) (postOf slots e)
      | _ => .stuck))
  | .err x fs e => .err x fs (postOf slots e)
  | _ => .stuck
theorem post_len : ∀ (ss : List Sl) (e : En), (postOf ss e).length = ss.length
  | [], _ => rfl
  | s :: ss, e => by simp [postOf, post_len ss]
theorem post_get : ∀ {ss : List Sl} {e : En} {i : Nat} {s : Sl}, (postOf ss e)[i]? = some s → (∃ y, ss[i]? = some (.ref y) ∧ s = (e[i]?).getD .no) ∨ (ss[i]? = some s ∧ isRef s = false)
  | [], e, i, s, h => by simp [postOf] at h
  | t :: ss, e, 0, s, h => by
    have h1 : (if isRef t = true then e.headD .no else t) = s := by simpa [postOf] using h
    by_cases ht : isRef t = true
    · rw [if_pos ht] at h1
      cases t with
      | ref y => refine .inl ⟨y, rfl, ?_⟩; rw [← h1]; cases e <;> rfl
      | _ => cases ht
    · rw [if_neg ht] at h1
      rw [← h1]
      exact .inr ⟨rfl, by simpa using ht⟩
  | t :: ss, e, i + 1, s, h => by
    have h : (postOf ss e.tail)[i]? = some s := by simpa [postOf] using h
    rcases post_get h with ⟨y, e1, e2⟩ | ⟨e1, e2⟩
    · refine .inl ⟨y, by simpa using e1, ?_⟩
      rw [e2]
      cases e with
      | nil => rfl
      | cons _ _ => simp
    · exact .inr ⟨by simpa using e1, e2⟩
section
variable {mg : Mg} {F F' : Hp} {slots env : En} {vs : List V} {σ : L2.St} {H H' : Hp}
theorem vm_get {vs : List V} {i : Nat} {v : V} : (vs.map some)[i]? = some (some v) ↔ vs[i]? = some v := by
  rw [List.getElem?_map]
  cases vs[i]? <;> simp
theorem par_mut {s : Sl} {y : D} (h : isPar s = true) (m : s.mut = some y) : s = .ref y := by
  cases s with
  | ref z => cases m; rfl
  | d z => cases m
  | no => cases m
  | own z => cases h
/-- from the body's end to the parameters -/
theorem post_ok {N : List Str} (hp : ∀ s ∈ slots, isPar s = true) (f0 : FrS mg F slots (vs.map some) H) (x : ExS F (slots ++ List.replicate (N.length - slots.length) .no) (L2.start N vs) H F' env σ H') (f : FrS mg F' env σ H') :
    FrS mg F' (postOf slots env) (vs.map some) H' ∧ ExS F slots (vs.map some) H F' (postOf slots env) (vs.map some) H' ∧ (∀ a, Owns (postOf slots env) (vs.map some) a → Owns env σ a) := by
  have hl : slots.length = vs.length := by have := f0.len; simpa using this
  have gs : ∀ {i : Nat} {s : Sl}, slots[i]? = some s → (slots ++ List.replicate (N.length - slots.length) Sl.no)[i]? = some s := fun {i s} e => by
    rw [List.getElem?_append_left (List.getElem?_eq_some_iff.mp e).1]; exact e
  have gv : ∀ {i : Nat} {v : V}, vs[i]? = some v → (L2.start N vs)[i]? = some (some v) := fun {i v} e => by
    unfold L2.start
    rw [List.getElem?_append_left (by simpa using (List.getElem?_eq_some_iff.mp e).1), List.getElem?_map, e]; rfl
  have ow : ∀ {a : Addr}, Owns (slots ++ List.replicate (N.length - slots.length) Sl.no) (L2.start N vs) a → Owns slots (vs.map some) a := fun {a} ⟨i, s, e, m, q⟩ => by
    by_cases hi : i < slots.length
    · rw [List.getElem?_append_left hi] at e
      refine ⟨i, s, e, m, ?_⟩
      unfold L2.start at q
      rw [List.getElem?_append_left (by simp; omega)] at q
      exact q
    · rw [List.getElem?_append_right (by omega)] at e
      have := List.getElem?_eq_some_iff.mp e
      obtain ⟨_, e⟩ := this
      simp at e
      subst e
      cases m
  have ref : ∀ {i : Nat} {y : D}, slots[i]? = some (.ref y) → ∃ y', env[i]? = some (.ref y') ∧ ∃ v, vs[i]? = some v ∧ σ[i]? = some (some v) := fun {i y} e => by
    obtain ⟨y', q1, q2⟩ := x.refs i y (gs e)
    have hi : i < vs.length := by rw [← hl]; exact (List.getElem?_eq_some_iff.mp e).1
    exact ⟨y', q1, vs[i], by simp [hi], by rw [q2, gv (v := vs[i]) (by simp [hi])]⟩
  have pg : ∀ {i : Nat} {s : Sl}, (postOf slots env)[i]? = some s → (∃ y y', slots[i]? = some (.ref y) ∧ env[i]? = some s ∧ s = .ref y') ∨ (slots[i]? = some s ∧ isRef s = false) := fun {i s} e => by
    rcases post_get e with ⟨y, e1, e2⟩ | h
    · obtain ⟨y', q1, _⟩ := ref e1
      rw [q1] at e2
      exact .inl ⟨y, y', e1, by rw [q1, e2]; rfl, e2⟩
    · exact .inr h
  have pm : ∀ {i : Nat} {s : Sl} {a : Addr}, (postOf slots env)[i]? = some s → s.mut.isSome = true → (vs.map some)[i]? = some (some (.ref a)) → ∃ y, slots[i]? = some (.ref y) ∧ env[i]? = some s ∧ σ[i]? = some (some (.ref a)) := fun {i s a} e m q => by
    rcases pg e with ⟨y, y', e1, e2, _⟩ | ⟨e1, e2⟩
    · obtain ⟨_, _, v, q2, q3⟩ := ref e1
      rw [vm_get.mp q] at q2
      cases q2
      exact ⟨y, e1, e2, q3⟩
    · cases em : s.mut with
      | none => rw [em] at m; cases m
      | some y =>
        have := par_mut (hp s (List.mem_of_getElem? e1)) em
        subst this
        cases e2
  refine ⟨⟨f.live, by rw [post_len, List.length_map, hl], fun i y e => ?_, fun i s y e m => ?_, fun i j s t a ei ej hs ht q1 q2 => ?_⟩, ⟨x.le, fun a o h n => x.keep a o h fun q => n (ow q), x.live, fun a o h t n no => x.nofr a o h t n fun q => no (ow q), fun a q => ?_, fun i y e => ?_⟩, fun a q => ?_⟩
  · rcases pg e with ⟨_, _, _, _, e3⟩ | ⟨e1, _⟩
    · cases e3
    · obtain ⟨v, q1, q2⟩ := f0.val i y e1
      exact ⟨v, q1, q2.mono x.le⟩
  · rcases pg e with ⟨z, y', e1, e2, e3⟩ | ⟨e1, e2⟩
    · obtain ⟨_, _, v, q2, q3⟩ := ref e1
      obtain ⟨a, o, p1, p2, p3, p4⟩ := f.mt i s y e2 m
      rw [q3] at p1
      cases p1
      exact ⟨a, o, vm_get.mpr q2, p2, p3, p4⟩
    · have := par_mut (hp s (List.mem_of_getElem? e1)) m
      subst this
      cases e2
  · obtain ⟨_, _, e1, p1⟩ := pm ei hs q1
    obtain ⟨_, _, e2, p2⟩ := pm ej ht q2
    exact f.dis i j s t a e1 e2 hs ht p1 p2
  · obtain ⟨i, s, e, m, q⟩ := q
    obtain ⟨_, _, e1, p1⟩ := pm e m q
    exact (x.own a ⟨i, s, e1, m, p1⟩).imp ow id
  · obtain ⟨y', q1, _⟩ := ref e
    have hi : i < (postOf slots env).length := by rw [post_len]; exact (List.getElem?_eq_some_iff.mp e).1
    have hs : (postOf slots env)[i]? = some ((postOf slots env)[i]) := by simp [hi]
    rcases pg hs with ⟨z, z', e1, e2, e3⟩ | ⟨e1, e2⟩
    · exact ⟨z', by rw [hs, e3], rfl⟩
    · have hh : Sl.ref y = _ := Option.some.inj (e.symm.trans e1)
      rw [← hh] at e2
      cases e2
  · obtain ⟨i, s, e, m, q⟩ := q
    obtain ⟨_, _, e1, p1⟩ := pm e m q
    exact ⟨i, s, e1, m, p1⟩
theorem FrS.start {N : List Str} (f0 : FrS mg F slots (vs.map some) H) (hn : slots.length ≤ N.length) : FrS mg F (slots ++ List.replicate (N.length - slots.length) .no) (L2.start N vs) H := by
  have hl : slots.length = vs.length := by have := f0.len; simpa using this
  have get : ∀ {i : Nat} {s : Sl}, (slots ++ List.replicate (N.length - slots.length) Sl.no)[i]? = some s → s ≠ .no → slots[i]? = some s := fun {i s} e h => by
    by_cases hi : i < slots.length
    · rw [List.getElem?_append_left hi] at e; exact e
    · rw [List.getElem?_append_right (by omega)] at e
      obtain ⟨_, e⟩ := List.getElem?_eq_some_iff.mp e
      simp at e
      exact absurd e.symm h
  have gv : ∀ {i : Nat}, i < slots.length → (L2.start N vs)[i]? = (vs.map some)[i]? := fun {i} h => by
    unfold L2.start
    rw [List.getElem?_append_left (by simp; omega)]
  refine ⟨f0.live, by unfold L2.start; simp; omega, fun i y e => ?_, fun i s y e m => ?_, fun i j s t a ei ej hs ht q1 q2 => ?_⟩
  · have e1 := get e (fun z => nomatch z)
    rw [gv (List.getElem?_eq_some_iff.mp e1).1]; exact f0.val i y e1
  · have e1 := get e (fun z => by subst z; cases m)
    rw [gv (List.getElem?_eq_some_iff.mp e1).1]; exact f0.mt i s y e1 m
  · have e1 := get ei (fun z => by subst z; cases hs)
    have e2 := get ej (fun z => by subst z; cases ht)
    rw [gv (List.getElem?_eq_some_iff.mp e1).1] at q1
    rw [gv (List.getElem?_eq_some_iff.mp e2).1] at q2
    exact f0.dis i j s t a e1 e2 hs ht q1 q2
end
/-! ### a def of the text keeps what its body gives -/
/-- the wish of a def's body -/
abbrev WD (E : XK) : WX := fun cls d _ H => E cls d H
theorem body_good {mg : Mg} {n : Nat} {N : List Str} {body : En → OutS} {vs : List V} {H : Hp} {Q : VK} {E : XK} (hn : vs.length ≤ N.length) (h : spOf mg n (mkFn N.length body) vs H Q E) :
    tS mg (WD E) body { nx := fun _ H' => Q .non H', rt := Q } (L2.start N vs) H := by
  obtain ⟨_, F, slots, hp, f, g⟩ := h
  have hl : slots.length = vs.length := by have := f.len; simpa using this
  refine ⟨F, slots ++ List.replicate (N.length - slots.length) .no, f.start (by omega), ?_⟩
  unfold mkFn at g
  have nO : ∀ {i : Nat} {e : En} {F' : Hp} {σ : L2.St} {H' : Hp} {x : D}, ExS F (slots ++ List.replicate (N.length - slots.length) .no) (L2.start N vs) H F' e σ H' → True := fun _ => trivial
  cases eb : body (slots ++ List.replicate (N.length - slots.length) .no) with
  | next e =>
    rw [eb] at g
    intro F' σ' H' f' x'
    obtain ⟨p1, p2, _⟩ := post_ok hp f x' f'
    exact g F' H' .non p1 p2 (.inl rfl)
  | brk e => rw [eb] at g; exact False.elim g
  | cont e => rw [eb] at g; exact False.elim g
  | stuck => rw [eb] at g; exact False.elim g
  | err m fs e =>
    rw [eb] at g
    intro F' σ' H' c d f' x' er
    obtain ⟨p1, p2, _⟩ := post_ok hp f x' f'
    exact g F' H' c d p1 p2 er
  | ret r e =>
    rw [eb] at g
    intro F' σ' H' v f' x' rl
    obtain ⟨p1, p2, p3⟩ := post_ok hp f x' f'
    cases r with
    | d x => exact g F' H' v p1 p2 rl
    | new x =>
      obtain ⟨a, o, ev, q1, q2, q3, q4, q5⟩ := rl
      exact g F' H' v p1 p2 ⟨a, o, ev, q1, q2, q3, q4, fun z => q5 (p3 a z)⟩
    | «at» i =>
      obtain ⟨e1, s, es, m⟩ := rl
      have g : GoodF mg Q E F slots (vs.map some) H (match e[i]? with
        | some (.own x) => if i < slots.length then .stuck else .ret (.new x) (postOf slots e)
        | some (.d x) => .ret (.d x) (postOf slots e)
        | _ => .stuck) := g
      rw [es] at g
      cases s with
      | no => cases m
      | d x => cases m
      | ref x => exact False.elim g
      | own x =>
        dsimp only at g
        split at g
        · exact False.elim g
        · rename_i hi
          obtain ⟨a, o, q1, n', q2, q3, ow⟩ := f'.own_at es rfl
          rw [e1] at q1
          cases q1
          -- the object is a local's own: it is none of the parameters', and new
          have hpo : ¬ Owns (postOf slots e) (vs.map some) a := fun ⟨j, s, ej, ms, qj⟩ => by
            have hj : j < slots.length := by rw [← post_len slots e]; exact (List.getElem?_eq_some_iff.mp ej).1
            rcases post_get ej with ⟨y, k1, k2⟩ | ⟨k1, k2⟩
            · obtain ⟨y', z1, z2⟩ := x'.refs j y (by rw [List.getElem?_append_left hj]; exact k1)
              have z3 : σ'[j]? = some (some (.ref a)) := by
                rw [z2]
                unfold L2.start
                rw [List.getElem?_append_left (by simp; omega)]
                exact qj
              have := f'.dis j i _ _ a z1 es rfl rfl z3 e1
              omega
            · cases em : s.mut with
              | none => rw [em] at ms; cases ms
              | some y =>
                have := par_mut (hp s (List.mem_of_getElem? k1)) em
                subst this
                cases k2
          have hnew : H a = none := by
            rcases x'.own a ow with ⟨j, s, ej, ms, qj⟩ | w
            · by_cases hj : j < slots.length
              · rw [List.getElem?_append_left hj] at ej
                cases em : s.mut with
                | none => rw [em] at ms; cases ms
                | some y =>
                  have := par_mut (hp s (List.mem_of_getElem? ej)) em
                  subst this
                  obtain ⟨y', z1, z2⟩ := x'.refs j y (by rw [List.getElem?_append_left hj]; exact ej)
                  have := f'.dis j i _ _ a z1 es rfl rfl (z2.trans qj) e1
                  omega
              · rw [List.getElem?_append_right (by omega)] at ej
                obtain ⟨_, ej⟩ := List.getElem?_eq_some_iff.mp ej
                simp at ej
                subst ej
                cases ms
            · exact w
          exact g F' H' (.ref a) p1 p2 ⟨a, o, rfl, hnew, n', q2, q3, hpo⟩
theorem xe_cx {P : Program} {w : World} {K : PySem.W.Frag} {mg : Mg} {base : Heap} {N : List Str} {qual : Str} {scope : Scope} {f : Addr} {cdv : Value} {A : Around} {outer : List Env} {s : Shared} {H : Hp} {E : XK} :
    L2N.Takes (cxOf (L2N.CX P w) P w K mg base N qual scope f cdv A outer s H E) (WD E) := L2N.takes_of rfl rfl rfl rfl
/-- what the body's derivation may lean on -/
structure Bd (P : Program) (w : World) (K : PySem.W.Frag) (mg : Mg) (base : Heap) (k : Nat) (N : List Str) (scope : Scope) (X : Cx) (W : WX) : Prop where
  prog : X.prog = P
  w : X.w = w
  K : X.K = K
  mg : X.mg = mg
  base : X.base = base
theorem fn_ok {P : Program} {w : World} {K : PySem.W.Frag} {mg : Mg} {base : Heap} {x qual : Str} {params : Arguments} {body : List Stmt} {scope : Scope} {f : Addr} {fd : FuncData} {N ps : List Str} {k : Nat} {c : En → OutS}
    (F : FunD K x qual params body scope [] [] f fd) (S : FnScope N ps scope) (hn : ps.length ≤ N.length)
    (hb : ∀ (cdv : Value) (A : Around) (outer : List Env) (s : Shared) (H : Hp) (E : XK), Room k (A.deeper (envOfC qual scope s.heap.objs.size f cdv)) →
      SB (cxOf (L2N.CX P w) P w K mg base N qual scope f cdv A outer s H E) (WD E) body c) :
    FnOk P w K mg base (L2N.CX P w) (k + 1) f fd ps (spOf mg ps.length (mkFn N.length c)) :=
  F.ok S (fun _ _ _ _ h => h.1) fun cdv A outer s H vs Q E hr h => ⟨_, (hb cdv A outer s H E hr).pss, body_good (by rw [h.1]; exact hn) h⟩
end Sim

/-! Sim14: calls of defs, methods, constructors. -/
namespace Sim
open PySem PySem.Spec PyProof.Rows L2

/-! ### arguments: values, objects handed on as they stand -/
inductive Ag where
  | v (c : En → Out R) | p (c : En → Out R)
/-- .. a slot's own object is frozen by v, a parameter's object is handed on -/
def fix (r : R) (env : En) : Out P := match r with
  | .d x => .ok (.d x) env
  | .new x => .ok (.d x) env
  | .at i => match env[i]? with
    | some (.own x) => .ok (.d x) (env.set i (.d x))
    | some (.d x) => .ok (.d x) env
    | some (.ref _) => .ok (.at i) env
    | _ => .stuck
def cAg : Ag → En → Out P
  | .v c, env => (c env).bind fix
  | .p c, env => cP c env
def cAs : List Ag → En → Out (List P)
  | [], env => .ok [] env
  | g :: gs, env => (cAg g env).bind fun p e => (cAs gs e).bind fun ps e2 => .ok (p :: ps) e2
def KeptL (mg : Mg) (F : Hp) (σ : L2.St) : List P → List V → Prop
  | [], vs => vs = []
  | p :: ps, vs => ∃ v r, vs = v :: r ∧ Kept mg F σ p v ∧ KeptL mg F σ ps r
theorem Kept.mono {mg : Mg} {F F' : Hp} {σ : L2.St} {p : P} {v : V} (x : LeF F F') (h : Kept mg F σ p v) : Kept mg F' σ p v := by
  cases p with
  | d y => exact RepD.mono x h
  | «at» i => exact h
theorem KeptL.mono {mg : Mg} {F F' : Hp} {σ : L2.St} (x : LeF F F') : ∀ {ps : List P} {vs : List V}, KeptL mg F σ ps vs → KeptL mg F' σ ps vs
  | [], _, h => h
  | p :: ps, _, ⟨v, r, e, h, t⟩ => ⟨v, r, e, h.mono x, t.mono x⟩
theorem KeptL.length {mg : Mg} {F : Hp} {σ : L2.St} : ∀ {ps : List P} {vs : List V}, KeptL mg F σ ps vs → ps.length = vs.length
  | [], _, h => by have e : _ = [] := h; rw [e]; rfl
  | p :: ps, _, ⟨v, r, e, h, t⟩ => by rw [e]; simp [t.length]
def relK (mg : Mg) : Rel P V := fun _ F' _ σ _ p v => Kept mg F' σ p v
def relKL (mg : Mg) : Rel (List P) (List V) := fun _ F' _ σ _ ps vs => KeptL mg F' σ ps vs
theorem back_K {mg : Mg} : Back (relK mg) := fun _ _ _ _ _ _ _ _ _ h => h
theorem back_KL {mg : Mg} : Back (relKL mg) := fun _ _ _ _ _ _ _ _ _ h => h
structure SG1 (X : Cx) (W : WX) (e : Expr) (g : Ag) : Prop where
  pe : PE X e (fun σ H Q => ∃ F env, FrS X.mg F env σ H ∧ GoodO X.mg W (relK X.mg) Q F env σ H (cAg g env))
structure SAs (X : Cx) (W : WX) (es : List Expr) (gs : List Ag) : Prop where
  pa : PA X es (fun σ H Q => ∃ F env, FrS X.mg F env σ H ∧ GoodO X.mg W (relKL X.mg) Q F env σ H (cAs gs env))
section
variable {X : Cx} {W : WX} {e : Expr} {c : En → Out R} {es : List Expr} {gs : List Ag} {g : Ag}
theorem ag_v (h : SE X W e c) : SG1 X W e (.v c) := by
  refine ⟨PE.imp h.pe fun σ H Q q => ?_⟩
  obtain ⟨F, env, f, g⟩ := q
  refine ⟨F, env, f, GoodO.bind g fun r env1 F1 H1 v _ f1 x1 rl g1 => ?_⟩
  cases r with
  | d x => exact g1 F1 H1 v f1 x1 rl
  | new x =>
    obtain ⟨a, o, rfl, n, hF, hH, rp, no⟩ := rl
    exact g1 (upd F1 a o) H1 (.ref a) (f1.freezeNew hF hH rp no) (x1.freezeNew hF n) (.inr ⟨a, o, rfl, upd_same, (rp.mono (LeF.upd hF)).1⟩)
  | «at» i =>
    obtain ⟨e1, s, e2, m⟩ := rl
    unfold fix at g1
    dsimp only at g1
    rw [e2] at g1
    cases s with
    | no => cases m
    | d x => cases m
    | ref x => exact g1 F1 H1 v f1 x1 e1
    | own x =>
      obtain ⟨a, o, q1, n, q2, q3, ow⟩ := f1.own_at e2 rfl
      rw [e1] at q1
      cases q1
      exact g1 (upd F1 a o) H1 (.ref a) (f1.freezeAt e2 e1 n q2 q3) (x1.freezeAt e2 e1 n) (.inr ⟨a, o, rfl, upd_same, (q3.mono (LeF.upd n)).1⟩)
theorem ag_p (h : SE X W e c) : SG1 X W e (.p c) := by
  refine ⟨PE.imp (sp_of h).pe fun σ H Q q => ?_⟩
  obtain ⟨F, env, f, g⟩ := q
  refine ⟨F, env, f, ?_⟩
  cases h : cP c env with
  | ok p e1 =>
    have g' : GoodO X.mg W (relK X.mg) Q F env σ H (.ok p e1) := by rw [← h]; exact g
    exact fun F1 H1 v f1 x1 r1 => g' F1 H1 v f1 x1 (relP_on r1 (LeF.refl _))
  | err n fs e1 =>
    have g' : GoodO X.mg W (relK X.mg) Q F env σ H (.err n fs e1) := by rw [← h]; exact g
    exact g'
  | stuck =>
    have g' : GoodO X.mg W (relK X.mg) Q F env σ H .stuck := by rw [← h]; exact g
    exact g'
theorem sas_nil : SAs X W [] [] := ⟨PA.imp pa_nil fun σ H Q ⟨F, env, fr, g⟩ => g F H [] fr ExS.refl rfl⟩
theorem sas_cons (h : SG1 X W e g) (t : SAs X W es gs) (hs : starEach (e :: es) X.env = (false, eval e X.env) :: starEach es X.env := by rfl) : SAs X W (e :: es) (g :: gs) := by
  refine ⟨PA.imp (pa_cons h.pe t.pa hs) fun σ H Q ⟨F, env, fr, g⟩ => ?_⟩
  refine ⟨F, env, fr, GoodO.bind g fun x env1 F1 H1 v e1 f1 x1 r1 g1 => ?_⟩
  refine ⟨F1, env1, f1, GoodO.bind (GoodO.shift back_KL x1 g1) fun xs env2 F2 H2 vs e2 f2 x2 r2 g2 => ?_⟩
  exact g2 F2 H2 _ f2 x2 ⟨v, vs, rfl, Kept.mono x2.le r1, r2⟩
end
/-! ### into the callee's slots, and back -/
def slotsOf : List P → En → Option (List Sl)
  | [], _ => some []
  | .d x :: ps, e => (slotsOf ps e).map (.d x :: ·)
  | .at i :: ps, e => (e[i]?.bind Sl.mut).bind fun x => (slotsOf ps e).map (.ref x :: ·)
def idxs : List P → List Nat
  | [] => []
  | .d _ :: ps => idxs ps
  | .at i :: ps => i :: idxs ps
def putAt (i : Nat) (s : Sl) (e : En) : En := match e[i]?, s.cont with
  | some t, some x => e.set i (t.with x)
  | _, _ => e
def putBack : List P → List Sl → En → En
  | .d _ :: ps, ss, e => putBack ps ss.tail e
  | .at i :: ps, s :: ss, e => putAt i s (putBack ps ss e)
  | _, _, e => e
theorem slots_len : ∀ {ps : List P} {e : En} {ss : List Sl}, slotsOf ps e = some ss → ss.length = ps.length
  | [], _, _, h => by cases h; rfl
  | .d x :: ps, e, ss, h => by
    unfold slotsOf at h
    cases q : slotsOf ps e with
    | none => rw [q] at h; cases h
    | some t => rw [q] at h; cases h; simp [slots_len q]
  | .at i :: ps, e, ss, h => by
    unfold slotsOf at h
    cases q1 : e[i]?.bind Sl.mut with
    | none => rw [q1] at h; cases h
    | some x =>
      rw [q1] at h
      cases q : slotsOf ps e with
      | none => rw [q] at h; cases h
      | some t => rw [q] at h; cases h; simp [slots_len q]
/-- a slot of the callee -/
theorem slots_get : ∀ {ps : List P} {e : En} {ss : List Sl} {j : Nat} {s : Sl}, slotsOf ps e = some ss → ss[j]? = some s → (∃ x, ps[j]? = some (.d x) ∧ s = .d x) ∨ ∃ i t x, ps[j]? = some (.at i) ∧ e[i]? = some t ∧ t.mut = some x ∧ s = .ref x
  | [], _, _, j, s, h, q => by cases h; simp at q
  | .d x :: ps, e, ss, j, s, h, q => by
    unfold slotsOf at h
    cases z : slotsOf ps e with
    | none => rw [z] at h; cases h
    | some t =>
      rw [z] at h
      cases h
      cases j with
      | zero => exact .inl ⟨x, rfl, by simpa using q.symm⟩
      | succ j => simpa using slots_get (j := j) z (by simpa using q)
  | .at i :: ps, e, ss, j, s, h, q => by
    unfold slotsOf at h
    cases q1 : e[i]?.bind Sl.mut with
    | none => rw [q1] at h; cases h
    | some x =>
      rw [q1] at h
      cases z : slotsOf ps e with
      | none => rw [z] at h; cases h
      | some t =>
        rw [z] at h
        cases h
        cases j with
        | zero =>
          obtain ⟨t', e1, e2⟩ := Option.bind_eq_some_iff.mp q1
          exact .inr ⟨i, t', x, rfl, e1, e2, by simpa using q.symm⟩
        | succ j => simpa using slots_get (j := j) z (by simpa using q)
theorem idxs_mem : ∀ {ps : List P} {i : Nat}, i ∈ idxs ps ↔ ∃ j : Nat, ps[j]? = some (P.at i)
  | [], i => by simp [idxs]
  | .d x :: ps, i => by
    rw [show idxs (.d x :: ps) = idxs ps from rfl, idxs_mem]
    constructor
    · rintro ⟨j, e⟩; exact ⟨j + 1, by simpa using e⟩
    · rintro ⟨j, e⟩
      cases j with
      | zero => cases e
      | succ j => exact ⟨j, by simpa using e⟩
  | .at k :: ps, i => by
    rw [show idxs (.at k :: ps) = k :: idxs ps from rfl, List.mem_cons, idxs_mem]
    constructor
    · rintro (rfl | ⟨j, e⟩)
      · exact ⟨0, rfl⟩
      · exact ⟨j + 1, by simpa using e⟩
    · rintro ⟨j, e⟩
      cases j with
      | zero => cases e; exact .inl rfl
      | succ j => exact .inr ⟨j, by simpa using e⟩
theorem idxs_inj : ∀ {ps : List P} {i j k : Nat}, (idxs ps).Nodup → ps[j]? = some (P.at i) → ps[k]? = some (P.at i) → j = k
  | [], i, j, k, _, h, _ => by simp at h
  | .d x :: ps, i, j, k, n, h1, h2 => by
    cases j with
    | zero => cases h1
    | succ j =>
      cases k with
      | zero => cases h2
      | succ k => exact congrArg (· + 1) (idxs_inj (ps := ps) (i := i) (j := j) (k := k) n (by simpa using h1) (by simpa using h2))
  | .at m :: ps, i, j, k, n, h1, h2 => by
    have n' : (m :: idxs ps).Nodup := n
    rw [List.nodup_cons] at n'
    cases j with
    | zero =>
      cases h1
      cases k with
      | zero => rfl
      | succ k => exact absurd (idxs_mem.mpr ⟨k, by simpa using h2⟩) n'.1
    | succ j =>
      cases k with
      | zero => cases h2; exact absurd (idxs_mem.mpr ⟨j, by simpa using h1⟩) n'.1
      | succ k => exact congrArg (· + 1) (idxs_inj (ps := ps) (i := i) (j := j) (k := k) n'.2 (by simpa using h1) (by simpa using h2))
theorem putAt_len {i : Nat} {s : Sl} {e : En} : (putAt i s e).length = e.length := by
  unfold putAt
  split <;> simp
theorem putBack_len : ∀ {ps : List P} {ss : List Sl} {e : En}, (putBack ps ss e).length = e.length
  | [], _, _ => by unfold putBack; rfl
  | .d _ :: ps, ss, e => by unfold putBack; exact putBack_len
  | .at i :: ps, [], e => by unfold putBack; rfl
  | .at i :: ps, s :: ss, e => by unfold putBack; rw [putAt_len, putBack_len]
theorem putAt_ne {i k : Nat} {s : Sl} {e : En} (h : i ≠ k) : (putAt i s e)[k]? = e[k]? := by
  unfold putAt
  split
  · exact List.getElem?_set_ne h
  · rfl
theorem putBack_out : ∀ {ps : List P} {ss : List Sl} {e : En} {k : Nat}, k ∉ idxs ps → (putBack ps ss e)[k]? = e[k]?
  | [], _, _, _, _ => by unfold putBack; rfl
  | .d _ :: ps, ss, e, k, h => by unfold putBack; exact putBack_out (ps := ps) h
  | .at i :: ps, [], e, k, h => by unfold putBack; rfl
  | .at i :: ps, s :: ss, e, k, h => by
    have h' : k ∉ i :: idxs ps := h
    simp only [List.mem_cons, not_or] at h'
    unfold putBack
    rw [putAt_ne (Ne.symm h'.1), putBack_out h'.2]
theorem putBack_in : ∀ {ps : List P} {ss : List Sl} {e : En} {j k : Nat} {t : Sl} {x : D}, (idxs ps).Nodup → ps[j]? = some (.at k) → ss[j]? = some (.ref x) → e[k]? = some t → (putBack ps ss e)[k]? = some (t.with x)
  | [], _, _, j, _, _, _, _, h, _, _ => by simp at h
  | .d _ :: ps, ss, e, j, k, t, x, n, h, hs, he => by
    unfold putBack
    cases j with
    | zero => cases h
    | succ j => exact putBack_in (ps := ps) (j := j) n (by simpa using h) (by cases ss with | nil => simp at hs | cons a b => simpa using hs) he
  | .at i :: ps, [], e, j, k, t, x, n, h, hs, he => by simp at hs
  | .at i :: ps, s :: ss, e, j, k, t, x, n, h, hs, he => by
    have n' : (i :: idxs ps).Nodup := n
    rw [List.nodup_cons] at n'
    unfold putBack
    cases j with
    | zero =>
      cases h
      have hs : s = .ref x := by simpa using hs
      subst hs
      have : (putBack ps ss e)[i]? = some t := by rw [putBack_out n'.1]; exact he
      unfold putAt
      rw [this]
      exact nth_set_self (List.getElem?_eq_some_iff.mp this).1
    | succ j =>
      have h2 : ps[j]? = some (.at k) := by simpa using h
      have ne : i ≠ k := fun z => by subst z; exact n'.1 (idxs_mem.mpr ⟨j, h2⟩)
      rw [putAt_ne ne]
      exact putBack_in n'.2 h2 (by simpa using hs) he
theorem KeptL.at' {mg : Mg} {F : Hp} {σ : L2.St} : ∀ {ps : List P} {vs : List V} {j : Nat} {p : P}, KeptL mg F σ ps vs → ps[j]? = some p → ∃ v, vs[j]? = some v ∧ Kept mg F σ p v
  | [], _, j, p, _, h => by simp at h
  | q :: ps, vs, 0, p, ⟨v, r, e, h, t⟩, hp => by
    subst e
    have : q = p := by simpa using hp
    subst this
    exact ⟨v, rfl, h⟩
  | q :: ps, vs, j + 1, p, ⟨v, r, e, h, t⟩, hp => by
    subst e
    obtain ⟨v', h1, h2⟩ := KeptL.at' (j := j) t (by simpa using hp)
    exact ⟨v', by simpa using h1, h2⟩
section
variable {mg : Mg} {F F' : Hp} {env : En} {σ : L2.St} {H H' : Hp} {ps : List P} {ss post : List Sl} {vs : List V}
theorem slots_fr (f : FrS mg F env σ H) (k : KeptL mg F σ ps vs) (n : (idxs ps).Nodup) (e : slotsOf ps env = some ss) : FrS mg F ss (vs.map some) H ∧ (∀ s ∈ ss, isPar s = true) ∧ (∀ a, Owns ss (vs.map some) a → ∃ (j i : Nat) (t : Sl), ps[j]? = some (P.at i) ∧ env[i]? = some t ∧ t.mut.isSome = true ∧ σ[i]? = some (some (.ref a))) := by
  have own : ∀ {j : Nat} {s : Sl} {a : Addr}, ss[j]? = some s → s.mut.isSome = true → (vs.map some)[j]? = some (some (.ref a)) → ∃ (i : Nat) (t : Sl), ps[j]? = some (P.at i) ∧ env[i]? = some t ∧ t.mut.isSome = true ∧ σ[i]? = some (some (.ref a)) := fun {j s a} ej m q => by
    rcases slots_get e ej with ⟨x, _, rfl⟩ | ⟨i, t, x, h1, h2, h3, rfl⟩
    · cases m
    · obtain ⟨v, h4, h5⟩ := k.at' h1
      rw [vm_get.mp q] at h4
      cases h4
      exact ⟨i, t, h1, h2, by rw [h3]; rfl, h5⟩
  refine ⟨⟨f.live, by rw [slots_len e, k.length, List.length_map], fun j x ej => ?_, fun j s x ej m => ?_, fun j l s t a ej el hs ht q1 q2 => ?_⟩, fun s hs => ?_, fun a ⟨j, s, ej, m, q⟩ => ?_⟩
  · rcases slots_get e ej with ⟨y, h1, h2⟩ | ⟨i, t, y, _, _, _, h2⟩
    · cases h2
      obtain ⟨v, h3, h4⟩ := k.at' h1
      exact ⟨v, vm_get.mpr h3, h4⟩
    · cases h2
  · rcases slots_get e ej with ⟨y, h1, h2⟩ | ⟨i, t, y, h1, h2, h3, h4⟩
    · cases h2; cases m
    · cases h4
      cases m
      obtain ⟨v, h5, h6⟩ := k.at' h1
      obtain ⟨a, o, q1, q2, q3, q4⟩ := f.mt i t _ h2 h3
      have : some (some v) = some (some (V.ref a)) := by rw [← q1]; exact h6.symm
      cases this
      exact ⟨a, o, vm_get.mpr h5, q2, q3, q4⟩
  · obtain ⟨i1, t1, a1, b1, c1, d1⟩ := own ej hs q1
    obtain ⟨i2, t2, a2, b2, c2, d2⟩ := own el ht q2
    have := f.dis i1 i2 t1 t2 a b1 b2 c1 c2 d1 d2
    subst this
    exact idxs_inj n a1 a2
  · obtain ⟨j, hj⟩ := List.getElem?_of_mem hs
    rcases slots_get e hj with ⟨y, _, rfl⟩ | ⟨_, _, _, _, _, _, rfl⟩ <;> rfl
  · obtain ⟨i, t, h⟩ := own ej m q
    exact ⟨j, i, t, h⟩
theorem back_fr (f : FrS mg F env σ H) (k : KeptL mg F σ ps vs) (n : (idxs ps).Nodup) (e : slotsOf ps env = some ss) (f' : FrS mg F' post (vs.map some) H') (x : ExS F ss (vs.map some) H F' post (vs.map some) H') :
    FrS mg F' (putBack ps post env) σ H' ∧ ExS F env σ H F' (putBack ps post env) σ H' ∧ (∀ a, Owns (putBack ps post env) σ a → Owns env σ a) := by
  obtain ⟨f0, _, ow⟩ := slots_fr f k n e
  -- a slot handed on
  have inn : ∀ {j i : Nat}, ps[j]? = some (P.at i) → ∃ (t : Sl) (y y' : D) (v : V), env[i]? = some t ∧ t.mut = some y ∧ post[j]? = some (.ref y') ∧ vs[j]? = some v ∧ σ[i]? = some (some v) ∧ (putBack ps post env)[i]? = some (t.with y') := fun {j i} h => by
    have hj : j < ss.length := by rw [slots_len e]; exact (List.getElem?_eq_some_iff.mp h).1
    rcases slots_get e (List.getElem?_eq_getElem hj) with ⟨_, h1, _⟩ | ⟨i', t, y, h1, h2, h3, h4⟩
    · rw [h] at h1; cases h1
    · rw [h] at h1
      cases h1
      obtain ⟨y', z1, z2⟩ := x.refs j y (by rw [← h4]; exact List.getElem?_eq_getElem hj)
      obtain ⟨v, h5, h6⟩ := k.at' h
      exact ⟨t, y, y', v, h2, h3, z1, h5, h6, putBack_in n h z1 h2⟩
  have split : ∀ {i : Nat} {s : Sl}, (putBack ps post env)[i]? = some s → (i ∉ idxs ps ∧ env[i]? = some s) ∨ ∃ (j : Nat) (t : Sl) (y y' : D) (v : V), ps[j]? = some (P.at i) ∧ env[i]? = some t ∧ t.mut = some y ∧ post[j]? = some (.ref y') ∧ vs[j]? = some v ∧ σ[i]? = some (some v) ∧ s = t.with y' := fun {i s} q => by
    by_cases h : i ∈ idxs ps
    · obtain ⟨j, hj⟩ := idxs_mem.mp h
      obtain ⟨t, y, y', v, a1, a2, a3, a4, a5, a6⟩ := inn hj
      rw [q] at a6
      exact .inr ⟨j, t, y, y', v, hj, a1, a2, a3, a4, a5, Option.some.inj a6⟩
    · rw [putBack_out h] at q
      exact .inl ⟨h, q⟩
  have mutof : ∀ {i : Nat} {s : Sl}, (putBack ps post env)[i]? = some s → s.mut.isSome = true → ∃ t, env[i]? = some t ∧ t.mut.isSome = true := fun {i s} q m => by
    rcases split q with ⟨_, q1⟩ | ⟨j, t, y, y', v, _, q1, q2, _⟩
    · exact ⟨s, q1, m⟩
    · exact ⟨t, q1, by rw [q2]; rfl⟩
  have ow' : ∀ a, Owns (putBack ps post env) σ a → Owns env σ a := fun a ⟨i, s, q, m, h⟩ => by
    obtain ⟨t, q1, q2⟩ := mutof q m
    exact ⟨i, t, q1, q2, h⟩
  have now : ∀ {a : Addr}, ¬ Owns env σ a → ¬ Owns ss (vs.map some) a := fun {a} h q => by
    obtain ⟨j, i, t, _, h2, h3, h4⟩ := ow a q
    exact h ⟨i, t, h2, h3, h4⟩
  refine ⟨⟨f'.live, by rw [putBack_len]; exact f.len, fun i y q => ?_, fun i s y q m => ?_, fun i l s t a qi ql hs ht q1 q2 => ?_⟩, ⟨x.le, fun a o h no => x.keep a o h (now no), x.live, fun a o h t nF no => x.nofr a o h t nF (now no), fun a q => .inl (ow' a q), fun i y q => ?_⟩, ow'⟩
  · rcases split q with ⟨_, q1⟩ | ⟨j, t, z, y', v, _, q1, q2, _, _, _, q3⟩
    · obtain ⟨v, h1, h2⟩ := f.val i y q1
      exact ⟨v, h1, h2.mono x.le⟩
    · have := Sl.with_mut (x := y') q2
      rw [← q3] at this
      cases this
  · rcases split q with ⟨hi, q1⟩ | ⟨j, t, z, y', v, h0, q1, q2, q4, q5, q6, q3⟩
    · obtain ⟨a, o, h1, h2, h3, h4⟩ := f.mt i s y q1 m
      have no : ¬ Owns ss (vs.map some) a := fun w => by
        obtain ⟨j, i', t, w1, w2, w3, w4⟩ := ow a w
        have := f.dis i i' s t a q1 w2 (by rw [m]; rfl) w3 h1 w4
        subst this
        exact hi (idxs_mem.mpr ⟨j, w1⟩)
      exact ⟨a, o, h1, x.nofr a o h3 h4.nt h2 no, x.keep a o h3 no, h4.mono x.le⟩
    · have e1 := Sl.with_mut (x := y') q2
      rw [← q3, m] at e1
      cases e1
      obtain ⟨a, o, h1, h2, h3, h4⟩ := f'.mt j _ _ q4 rfl
      rw [vm_get] at h1
      rw [q5] at h1
      cases h1
      exact ⟨a, o, q6, h2, h3, h4⟩
  · obtain ⟨t1, a1, a2⟩ := mutof qi hs
    obtain ⟨t2, b1, b2⟩ := mutof ql ht
    exact f.dis i l t1 t2 a a1 b1 a2 b2 q1 q2
  · by_cases h : i ∈ idxs ps
    · obtain ⟨j, hj⟩ := idxs_mem.mp h
      obtain ⟨t, z, y', v, a1, a2, a3, a4, a5, a6⟩ := inn hj
      rw [q] at a1
      cases a1
      exact ⟨y', a6, rfl⟩
    · exact ⟨y, by rw [putBack_out h]; exact q, rfl⟩
end
/-! ### the call -/
def callFn (fn : Fn) (pre : List Sl) (ps : List P) (e : En) : Out R :=
  if (idxs ps).Nodup then (match slotsOf ps e with
    | some ss => (match fn (pre ++ ss) with
      | .ret r post => (match r with
        | .d x => .ok (.d x) (putBack ps (post.drop pre.length) e)
        | .new x => .ok (.new x) (putBack ps (post.drop pre.length) e)
        | .at _ => .stuck)
      | .err x fs post => .err x fs (putBack ps (post.drop pre.length) e)
      | .stuck => .stuck)
    | none => .stuck) else .stuck
def cCall (fn : Fn) (gs : List Ag) : En → Out R := fun env => (cAs gs env).bind fun ps e => callFn fn [] ps e
/-- the callee's promise, asked from the caller's state -/
theorem call_sp {mg : Mg} {W : WX} {n : Nat} {fn : Fn} {Q : VK} {F F1 H H1 : Hp} {env env1 : En} {σ : L2.St} {ps : List P} {vs : List V} (hn : ps.length = n)
    (f1 : FrS mg F1 env1 σ H1) (x1 : ExS F env σ H F1 env1 σ H1) (k : KeptL mg F1 σ ps vs) (g : GoodO mg W (relR mg) Q F env σ H (callFn fn [] ps env1)) : spOf mg n fn vs H1 Q (WE W σ) := by
  unfold callFn at g
  split at g
  · rename_i nd
    cases es : slotsOf ps env1 with
    | none => rw [es] at g; exact False.elim g
    | some ss =>
      rw [es] at g
      dsimp only [List.nil_append, List.length_nil, List.drop_zero] at g
      obtain ⟨f0, hp, ow⟩ := slots_fr f1 k nd es
      refine ⟨by rw [← k.length, hn], F1, ss, hp, f0, ?_⟩
      cases er : fn ss with
      | stuck => rw [er] at g; exact False.elim g
      | err x fs post =>
        rw [er] at g
        intro F' H' c d f' x' ea
        obtain ⟨p1, p2, _⟩ := back_fr f1 k nd es f' x'
        exact g F' H' c d p1 (x1.trans p2) ea
      | ret r post =>
        rw [er] at g
        intro F' H' v f' x' rl
        obtain ⟨p1, p2, p3⟩ := back_fr f1 k nd es f' x'
        cases r with
        | d x => exact g F' H' v p1 (x1.trans p2) rl
        | new x =>
          obtain ⟨a, o, ev, q1, q2, q3, q4, q5⟩ := rl
          refine g F' H' v p1 (x1.trans p2) (back_R _ _ _ _ _ _ _ _ x1.live (show relR mg H1 F' _ σ H' (.new x) v from ⟨a, o, ev, q1, q2, q3, q4, fun w => ?_⟩))
          obtain ⟨i, s, e1, m, q⟩ := p3 a w
          cases em : s.mut with
          | none => rw [em] at m; cases m
          | some y =>
            obtain ⟨b, u, z1, _, z3, _⟩ := f1.mt i s y e1 em
            rw [q] at z1
            cases z1
            rw [q1] at z3
            cases z3
        | «at» i => exact False.elim g
  · exact False.elim g
/-- a def at hand: what it is worth, where it stands -/
structure FnS (X : Cx) (f : Addr) (n : Nat) (fn : Fn) : Prop where
  ok : ∃ (k : Nat) (fd : FuncData) (ps : List Str), FnOk X.prog X.w X.K X.mg X.base (L2N.CX X.prog X.w) k f fd ps (spOf X.mg n fn) ∧ Room k X.A ∧ Binds X.K fd ps []
  kp : PySem.W.keepIn X.K (.ref f) = true
theorem cAs_len : ∀ {gs : List Ag} {env e : En} {ps : List P}, cAs gs env = .ok ps e → ps.length = gs.length
  | [], env, e, ps, h => by cases h; rfl
  | g :: gs, env, e, ps, h => by
    unfold cAs at h
    cases h1 : cAg g env with
    | stuck => rw [h1] at h; cases h
    | err _ _ _ => rw [h1] at h; cases h
    | ok p e1 =>
      rw [h1] at h
      have h : (cAs gs e1).bind (fun ps e2 => Out.ok (p :: ps) e2) = .ok ps e := h
      cases h2 : cAs gs e1 with
      | stuck => rw [h2] at h; cases h
      | err _ _ _ => rw [h2] at h; cases h
      | ok qs e2 =>
        rw [h2] at h
        cases h
        simp [cAs_len h2]
section
variable {X : Cx} {W : WX} {x : Str} {f : Addr} {n : Nat} {fn : Fn} {e : Expr} {es : List Expr} {gs : List Ag} {p pos : Pos}
theorem se_call (tk : L2N.Takes X W) (F : FnS X f n fn) (hg : Gl X x) (hm : X.mg x = some (.ref f)) (ha : SAs X W (e :: es) gs) (hn : gs.length = n := by rfl)
    (hdb : (x == ("__debug__" : Str)) = false := by decide) (he : starEach (e :: es) X.env = (false, eval e X.env) :: starEach es X.env := by rfl) (hpl : (backTo pos (starEach es X.env)).any (·.1) = false := by rfl) :
    SE X W (.Call (.Name x p) (e :: es) [] pos) (cCall fn gs) := by
  obtain ⟨k, fd, ps, ok, hr, hb⟩ := F.ok
  refine ⟨PE.imp (pe_callS (E := WE W) ok hr hg hm F.kp hb (L2N.passAt tk) ha.pa hdb he hpl) fun σ H Q ⟨F0, env, fr, g⟩ => ?_⟩
  refine ⟨F0, env, fr, GoodO.bind g fun qs env1 F1 H1 vs e1 f1 x1 r1 g1 => ?_⟩
  exact call_sp (by rw [cAs_len e1, hn]) f1 x1 r1 g1
theorem se_call0 (tk : L2N.Takes X W) (F : FnS X f 0 fn) (hg : Gl X x) (hm : X.mg x = some (.ref f)) (hdb : (x == ("__debug__" : Str)) = false := by decide) :
    SE X W (.Call (.Name x p) [] [] pos) (cCall fn []) := by
  obtain ⟨k, fd, ps, ok, hr, hb⟩ := F.ok
  refine ⟨⟨fun pins s σ H Q I h => ?_⟩⟩
  refine wpAny_Call_Name_kw (ld_glob I hg hm ?_ hdb)
  obtain ⟨F0, env, fr, g⟩ := h
  exact PySem.W.callWith_K0 I.kIn F.kp (run_fnS (us := []) (E := WE W) ok hr hb (L2N.passAt tk σ) I .nil (call_sp (W := W) (ps := []) rfl fr ExS.refl rfl g))
end
end Sim

/-! Sim15: own classes: attributes, properties, constants, constructors, in, []. -/
namespace Sim
open PySem PySem.Spec PyProof.Rows L2

/-! ### attributes -/
theorem RepF.look {mg : Mg} {F : Hp} : ∀ {fs : List (Str × D)} {gs : List (Str × V)} {f : Str} {x : D}, RepF mg F fs gs → fs.lookup f = some x → ∃ v, gs.lookup f = some v ∧ RepD mg F x v
  | [], gs, f, x, h, e => by cases e
  | (k, y) :: fs, gs, f, x, h, e => by
    obtain ⟨v, r, eg, q, t⟩ := h
    subst eg
    by_cases hk : f = k
    · subst hk
      simp only [List.lookup, beq_self_eq_true] at e ⊢
      cases e
      exact ⟨v, rfl, q⟩
    · have hb : (f == k) = false := by simpa using hk
      simp only [List.lookup, hb] at e ⊢
      exact RepF.look t e
def putFd (f : Str) (x : D) : List (Str × D) → List (Str × D)
  | [] => [(f, x)]
  | (g, y) :: r => if g = f then (g, x) :: r else (g, y) :: putFd f x r
theorem RepF.put {mg : Mg} {F : Hp} {f : Str} {x : D} {v : V} (hx : RepD mg F x v) : ∀ {fs : List (Str × D)} {gs : List (Str × V)}, RepF mg F fs gs → RepF mg F (putFd f x fs) (putF f v gs)
  | [], gs, h => by
    have e : gs = [] := h
    subst e
    exact ⟨v, [], rfl, hx, rfl⟩
  | (k, y) :: fs, gs, h => by
    obtain ⟨w, r, eg, q, t⟩ := h
    subst eg
    unfold putFd putF
    by_cases hk : k = f
    · rw [if_pos hk]
      simp only [if_pos hk]
      exact ⟨v, r, rfl, hx, t⟩
    · rw [if_neg hk]
      simp only [if_neg hk]
      exact ⟨w, _, rfl, q, RepF.put hx t⟩
theorem RepF.len {mg : Mg} {F : Hp} : ∀ {fs : List (Str × D)} {gs : List (Str × V)}, RepF mg F fs gs → fs.length = gs.length
  | [], gs, h => by have e : gs = [] := h; subst e; rfl
  | _ :: fs, gs, h => by obtain ⟨v, r, e, _, t⟩ := h; subst e; simp [RepF.len t]
/-- the attribute f of an object of class x -/
def fld (x f : Str) : D → Option D
  | .ins y fs => if y = x then fs.lookup f else none
  | _ => none
def cFld (x f : Str) (c : En → Out R) : En → Out R := fun env => (cP c env).bind fun p e => match (look p e).bind (fld x f) with
  | some y => .ok (.d y) e
  | none => .stuck
section
variable {X : Cx} {W : WX} {x f : Str} {C : Addr} {e : Expr} {c : En → Out R} {pos : Pos}
theorem se_fld (h : SE X W e c) (gC : X.mg x = some (.ref C)) (cl : Cls X.K C) (na : NoAttr X.K C f) (hb : attributeBase e f X.env (eval e X.env) = eval e X.env := by rfl) : SE X W (.Attribute e f pos) (cFld x f c) := by
  refine ⟨PE.imp (pe_fld (sp_of h).pe hb) fun σ H Q ⟨F, env, fr, g⟩ => ?_⟩
  refine ⟨F, env, fr, GoodO.bind g fun p env1 F1 H1 v e1 f1 x1 r1 g1 => ?_⟩
  cases el : look p env1 with
  | none => rw [el] at g1; exact False.elim g1
  | some d =>
    rw [el, Option.bind_some] at g1
    cases ef : fld x f d with
    | none => rw [ef] at g1; exact False.elim g1
    | some y =>
      rw [ef] at g1
      cases d with
      | ins z fs =>
        have ef2 : (if z = x then fs.lookup f else none) = some y := ef
        clear ef
        by_cases hz : z = x
        · rw [if_pos hz] at ef2
          subst hz
          obtain ⟨a, C', dx, gs, rfl, hH, hm, rf⟩ := rd_ins (look_rd f1 el (relP_on r1 (LeF.refl _)))
          rw [gC] at hm
          cases hm
          obtain ⟨w, h1, h2⟩ := rf.look ef2
          exact ⟨a, C, dx, gs, w, rfl, hH, cl, na, h1, g1 F1 H1 w f1 x1 h2⟩
        · rw [if_neg hz] at ef2; cases ef2
      | _ => cases ef
/-- self.f = e -/
def sFldD (i : Nat) (x f : Str) (c : En → Out R) : En → OutS := fun env => (cV c env).then fun y e => match e[i]? with
  | some s => (match s.mut with
    | some (.ins z fs) => if z = x ∧ fs.length < 1000 then .next (e.set i (s.with (.ins z (putFd f y fs)))) else .stuck
    | _ => .stuck)
  | none => .stuck
theorem ss_fld {i : Nat} {n : Str} {p pos' : Pos} (hN : X.N[i]? = some n) (hv : Vis X.env.scope n) (he : SE X W e c) (gC : X.mg x = some (.ref C)) (cl : Cls X.K C) (na : NoAttr X.K C f)
    (hs : swapsWith e (some (.Attribute (.Name n p) f pos')) pos.line X.env = pure false := by rfl) (hd : (n == ("__debug__" : Str)) = false := by decide) (hcd : (n == ("__classdict__" : Str)) = false := by decide) :
    SS X W (.Assign [.Attribute (.Name n p) f pos'] e pos) (sFldD i x f c) := by
  refine ⟨PS.imp (ps_fld (pe_var hN hv hd hcd) (sv_of he).pe hs) fun D' σ H ⟨F, env, fr, g⟩ => ?_⟩
  refine ⟨F, env, fr, GoodS.then g fun y env1 F1 H1 v e1 f1 x1 r1 g1 => ?_⟩
  cases es : env1[i]? with
  | none => rw [es] at g1; exact False.elim g1
  | some s =>
    rw [es] at g1
    dsimp only at g1
    cases em : s.mut with
    | none => rw [em] at g1; exact False.elim g1
    | some d =>
      rw [em] at g1
      cases d with
      | ins z fs =>
        dsimp only at g1
        split at g1
        · rename_i hz
          obtain ⟨hz, hl⟩ := hz
          subst hz
          obtain ⟨a, o, e2, n2, h2, q2, _⟩ := f1.own_at es em
          obtain ⟨⟨C', dx, gs, eo, hm, rf⟩, _⟩ := q2
          subst eo
          rw [gC] at hm
          cases hm
          refine ⟨.ref a, e2, a, C, dx, gs, rfl, h2, cl, na, by rw [← rf.len]; exact hl, ?_⟩
          exact g1 F1 σ _ (f1.write es em e2 ⟨⟨C, dx, _, rfl, gC, RepF.put r1 rf⟩, rfl⟩) (x1.write es em e2)
        · exact False.elim g1
      | _ => exact False.elim g1
/-- C.f, a constant -/
theorem se_cval {mc u : Value} {v : V} {d : D} {p : Pos} (hg : Gl X x) (gC : X.mg x = some (.ref C)) (r : ClX.CRead X.K C mc) (k : ClX.CVal X.K C mc f v u) (hx : flatOf d = some v) (hd : (x == ("__debug__" : Str)) = false := by decide)
    (hb : attributeBase (.Name x p) f X.env (eval (.Name x p) X.env) = eval (.Name x p) X.env := by rfl) : SE X W (.Attribute (.Name x p) f pos) (cC d) := by
  refine se_c (v := v) ?_ hx
  exact PE.imp (ClX.pe_cval (pe_glob hg gC (show RelV (.ref C) (.ref C) from rfl) hd) hb) fun σ H Q q => ⟨C, mc, v, u, rfl, r, k, q⟩
end
/-! ### what lets nothing out -/
def noE {α : Type} : Out α → Out α
  | .err _ _ _ => .stuck
  | o => o
theorem GoodO.noE {mg : Mg} {W : WX} {α β : Type} {rel : Rel α β} {Q : β → Hp → Prop} {F env σ H} {o : Out α} (h : GoodO mg W rel Q F env σ H (noE o)) : GoodO mg W0 rel Q F env σ H o := by
  cases o with
  | ok a e => exact h
  | err n fs e => exact False.elim h
  | stuck => exact h
theorem GoodO.w0 {mg : Mg} {W : WX} {α β : Type} {rel : Rel α β} {Q : β → Hp → Prop} {F env σ H} {o : Out α} (h : GoodO mg W0 rel Q F env σ H o) : GoodO mg W rel Q F env σ H o := by
  cases o with
  | ok a e => exact h
  | err n fs e => exact fun F' H' c d f x r => (h F' H' c d f x r).elim
  | stuck => exact h
/-- what comes of a call, handed on -/
theorem GoodO.then1 {mg : Mg} {W : WX} {α β γ δ : Type} {rel1 : Rel α β} {rel2 : Rel γ δ} {Q : δ → Hp → Prop} {Q1 : β → Hp → Prop} {F env σ H} {oa : Out α} {f : α → En → Out γ} (h : GoodO mg W rel2 Q F env σ H ((Sim.noE oa).bind f))
    (k : ∀ a env1 F1 H1 b, oa = .ok a env1 → FrS mg F1 env1 σ H1 → ExS F env σ H F1 env1 σ H1 → rel1 H F1 env1 σ H1 a b → GoodO mg W rel2 Q F env σ H (f a env1) → Q1 b H1) : GoodO mg W0 rel1 Q1 F env σ H oa := by
  cases oa with
  | ok a e => exact fun F1 H1 b fr x r => k a e F1 H1 b rfl fr x r h
  | err n fs e => exact False.elim h
  | stuck => exact h
abbrev ENo : XK := fun _ _ _ => False
section
variable {X : Cx} {C g : Addr} {pins : List (Addr × Obj)} {σ : L2.St} {H : Hp} {s : Shared} {n : Nat} {fn : Fn} {A' : Around}
/-- the callee runs, in a room of its own, and lets nothing out -/
theorem run_in {k : Nat} {fd : FuncData} {ps : List Str} {sp : Sp} {Q : VK} {us : List Value} {vs : List V} {E' : Value → Shared → Prop} (F : FnOk X.prog X.w X.K X.mg X.base (L2N.CX X.prog X.w) k g fd ps sp) (hr : Room k A') (hb : Binds X.K fd ps []) (e0 : Env0 X.prog X.w X.K X.mg X.base A' X.stack s H)
    (I : Inv X pins σ H s) (r : Vals vs us) (h : sp vs H Q ENo) : wpAny (model X.prog X.w) A' (call (.ref g) us) (EP X pins σ Q) E' s := by
  have hl : us.length = ps.length := by rw [← r.length]; exact F.len _ _ _ _ h
  have b := hb s us I.kIn (by rw [List.append_nil]; exact hl)
  rw [List.append_nil] at b
  refine wpAny_call (codeAny_mono (F.run A' X.stack s H ⟨us, []⟩ us vs Q ENo hr e0 b r h) fun r s' hq => ?_)
  cases r with
  | error e =>
    obtain ⟨_, _, _, _, _, _, _, _, _, _, _, _, z⟩ := hq
    exact False.elim z
  | ok fl =>
    cases fl with
    | ret u => exact I.after hq
    | next => exact False.elim hq
    | brk => exact False.elim hq
    | cont => exact False.elim hq
end
/-- a def that may be called one level down -/
structure FnS1 (X : Cx) (f : Addr) (n : Nat) (fn : Fn) : Prop where
  ok : ∃ (k : Nat) (fd : FuncData) (ps : List Str), FnOk X.prog X.w X.K X.mg X.base (L2N.CX X.prog X.w) k f fd ps (spOf X.mg n fn) ∧ Room (k + 1) X.A ∧ Binds X.K fd ps []
/-! ### o.f, a property -/
def cls? : D → Option Str
  | .ins x _ => some x | _ => none
def cProp (x : Str) (fn : Fn) (c : En → Out R) : En → Out R := fun env => (cAg (.v c) env).bind fun p e => if (look p e).bind cls? = some x then noE (callFn fn [] [p] e) else .stuck
theorem look_ins {mg : Mg} {F H : Hp} {env : En} {σ : L2.St} {p : P} {v : V} {x : Str} (f : FrS mg F env σ H) (k : Kept mg F σ p v) (e : (look p env).bind cls? = some x) : ∃ a C dx gs, v = .ref a ∧ H a = some (.ins C dx gs) ∧ mg x = some (.ref C) := by
  cases el : look p env with
  | none => rw [el] at e; cases e
  | some d =>
    rw [el, Option.bind_some] at e
    cases d with
    | ins z fs =>
      cases e
      obtain ⟨a, C, dx, gs, h1, h2, h3, _⟩ := rd_ins (look_rd f el k)
      exact ⟨a, C, dx, gs, h1, h2, h3⟩
    | _ => cases e
section
variable {X : Cx} {W : WX} {x f : Str} {C g p : Addr} {e a b : Expr} {c ca cb : En → Out R} {pos : Pos} {fn : Fn}
theorem se_prop (h : SE X W e c) (gC : X.mg x = some (.ref C)) (cl : Cls X.K C) (hp : PropOf X.K C f p g) (G : FnS1 X g 1 fn) (hb : attributeBase e f X.env (eval e X.env) = eval e X.env := by rfl) : SE X W (.Attribute e f pos) (cProp x fn c) := by
  obtain ⟨k, fd, ps, ok, hr, hbn⟩ := G.ok
  have hx : Passes (L2N.CX X.prog X.w) X.nox ENo := fun _ _ _ _ _ _ _ z => by
    obtain ⟨_, _, _, _, _, _, _, _, _, _, _, _, z⟩ := z
    exact False.elim z
  refine ⟨PE.imp (pe_prop (sp := spOf X.mg 1 fn) (E := ENo) (dvs := []) (ag_v h).pe cl hp ok hr hbn .nil hx hb) fun σ H Q ⟨F, env, fr, q⟩ => ?_⟩
  refine ⟨F, env, fr, GoodO.bind q fun pv env1 F1 H1 v e1 f1 x1 r1 g1 => ?_⟩
  split at g1
  · rename_i hc
    obtain ⟨a, C', dx, gs, rfl, hH, hm⟩ := look_ins f1 r1 hc
    rw [gC] at hm
    cases hm
    exact ⟨a, dx, gs, rfl, hH, call_sp (W := W0) (ps := [pv]) rfl f1 x1 ⟨.ref a, [], rfl, r1, rfl⟩ g1.noE⟩
  · exact False.elim g1
/-! ### a in o, a not in o, o[a]: own classes -/
def cOwn (x : Str) (fn : Fn) (post : R → En → Out R) (fl : Bool) (ca cb : En → Out R) : En → Out R := fun env => (cAg (.v ca) env).bind fun p e => (cAg (.v cb) e).bind fun q e2 =>
  if (look (if fl then q else p) e2).bind cls? = some x then (noE (callFn fn [] (if fl then [q, p] else [p, q]) e2)).bind post else .stuck
def pBool (g : Bool → Bool) : R → En → Out R := fun r e => match r with
  | .d (.bl k) => .ok (.d (.bl (g k))) e
  | _ => .stuck
def pId : R → En → Out R := fun r e => .ok r e
def rOwn (X : Cx) (x : Str) (fn : Fn) (g : VK → VK) (fl : Bool) : R2 := fun u v H Q => ∃ a C dx gs, (if fl then v else u) = .ref a ∧ H a = some (.ins C dx gs) ∧ X.mg x = some (.ref C) ∧ spOf X.mg 2 fn (if fl then [v, u] else [u, v]) H (g Q) ENo
theorem own_core {mg : Mg} {post : R → En → Out R} {fl : Bool} {ta tb : TE} {r : R2} {gq : VK → VK}
    (hr : ∀ u v H Q, (∃ a C dx gs, (if fl then v else u) = .ref a ∧ H a = some (.ins C dx gs) ∧ mg x = some (.ref C) ∧ spOf mg 2 fn (if fl then [v, u] else [u, v]) H (gq Q) ENo) → r u v H Q)
    (hq : ∀ {F env σ H F1 env1 H1 r v Q}, FrS mg F1 env1 σ H1 → ExS F env σ H F1 env1 σ H1 → relR mg H F1 env1 σ H1 r v → GoodO mg W (relR mg) Q F env σ H (post r env1) → gq Q v H1)
    (ha : ∀ σ H Q, (∃ F env, FrS mg F env σ H ∧ GoodO mg W (relK mg) Q F env σ H (cAg (.v ca) env)) → ta σ H Q)
    (hb : ∀ σ H Q, (∃ F env, FrS mg F env σ H ∧ GoodO mg W (relK mg) Q F env σ H (cAg (.v cb) env)) → tb σ H Q) :
    ∀ σ H Q, tE mg W (cOwn x fn post fl ca cb) σ H Q → tOp r ta tb σ H Q := by
  intro σ H Q q
  obtain ⟨F, env, fr, g⟩ := q
  refine ha _ _ _ ⟨F, env, fr, GoodO.bind g fun p env1 F1 H1 v e1 f1 x1 r1 g1 => ?_⟩
  refine hb _ _ _ ⟨F1, env1, f1, GoodO.bind (GoodO.shift back_R x1 g1) fun q env2 F2 H2 u e2 f2 x2 r2 g2 => ?_⟩
  refine hr _ _ _ _ ?_
  by_cases hc : (look (if fl then q else p) env2).bind cls? = some x
  · rw [if_pos hc] at g2
    have r1' : Kept mg F2 σ p v := Kept.mono x2.le r1
    have kk : KeptL mg F2 σ (if fl then [q, p] else [p, q]) (if fl then [u, v] else [v, u]) := by
      cases fl with
      | true => exact ⟨u, [v], rfl, r2, v, [], rfl, r1', rfl⟩
      | false => exact ⟨v, [u], rfl, r1', u, [], rfl, r2, rfl⟩
    have kc : Kept mg F2 σ (if fl then q else p) (if fl then u else v) := by
      cases fl with
      | true => exact r2
      | false => exact r1'
    obtain ⟨a, C, dx, gs, h1, h2, h3⟩ := look_ins f2 kc hc
    refine ⟨a, C, dx, gs, h1, h2, h3, ?_⟩
    refine call_sp (W := W0) (F := F1) (H := H1) (env := env1) (by cases fl <;> rfl) f2 x2 kk ?_
    exact GoodO.then1 g2 fun r env3 F3 H3 w e3 f3 x3 r3 g3 => hq f3 x3 r3 g3
  · rw [if_neg hc] at g2
    exact False.elim g2
end
end Sim

/-! Sim16: own in, own [], constructors. -/
namespace Sim
open PySem PySem.Spec PyProof.Rows L2
section
variable {X : Cx} {W : WX} {x : Str} {C g : Addr} {a b e : Expr} {ca cb c : En → Out R} {pos : Pos} {fn : Fn}
def gB (k : Bool → Bool) : VK → VK := fun Q v H => ∃ z, v = .bl z ∧ Q (.bl (k z)) H
theorem op_own_in {op : CmpOp} {k : Bool → Bool} (hop : ∀ (A : Around) (E : Value → Shared → Prop) (s : Shared) (y : Addr) (v : Value) (ox : Obj) (od : Option Obj) (Q : Value → Shared → Prop) (L : Addr) (h₀ : Heap) (m : Str → Option Value), Fr h₀ L s.heap m → X.K.In h₀ → PySem.W.InstAt s.heap y ox C od →
      wpAny (model X.prog X.w) A (call (.ref g) [.ref y, v]) (fun r s' => wpAny (model X.prog X.w) A (truthy r) (fun b => Q (.bool (k b))) E s') E s → wpAny (model X.prog X.w) A (compareOp op v (.ref y)) Q E s)
    (gC : X.mg x = some (.ref C)) (G : FnS X g 2 fn) : OpR X (compareOp op) (rOwn X x fn (gB k) true) := by
  intro pins s σ H u v lu lv Q I ru rv h
  obtain ⟨kk, fd, ps, ok, hr, hbn⟩ := G.ok
  obtain ⟨y, C', dx, gs, ev, hH, hm, sp⟩ := h
  rw [gC] at hm
  cases hm
  have ev : v = .ref y := ev
  subst ev
  obtain rfl : lv = Value.ref y := rv
  obtain ⟨mA, O, _, _, _, _⟩ := ins_get I.hok hH
  obtain ⟨od, J, _⟩ := O.look
  obtain ⟨m, fr⟩ := I.fr
  refine hop X.A X.xe s y lu _ _ _ _ _ _ fr I.mod.kin J ?_
  refine thn (run_in (us := [.ref y, lu]) (vs := [.ref y, u]) ok hr hbn I.env0 I (.cons rfl (.cons ru .nil)) sp) fun w s' hw => ?_
  obtain ⟨z, H', I', rz, b, rfl, q⟩ := hw
  obtain rfl : w = Value.bool b := rz
  exact wpAny_pure ⟨.bl (k b), H', I', rfl, q⟩
theorem own_in_core {mg : Mg} {k : Bool → Bool} {F env σ H F1 env1 H1} {r : R} {v : V} {Q : VK} (f1 : FrS mg F1 env1 σ H1) (x1 : ExS F env σ H F1 env1 σ H1) (r1 : relR mg H F1 env1 σ H1 r v) (h : GoodO mg W (relR mg) Q F env σ H (pBool k r env1)) : gB k Q v H1 := by
  cases r with
  | new x => exact False.elim h
  | «at» i => exact False.elim h
  | d x =>
    cases x with
    | bl b =>
      rcases r1 with r1 | ⟨_, _, _, _, z⟩
      · cases r1
        exact ⟨b, rfl, h F1 H1 _ f1 x1 (.inl rfl)⟩
      · exact False.elim z
    | _ => exact False.elim h
def cOwnIn (x : Str) (fn : Fn) (k : Bool → Bool) (ca cb : En → Out R) : En → Out R := cOwn x fn (pBool k) true ca cb
/-- what a class must have for its own method m -/
structure OwnM (K : PySem.W.Frag) (C : Addr) (m : Str) (f : Addr) : Prop where
  at_ : PySem.W.findIn K (.ref C) m = some (some (.ref f))
  fn : PySem.W.isFn K (.ref f) = true
theorem Meth.own {K : PySem.W.Frag} {C : Addr} {m : Str} {f : Addr} (h : Meth K C m f) : OwnM K C m f := ⟨h.at_, h.fn⟩
theorem se_ownIn (gC : X.mg x = some (.ref C)) (m : OwnM X.K C "__contains__" g) (G : FnS X g 2 fn) (ha : SE X W a ca) (hb : SE X W b cb) (hm : behindInMarks .In b = false := by first | exact nomark _ | rfl) : SE X W (.Compare a [.In] [b] pos) (cOwnIn x fn id ca cb) :=
  ⟨PE.imp (pe_cmpR (op_own_in (k := id) (fun A E s y v ox od Q L h₀ mm F X0 J h => PySem.W.in_K F X0 J m.at_ m.fn h) gC G) (ag_v ha).pe (ag_v hb).pe hm)
    (own_core (W := W) (gq := gB id) (fun _ _ _ _ q => q) own_in_core (fun _ _ _ q => q) fun _ _ _ q => q)⟩
theorem se_ownNotIn (gC : X.mg x = some (.ref C)) (m : OwnM X.K C "__contains__" g) (G : FnS X g 2 fn) (ha : SE X W a ca) (hb : SE X W b cb) (hm : behindInMarks .NotIn b = false := by first | exact nomark _ | rfl) : SE X W (.Compare a [.NotIn] [b] pos) (cOwnIn x fn not ca cb) :=
  ⟨PE.imp (pe_cmpR (op_own_in (k := not) (fun A E s y v ox od Q L h₀ mm F X0 J h => PySem.W.notIn_K F X0 J m.at_ m.fn h) gC G) (ag_v ha).pe (ag_v hb).pe hm)
    (own_core (W := W) (gq := gB not) (fun _ _ _ _ q => q) own_in_core (fun _ _ _ q => q) fun _ _ _ q => q)⟩
theorem st_ownIn (gC : X.mg x = some (.ref C)) (m : OwnM X.K C "__contains__" g) (G : FnS X g 2 fn) (ha : SE X W a ca) (hb : SE X W b cb) (hm : behindInMarks .In b = false := by first | exact nomark _ | rfl) : ST X W (.Compare a [.In] [b] pos) (cB (cOwnIn x fn id ca cb)) :=
  ⟨PT.imp (pt_cmpR (op_own_in (k := id) (fun A E s y v ox od Q L h₀ mm F X0 J h => PySem.W.in_K F X0 J m.at_ m.fn h) gC G) (ag_v ha).pe (ag_v hb).pe hm)
    (tB_core (own_core (W := W) (gq := gB id) (fun _ _ _ _ q => q) own_in_core (fun _ _ _ q => q) fun _ _ _ q => q))⟩
theorem st_ownNotIn (gC : X.mg x = some (.ref C)) (m : OwnM X.K C "__contains__" g) (G : FnS X g 2 fn) (ha : SE X W a ca) (hb : SE X W b cb) (hm : behindInMarks .NotIn b = false := by first | exact nomark _ | rfl) : ST X W (.Compare a [.NotIn] [b] pos) (cB (cOwnIn x fn not ca cb)) :=
  ⟨PT.imp (pt_cmpR (op_own_in (k := not) (fun A E s y v ox od Q L h₀ mm F X0 J h => PySem.W.notIn_K F X0 J m.at_ m.fn h) gC G) (ag_v ha).pe (ag_v hb).pe hm)
    (tB_core (own_core (W := W) (gq := gB not) (fun _ _ _ _ q => q) own_in_core (fun _ _ _ q => q) fun _ _ _ q => q))⟩
/-- o[i] -/
def cOwnIx (x : Str) (fn : Fn) (ca cb : En → Out R) : En → Out R := cOwn x fn pId false ca cb
theorem ix_own (gC : X.mg x = some (.ref C)) (m : OwnM X.K C "__getitem__" g) (hf : PySem.W.fnIn X.K g = true) (G : FnS1 X g 2 fn) {value slice : Expr} {pins : List (Addr × Obj)} {s : Shared} {σ : L2.St} {H : Hp} {u v : V} {lu lv : Value} {Q : VK} (I : Inv X pins σ H s) (ru : RelV u lu) (rv : RelV v lv)
    (h : rOwn X x fn (fun Q => Q) false u v H Q) (hs : ∀ y : Addr, subscripted slice true (.ref y) lv = runValue (.builtin "lifetime.subscript" ⟨[.ref y, lv], []⟩)) : wpAny (model X.prog X.w) X.A (subscriptTail value slice lu lv) (EP X pins σ Q) X.xe s := by
  obtain ⟨kk, fd, ps, ok, hr, hbn⟩ := G.ok
  obtain ⟨y, C', dx, gs, ev, hH, hm, sp⟩ := h
  rw [gC] at hm
  cases hm
  have ev : u = .ref y := ev
  subst ev
  obtain rfl : lu = Value.ref y := ru
  obtain ⟨mA, O, _, _, _, _⟩ := ins_get I.hok hH
  obtain ⟨od, J, _⟩ := O.look
  obtain ⟨mm, fr⟩ := I.fr
  exact PySem.W.sub_K fr I.mod.kin J m.at_ hf m.fn (run_in (us := [.ref y, lv]) (vs := [.ref y, v]) ok hr.in1 hbn I.env0.in1 I (.cons rfl (.cons rv .nil)) sp) (hs y)
theorem se_ownIx (gC : X.mg x = some (.ref C)) (m : OwnM X.K C "__getitem__" g) (hf : PySem.W.fnIn X.K g = true) (G : FnS1 X g 2 fn) (ha : SE X W a ca) (hb : SE X W b cb)
    (hs : ∀ (y : Addr) (lv : Value), subscripted b true (.ref y) lv = runValue (.builtin "lifetime.subscript" ⟨[.ref y, lv], []⟩) := by exact fun _ _ => rfl) : SE X W (.Subscript a b pos) (cOwnIx x fn ca cb) := by
  refine ⟨PE.imp (t := tOp (rOwn X x fn (fun Q => Q) false) _ _) ⟨fun pins s σ H Q I h => ?_⟩
    (own_core (W := W) (gq := fun Q => Q) (fun _ _ _ _ q => q) (fun {F env σ H F1 env1 H1 r v Q} f1 x1 r1 h => h F1 H1 v f1 x1 r1) (fun _ _ _ q => q) fun _ _ _ q => q)⟩
  exact Subscript_ (binT (ag_v ha).pe (ag_v hb).pe I h fun v u s2 x y H2 I2 rx ry q => ix_own gC m hf G I2 rx ry q fun y => hs y u)
end
/-! ### C(e, ..) -/
def makeFn (x : Str) (fn : Fn) (ps : List P) (e : En) : Out R :=
  if (idxs ps).Nodup then (match slotsOf ps e with
    | some ss => (match fn (.ref (.ins x []) :: ss) with
      | .ret (.d .non) (.ref y :: post) => .ok (.new y) (putBack ps post e)
      | .err n fs (_ :: post) => .err n fs (putBack ps post e)
      | _ => .stuck)
    | none => .stuck) else .stuck
def cMake (x : Str) (fn : Fn) (gs : List Ag) : En → Out R := fun env => (cAs gs env).bind fun ps e => makeFn x fn ps e
section
variable {mg : Mg} {F F' : Hp} {σ : L2.St} {H H' H0 : Hp} {ss post : List Sl} {vs : List V} {s : Sl} {a : Addr} {x : Str} {C dx : Addr}
theorem cons_get {α : Type} {a : α} {l : List α} {i : Nat} : (a :: l)[i + 1]? = l[i]? := rfl
theorem FrS.tail {v : V} (f : FrS mg F (s :: ss) ((v :: vs).map some) H) : FrS mg F ss (vs.map some) H :=
  ⟨f.live, by have := f.len; simpa using this, fun i x e => f.val (i + 1) x e, fun i t x e m => f.mt (i + 1) t x e m, fun i j t u b ei ej hs ht q1 q2 => by
    have := f.dis (i + 1) (j + 1) t u b ei ej hs ht q1 q2
    omega⟩
theorem made_fr (f : FrS mg F ss (vs.map some) H) (hm : mg x = some (.ref C)) (ha : H a = none) (hd : H dx = none) (ne : dx ≠ a) : FrS mg F (.ref (.ins x []) :: ss) ((V.ref a :: vs).map some) (upd (upd H dx (.own a)) a (.ins C dx [])) := by
  have fa : F a = none := f.live.no ha
  have fd : F dx = none := f.live.no hd
  have oth : ∀ {b : Addr} {o : HO}, H b = some o → (upd (upd H dx (.own a)) a (.ins C dx [])) b = some o := fun {b o} h => by
    rw [upd_ne (ne_of_none h ha), upd_ne (ne_of_none h hd)]; exact h
  have na : ∀ {i : Nat} {t : Sl} {b : Addr}, ss[i]? = some t → t.mut.isSome = true → (vs.map some)[i]? = some (some (.ref b)) → b ≠ a := fun {i t b} e m q => by
    cases em : t.mut with
    | none => rw [em] at m; cases m
    | some y =>
      obtain ⟨b', o, q1, _, q2, _⟩ := f.mt i t y e em
      rw [q] at q1
      cases q1
      exact ne_of_none q2 ha
  refine ⟨fun b o e => ?_, by have := f.len; simpa using this, fun i y e => ?_, fun i t y e m => ?_, fun i j t u b ei ej hs ht q1 q2 => ?_⟩
  · rcases f.live b o e with q | ⟨z, ob, q⟩
    · exact .inl (oth q)
    · exact .inr ⟨z, ob, oth q⟩
  · cases i with
    | zero => cases e
    | succ i => exact f.val i y e
  · cases i with
    | zero =>
      cases e
      cases m
      exact ⟨a, _, rfl, fa, upd_same, ⟨C, dx, [], rfl, hm, rfl⟩, rfl⟩
    | succ i =>
      obtain ⟨b, o, q1, q2, q3, q4⟩ := f.mt i t y e m
      exact ⟨b, o, q1, q2, oth q3, q4⟩
  · cases i with
    | zero =>
      have q1 : some (some (V.ref a)) = some (some (V.ref b)) := q1
      cases q1
      cases j with
      | zero => rfl
      | succ j => exact absurd rfl (na ej ht q2)
    | succ i =>
      cases j with
      | zero =>
        have q2 : some (some (V.ref a)) = some (some (V.ref b)) := q2
        cases q2
        exact absurd rfl (na ei hs q1)
      | succ j => exact congrArg (· + 1) (f.dis i j t u b ei ej hs ht q1 q2)
theorem made_ex (ha : H a = none) (hd : H dx = none) (x1 : ExS F (.ref (.ins x []) :: ss) ((V.ref a :: vs).map some) (upd (upd H dx (.own a)) a (.ins C dx [])) F' (s :: post) ((V.ref a :: vs).map some) H') : ExS F ss (vs.map some) H F' post (vs.map some) H' := by
  have oth : ∀ {b : Addr} {o : HO}, H b = some o → (upd (upd H dx (.own a)) a (.ins C dx [])) b = some o := fun {b o} h => by
    rw [upd_ne (ne_of_none h ha), upd_ne (ne_of_none h hd)]; exact h
  have ow : ∀ {b : Addr}, Owns (.ref (.ins x []) :: ss) ((V.ref a :: vs).map some) b → b = a ∨ Owns ss (vs.map some) b := fun {b} ⟨i, t, e, m, q⟩ => by
    cases i with
    | zero =>
      have q : some (some (V.ref a)) = some (some (V.ref b)) := q
      cases q
      exact .inl rfl
    | succ i => exact .inr ⟨i, t, e, m, q⟩
  have no : ∀ {b : Addr} {o : HO}, H b = some o → ¬ Owns ss (vs.map some) b → ¬ Owns (.ref (.ins x []) :: ss) ((V.ref a :: vs).map some) b := fun {b o} h n q => by
    rcases ow q with e | q
    · rw [e, ha] at h; cases h
    · exact n q
  refine ⟨x1.le, fun b o h n => x1.keep b o (oth h) (no h n), fun b o h => x1.live b o (oth h), fun b o h t nF n => x1.nofr b o (oth h) t nF (no h n), fun b q => ?_, fun i y e => ?_⟩
  · obtain ⟨i, t, e, m, q⟩ := q
    rcases x1.own b ⟨i + 1, t, e, m, q⟩ with w | w
    · rcases ow w with e | w
      · rw [e]; exact .inr ha
      · exact .inl w
    · refine .inr ?_
      cases hb : H b with
      | none => rfl
      | some o => rw [oth hb] at w; cases w
  · obtain ⟨y', e1, e2⟩ := x1.refs (i + 1) y e
    exact ⟨y', e1, rfl⟩
end
theorem make_sp {mg : Mg} {W : WX} {n : Nat} {x : Str} {C : Addr} {fn : Fn} {Q : VK} {F F1 H H1 : Hp} {env env1 : En} {σ : L2.St} {ps : List P} {vs : List V} (hm : mg x = some (.ref C)) (hn : ps.length + 1 = n)
    (f1 : FrS mg F1 env1 σ H1) (x1 : ExS F env σ H F1 env1 σ H1) (k : KeptL mg F1 σ ps vs) (g : GoodO mg W (relR mg) Q F env σ H (makeFn x fn ps env1))
    (a dx : Addr) (ha : H1 a = none) (hd : H1 dx = none) (ne : dx ≠ a) :
    spOf mg n fn (.ref a :: vs) (upd (upd H1 dx (.own a)) a (.ins C dx [])) (fun v H2 => v = .non ∧ Q (.ref a) H2) (WE W σ) := by
  unfold makeFn at g
  split at g
  · rename_i nd
    cases es : slotsOf ps env1 with
    | none => rw [es] at g; exact False.elim g
    | some ss =>
      rw [es] at g
      dsimp only at g
      obtain ⟨f0, hp, ow⟩ := slots_fr f1 k nd es
      have fm := made_fr f0 hm ha hd ne
      refine ⟨by rw [← hn, k.length]; rfl, F1, _, fun s hs => ?_, fm, ?_⟩
      · rcases List.mem_cons.mp hs with e | e
        · rw [e]; rfl
        · exact hp s e
      · cases er : fn (.ref (.ins x []) :: ss) with
        | stuck => rw [er] at g; exact False.elim g
        | err n fs post =>
          rw [er] at g
          intro F' H' c d f' x' ea
          cases post with
          | nil => exact False.elim g
          | cons s post =>
            have f2 := f'.tail
            have x2 := made_ex ha hd x'
            obtain ⟨p1, p2, _⟩ := back_fr f1 k nd es f2 x2
            exact g F' H' c d p1 (x1.trans p2) ea
        | ret r post =>
          rw [er] at g
          intro F' H' v f' x' rl
          cases r with
          | new _ => exact False.elim g
          | «at» _ => exact False.elim g
          | d y =>
            cases y with
            | non =>
              cases post with
              | nil => exact False.elim g
              | cons s post =>
                cases s with
                | no => exact False.elim g
                | d _ => exact False.elim g
                | own _ => exact False.elim g
                | ref y =>
                  have g : ∀ F'' H'' v', FrS mg F'' (putBack ps post env1) σ H'' → ExS F env σ H F'' (putBack ps post env1) σ H'' → relR mg H F'' (putBack ps post env1) σ H'' (.new y) v' → Q v' H'' := g
                  have f2 := f'.tail
                  have x2 := made_ex ha hd x'
                  obtain ⟨p1, p2, p3⟩ := back_fr f1 k nd es f2 x2
                  have ev : v = .non := by
                    rcases rl with rl | ⟨_, _, _, _, z⟩
                    · cases rl; rfl
                    · exact False.elim z
                  refine ⟨ev, g F' H' (.ref a) p1 (x1.trans p2) ?_⟩
                  obtain ⟨b, o, q1, q2, q3, q4⟩ := f'.mt 0 _ y rfl rfl
                  have q1 : some (some (V.ref a)) = some (some (V.ref b)) := q1
                  cases q1
                  refine back_R _ _ _ _ _ _ _ _ x1.live (show relR mg H1 F' _ σ H' (.new y) (.ref a) from ⟨a, o, rfl, ha, q2, q3, q4, fun w => ?_⟩)
                  obtain ⟨i, s, e1, m, q⟩ := p3 a w
                  cases em : s.mut with
                  | none => rw [em] at m; cases m
                  | some y =>
                    obtain ⟨b, u, z1, _, z3, _⟩ := f1.mt i s y e1 em
                    rw [q] at z1
                    cases z1
                    rw [ha] at z3
                    cases z3
            | _ => exact False.elim g
  · exact False.elim g
section
variable {X : Cx} {W : WX} {x : Str} {C f : Addr} {n : Nat} {fn : Fn} {e : Expr} {es : List Expr} {gs : List Ag} {p pos : Pos}
theorem run_makeS {k : Nat} {fd : FuncData} {ps : List Str} {sp : Sp} {E : L2.St → XK} {pins : List (Addr × Obj)} {σ : L2.St} {H : Hp} {s : Shared} {Q : VK} {us : List Value} {vs : List V} (M : Mk X.K C f) (F : FnOk X.prog X.w X.K X.mg X.base (L2N.CX X.prog X.w) k f fd ps sp) (hr : Room (k + 1) X.A) (hb : Binds X.K fd ps [])
    (hx : PassesAt (L2N.CX X.prog X.w) X σ (E σ)) (I : Inv X pins σ H s) (r : Vals vs us)
    (h : ∀ x dx, H x = none → H dx = none → dx ≠ x → sp (.ref x :: vs) (upd (upd H dx (.own x)) x (.ins C dx [])) (fun v H2 => v = .non ∧ Q (.ref x) H2) (E σ)) :
    wpAny (model X.prog X.w) X.A (call (.ref C) us) (EP X pins σ Q) X.xe s := by
  have hq := h (s.heap.objs.size + 1) s.heap.objs.size (I.hok.fresh (Nat.le_succ _)) (I.hok.fresh (Nat.le_refl _)) (Nat.ne_of_lt (Nat.lt_succ_self _))
  have I2 := Inv.made (C := C) I
  have r2 : Vals (V.ref (s.heap.objs.size + 1) :: vs) (Value.ref (s.heap.objs.size + 1) :: us) := .cons rfl r
  have hl : (Value.ref (s.heap.objs.size + 1) :: us).length = ps.length := by
    have e := r2.length
    rw [F.len _ _ _ _ hq] at e
    exact e.symm
  have b := hb _ (Value.ref (s.heap.objs.size + 1) :: us) I2.kIn (by rw [List.append_nil]; exact hl)
  rw [List.append_nil] at b
  refine wpAny_call (make_map (f := f) I.kIn M.makes M.init (beq_iff_eq.mp M.fn) (codeAny_mono (F.run _ X.stack _ _ ⟨Value.ref (s.heap.objs.size + 1) :: us, []⟩ (Value.ref (s.heap.objs.size + 1) :: us) _ _ (E σ) (hr.make C us [])
    (I2.env0.make C us []) b r2 hq) fun r s' hq' => ?_))
  cases r with
  | error e => exact hx pins _ _ e s' I2 hq'
  | ok fl =>
    cases fl with
    | ret u =>
      obtain ⟨v, H', I3, rv, ev, q3⟩ := I2.after hq'
      subst ev
      exact ⟨rv, ⟨V.ref (s.heap.objs.size + 1), H', I3, rfl, q3⟩⟩
    | next => exact False.elim hq'
    | brk => exact False.elim hq'
    | cont => exact False.elim hq'
theorem se_make (tk : L2N.Takes X W) (M : Mk X.K C f) (G : FnS1 X f n fn) (hg : Gl X x) (hm : X.mg x = some (.ref C)) (ha : SAs X W (e :: es) gs) (hn : gs.length + 1 = n := by rfl)
    (hdb : (x == ("__debug__" : Str)) = false := by decide) (he : starEach (e :: es) X.env = (false, eval e X.env) :: starEach es X.env := by rfl) (hpl : (backTo pos (starEach es X.env)).any (·.1) = false := by rfl) :
    SE X W (.Call (.Name x p) (e :: es) [] pos) (cMake x fn gs) := by
  obtain ⟨k, fd, ps, ok, hr, hb⟩ := G.ok
  refine ⟨⟨fun pins s σ H Q I h => ?_⟩⟩
  obtain ⟨F0, env, fr, g⟩ := h
  refine wpAny_Call_Name_kw (ld_glob I hg hm ?_ hdb)
  refine PySem.W.callWith_K (h₀ := X.base) I.ok.mod.kin M.kp (thn (ha.pa.run pos pins s σ H (fun vs H1 => ∀ a dx, H1 a = none → H1 dx = none → dx ≠ a → spOf X.mg n fn (.ref a :: vs) (upd (upd H1 dx (.own a)) a (.ins C dx [])) (fun v H2 => v = .non ∧ Q (.ref a) H2) (WE W σ)) I
    ⟨F0, env, fr, GoodO.bind g fun qs env1 F1 H1 vs e1 f1 x1 r1 g1 => make_sp hm (by rw [cAs_len e1, hn]) f1 x1 r1 g1⟩) fun us s1 ⟨vs, H1, I1, r, q⟩ => ⟨I1.kIn, ?_⟩) he hpl
  exact run_makeS (E := WE W) M ok hr hb (L2N.passAt tk σ) I1 r q
end
end Sim

/-! Sim17: built-in functions, types and methods. -/
namespace Sim
open PySem PySem.Spec PyProof.Rows L2

def RdL (mg : Mg) (F H : Hp) : List D → List V → Prop
  | [], vs => vs = []
  | d :: ds, vs => ∃ v r, vs = v :: r ∧ RdD mg F H d v ∧ RdL mg F H ds r
def looks : List P → En → Option (List D)
  | [], _ => some []
  | p :: ps, e => (look p e).bind fun d => (looks ps e).map (d :: ·)
theorem looks_rd {mg : Mg} {F H : Hp} {env : En} {σ : L2.St} (f : FrS mg F env σ H) : ∀ {ps : List P} {vs : List V} {ds : List D}, looks ps env = some ds → KeptL mg F σ ps vs → RdL mg F H ds vs
  | [], vs, ds, e, k => by cases e; exact k
  | p :: ps, vs, ds, e, ⟨v, r, ev, k, t⟩ => by
    unfold looks at e
    cases e1 : look p env with
    | none => rw [e1] at e; cases e
    | some d =>
      rw [e1, Option.bind_some] at e
      cases e2 : looks ps env with
      | none => rw [e2] at e; cases e
      | some es =>
        rw [e2] at e
        cases e
        exact ⟨v, r, ev, look_rd f e1 k, looks_rd f e2 t⟩
def rCD (mg : Mg) (g : List D → Option R) : List V → Hp → VK → Prop := fun vs H Q => ∃ F ds r, Live F H ∧ RdL mg F H ds vs ∧ g ds = some r ∧ ∀ F' H' v, Grow F H F' H' → relRes mg H F' H' r v → Q v H'
def CallD (X : Cx) (f : Value) (g : List D → Option R) : Prop := CallR X f (rCD X.mg g)
theorem callD_of {X : Cx} {f : Value} {g : List D → Option R} {r : List V → Hp → VK → Prop} (h : CallR X f r) (k : ∀ vs H Q, rCD X.mg g vs H Q → r vs H Q) : CallD X f g :=
  fun pins s σ H xs us Q I rv q => h pins s σ H xs us Q I rv (k xs H Q q)
def cBlt (g : List D → Option R) (gs : List Ag) : En → Out R := fun env => (cAs gs env).bind fun ps e => match (looks ps e).bind g with
  | some r => .ok r e
  | none => .stuck
section
variable {X : Cx} {W : WX} {x : Str} {e o : Expr} {es : List Expr} {gs : List Ag} {p pos apos : Pos} {id T : String} {g : List D → Option R} {c co : En → Out R}
theorem blt_core {mg : Mg} {t : TA} {r : List V → Hp → VK → Prop} (hr : ∀ vs H Q, rCD mg g vs H Q → r vs H Q) (ha : ∀ σ H Q, (∃ F env, FrS mg F env σ H ∧ GoodO mg W (relKL mg) Q F env σ H (cAs gs env)) → t σ H Q) :
    ∀ σ H Q, tE mg W (cBlt g gs) σ H Q → tCB r t σ H Q := by
  intro σ H Q ⟨F, env, fr, g1⟩
  refine ha _ _ _ ⟨F, env, fr, GoodO.bind g1 fun ps env1 F1 H1 vs e1 f1 x1 r1 g2 => ?_⟩
  refine hr _ _ _ ?_
  cases el : looks ps env1 with
  | none => rw [el] at g2; exact False.elim g2
  | some ds =>
    rw [el, Option.bind_some] at g2
    cases eg : g ds with
    | none => rw [eg] at g2; exact False.elim g2
    | some r =>
      rw [eg] at g2
      refine ⟨F1, ds, r, f1.live, looks_rd f1 el r1, eg, fun F' H' w gr rl => ?_⟩
      obtain ⟨f3, x3⟩ := f1.grow gr
      exact g2 F' H' w f3 (x1.trans x3) (back_R _ _ _ _ _ _ _ _ x1.live (res_rel f1 rl))
theorem se_blt (hc : CallD X (.builtin id) g) (hg : Gl X x) (hm : X.mg x = none) (hv : bootBuiltins x = some (.builtin id)) (ha : SAs X W (e :: es) gs) (hn : x ≠ "__name__" := by decide) (hdb : (x == ("__debug__" : Str)) = false := by decide)
    (he : starEach (e :: es) X.env = (false, eval e X.env) :: starEach es X.env := by rfl) (hpl : (backTo pos (starEach es X.env)).any (·.1) = false := by rfl) : SE X W (.Call (.Name x p) (e :: es) [] pos) (cBlt g gs) :=
  ⟨PE.imp (pe_callB hc hg hm hv ha.pa hn hdb he hpl) (blt_core (fun _ _ _ q => q) fun _ _ _ q => q)⟩
theorem se_cty (hc : CallD X (.type T) g) (hg : Gl X x) (hm : X.mg x = none) (hv : bootBuiltins x = some (.type T)) (ha : SAs X W (e :: es) gs) (hn : x ≠ "__name__" := by decide) (hdb : (x == ("__debug__" : Str)) = false := by decide)
    (he : starEach (e :: es) X.env = (false, eval e X.env) :: starEach es X.env := by rfl) (hpl : (backTo pos (starEach es X.env)).any (·.1) = false := by rfl) : SE X W (.Call (.Name x p) (e :: es) [] pos) (cBlt g gs) :=
  ⟨PE.imp (pe_callTy hc hg hm hv ha.pa hn hdb he hpl) (blt_core (fun _ _ _ q => q) fun _ _ _ q => q)⟩
/-! ### len, int, str, list, tuple, sum -/
theorem rdl1 {mg : Mg} {F H : Hp} {d : D} {vs : List V} (h : RdL mg F H [d] vs) : ∃ v, vs = [v] ∧ RdD mg F H d v := by
  obtain ⟨v, r, e, k, t⟩ := h
  have t : r = [] := t
  subst t
  exact ⟨v, e, k⟩
theorem lim_size {n : Nat} (h : n ≤ lim) : n ≤ sizeLine := lim_line h
def gLen : List D → Option R
  | [.lst xs] => some (.d (.int xs.length))
  | [.tup xs] => some (.d (.int xs.length))
  | [.str z] => if z.length ≤ lim then some (.d (.int z.length)) else none
  | [.dk kvs] => some (.d (.int kvs.length))
  | _ => none
theorem RepKK.len {mg : Mg} {F : Hp} : ∀ {fs : List (Key × D)} {gs : List (Key × V)}, RepKK mg F fs gs → fs.length = gs.length
  | [], gs, h => by have e : gs = [] := h; subst e; rfl
  | _ :: fs, gs, h => by obtain ⟨v, r, e, _, t⟩ := h; subst e; simp [RepKK.len t]
theorem cd_len : CallD X (.builtin "len") gLen := by
  intro pins s σ H xs us Q I rv q
  obtain ⟨F, ds, r, l, rd, eg, k⟩ := q
  match ds, eg with
  | [.lst ys], eg =>
    cases eg
    obtain ⟨v, rfl, rq⟩ := rdl1 rd
    obtain ⟨a, vs, rfl, h1, h2⟩ := rd_lst rq
    exact call_len_seq pins s σ H _ us Q I rv ⟨a, vs, rfl, .inl (.inl h1), by rw [← h2.length]; exact res_flat k rfl⟩
  | [.tup ys], eg =>
    cases eg
    obtain ⟨v, rfl, rq⟩ := rdl1 rd
    obtain ⟨a, vs, rfl, h1, _, h2⟩ := rd_tup rq
    exact call_len_seq pins s σ H _ us Q I rv ⟨a, vs, rfl, .inr (SqT.of h1), by rw [← h2.length]; exact res_flat k rfl⟩
  | [.str z], eg =>
    obtain ⟨v, rfl, rq⟩ := rdl1 rd
    have eg : (if z.length ≤ lim then some (R.d (.int z.length)) else none) = some r := eg
    by_cases c : z.length ≤ lim
    · rw [if_pos c] at eg
      cases eg
      exact call_len_str pins s σ H _ us Q I rv ⟨z, by rw [rd_str rq], lim_line c, res_flat k rfl⟩
    · rw [if_neg c] at eg; cases eg
  | [.dk kvs], eg =>
    cases eg
    obtain ⟨v, rfl, rq⟩ := rdl1 rd
    obtain ⟨a, gs, rfl, h1, h2⟩ := rd_dk rq
    obtain ⟨u, rfl, rx⟩ := vals1 rv
    obtain rfl : u = .ref a := rx
    exact d_len I h1 fun t s' I' => ⟨.int gs.length, H, I', ⟨t, rfl⟩, by rw [← RepKK.len h2]; exact res_flat k rfl⟩
def gInt : List D → Option R
  | [.int i] => some (.d (.int i))
  | [.bl b] => some (.d (.int (if b then 1 else 0)))
  | _ => none
theorem cd_int : CallD X (.type "int") gInt := by
  refine callD_of call_int1 fun vs H Q q => ?_
  obtain ⟨F, ds, r, l, rd, eg, k⟩ := q
  match ds, eg with
  | [.int i], eg =>
    cases eg
    obtain ⟨v, rfl, rq⟩ := rdl1 rd
    exact .inl ⟨i, by rw [rd_int rq], res_flat k rfl⟩
  | [.bl b], eg =>
    cases eg
    obtain ⟨v, rfl, rq⟩ := rdl1 rd
    exact .inr ⟨b, by rw [rd_bl rq], res_flat k rfl⟩
def gStr : List D → Option R
  | [.int i] => if i.natAbs.log2 < 1920 then some (.d (.str (toString i))) else none
  | [.str z] => some (.d (.str z))
  | _ => none
theorem cd_strI : CallD X (.type "str") gStr := by
  intro pins s σ H xs us Q I rv q
  obtain ⟨F, ds, r, l, rd, eg, k⟩ := q
  match ds, eg with
  | [.int i], eg =>
    have eg : (if i.natAbs.log2 < 1920 then some (R.d (.str (toString i))) else none) = some r := eg
    obtain ⟨v, rfl, rq⟩ := rdl1 rd
    by_cases c : i.natAbs.log2 < 1920
    · rw [if_pos c] at eg
      cases eg
      exact call_str_int pins s σ H _ us Q I rv ⟨i, by rw [rd_int rq], c, res_flat k rfl⟩
    · rw [if_neg c] at eg; cases eg
  | [.str z], eg =>
    cases eg
    obtain ⟨v, rfl, rq⟩ := rdl1 rd
    obtain rfl := rd_str rq
    obtain ⟨u, rfl, t, rfl⟩ := vals1 rv
    exact SkE.call_str_str pins s σ H _ _ Q I rv ⟨z, rfl, res_flat k rfl⟩
def keyD' : Key → D
  | .inl i => .int i
  | .inr s => .str s
def gList : List D → Option R
  | [.lst xs] => some (.new (.lst xs))
  | [.tup xs] => some (.new (.lst xs))
  | [.dk kvs] => some (.new (.lst (kvs.map fun p => keyD' p.1)))
  | _ => none
theorem key_flat (k : Key) : flatOf (keyD' k) = some (kV k) := by cases k <;> rfl
theorem rep_keys {mg : Mg} {F : Hp} : ∀ {fs : List (Key × D)} {gs : List (Key × V)}, RepKK mg F fs gs → RepL mg F (fs.map fun p => keyD' p.1) (gs.map fun p => kV p.1)
  | [], gs, h => by have e : gs = [] := h; subst e; exact RepL.nil
  | q :: fs, gs, h => by
    obtain ⟨v, r, e, _, t⟩ := h
    subst e
    exact RepL.cons (.inl (key_flat q.1)) (rep_keys t)
theorem cd_list (hc : X.calm = true) : CallD X (.type "list") gList := by
  intro pins s σ H xs us Q I rv q
  obtain ⟨F, ds, r, l, rd, eg, k⟩ := q
  match ds, eg with
  | [.lst ys], eg =>
    cases eg
    obtain ⟨v, rfl, rq⟩ := rdl1 rd
    obtain ⟨a, vs, rfl, h1, h2⟩ := rd_lst rq
    exact call_list_of pins s σ H _ us Q I rv ⟨a, vs, rfl, .inl (.inl h1), fun p hp => res_new l k hp ⟨⟨vs, rfl, h2⟩, rfl⟩⟩
  | [.tup ys], eg =>
    cases eg
    obtain ⟨v, rfl, rq⟩ := rdl1 rd
    obtain ⟨a, vs, rfl, h1, _, h2⟩ := rd_tup rq
    exact call_list_of pins s σ H _ us Q I rv ⟨a, vs, rfl, .inr (SqT.of h1), fun p hp => res_new l k hp ⟨⟨vs, rfl, h2⟩, rfl⟩⟩
  | [.dk kvs], eg =>
    cases eg
    obtain ⟨v, rfl, rq⟩ := rdl1 rd
    obtain ⟨a, gs, rfl, h1, h2⟩ := rd_dk rq
    exact call_listD hc pins s σ H _ us Q I rv ⟨a, gs, rfl, h1, fun p hp => res_new l k hp ⟨⟨_, rfl, rep_keys h2⟩, rfl⟩⟩
def gTuple : List D → Option R
  | [.lst xs] => some (.d (.tup xs))
  | [.tup xs] => some (.d (.tup xs))
  | _ => none
theorem cd_tuple : CallD X (.type "tuple") gTuple := by
  intro pins s σ H xs us Q I rv q
  obtain ⟨F, ds, r, l, rd, eg, k⟩ := q
  match ds, eg with
  | [.lst ys], eg =>
    cases eg
    obtain ⟨v, rfl, rq⟩ := rdl1 rd
    obtain ⟨a, vs, rfl, h1, h2⟩ := rd_lst rq
    exact call_tuple_of pins s σ H _ us Q I rv ⟨a, vs, rfl, .inl ⟨.inl h1, fun p hp => res_fix l k hp ⟨vs, rfl, h2⟩⟩⟩
  | [.tup ys], eg =>
    cases eg
    obtain ⟨v, rfl, rq⟩ := rdl1 rd
    obtain ⟨a, vs, rfl, h1, h3, h2⟩ := rd_tup rq
    exact call_tuple_of pins s σ H _ us Q I rv ⟨a, vs, rfl, .inr ⟨SqT.of h1, res_same k (.inr ⟨a, _, rfl, h3, vs, rfl, h2⟩)⟩⟩
end
end Sim

/-! Sim18: isinstance, join, index, range of three, sum. -/
namespace Sim
open PySem PySem.Spec PyProof.Rows L2

/-! ### isinstance -/
/-- the answer by a value's built-in type, by its own class -/
structure IsT where
  bt : String → Option Bool
  ot : Str → Option Bool := fun _ => none
structure InsF (K : PySem.W.Frag) (C : Addr) : Prop where
  cl : Cls K C
  ha : PySem.W.findIn K (.ref C) "__class__" = some (some (.builtin "object.__class__"))
  hn : PySem.W.specialIn K (.builtin "object.__class__") "__get__" = some (some (.builtin "getset_descriptor.__get__"))
  htk : PySem.W.takesIn K (.builtin "object.__class__") = some true
  hm : PySem.W.mroIn K C (.type "object") = some true
def isD (T : IsT) : D → Option Bool
  | .non => T.bt "NoneType" | .bl _ => T.bt "bool" | .int _ => T.bt "int" | .str _ => T.bt "str"
  | .tup _ => T.bt "tuple" | .lst _ => T.bt "list" | .dk _ => T.bt "dict" | .dt _ => none | .ins x _ => T.ot x
/-- f: kitOne | kitAny of the classes -/
structure IsOk (X : Cx) (T : IsT) (f : Value → Option Bool) : Prop where
  bt : ∀ t b, T.bt t = some b → f (.type t) = some b
  ot : ∀ x b, T.ot x = some b → ∃ C, X.mg x = some (.ref C) ∧ InsF X.K C ∧ f (.ref C) = some b
theorem tyx_of {X : Cx} {T : IsT} {f : Value → Option Bool} (ok : IsOk X T f) {F H : Hp} {d : D} {v : V} {b : Bool} (h : RdD X.mg F H d v) (e : isD T d = some b) : ∃ t, TyX X.K H v t ∧ f t = some b := by
  cases d with
  | non => obtain rfl := rd_non h; exact ⟨_, .base .non, ok.bt _ _ e⟩
  | bl k => obtain rfl := rd_bl h; exact ⟨_, .base (.bl k), ok.bt _ _ e⟩
  | int i => obtain rfl := rd_int h; exact ⟨_, .base (.int i), ok.bt _ _ e⟩
  | str z => obtain rfl := rd_str h; exact ⟨_, .base (.str z), ok.bt _ _ e⟩
  | tup ds =>
    obtain ⟨a, vs, rfl, h1, _, _⟩ := rd_tup h
    exact ⟨_, .base (.tup h1), ok.bt _ _ e⟩
  | lst ds =>
    obtain ⟨a, vs, rfl, h1, _⟩ := rd_lst h
    rcases h1 with h1 | ⟨ob, h1⟩
    · exact ⟨_, .base (.lst h1), ok.bt _ _ e⟩
    · exact ⟨_, .base (.frz h1), ok.bt _ _ e⟩
  | dk kvs =>
    obtain ⟨a, gs, rfl, h1, _⟩ := rd_dk h
    rcases h1 with h1 | ⟨ob, h1⟩
    · exact ⟨_, .base (.dK h1), ok.bt _ _ e⟩
    · exact ⟨_, .fDict h1, ok.bt _ _ e⟩
  | dt kvs => cases e
  | ins x fs =>
    obtain ⟨a, C, dx, gs, rfl, h1, hm, _⟩ := rd_ins h
    obtain ⟨C', hm', I, q⟩ := ok.ot x b e
    rw [hm] at hm'
    cases hm'
    exact ⟨_, .base (.ins h1 I.cl I.ha I.hn I.htk I.hm), q⟩
def cIs (T : IsT) (c : En → Out R) : En → Out R := fun env => (cP c env).bind fun p e => match (look p e).bind (isD T) with
  | some b => .ok (.d (.bl b)) e
  | none => .stuck
section
variable {X : Cx} {W : WX} {a ec : Expr} {ca : En → Out R} {c : V} {u : Value} {T : IsT} {p pos : Pos}
theorem se_isi (ok : IsOk X T (fun t => PySem.W.kitOne X.K t u)) (k : ClsV c u) (hc : PE X ec (tC c)) (hg : Gl X "isinstance") (hm : X.mg "isinstance" = none) (ha : SE X W a ca)
    (he : starEach [a, ec] X.env = (false, eval a X.env) :: starEach [ec] X.env := by rfl) (he2 : starEach [ec] X.env = (false, eval ec X.env) :: starEach [] X.env := by rfl) (hpl : (backTo pos (starEach [ec] X.env)).any (·.1) = false := by rfl) :
    SE X W (.Call (.Name "isinstance" p) [a, ec] [] pos) (cIs T ca) := by
  refine ⟨PE.imp (pe_callB call_isi hg hm boot_isinstance (pa_cons (sp_of ha).pe (pa_cons hc pa_nil he2) he) (by decide) (by decide) he hpl) fun σ H Q ⟨F, env, fr, g⟩ => ?_⟩
  refine ⟨F, env, fr, GoodO.bind g fun p env1 F1 H1 v e1 f1 x1 r1 g1 => ?_⟩
  cases el : look p env1 with
  | none => rw [el] at g1; exact False.elim g1
  | some d =>
    rw [el, Option.bind_some] at g1
    cases eb : isD T d with
    | none => rw [eb] at g1; exact False.elim g1
    | some b =>
      rw [eb] at g1
      obtain ⟨t, ty, q⟩ := tyx_of ok (look_rd f1 el (relP_on r1 (LeF.refl _))) eb
      exact ⟨v, c, t, u, b, rfl, k, ty, q, g1 F1 H1 _ f1 x1 (.inl rfl)⟩
/-- isinstance(x, (C1, C2)) -/
theorem se_isi2 {e1 e2 : Expr} {c1 c2 : V} {u1 u2 : Value} {j : Nat} {ptup : Pos} (ok : IsOk X T (fun t => PySem.W.kitAny X.K t [u1, u2])) (k1 : ClsV c1 u1) (k2 : ClsV c2 u2) (h1 : PE X e1 (tC c1)) (h2 : PE X e2 (tC c2)) (hg : Gl X "isinstance") (hm : X.mg "isinstance" = none) (ha : SE X W a ca)
    (he : starEach [a, .Tuple [e1, e2] j ptup] X.env = (false, eval a X.env) :: starEach [.Tuple [e1, e2] j ptup] X.env := by rfl) (he2 : starEach [.Tuple [e1, e2] j ptup] X.env = (false, eval (.Tuple [e1, e2] j ptup) X.env) :: starEach [] X.env := by rfl)
    (he3 : starEach [e1, e2] X.env = (false, eval e1 X.env) :: starEach [e2] X.env := by rfl) (he4 : starEach [e2] X.env = (false, eval e2 X.env) :: starEach [] X.env := by rfl) (hpl : (backTo pos (starEach [.Tuple [e1, e2] j ptup] X.env)).any (·.1) = false := by rfl) :
    SE X W (.Call (.Name "isinstance" p) [a, .Tuple [e1, e2] j ptup] [] pos) (cIs T ca) := by
  refine ⟨PE.imp (pe_callB call_isiT hg hm boot_isinstance (pa_cons (sp_of ha).pe (pa_cons (pe_tup (pa_cons h1 (pa_cons h2 pa_nil he4) he3)) pa_nil he2) he) (by decide) (by decide) he hpl) fun σ H Q ⟨F, env, fr, g⟩ => ?_⟩
  refine ⟨F, env, fr, GoodO.bind g fun p env1 F1 H1 v e1 f1 x1 r1 g1 => ?_⟩
  cases el : look p env1 with
  | none => rw [el] at g1; exact False.elim g1
  | some d =>
    rw [el, Option.bind_some] at g1
    cases eb : isD T d with
    | none => rw [eb] at g1; exact False.elim g1
    | some b =>
      rw [eb] at g1
      refine ⟨by show 2 ≤ sizeLine; rw [sizeLine_eq]; omega, fun q hq => ?_⟩
      obtain ⟨f2, x2⟩ := f1.grow (.inr (.inl ⟨q, .tup [c1, c2], hq, rfl, .inl rfl⟩))
      obtain ⟨t, ty, q2⟩ := tyx_of ok (look_rd f2 el (relP_on r1 (LeF.refl _))) eb
      exact ⟨v, q, [c1, c2], t, [u1, u2], b, rfl, upd_same, .cons k1 (.cons k2 .nil), ty, q2, g1 F1 _ _ f2 (x1.trans x2) (.inl rfl)⟩
end
/-! ### 'sep'.join(texts) -/
def strsOf : List D → Option (List Str)
  | [] => some []
  | .str z :: ds => (strsOf ds).map (z :: ·)
  | _ :: _ => none
theorem strs_rd {mg : Mg} {F : Hp} : ∀ {ds : List D} {ys : List Str} {vs : List V}, strsOf ds = some ys → RepL mg F ds vs → vs = ys.map V.str
  | [], ys, vs, e, h => by cases e; exact h
  | d :: ds, ys, vs, e, h => by
    obtain ⟨v, r, ev, q, t⟩ := h
    subst ev
    cases d with
    | str z =>
      have e : (strsOf ds).map (z :: ·) = some ys := e
      cases e1 : strsOf ds with
      | none => rw [e1] at e; cases e
      | some zs =>
        rw [e1] at e
        cases e
        rw [strs_rd e1 t]
        rcases q with q | ⟨_, _, _, _, z⟩
        · cases q; rfl
        · exact z.elim
    | _ => cases e
def gJoin (a b : D) : Option R := match a, b with
  | .str z, .lst ds => (strsOf ds).bind fun ys => if (ys.map (·.length)).sum + ys.length * z.length ≤ 16777216 then some (.d (.str (Txt.join z ys))) else none
  | .str z, .tup ds => (strsOf ds).bind fun ys => if (ys.map (·.length)).sum + ys.length * z.length ≤ 16777216 then some (.d (.str (Txt.join z ys))) else none
  | _, _ => none
section
variable {X : Cx} {W : WX} {a b o e : Expr} {ca cb co ce : En → Out R} {p pos apos : Pos}
/-- o.m(e), o a built-in type's value: the receiver is a text from the start -/
theorem se_join (ho : SE X W o co) (he : SE X W e ce) (hs : starEach [e] X.env = [(false, eval e X.env)] := by rfl) (hbase : attributeBase o "join" X.env (eval o X.env) = eval o X.env := by rfl) (hline : (apos.endLine == pos.line) = true := by rfl) :
    SE X W (.Call (.Attribute o "join" apos) [e] [] pos) (fun env => (cP co env).bind fun q e1 => match look q e1 with
      | some (.str z) => (cP ce e1).bind fun r e2 => (match (look r e2).bind (gJoin (.str z)) with
        | some w => .ok w e2
        | none => .stuck)
      | _ => .stuck) := by
  refine ⟨PE.imp (pe_join (sp_of ho).pe (sp_of he).pe hs hbase hline) fun σ H Q ⟨F, env, fr, g⟩ => ?_⟩
  refine ⟨F, env, fr, GoodO.bind g fun q env1 F1 H1 v e1 f1 x1 r1 g1 => ?_⟩
  cases el : look q env1 with
  | none => rw [el] at g1; exact False.elim g1
  | some d =>
    rw [el] at g1
    cases d with
    | str z =>
      dsimp only at g1
      have hv := rd_str (look_rd f1 el (relP_on r1 (LeF.refl _)))
      refine ⟨⟨z, hv⟩, F1, env1, f1, GoodO.bind (GoodO.shift back_R x1 g1) fun r env2 F2 H2 u e2 f2 x2 r2 g2 => ?_⟩
      cases el2 : look r env2 with
      | none => rw [el2] at g2; exact False.elim g2
      | some d2 =>
        rw [el2, Option.bind_some] at g2
        cases ej : gJoin (.str z) d2 with
        | none => rw [ej] at g2; exact False.elim g2
        | some w =>
          rw [ej] at g2
          have rd := look_rd f2 el2 (relP_on r2 (LeF.refl _))
          have fin : ∀ {ds : List D} {vs : List V} {pp : Addr}, RepL X.mg F2 ds vs → (strsOf ds).bind (fun ys => if (ys.map (·.length)).sum + ys.length * z.length ≤ 16777216 then some (R.d (.str (Txt.join z ys))) else none) = some w → ∃ ys : List Str, vs = ys.map V.str ∧ (ys.map (·.length)).sum + ys.length * z.length ≤ 16777216 ∧ Q (.str (Txt.join z ys)) H2 := fun {ds vs pp} rl ej => by
            cases e3 : strsOf ds with
            | none => rw [e3] at ej; cases ej
            | some ys =>
              rw [e3, Option.bind_some] at ej
              split at ej
              · rename_i c
                cases ej
                exact ⟨ys, strs_rd e3 rl, c, g2 F2 H2 _ f2 x2 (.inl rfl)⟩
              · cases ej
          cases d2 with
          | lst ds =>
            obtain ⟨pp, vs, rfl, h1, h2⟩ := rd_lst rd
            obtain ⟨ys, rfl, c, q⟩ := fin (pp := pp) h2 ej
            exact ⟨z, pp, ys, hv, rfl, .inl (.inl h1), c, q⟩
          | tup ds =>
            obtain ⟨pp, vs, rfl, h1, _, h2⟩ := rd_tup rd
            obtain ⟨ys, rfl, c, q⟩ := fin (pp := pp) h2 ej
            exact ⟨z, pp, ys, hv, rfl, .inr (SqT.of h1), c, q⟩
          | _ => cases ej
    | _ => exact False.elim g1
/-! ### xs.index(x) -/
def gIndex (a b : D) : Option R := match a with
  | .lst ys => if pl (.lst ys) = true ∧ pl b = true ∧ SeqAt.shaped (.list (pys ys)) = true ∧ SeqAt.shaped (py b) = true then ((pys ys).findIdx? fun z => PyData.eqv z (py b)).map fun (j : Nat) => .d (.int j) else none
  | _ => none
def cIndex (co ce : En → Out R) : En → Out R := fun env => (cP co env).bind fun q e1 => match look q e1 with
  | some (.lst _) => (cP ce e1).bind fun r e2 => (match look q e2, look r e2 with
    | some x, some y => (match gIndex x y with
      | some w => .ok w e2
      | none => .stuck)
    | _, _ => .stuck)
  | _ => .stuck
theorem se_index (hu : U X) (ho : SE X W o co) (he : SE X W e ce) (hbase : attributeBase o "index" X.env (eval o X.env) = eval o X.env := by rfl)
    (hfew : ((backTo pos (starEach (e :: []) X.env)).all (fun x => !x.1) && (backToKw pos (keywordEach [] X.env)).all (fun x => x.1.isSome)
      && decide ((e :: []).length + ([] : List Keyword).length + (if ([] : List Keyword).isEmpty then 0 else 1) < 30)) = true := by rfl)
    (hline : (apos.endLine == pos.line) = true := by rfl) (hs : starEach (e :: []) X.env = (false, eval e X.env) :: starEach [] X.env := by rfl) (hplain : (backTo pos (starEach [] X.env)).any (·.1) = false := by rfl) :
    SE X W (.Call (.Attribute o "index" apos) [e] [] pos) (cIndex co ce) := by
  have h3 : X.A.units + 100 < cLine := hu
  refine ⟨PE.imp (pe_bm PySem.F.plainAttrs_list PySem.F.slot_list_index PySem.F.type_list_index (mt_indexD (by omega)) (sp_of ho).pe (pa_cons (sp_of he).pe pa_nil hs) hbase hfew hline hs hplain) fun σ H Q ⟨F, env, fr, g⟩ => ?_⟩
  refine ⟨F, env, fr, GoodO.bind g fun q env1 F1 H1 v e1 f1 x1 r1 g1 => ?_⟩
  cases el : look q env1 with
  | none => rw [el] at g1; exact False.elim g1
  | some d =>
    rw [el] at g1
    cases d with
    | lst ys =>
      dsimp only at g1
      obtain ⟨a, vs, hv, h1, h2⟩ := rd_lst (look_rd f1 el (relP_on r1 (LeF.refl _)))
      subst hv
      refine ⟨.inl ⟨rfl, vs, .inl h1⟩, F1, env1, f1, GoodO.bind (GoodO.shift back_R x1 g1) fun r env2 F2 H2 u e2 f2 x2 r2 g2 => ?_⟩
      cases elq : look q env2 with
      | none => rw [elq] at g2; exact False.elim g2
      | some dq =>
        cases el2 : look r env2 with
        | none => rw [elq, el2] at g2; exact False.elim g2
        | some d2 =>
          rw [elq, el2] at g2
          dsimp only at g2
          cases ej : gIndex dq d2 with
          | none => rw [ej] at g2; exact False.elim g2
          | some w =>
            rw [ej] at g2
            have rq := look_rd f2 elq (relP_on r1 x2.le)
            have rd := look_rd f2 el2 (relP_on r2 (LeF.refl _))
            cases dq with
            | lst zs =>
              unfold gIndex at ej
              dsimp only at ej
              split at ej
              · rename_i c
                cases ef : (pys zs).findIdx? fun z => PyData.eqv z (py d2) with
                | none => rw [ef] at ej; cases ej
                | some j =>
                  rw [ef] at ej
                  cases ej
                  obtain ⟨hj, hz, hno⟩ := List.findIdx?_eq_some_iff_getElem.mp ef
                  refine ⟨a, u, py d2, pys zs, j, (pys zs)[j], rfl, rfl, dp_rd f2.live c.1 rq, dp_rd f2.live c.2.1 rd, c.2.2.1, c.2.2.2, by simp [hj], hz, fun m z' hm e' => ?_, g2 F2 H2 _ f2 x2 (.inl rfl)⟩
                  have hml : m < (pys zs).length := by omega
                  rw [List.getElem?_eq_getElem hml] at e'
                  cases e'
                  simpa using hno m hm
              · cases ej
            | _ => cases ej
    | _ => exact False.elim g1
/-! ### range(i, j, c) -/
def rngC (lo c : Int) (n : Nat) : List D := (List.range n).map fun (k : Nat) => D.int (lo + (k : Int) * c)
theorem it_rngC {mg : Mg} {F H : Hp} {lo c : Int} {n : Nat} : ItOk mg (Itc lo c n) (rngC lo c n) F H := by
  intro F' H' le l k i
  have hl : (rngC lo c n).length = n := by simp [rngC]
  refine ⟨fun e => by show n ≤ i; omega, fun d ed => ?_⟩
  have hi : i < n := by have := (List.getElem?_eq_some_iff.mp ed).1; omega
  refine ⟨hi, fun x H'' y => ?_⟩
  obtain ⟨e1, e2⟩ := y
  subst e1 e2
  refine ⟨F', .inl ⟨rfl, rfl⟩, ?_⟩
  unfold rngC at ed
  rw [List.getElem?_map, List.getElem?_range hi] at ed
  cases ed
  exact .inl rfl
def cRng3 (ca cb cc : En → Out R) : En → Out (List D) := fun env => (cA [ca, cb, cc] env).bind fun xs e => match xs with
  | [.int i, .int j, .int c] => if c ≠ 0 ∧ c.natAbs < 1073741824 ∧ Builtin.Range.small i j c = true ∧ Builtin.Range.rangeSize i j c = ((Builtin.Range.rangeSize i j c).toNat : Int) then .ok (rngC i c (Builtin.Range.rangeSize i j c).toNat) e else .stuck
  | _ => .stuck
theorem si_range3 {tg c : Expr} {cc : En → Out R} (hg : Gl X "range") (hm : X.mg "range" = none) (ha : SE X W a ca) (hb : SE X W b cb) (hc : SE X W c cc)
    (hs : starEach [a, b, c] X.env = (false, eval a X.env) :: starEach [b, c] X.env := by rfl) (hs2 : starEach [b, c] X.env = (false, eval b X.env) :: starEach [c] X.env := by rfl) (hs3 : starEach [c] X.env = (false, eval c X.env) :: starEach [] X.env := by rfl) (hpl : (backTo pos (starEach [b, c] X.env)).any (·.1) = false := by rfl) :
    SI X W tg (.Call (.Name "range" p) [a, b, c] [] pos) (cRng3 ca cb cc) := by
  refine ⟨PI.imp (pi_range3 hg hm (sa_cons ha (sa_cons hb (sa_cons hc sa_nil hs3) hs2) hs).pa hs hpl) fun σ H Q ⟨F, env, f, g⟩ => ?_⟩
  refine ⟨F, env, f, GoodO.bind g fun xs env1 F1 H1 vs e1 f1 x1 r1 g1 => ?_⟩
  match xs, g1, r1 with
  | [.int i, .int j, .int k], g1, r1 =>
    obtain ⟨w1, rfl, t1⟩ := repL_int r1
    obtain ⟨w2, rfl, t2⟩ := repL_int t1
    obtain ⟨w3, rfl, t3⟩ := repL_int t2
    have t3 : w3 = [] := t3
    subst t3
    have g1 : GoodO X.mg W _ Q F env σ H (if k ≠ 0 ∧ k.natAbs < 1073741824 ∧ Builtin.Range.small i j k = true ∧ Builtin.Range.rangeSize i j k = ((Builtin.Range.rangeSize i j k).toNat : Int) then Out.ok (rngC i k (Builtin.Range.rangeSize i j k).toNat) env1 else Out.stuck) := g1
    split at g1
    · rename_i h
      exact ⟨i, j, k, _, rfl, h, g1 F1 H1 _ f1 x1 it_rngC⟩
    · exact False.elim g1
end
/-! ### sum -/
def intsOf : List D → Option (List Int)
  | [] => some []
  | .int z :: ds => (intsOf ds).map (z :: ·)
  | _ :: _ => none
theorem ints_rd {mg : Mg} {F : Hp} : ∀ {ds : List D} {ys : List Int} {vs : List V}, intsOf ds = some ys → RepL mg F ds vs → vs = ys.map V.int
  | [], ys, vs, e, h => by cases e; exact h
  | d :: ds, ys, vs, e, h => by
    obtain ⟨v, r, ev, q, t⟩ := h
    subst ev
    cases d with
    | int z =>
      have e : (intsOf ds).map (z :: ·) = some ys := e
      cases e1 : intsOf ds with
      | none => rw [e1] at e; cases e
      | some zs =>
        rw [e1] at e
        cases e
        rw [ints_rd e1 t]
        rcases q with q | ⟨_, _, _, _, z⟩
        · cases q; rfl
        · exact z.elim
    | _ => cases e
def gSum : List D → Option R
  | [.lst ds] => (intsOf ds).map fun zs => .d (.int zs.sum)
  | _ => none
theorem cd_sum {X : Cx} (hc : X.calm = true) : CallD X (.builtin "sum") gSum := by
  intro pins s σ H xs us Q I rv q
  obtain ⟨F, ds, r, l, rd, eg, k⟩ := q
  match ds, eg with
  | [.lst ys], eg =>
    obtain ⟨v, rfl, rq⟩ := rdl1 rd
    obtain ⟨a, vs, rfl, h1, h2⟩ := rd_lst rq
    have eg : (intsOf ys).map (fun zs => R.d (.int zs.sum)) = some r := eg
    cases e1 : intsOf ys with
    | none => rw [e1] at eg; cases eg
    | some zs =>
      rw [e1] at eg
      cases eg
      have := ints_rd e1 h2
      subst this
      exact cr_sum hc pins s σ H _ us Q I rv ⟨a, zs, rfl, .inl h1, res_flat k rfl⟩
end Sim

/-! Sim19: what of the text is read off the start, defs at hand. -/
namespace Sim
open PySem PySem.Spec PyProof.Rows L2

abbrev fSub : D → D → Option R := fII fun i j => .int (i - j)
abbrev fLe : D → D → Option R := fII fun i j => .bl (decide (i ≤ j))
abbrev fGt : D → D → Option R := fII fun i j => .bl (decide (j < i))
abbrev fGe : D → D → Option R := fII fun i j => .bl (decide (j ≤ i))
abbrev fFdiv : D → D → Option R := fIIc CDivN fun i j => .int (i.fdiv j)
abbrev fMod : D → D → Option R := fIIc (fun _ j => j ≠ 0) fun i j => .int (i.fmod j)
abbrev fPow : D → D → Option R := fIIc CPow fun i j => .int (i ^ j.toNat)
abbrev fMul : D → D → Option R := fIIc CMulW fun i j => .int (i * j)

/-! ### scopes -/
def visB (sc : Scope) (x : Str) : Bool := match sc.names.lookup x with
  | some .local => true | some .cell => true | some .free => true | _ => false
theorem vis_ok {sc : Scope} {x : Str} (h : visB sc x = true) : Vis sc x := by
  unfold visB at h
  split at h <;> first | cases h | skip
  · rename_i e; exact .inl e
  · rename_i e; exact .inr (.inl e)
  · rename_i e; exact .inr (.inr e)
def locB (sc : Scope) (x : Str) : Bool := match sc.names.lookup x with
  | some .local => true | some .cell => true | _ => false
theorem loc_ok {sc : Scope} {x : Str} (h : locB sc x = true) : Loc sc x := by
  unfold locB at h
  split at h <;> first | cases h | skip
  · rename_i e; exact .inl e
  · rename_i e; exact .inr e
/-! ### the world a law's defs stand in -/
abbrev Fb := PySem.W.Frag → Bool
abbrev DefA := He5.DefA
structure Tx (fs : List Fb) (fn : List DefA) (K : PySem.W.Frag) (mg : Mg) : Prop where
  fb : fs.all (fun f => f K) = true
  dk : fn.all (fun d => d.ok K) = true
  df : fn.map (fun d => He5.fnA K (d.at_ K)) = fn.map He5.DefA.val
  ns : ∃ h : Heap, K.In h ∧ h.Ns mainGlobals mg
section
variable {fs : List Fb} {fn : List DefA} {K : PySem.W.Frag} {mg : Mg}
theorem Tx.fact (Z : Tx fs fn K mg) (i : Nat) {f : Fb} (h : fs[i]? = some f := by rfl) : f K = true := List.all_eq_true.mp Z.fb f (List.mem_of_getElem? h)
theorem Tx.def_ (Z : Tx fs fn K mg) (i : Nat) {d : DefA} (h : fn[i]? = some d := by rfl) : ∃ fd, L2.FunD K d.name d.qual d.params d.body d.scope (d.dvs K) (d.kws K) (d.at_ K) fd := by
  have e2 : (fn.map fun d => He5.fnA K (d.at_ K))[i]? = (fn.map He5.DefA.val)[i]? := by rw [Z.df]
  rw [List.getElem?_map, List.getElem?_map, h] at e2
  exact He5.DefA.funD (Option.some.inj e2) (List.all_eq_true.mp Z.dk d (List.mem_of_getElem? h))
/-! facts -/
abbrev bFa (a : He.Fa) : Fb := fun K => a.ok K
theorem Tx.glo (Z : Tx fs fn K mg) (i : Nat) {x : Str} (h : fs[i]? = some (bFa (.glo x)) := by rfl) : mg x = some (.ref (He.ga K x)) :=
  let ⟨_, X, G⟩ := Z.ns; He.glo_ok X G (Z.fact i h)
theorem Tx.free (Z : Tx fs fn K mg) (i : Nat) {x : Str} (h : fs[i]? = some (bFa (.free x)) := by rfl) : mg x = none :=
  let ⟨_, X, G⟩ := Z.ns; He.free_ok X G (Z.fact i h)
theorem Tx.int (Z : Tx fs fn K mg) (i : Nat) {x : Str} {n : Int} (h : fs[i]? = some (bFa (.int x n)) := by rfl) : ∃ u, mg x = some u ∧ RelV (.int n) u :=
  let ⟨_, X, G⟩ := Z.ns; let ⟨t, e⟩ := He.int_ok X G (Z.fact i h); ⟨_, e, t, rfl⟩
theorem Tx.str (Z : Tx fs fn K mg) (i : Nat) {x z : Str} (h : fs[i]? = some (bFa (.str x z)) := by rfl) : ∃ u, mg x = some u ∧ RelV (.str z) u :=
  let ⟨_, X, G⟩ := Z.ns; let ⟨t, e⟩ := He.str_ok X G (Z.fact i h); ⟨_, e, t, rfl⟩
theorem Tx.cls (Z : Tx fs fn K mg) (i : Nat) {x : Str} (h : fs[i]? = some (bFa (.cls x)) := by rfl) : Cls K (He.ga K x) := He.cls_ok (Z.fact i h)
theorem Tx.noat (Z : Tx fs fn K mg) (i : Nat) {x f : Str} (h : fs[i]? = some (bFa (.noat x f)) := by rfl) : NoAttr K (He.ga K x) f := He.noat_ok (Z.fact i h)
theorem Tx.meth (Z : Tx fs fn K mg) (i : Nat) {x m : Str} (h : fs[i]? = some (bFa (.meth x m)) := by rfl) : Meth K (He.ga K x) m (He.ma K (He.ga K x) m) := He.meth_ok (Z.fact i h)
theorem Tx.mkr (Z : Tx fs fn K mg) (i : Nat) {x : Str} (h : fs[i]? = some (bFa (.mkr x)) := by rfl) : Mk K (He.ga K x) (He.ma K (He.ga K x) "__init__") := He.mkr_ok (Z.fact i h)
/-- a property: its record's getter -/
def pga (K : PySem.W.Frag) (x f : Str) : Addr := match PySem.W.recIn K (He.ma K (He.ga K x) f) "property" with
  | some (.ref g :: _) => g
  | _ => 0
def bProp (x f : Str) : Fb := fun K => He.eqO (PySem.W.findIn K (.ref (He.ga K x)) f) (some (some (.ref (He.ma K (He.ga K x) f)))) && (He.eqO (PySem.W.specialIn K (.ref (He.ma K (He.ga K x) f)) "__get__") (some (some (.builtin "property.__get__"))) &&
  (decide (PySem.W.takesIn K (.ref (He.ma K (He.ga K x) f)) = some true) && (match PySem.W.recIn K (He.ma K (He.ga K x) f) "property" with
    | some (.ref _ :: _) => true
    | _ => false)))
theorem Tx.prop (Z : Tx fs fn K mg) (i : Nat) {x f : Str} (h : fs[i]? = some (bProp x f) := by rfl) : PropOf K (He.ga K x) f (He.ma K (He.ga K x) f) (pga K x f) := by
  have c := Z.fact i h
  unfold bProp at c
  simp only [Bool.and_eq_true] at c
  obtain ⟨c1, c2, c3, c4⟩ := c
  refine ⟨He.eqO_ok c1, He.eqO_ok c2, of_decide_eq_true c3, ?_⟩
  unfold pga
  split at c4
  · rename_i g rest e
    exact ⟨rest, by rw [e]⟩
  · cases c4
/-- a class constant, an int -/
def bCon (x f : Str) (n : Int) : Fb := fun K => PySem.W.readsIn K (He.ga K x) (.type "type") && (He.eqO (PySem.W.specialIn K (.ref (He.ga K x)) "__getattribute__") (some (some (.builtin "type.__getattribute__"))) &&
  (match PySem.W.findCls K (.ref (He.ga K x)) (.type "type") f with
    | some (.val (.int j _)) => decide (j = n)
    | _ => false))
theorem Tx.con (Z : Tx fs fn K mg) (i : Nat) {x f : Str} {n : Int} (h : fs[i]? = some (bCon x f n) := by rfl) : ClX.CRead K (He.ga K x) (.type "type") ∧ ∃ u, ClX.CVal K (He.ga K x) (.type "type") f (.int n) u := by
  have c := Z.fact i h
  unfold bCon at c
  simp only [Bool.and_eq_true] at c
  obtain ⟨c1, c2, c3⟩ := c
  refine ⟨⟨c1, He.eqO_ok c2⟩, ?_⟩
  split at c3
  · rename_i j t e
    have ej : j = n := of_decide_eq_true c3
    subst ej
    exact ⟨_, e, t, rfl⟩
  · cases c3
/-- a method that [] may call -/
def bFnIn (x m : Str) : Fb := fun K => PySem.W.fnIn K (He.ma K (He.ga K x) m)
theorem Tx.fnIn (Z : Tx fs fn K mg) (i : Nat) {x m : Str} (h : fs[i]? = some (bFnIn x m) := by rfl) : PySem.W.fnIn K (He.ma K (He.ga K x) m) = true := Z.fact i h
/-- isinstance of an instance -/
def bIns (x : Str) : Fb := fun K => He.eqO (PySem.W.findIn K (.ref (He.ga K x)) "__class__") (some (some (.builtin "object.__class__"))) && (He.eqO (PySem.W.specialIn K (.builtin "object.__class__") "__get__") (some (some (.builtin "getset_descriptor.__get__"))) &&
  (decide (PySem.W.takesIn K (.builtin "object.__class__") = some true) && decide (PySem.W.mroIn K (He.ga K x) (.type "object") = some true)))
theorem Tx.ins (Z : Tx fs fn K mg) (i : Nat) {x : Str} (cl : Cls K (He.ga K x)) (h : fs[i]? = some (bIns x) := by rfl) : InsF K (He.ga K x) := by
  have c := Z.fact i h
  unfold bIns at c
  simp only [Bool.and_eq_true] at c
  obtain ⟨c1, c2, c3, c4⟩ := c
  exact ⟨cl, He.eqO_ok c1, He.eqO_ok c2, of_decide_eq_true c3, of_decide_eq_true c4⟩
end
/-! ### isinstance with built-in types alone -/
def tB (n : String) : IsT := { bt := fun t => kitB t n }
def tB2 (n m : String) : IsT := { bt := fun t => match kitB t n with
  | some true => some true
  | some false => kitB t m
  | none => none }
theorem is_b {X : Cx} {n : String} : IsOk X (tB n) (fun t => PySem.W.kitOne X.K t (.type n)) := ⟨fun _ _ h => kit_ty h, fun _ _ h => nomatch h⟩
theorem is_b2 {X : Cx} {n m : String} : IsOk X (tB2 n m) (fun t => PySem.W.kitAny X.K t [.type n, .type m]) := by
  refine ⟨fun t b h => ?_, fun _ _ h => nomatch h⟩
  have h : (match kitB t n with
    | some true => some true
    | some false => kitB t m
    | none => none) = some b := h
  cases e : kitB t n with
  | none => rw [e] at h; cases h
  | some k =>
    rw [e] at h
    cases k with
    | true => cases h; exact kitAny_cons (kit_ty e) (fun z => nomatch z) fun _ => rfl
    | false =>
      refine kitAny_cons (kit_ty e) (fun _ => kitAny_cons (kit_ty h) (fun z => ?_) fun z => ?_) fun z => nomatch z
      · rw [z]; rfl
      · exact z
/-! ### a def at hand -/
structure FnX (P : Program) (w : World) (K : PySem.W.Frag) (mg : Mg) (base : Heap) (k : Nat) (f : Addr) (n : Nat) (fn : Fn) : Prop where
  ok : ∃ (fd : FuncData) (ps : List Str), FnOk P w K mg base (L2N.CX P w) k f fd ps (spOf mg n fn) ∧ Binds K fd ps []
  kp : PySem.W.keepIn K (.ref f) = true
theorem FnX.at {X : Cx} {k j : Nat} {f : Addr} {n : Nat} {fn : Fn} (F : FnX X.prog X.w X.K X.mg X.base k f n fn) (hr : Room j X.A) (h : k ≤ j := by decide) : FnS X f n fn := by
  obtain ⟨fd, ps, a, b⟩ := F.ok
  exact ⟨⟨k, fd, ps, a, hr.mono h, b⟩, F.kp⟩
theorem FnX.at1 {X : Cx} {k j : Nat} {f : Addr} {n : Nat} {fn : Fn} (F : FnX X.prog X.w X.K X.mg X.base k f n fn) (hr : Room j X.A) (h : k + 1 ≤ j := by decide) : FnS1 X f n fn := by
  obtain ⟨fd, ps, a, b⟩ := F.ok
  exact ⟨k, fd, ps, a, hr.mono h, b⟩
theorem Room.u {X : Cx} {k : Nat} (r : Room k X.A) : U X := by have := r.un; show X.A.units + 100 < cLine; omega
theorem fnX_of {P : Program} {w : World} {K : PySem.W.Frag} {mg : Mg} {base : Heap} {x qual : Str} {params : Arguments} {body : List Stmt} {scope : Scope} {f : Addr} {N ps : List Str} {k n : Nat} {c : En → OutS}
    (F : ∃ fd, FunD K x qual params body scope [] [] f fd) (S : FnScope N ps scope) (hl : ps.length ≤ N.length) (hn : ps.length = n)
    (hbn : ∀ (kV doc pm : Value) (an : Option Addr) (cdv ct : Value) (us : List Value), us.length = ps.length → bindArgs (PySem.W.fnOf x qual params body scope .none kV doc pm an cdv ct) ⟨us, []⟩ = pure (ps.zip us))
    (hb : ∀ (cdv : Value) (A : Around) (outer : List Env) (s : Shared) (H : Hp) (E : XK), Room k (A.deeper (envOfC qual scope s.heap.objs.size f cdv)) →
      SB (cxOf (L2N.CX P w) P w K mg base N qual scope f cdv A outer s H E) (WD E) body c) :
    FnX P w K mg base (k + 1) f n (mkFn N.length c) := by
  obtain ⟨fd, F⟩ := F
  subst hn
  exact ⟨⟨fd, ps, fn_ok F S hl hb, F.bindsN hbn⟩, F.kp⟩
theorem owns_cx {P : Program} {w : World} {K : PySem.W.Frag} {mg : Mg} {base : Heap} {N : List Str} {qual : Str} {scope : Scope} {f : Addr} {cdv : Value} {A : Around} {outer : List Env} {s : Shared} {H : Hp} {E : XK} :
    PassesOwn (model P w) (cxOf (L2N.CX P w) P w K mg base N qual scope f cdv A outer s H E).A (cxOf (L2N.CX P w) P w K mg base N qual scope f cdv A outer s H E).env (cxOf (L2N.CX P w) P w K mg base N qual scope f cdv A outer s H E).xe := PassesOwn.leaving
theorem takes_w0 {X : Cx} : L2N.Takes X W0 := fun _ _ x => by
  obtain ⟨_, _, _, _, _, _, _, _, _, _, _, _, _, _, _, _, z⟩ := x
  exact z.elim
/-- the i-th statement of a class's body -/
def mem (s : Stmt) (i : Nat) : Stmt := match s with
  | .ClassDef _ _ _ body .. => body.getD i (.Pass ⟨0, 0, 0, 0⟩)
  | _ => .Pass ⟨0, 0, 0, 0⟩
end Sim

/-! Sim20: names for what gen.py prints. -/
namespace Sim
open PySem PySem.Spec PyProof.Rows L2

abbrev cDK : En → Out R := fun env => .ok (.new (.dk [])) env
abbrev cDT : En → Out R := fun env => .ok (.new (.dt [])) env
abbrev sBrk : En → OutS := fun env => .brk env
abbrev sCont : En → OutS := fun env => .cont env
abbrev sRetN : En → OutS := fun env => .ret (.d .non) env
abbrev sNever : En → OutS := fun _ => .stuck
def cJoin (co ce : En → Out R) : En → Out R := fun env => (cP co env).bind fun q e1 => match look q e1 with
  | some (.str z) => (cP ce e1).bind fun r e2 => (match (look r e2).bind (gJoin (.str z)) with
    | some w => .ok w e2
    | none => .stuck)
  | _ => .stuck
theorem st_sw {X : Cx} {W : WX} {e : Expr} {t : En → Out Bool} (h : SW X W e t) : ST X W e t := h.st
theorem bt_len : bootBuiltins "len" = some (.builtin "len") := by decide +kernel
theorem bt_sum : bootBuiltins "sum" = some (.builtin "sum") := by decide +kernel
theorem bt_int : bootBuiltins "int" = some (.type "int") := by decide +kernel
theorem bt_bool : bootBuiltins "bool" = some (.type "bool") := by decide +kernel
theorem bt_str : bootBuiltins "str" = some (.type "str") := by decide +kernel
theorem bt_list : bootBuiltins "list" = some (.type "list") := by decide +kernel
theorem bt_tuple : bootBuiltins "tuple" = some (.type "tuple") := by decide +kernel
theorem bt_dict : bootBuiltins "dict" = some (.type "dict") := by decide +kernel
theorem fnX_stuck {P : Program} {w : World} {K : PySem.W.Frag} {mg : Mg} {base : Heap} {x qual : Str} {params : Arguments} {body : List Stmt} {scope : Scope} {f : Addr} {N ps : List Str} {k n : Nat}
    (F : ∃ fd, FunD K x qual params body scope [] [] f fd) (S : FnScope N ps scope) (hn : ps.length = n)
    (hbn : ∀ (kV doc pm : Value) (an : Option Addr) (cdv ct : Value) (us : List Value), us.length = ps.length → bindArgs (PySem.W.fnOf x qual params body scope .none kV doc pm an cdv ct) ⟨us, []⟩ = pure (ps.zip us)) :
    FnX P w K mg base k f n (fun _ => .stuck) := by
  obtain ⟨fd, F⟩ := F
  subst hn
  refine ⟨⟨fd, ps, ⟨fun vs H Q E h => h.1, fun A outer s H args us vs Q E _ _ _ _ h => ?_⟩, F.bindsN hbn⟩, F.kp⟩
  obtain ⟨_, F0, slots, _, _, g⟩ := h
  exact False.elim g
end Sim

/-! Sim21: raise X(e), X an own exception class whose own __init__ calls its base's and keeps one field. -/
namespace Sim
open PySem PySem.Spec PyProof.Rows L2

/-! ### facts -/
def oexB (K : PySem.W.Frag) (C : Addr) : Bool := (match K.lookup C with
  | some ⟨.type "type", _, .cls cd, sl⟩ => (match cd.mro, sl.toList with
    | .ref D :: bm, [_, _, _, _, some (.builtin m), _] => decide (D = C) && (decide (m = "ValueError.__new__") && ((cd.hasDel == false) && ((cd.hasDict == true) && PySem.HandSPX.refsVE bm)))
    | _, _ => false)
  | _ => false) && (He.eqO (PySem.W.findIn K (.ref C) "__setattr__") (some (some (.builtin "object.__setattr__"))) && (decide (PySem.W.subIn K (.ref C) (.type "BaseException") = some true) &&
    (decide (PySem.W.typeIn K (.ref C) = some (.type "type")) && PySem.W.keepIn K (.ref C))))
theorem oexB_ok {K : PySem.W.Frag} {C : Addr} (h : oexB K C = true) : OexC K C := by
  unfold oexB at h
  simp only [Bool.and_eq_true] at h
  obtain ⟨h1, h2, h3, h4, h5⟩ := h
  refine ⟨?_, He.eqO_ok h2, of_decide_eq_true h3, of_decide_eq_true h4, h5⟩
  split at h1
  · rename_i dd cd sl hK
    split at h1
    · rename_i D bm a0 a1 a2 a3 m a5 hm hs
      simp only [Bool.and_eq_true, decide_eq_true_eq, beq_iff_eq] at h1
      obtain ⟨rfl, rfl, e1, e2, e3⟩ := h1
      obtain ⟨nm, bs, mro, ns, qn, hd, sn, sub, ab, col, dl⟩ := cd
      dsimp only at hm e1 e2
      subst hm e1 e2
      obtain rfl : sl = #[a0, a1, a2, a3, some (.builtin "ValueError.__new__"), a5] := by
        obtain ⟨l⟩ := sl
        exact congrArg Array.mk hs
      exact ⟨nm, qn, ns, bs, bm, sn, sub, ab, col, dd, a0, a1, a2, a3, a5, hK, e3⟩
    · cases h1
  · cases h1
/-- the base B's __init__ is ValueError's -/
structure BaseI (K : PySem.W.Frag) (B : Addr) : Prop where
  rd : PySem.W.readsIn K B (.type "type") = true
  ga : PySem.W.specialIn K (.ref B) "__getattribute__" = some (some (.builtin "type.__getattribute__"))
  at_ : PySem.W.findCls K (.ref B) (.type "type") "__init__" = some (.val (.builtin "ValueError.__init__"))
def baseB (K : PySem.W.Frag) (B : Addr) : Bool := PySem.W.readsIn K B (.type "type") && (He.eqO (PySem.W.specialIn K (.ref B) "__getattribute__") (some (some (.builtin "type.__getattribute__"))) &&
  (match PySem.W.findCls K (.ref B) (.type "type") "__init__" with
    | some (.val (.builtin m)) => decide (m = "ValueError.__init__")
    | _ => false))
theorem baseB_ok {K : PySem.W.Frag} {B : Addr} (h : baseB K B = true) : BaseI K B := by
  unfold baseB at h
  simp only [Bool.and_eq_true] at h
  obtain ⟨h1, h2, h3⟩ := h
  refine ⟨h1, He.eqO_ok h2, ?_⟩
  split at h3
  · rename_i m e
    rw [e, of_decide_eq_true h3]
  · cases h3
/-! ### the own __init__ -/
section
variable {X : Cx} {B : Addr} {b : Str} {e : Expr} {es : List Expr} {ta : TA} {p1 p2 pos : Pos}
/-- B.__init__(self, ..) -/
theorem pe_binit {pl : Sem Bool} (T : BaseI X.K B) (hg : Gl X b) (hm : X.mg b = some (.ref B)) (ha : PA X (e :: es) ta) (hd : (b == ("__debug__" : Str)) = false := by decide)
    (hc : eval (.Call (.Attribute (.Name b p1) "__init__" p2) (e :: es) [] pos) X.env = (eval (.Name b p1) X.env >>= fun ov => standAt p2.atName >>= fun _ => holding [ov] (getMethod ov "__init__" pl) >>= fun q => callWith pos q.1 q.2 (backTo pos (starEach (e :: es) X.env)) (backToKw pos (keywordEach [] X.env))) := by rfl)
    (he : starEach (e :: es) X.env = (false, eval e X.env) :: starEach es X.env := by rfl) (hpl : (backTo pos (starEach es X.env)).any (·.1) = false := by rfl) :
    PE X (.Call (.Attribute (.Name b p1) "__init__" p2) (e :: es) [] pos) (tVeI X.K ta) := by
  refine ⟨fun pins s σ H Q I h => PySem.W.methodCall_KW (pl := pl) (ld_glob I hg hm ?_ hd) hc⟩
  refine PySem.W.method_cls I.kIn T.ga (PySem.W.cls_value I.kIn T.rd T.at_ rfl ?_)
  refine PyProof.Rows.callWith_method1 (first := []) (thn (ha.run pos pins _ σ H _ (I.tok _) h) fun us s1 ⟨vs, H1, I1, r1, a, C, ws, ev, hl, O, ea, q⟩ => ?_) he hpl
  subst ev
  cases r1 with
  | @cons _ u0 _ ur r0 rs =>
    obtain rfl : u0 = Value.ref a := r0
    exact oinit_ok O I1 ea (by rw [← Paired.length rs]; exact Nat.le_trans hl (by rw [sizeLine_eq]; decide)) fun s2 J => ⟨.non, H1, J, rfl, q⟩
end
/-- what it does to an exception that is being made -/
def spEx (K : PySem.W.Frag) (C : Addr) (f : Str) : Sp := fun vs H Q _ => ∃ a w, vs = [.ref a, w] ∧ H a = some (exo a C none) ∧ ∀ dx, H dx = none → dx ≠ a → Q .non (upd (upd H dx (exd dx [(f, w)])) a (exo a C (some dx)))
theorem exinit_ok {P : Program} {w : World} {K : PySem.W.Frag} {mg : Mg} {base : Heap} {x qual b f vn : Str} {params : Arguments} {scope : Scope} {fI C B : Addr} {fd : FuncData} {m : Str} {j : Nat} {p1 p2 p3 p4 p5 p6 p7 p8 p9 p10 : Pos}
    (F : FunD K x qual params [.Expr (.Call (.Attribute (.Name b p1) "__init__" p2) [.Name "self" p3, .Constant (.str m) j p4] [] p5) p6, .Assign [.Attribute (.Name "self" p7) f p8] (.Name vn p9) p10] scope [] [] fI fd)
    (S : FnScope ["self", vn] ["self", vn] scope) (T : OexC K C) (TB : BaseI K B) (gB : mg b = some (.ref B)) (hno : PySem.W.findIn K (.ref C) f = some none) (kb : scope.names.lookup b = some .globalImplicit) (hb : (b == ("__debug__" : Str)) = false) (hv : (vn == ("__debug__" : Str)) = false) (hv2 : (vn == ("__classdict__" : Str)) = false)
    (hbase : ∀ X : Cx, ∃ pl : Sem Bool, eval (.Call (.Attribute (.Name b p1) "__init__" p2) [.Name "self" p3, .Constant (.str m) j p4] [] p5) X.env = (eval (.Name b p1) X.env >>= fun ov => standAt p2.atName >>= fun _ => holding [ov] (getMethod ov "__init__" pl) >>= fun q => callWith p5 q.1 q.2 (backTo p5 (starEach [.Name "self" p3, .Constant (.str m) j p4] X.env)) (backToKw p5 (keywordEach [] X.env))) := by intro _; exact ⟨_, rfl⟩) :
    FnOk P w K mg base (L2N.CX P w) 1 fI fd ["self", vn] (spEx K C f) := by
  have vis : ∀ y : Str, y ∈ [("self" : Str), vn] → Vis scope y := fun y hy => (S.par y hy).elim .inl fun z => .inr (.inl z)
  refine F.ok S (fun vs H Q E h => by obtain ⟨a, u, e, _⟩ := h; rw [e]; rfl) fun cdv A outer s H vs Q E hr h => ?_
  obtain ⟨a, u, rfl, ea, q⟩ := h
  obtain ⟨pl, hpl⟩ := hbase (cxOf (L2N.CX P w) P w K mg base ["self", vn] qual scope fI cdv A outer s H E)
  refine ⟨_, pss_cons (ps_expr (pe_binit (X := cxOf (L2N.CX P w) P w K mg base ["self", vn] qual scope fI cdv A outer s H E) (pl := pl) TB kb gB (pa_cons (pe_var (i := 0) rfl (vis _ (by simp)) (by decide) (by decide)) (pa_cons pe_str pa_nil)) hb hpl)) (pss_one (ps_ost (pe_var (i := 0) rfl (vis _ (by simp)) (by decide) (by decide)) (pe_var (i := 1) rfl (vis _ (by simp)) hv hv2))), ?_⟩
  exact ⟨.ref a, rfl, a, C, [.str m], rfl, by simp, T, ea, u, rfl, .ref a, rfl, a, C, rfl, T, hno, .inl ⟨ea, fun dx n ne => q dx n ne⟩⟩
end Sim

/-! Sim22: raise X(e). -/
namespace Sim
open PySem PySem.Spec PyProof.Rows L2

def sRaise (x f : Str) (c : En → Out R) : En → OutS := fun env => (cV c env).then fun y e => .err x [(f, y)] e
/-- an own exception class at hand -/
structure ExX (P : Program) (w : World) (K : PySem.W.Frag) (mg : Mg) (base : Heap) (x f : Str) (C fI : Addr) : Prop where
  gC : mg x = some (.ref C)
  T : OexC K C
  iC : PySem.W.findIn K (.ref C) "__init__" = some (some (.ref fI))
  tI : PySem.W.typeIn K (.ref fI) = some (.type "function")
  ok : ∃ (fd : FuncData) (ps : List Str), FnOk P w K mg base (L2N.CX P w) 1 fI fd ps (spEx K C f) ∧ Binds K fd ps []
/-- X(e) where nothing is handled: the made exception has no context -/
theorem pmkN {X : Cx} {x : Str} {C fI : Addr} {k : Nat} {fd : FuncData} {ps : List Str} {sp : Sp} {e : Expr} {es : List Expr} {ta : TA} {p pos : Pos} (T : OexC X.K C) (iC : PySem.W.findIn X.K (.ref C) "__init__" = some (some (.ref fI)))
    (tI : PySem.W.typeIn X.K (.ref fI) = some (.type "function")) (G : FnOk X.prog X.w X.K X.mg X.base (L2N.CX X.prog X.w) k fI fd ps sp) (room : Room (k + 1) X.A) (hb : Binds X.K fd ps []) (hg : Gl X x) (hm : X.mg x = some (.ref C)) (ha : PA X (e :: es) ta)
    (hdb : (x == ("__debug__" : Str)) = false := by decide) (he : starEach (e :: es) X.env = (false, eval e X.env) :: starEach es X.env := by rfl) (hpl : (backTo pos (starEach es X.env)).any (·.1) = false := by rfl) :
    L2N.PMk X (.Call (.Name x p) (e :: es) [] pos) (tMkO C sp [] ta) := by
  intro pins s σ H Q I h
  obtain ⟨c1, c2, c3, c4, c5, c6, c7, c8, c9, c10, c11, c12, c13, c14, c15, hC, hbm⟩ := T.cls
  refine wpAny_Call_Name_kw (ld_glob I hg hm ?_ hdb)
  refine PySem.W.callWith_K (h₀ := X.base) I.ok.mod.kin T.kC (thn (ha.run pos pins s σ H _ I h) fun us s1 z => ?_) he hpl
  obtain ⟨vs, H1, J, rv, hz, want⟩ := z
  refine ⟨J.kIn, ?_⟩
  show wpAny _ _ (call (.ref C) us) _ _ _
  obtain ⟨hp, g, dr, tk, os⟩ := s1
  -- where it comes to lie
  have at0 : hp.objs.size ≤ hp.objs.size + 1 := Nat.le_succ _
  have free : H1 (hp.objs.size + 1) = none := J.hok.fresh at0
  have spq := want (hp.objs.size + 1) free
  rw [List.append_nil] at spq
  have keep : ∀ b o, hp.get? b = some o → ((hp.push (PySem.W.kdv_tup us)).push (PySem.HandSPX.excO C hp.objs.size)).get? b = some o := fun b o z => Heap.get?_push_of_some _ (Heap.get?_push_of_some _ z)
  have lies : ((hp.push (PySem.W.kdv_tup us)).push (PySem.HandSPX.excO C hp.objs.size)).get? (hp.objs.size + 1) = some (PySem.HandSPX.excO C hp.objs.size) := by heap_get
  have J2 := J.laid (t' := tk) (a := hp.objs.size + 1) (o := exo (hp.objs.size + 1) C none) keep at0 (exo_ok lies)
  have len : us.length + 1 = ps.length := by
    have z := G.len _ _ _ _ spq
    rw [← z, ← rv.length]; rfl
  have bd := hb _ (Value.ref (hp.objs.size + 1) :: us) J2.kIn (by simpa using len)
  rw [List.append_nil] at bd
  have few : us.length ≤ sizeLine := by
    rw [← Paired.length rv, sizeLine_eq]; omega
  refine wpAny_call (PySem.HandSPX.call_own F.excBase_ValueError (fun Y => PySem.HandSPX.refsVE_contains Y c5 hbm) (J.kIn _ _ hC) (PySem.W.looks_findIn J.kIn iC) (fun self => PySem.W.bind_fn J.kIn self tI) few (codeAny_mono (G.run _ X.stack _ _ ⟨Value.ref (hp.objs.size + 1) :: us, []⟩ _ _ _ ENo (room.make C us []) (J2.env0.make C us []) bd (show Vals (V.ref (hp.objs.size + 1) :: vs) (Value.ref (hp.objs.size + 1) :: us) from .cons rfl rv) spq) fun r s2 rq => ?_))
  cases r with
  | error er =>
    obtain ⟨_, _, _, _, _, _, _, _, _, _, _, _, z⟩ := rq
    exact False.elim z
  | ok fl =>
    cases fl with
    | ret u =>
      obtain ⟨v, H2, os2, bare2, un2, hok2, ru, ev, d, fs, ea, ed, hd1, q2⟩ := rq
      subst ev
      obtain ⟨h2, g2, d2, t2, os'⟩ := s2
      obtain ⟨t0, G0, J3, kG, ge, hoe, na⟩ := mk_end0 (d2 := d2) (t2 := t2) J at0 keep un2 hok2 os2 bare2 ea ed hd1
      exact ⟨ru, _, _, _, ⟨G0, g2, d2, t2, os'⟩, _, .ref C, some d, rfl, J3, kG, ge, hoe, ⟨rfl, rfl, fun vs hv => by cases hv; rfl⟩, rfl, rfl, na, rfl, bare2, raises_own T.exC T.tyC, q2⟩
    | _ => exact False.elim rq
section
variable {X : Cx} {W : WX} {x f : Str} {C fI : Addr} {e : Expr} {c : En → Out R} {p p2 pos : Pos} {k : Nat}
theorem del_put {H : Hp} {a d : Addr} {C : Addr} {fs : List (Str × V)} (ha : H a = none) (ne : d ≠ a) : upd (del (upd (upd (upd H a (exo a C none)) d (exd d fs)) a (exo a C (some d))) a) d (.xd fs) = upd H d (.xd fs) := by
  funext b
  by_cases hd : b = d
  · rw [hd, upd_same, upd_same]
  · rw [upd_ne hd, upd_ne hd]
    by_cases hb : b = a
    · rw [hb, del_same, ha]
    · rw [del_ne hb, upd_ne hb, upd_ne hd, upd_ne hb]
theorem ss_raise (G : ExX X.prog X.w X.K X.mg X.base x f C fI) (hc : X.calm = true) (tk : L2N.Takes X W) (hr : Room k X.A) (hk : 2 ≤ k) (hg : Gl X x) (he : SE X W e c)
    (hdb : (x == ("__debug__" : Str)) = false := by decide) (hs : starEach [e] X.env = (false, eval e X.env) :: starEach [] X.env := by rfl) (hpl : (backTo p2 (starEach [] X.env)).any (·.1) = false := by rfl) :
    SS X W (.Raise (some (.Call (.Name x p) [e] [] p2)) none pos) (sRaise x f c) := by
  obtain ⟨fd, ps, ok, hb⟩ := G.ok
  refine ⟨PS.imp (L2N.ps_raise hc tk (pmkN (pos := p2) G.T G.iC G.tI ok (hr.mono hk) hb hg G.gC (pa_cons (sv_of he).pe pa_nil hs) hdb hs hpl)) fun D' σ H ⟨F, env, fr, g⟩ => ?_⟩
  refine ⟨F, env, fr, GoodS.then g fun y env1 F1 H1 v e1 f1 x1 r1 g1 => ⟨by simp, fun a ha => ?_⟩⟩
  refine ⟨a, v, rfl, upd_same, fun dx hdx ne => ⟨rfl, dx, [(f, v)], upd_same, ?_, ?_, ?_⟩⟩
  · rw [upd_ne ne]; exact upd_same
  · rw [upd_ne ne] at hdx; exact hdx
  · rw [upd_ne ne] at hdx
    rw [del_put ha ne]
    obtain ⟨f2, x2⟩ := f1.grow (.inr (.inl ⟨dx, .xd [(f, v)], hdx, rfl, .inl rfl⟩))
    exact g1 F1 σ _ _ _ f2 (x1.trans x2) ⟨C, rfl, G.gC, .inr ⟨dx, [(f, v)], rfl, upd_same, f1.live.no hdx, v, [], rfl, r1, rfl⟩⟩
end
end Sim

set_option maxHeartbeats 1000000
/-! Sim23: isinstance of a caught exception that has fields. -/
namespace Sim
open PySem PySem.Spec PyProof.Rows L2 PySem.W PySem.Calls

section
variable {prog : Program} {w : World} {A : Around} {E : Value → Shared → Prop} {s : Shared} {K : Frag} {x D : Addr} {ox : Obj} {od : Option Obj}
/-- its __class__, through BaseException's __getattribute__ -/
theorem exc_class {Q : Option Value → Shared → Prop} (C : ExcC K D) (X : K.In s.heap) (I : InstAt s.heap x ox D od) (hf : findObj K D od "__class__" = some (.bind (.builtin "getset_descriptor.__get__") (.builtin "object.__class__")))
    (h : Q (some (.ref D)) { s with toks := s.toks + 1 }) : wpAny (model prog w) A (getAttr? (.ref x) "__class__") Q E s := by
  obtain ⟨hp, g, d, t, os⟩ := s
  have ty := I.type (M := model prog w)
  have own := looks_findIn (M := model prog w) X C.hg
  have late := looks_findIn (M := model prog w) X C.hk
  have isb : Looks (model prog w) hp (isInstance (.ref x) (.type "BaseException")) true := ty.andThen (looks_subIn X C.hs)
  have no : (onTheHeap (Value.ref D) && Value.builtin "BaseException.__getattribute__" == Value.builtin "object.__getattribute__") = false := by
    rw [show (Value.builtin "BaseException.__getattribute__" == Value.builtin "object.__getattribute__") = false from by decide +kernel, Bool.and_false]
  unfold getAttr? getAttrBy? getAttrBy
  refine wpAny_bind (wpAny_mkText (wpAny_bind (wpAny_attempt (wpAny_holding (wpAny_bind (ty.at (wpAny_bind (own.at ?cls))))))))
  case cls =>
    show wpAny _ _ (if (onTheHeap (Value.ref D) && Value.builtin "BaseException.__getattribute__" == Value.builtin "object.__getattribute__") = true then _ else _) _ _ _; rw [no, if_neg Bool.false_ne_true]
    unfold getAttrByItsOwn hookBefore
    refine wpAny_bind ?_; rw [if_pos (show onTheHeap (Value.ref D) = true from rfl)]
    refine late.at (wpAny_bind (wpAny_attempt (wpAny_holding ?_))); unfold callGetattribute
    rw [show (false && onTheHeap (Value.builtin "BaseException.__getattribute__")) = false from rfl, if_neg Bool.false_ne_true]; unfold boundAndCalled
    rw [PySem.F.excAttr_ValueError.ga.bind (.ref x)]; refine wpAny_bind (wpAny_pure ?_)
    show wpAny _ _ (call (.builtin "BaseException.__getattribute__") [.ref x, .str "__class__" t]) _ _ _; refine wpAny_call (codeAny_call_builtin PySem.F.excAttr_ValueError.ga.plain PySem.F.entry_bexc_ga ?_)
    refine check_slot (M := model prog w) (s := ⟨hp, g, d, t + 1, os⟩) (i := "BaseException.__getattribute__") (owner := "BaseException") (n := "__getattribute__") (self := .ref x) (rest := [.str "__class__" t]) (kw := []) (by decide +kernel) (by decide +kernel) isb (PySem.F.args_bexc_ga (.ref x) (.str "__class__" t)) ?_
    unfold Builtin.«object.__getattribute__»
    refine wpAny_bind (wpAny_of_eq (a := ((Value.ref x : Value), [Value.str "__class__" t])) (by first | rfl | (simp only [slotArgs]; rfl)) (wpAny_bind (wpAny_pure (wpAny_bind (ty.at (wpAny_bind ((looks_find X I hf).at ?_)))))))
    show wpAny _ _ (holding [Value.builtin "object.__class__"] (call (.builtin "getset_descriptor.__get__") [.builtin "object.__class__", .ref x, .ref D]) >>= ret) _ _ _; refine wpAny_bind (wpAny_holding (wpAny_call (class_get (s := ⟨hp, g, d, t + 1, os⟩) (ox := ox) (od := od) X I C.hm (wpAny_pure ?_))))
    show wpAny _ _ (handedOut (.ref D)) _ _ _; rw [handedOut_of (v := .ref D) rfl]
    first
      | exact wpAny_pure (wpAny_pure h)
      | exact wpAny_pure h
      | exact wpAny_pure (wpAny_bind (wpAny_pure (wpAny_pure h)))
theorem kitx_excF (C : ExcC K D) : KitX K (.ref x) (.ref D) (fun h => ∃ od, InstAt h x ox D (some od)) := by
  obtain ⟨cd, hcd, _⟩ := any_some C.hd
  have there : ∀ h, K.In h → ∃ c d sl, h.get? D = some ⟨c, d, .cls cd, sl⟩ := fun h X => by
    unfold clsIn at hcd; split at hcd
    · rename_i c d cd' sl ho; cases hcd; exact ⟨c, d, sl, X _ _ ho⟩
    · cases hcd
  refine ⟨fun _ _ _ ⟨_, I⟩ => I.type, fun _ h X _ => ?_, fun h tp dd its n sl X htp => ?_, fun X ⟨od, I⟩ k => ?_⟩
  · obtain ⟨c, d, sl, e⟩ := there h X
    intro A' Q' E' s' k q; unfold isType loadHead
    exact wpAny_bind (wpAny_loadPart (k _ _ e) (wpAny_pure q))
  · obtain ⟨c, d, sl', e⟩ := there h X
    refine Bool.eq_false_iff.mpr fun q => ?_
    obtain rfl : D = tp := Value.ref.inj (beq_iff_eq.mp q); rw [e] at htp; cases htp
  · exact exc_class C X I (findObj_data (by rw [hcd]; rfl) C.ha C.hn C.ht) k
end
/-- isinstance(why, c) -/
theorem call_isF {X : Cx} {a D dd : Addr} {oe : Obj} {pn : List (Addr × Obj)} (C : ExcC X.K D) (hz : Zc (.ref D) (some dd) oe) (hf : ∃ vs, oe.data = .fields vs) : CallR (X.suite a ((a, oe) :: pn)) (.builtin "isinstance")
    (fun xs H Q => ∃ (c : V) (cv : Value) (b : Bool) (gs : List (Str × V)), xs = [.ref a, c] ∧ ClsV c cv ∧ kitOne X.K (.ref D) cv = some b ∧ H dd = some (.xd gs) ∧ Q (.bl b) H) := by
  intro pins s σ H xs us Q I r h
  obtain ⟨c, cv, b, gs, rfl, k, e, hd, q⟩ := h
  obtain ⟨u1, u2, rfl, r1, r2⟩ := vals2 r
  obtain rfl : u1 = Value.ref a := r1
  have e2 := k.eq r2
  subst e2
  obtain ⟨hget, _⟩ := I.pin (a, oe) (List.mem_append.mpr (.inl List.mem_cons_self))
  obtain ⟨vs, hv⟩ := hf
  obtain ⟨mA, hns, _⟩ := (show ObjOk X.prog X.w H s.heap dd (.xd gs) from I.hok dd _ hd)
  obtain ⟨od, ho, _⟩ := lookIn_ns hns
  have J : InstAt s.heap a oe D (some od) := ⟨hget, hz.1, by unfold notCls; rw [hv] <;> rfl, by rw [hz.2]; exact ho⟩
  exact kia_one (kitx_excF (ox := oe) C) I.kIn ⟨od, J⟩ e (fun z => nomatch z) fun tk => ⟨.bl b, H, I.kept (t' := tk) fun _ _ z => z, rfl, q⟩
end Sim

/-! Sim24: try: .. except X as why: return isinstance(why, A) and .. and f(why.value, v). -/
namespace Sim
open PySem PySem.Spec PyProof.Rows L2

/-! ### a def called while an exception is handled -/
structure FnHX (P : Program) (w : World) (K : PySem.W.Frag) (mg : Mg) (base : Heap) (k : Nat) (f : Addr) (n : Nat) (fn : Fn) : Prop where
  ok : ∃ (fd : FuncData) (ps : List Str), L2H.FnH P w K mg base (L2N.CX P w) k f fd ps (spOf mg n fn) ∧ Binds K fd ps []
  kp : PySem.W.keepIn K (.ref f) = true
theorem xe_cxH {P : Program} {w : World} {K : PySem.W.Frag} {mg : Mg} {base : Heap} {N : List Str} {qual : Str} {scope : Scope} {f : Addr} {cdv : Value} {A : Around} {outer : List Env} {s : Shared} {H : Hp} {E : XK} {p : Addr × Obj} :
    L2N.Takes (L2H.cxH (L2N.CX P w) P w K mg base N qual scope f cdv A outer s H E p) (WD E) := L2N.takes_of rfl rfl rfl rfl
theorem fnHX_of {P : Program} {w : World} {K : PySem.W.Frag} {mg : Mg} {base : Heap} {x qual : Str} {params : Arguments} {body : List Stmt} {scope : Scope} {f : Addr} {N ps : List Str} {k n : Nat} {c : En → OutS}
    (F : ∃ fd, FunD K x qual params body scope [] [] f fd) (S : FnScope N ps scope) (hl : ps.length ≤ N.length) (hn : ps.length = n)
    (hbn : ∀ (kV doc pm : Value) (an : Option Addr) (cdv ct : Value) (us : List Value), us.length = ps.length → bindArgs (PySem.W.fnOf x qual params body scope .none kV doc pm an cdv ct) ⟨us, []⟩ = pure (ps.zip us))
    (hb : ∀ (cdv : Value) (A : Around) (outer : List Env) (s : Shared) (H : Hp) (E : XK) (p : Addr × Obj), L2H.RoomH k (A.deeper (envOfC qual scope s.heap.objs.size f cdv)) →
      SB (L2H.cxH (L2N.CX P w) P w K mg base N qual scope f cdv A outer s H E p) (WD E) body c) :
    FnHX P w K mg base (k + 1) f n (mkFn N.length c) := by
  obtain ⟨fd, F⟩ := F
  subst hn
  have b := F.bindsN hbn
  have kp := F.kp
  obtain ⟨oc, od, dV, kV, doc, pm, an, cdv, ct, osl, rfl, lk, hcd, _, _⟩ := F.ex
  exact ⟨⟨_, ps, L2H.fn_ofH lk hcd S (fun _ _ _ _ h => h.1) fun A outer s H vs Q E p _ hr h => ⟨_, (hb cdv A outer s H E p hr).pss, body_good (by rw [h.1]; exact hl) h⟩, b⟩, kp⟩
theorem RoomH.u {X : Cx} {k : Nat} (r : L2H.RoomH k X.A) : U X := by have := r.un; show X.A.units + 100 < cLine; omega

/-! ### the clause -/
/-- why.f is handed to fn, with a value -/
def hFn (x0 f : Str) (fn : Fn) (gv : Ag) (x : Str) (fs : List (Str × D)) (env : En) : Out R := if x = x0 then (match fs.lookup f with
  | some y => (cAg gv env).bind fun p e => noE (callFn fn [] [.d y, p] e)
  | none => .stuck) else .stuck
/-- what the clause knows of an exception of the class x0 -/
structure ExH (K : PySem.W.Frag) (mg : Mg) (x0 f : Str) (D0 : Addr) : Prop where
  g0 : mg x0 = some (.ref D0)
  ec : ExcC K D0
  xf : XfC K D0
  no : PySem.W.findIn K (.ref D0) f = some none
theorem kept_err {mg : Mg} {F H F1 H1 : Hp} {env env1 : En} {σ : L2.St} {x : Str} {fs : List (Str × D)} {cls : Value} {d : Option Addr} (f0 : FrS mg F env σ H) (x1 : ExS F env σ H F1 env1 σ H1) (f1 : FrS mg F1 env1 σ H1) (h : ErrAt mg F H x fs cls d) {y : D} {f : Str} (hl : fs.lookup f = some y) :
    ∃ C dd gs v, cls = .ref C ∧ mg x = some (.ref C) ∧ d = some dd ∧ H dd = some (.xd gs) ∧ gs.lookup f = some v ∧ RepD mg F y v := by
  obtain ⟨C, e1, e2, q⟩ := h
  rcases q with ⟨e3, _⟩ | ⟨dd, gs, e3, e4, e5, r⟩
  · rw [e3] at hl; cases hl
  · obtain ⟨v, h1, h2⟩ := r.look hl
    exact ⟨C, dd, gs, v, e1, e2, e3, e4, h1, h2⟩
section
variable {X : Cx} {a : Addr} {oe : Obj} {pn : List (Addr × Obj)} {cls : Value} {d : Option Addr} {i k : Nat} {n x0 f A B fx : Str} {D0 CA CB g : Addr} {fn : Fn} {gv : Ag} {ev : Expr} {p1 p2 p3 p4 p5 p6 p7 p8 p9 p10 p11 pos : Pos}
/-- isinstance(why, A) and isinstance(why, B) and fx(why.f, v); nb: not isinstance(why, B) -/
def eTwo (n A B f fx : Str) (ev : Expr) (nb : Bool) (p1 p2 p3 p4 p5 p6 p7 p8 p9 p10 p11 pos q1 q2 : Pos) : Expr :=
  .BoolOp .And [.Call (.Name "isinstance" p1) [.Name n p2, .Name A p3] [] p4, (if nb then .UnaryOp .Not (.Call (.Name "isinstance" p5) [.Name n p6, .Name B p7] [] p8) q1 else .Call (.Name "isinstance" p5) [.Name n p6, .Name B p7] [] p8), .Call (.Name fx p9) [.Attribute (.Name n p10) f p11, ev] [] q2] pos
theorem suite_two {nb : Bool} {q1 q2 : Pos} {x : Str} {fs : List (Str × D)} (hz : L2N.Zn cls d oe) (hf : ∃ vs, oe.data = .fields vs) (hN : X.N[i]? = some n) (hln : X.env.scope.names.lookup n = some .local) (hnd : (n == ("__debug__" : Str)) = false) (hnc : (n == ("__classdict__" : Str)) = false)
    (T : ExH X.K X.mg x0 f D0) (hgi : Gl X "isinstance") (hmi : X.mg "isinstance" = none) (hgA : Gl X A) (hmA : X.mg A = some (.ref CA)) (hdA : (A == ("__debug__" : Str)) = false) (hgB : Gl X B) (hmB : X.mg B = some (.ref CB)) (hdB : (B == ("__debug__" : Str)) = false)
    (kA : PySem.W.kitOne X.K (.ref D0) (.ref CA) = some true) (kB : PySem.W.kitOne X.K (.ref D0) (.ref CB) = some (!nb))
    (G : FnHX X.prog X.w X.K X.mg X.base k g 2 fn) (hr : Room k X.A) (hgf : Gl X fx) (hmf : X.mg fx = some (.ref g)) (hdf : (fx == ("__debug__" : Str)) = false) (hv : SG1 (X.suite a ((a, oe) :: pn)) W0 ev gv)
    (hcls : cls = .ref D0) (hx : x = x0) (hs1 : starEach [.Attribute (.Name n p10) f p11, ev] X.env = (false, eval (.Attribute (.Name n p10) f p11) X.env) :: starEach [ev] X.env) (hs2 : starEach [ev] X.env = (false, eval ev X.env) :: starEach [] X.env) (hs3 : (backTo q2 (starEach [ev] X.env)).any (·.1) = false) :
    PE (X.suite a ((a, oe) :: pn)) (eTwo n A B f fx ev nb p1 p2 p3 p4 p5 p6 p7 p8 p9 p10 p11 pos q1 q2)
      (fun σ H Q => ∃ F env, FrS X.mg F env σ H ∧ σ[i]? = some (some (.ref a)) ∧ ErrAt X.mg F H x fs cls d ∧ GoodO X.mg W0 (relR X.mg) Q F env σ H (hFn x0 f fn gv x fs env)) := by
  subst hx hcls
  obtain ⟨fd, ps, ok, hb⟩ := G.ok
  have hot : L2H.HotC (X.suite a ((a, oe) :: pn)) := by
    obtain ⟨vs, hvs⟩ := hf
    exact ⟨(a, oe), ⟨rfl, vs, hvs, hz.2.2 vs hvs⟩, List.mem_cons_self⟩
  have why : ∀ pp, PE (X.suite a ((a, oe) :: pn)) (.Name n pp) (tVar i) := fun pp => pe_var (X := X.suite a ((a, oe) :: pn)) hN (.inl hln) hnd hnc
  cases d with
  | none =>
    -- no fields: not asked
    refine ⟨fun pins s σ H Q I h => ?_⟩
    obtain ⟨F, env, fr, es, er, g1⟩ := h
    obtain ⟨C, e1, e2, q⟩ := er
    rcases q with ⟨e3, _⟩ | ⟨dd, gs, e3, _⟩
    · subst e3
      have : hFn x f fn gv x [] env = .stuck := by unfold hFn; rw [if_pos rfl]; rfl
      rw [this] at g1
      exact False.elim g1
    · cases e3
  | some dd =>
    have isA : ∀ {C : Addr} {nm : Str} {q1 q2 q3 q4 : Pos}, Gl X nm → X.mg nm = some (.ref C) → (nm == ("__debug__" : Str)) = false → PE (X.suite a ((a, oe) :: pn)) (.Call (.Name "isinstance" q1) [.Name n q2, .Name nm q3] [] q4) _ := fun {C nm q1 q2 q3 q4} hg hm hd =>
      pe_callB (call_isF T.ec hz.zc hf) hgi hmi PyProof.Rows.boot_isinstance (pa_cons (why q2) (pa_cons (pe_glob (X := X.suite a ((a, oe) :: pn)) hg hm (show RelV (.ref C) (.ref C) from rfl) hd) pa_nil rfl) rfl) (by decide) (by decide) rfl rfl
    have last := L2H.pe_callH (X := X.suite a ((a, oe) :: pn)) (E := fun _ => ENo) (q := p9) (pos := q2) ok (L2H.roomH_mark hr _) hot hgf hmf G.kp hb (fun σ _ _ _ _ _ _ z => by
      obtain ⟨_, _, _, _, _, _, _, _, _, _, _, _, z⟩ := z
      exact False.elim z) (pa_cons (pe_xf (pos := p11) T.xf T.no hz.zc hf (why p10)) (pa_cons hv.pe pa_nil hs2) hs1) hdf hs1 hs3
    have key : ∀ σ H Q, (∃ F env, FrS X.mg F env σ H ∧ σ[i]? = some (some (.ref a)) ∧ ErrAt X.mg F H x fs (.ref D0) (some dd) ∧ GoodO X.mg W0 (relR X.mg) Q F env σ H (hFn x f fn gv x fs env)) →
        ∃ gs, σ[i]? = some (some (.ref a)) ∧ H dd = some (.xd gs) ∧ tCallS (spOf X.mg 2 fn) (fun _ => ENo) (tCons (tXf a (.ref D0) (some dd) D0 f (tVar i)) (tCons (fun σ H Q => ∃ F env, FrS X.mg F env σ H ∧ GoodO X.mg W0 (relK X.mg) Q F env σ H (cAg gv env)) tNil)) σ H Q := by
      rintro σ H Q ⟨F, env, fr, es, er, g1⟩
      unfold hFn at g1
      rw [if_pos rfl] at g1
      cases el : fs.lookup f with
      | none => rw [el] at g1; exact False.elim g1
      | some y =>
        rw [el] at g1
        obtain ⟨C, dd', gs, v, e1, e2, e3, e4, e5, e6⟩ := kept_err fr ExS.refl fr er el
        cases e3
        refine ⟨gs, es, e4, .ref a, es, rfl, rfl, dd, gs, v, rfl, e4, e5, F, env, fr, GoodO.bind g1 fun p env1 F1 H1 w e1 f1 x1 r1 g2 => ?_⟩
        exact call_sp (W := W0) (ps := [.d y, p]) rfl f1 x1 ⟨v, [w], rfl, e6.mono x1.le, w, [], rfl, r1, rfl⟩ g2.noE
    unfold eTwo
    cases nb with
    | false =>
      refine PE.imp (pe_and (isA hgA hmA hdA) (pe_and (isA hgB hmB hdB) (pe_one last))) fun σ H Q h => ?_
      obtain ⟨gs, es, hd, q⟩ := key σ H Q h
      exact ⟨.ref a, es, .ref CA, .ref CA, true, gs, rfl, .own CA, kA, hd, true, rfl, .ref a, es, .ref CB, .ref CB, true, gs, rfl, .own CB, kB, hd, true, rfl, q⟩
    | true =>
      refine PE.imp (pe_and (isA hgA hmA hdA) (pe_and (pe_not (isA hgB hmB hdB)) (pe_one last))) fun σ H Q h => ?_
      obtain ⟨gs, es, hd, q⟩ := key σ H Q h
      exact ⟨.ref a, es, .ref CA, .ref CA, true, gs, rfl, .own CA, kA, hd, true, rfl, .ref a, es, .ref CB, .ref CB, false, gs, rfl, .own CB, kB, hd, false, rfl, true, rfl, q⟩
end
end Sim

/-! Sim25: the try statement with such a clause. -/
namespace Sim
open PySem PySem.Spec PyProof.Rows L2

def sTry (x0 : Str) (i : Nat) (b : En → OutS) (h : Str → List (Str × D) → En → Out R) : En → OutS := fun env => match b env with
  | .err x fs e => if x = x0 then (match e[i]? with
    | some s => if isRef s = true then .stuck else (match h x fs (e.set i .no) with
      | .ok r e2 => .ret r e2
      | _ => .stuck)
    | none => .stuck) else .stuck
  | o => o
section
variable {mg : Mg} {F H : Hp} {env : En} {σ : L2.St}
theorem FrS.drop (f : FrS mg F env σ H) (i : Nat) (v : V) : FrS mg F (env.set i .no) (σ.set i (some v)) H := by
  refine ⟨f.live, by simpa using f.len, fun j y e => ?_, fun j s y e m => ?_, fun j k s t b ej ek hs ht q1 q2 => ?_⟩
  · rcases nth_set e with ⟨_, e1⟩ | ⟨ne, e1⟩
    · cases e1
    · obtain ⟨w, q1, q2⟩ := f.val j y e1
      exact ⟨w, by rw [List.getElem?_set_ne ne]; exact q1, q2⟩
  · rcases nth_set e with ⟨_, e1⟩ | ⟨ne, e1⟩
    · rw [e1] at m; cases m
    · obtain ⟨b, o, q1, q2⟩ := f.mt j s y e1 m
      exact ⟨b, o, by rw [List.getElem?_set_ne ne]; exact q1, q2⟩
  · rcases nth_set ej with ⟨_, e1⟩ | ⟨ne, e1⟩
    · rw [e1] at hs; cases hs
    · rcases nth_set ek with ⟨_, e2⟩ | ⟨ne2, e2⟩
      · rw [e2] at ht; cases ht
      · rw [List.getElem?_set_ne ne] at q1
        rw [List.getElem?_set_ne ne2] at q2
        exact f.dis j k s t b e1 e2 hs ht q1 q2
end
section
variable {X : Cx} {W : WX} {i k : Nat} {n x0 f A B fx : Str} {D0 CA CB g : Addr} {fn : Fn} {gv : Ag} {ev ex : Expr} {body : List Stmt} {b : En → OutS} {p1 p2 p3 p4 p5 p6 p7 p8 p9 p10 p11 q1 q2 pb pr np pos pos' : Pos} {nb : Bool}
theorem ss_try (hs : X.stack = X.env :: X.outer) (hfr : X.env.frame = some X.env.locals) (hNd : X.N.Nodup) (hN : X.N[i]? = some n) (hln : X.env.kindOf n = some .local) (hln2 : X.env.scope.names.lookup n = some .local) (tk : L2N.Takes X W)
    (T : ExH X.K X.mg x0 f D0) (hg0 : Gl X x0) (hd0 : (x0 == ("__debug__" : Str)) = false) (exm : PySem.W.exmOne X.K (.ref D0) (.ref D0) = some true)
    (hex : ex = eTwo n A B f fx ev nb p1 p2 p3 p4 p5 p6 p7 p8 p9 p10 p11 pb q1 q2) (hnd : (n == ("__debug__" : Str)) = false) (hnc : (n == ("__classdict__" : Str)) = false)
    (hgi : Gl X "isinstance") (hmi : X.mg "isinstance" = none) (hgA : Gl X A) (hmA : X.mg A = some (.ref CA)) (hdA : (A == ("__debug__" : Str)) = false) (hgB : Gl X B) (hmB : X.mg B = some (.ref CB)) (hdB : (B == ("__debug__" : Str)) = false)
    (kA : PySem.W.kitOne X.K (.ref D0) (.ref CA) = some true) (kB : PySem.W.kitOne X.K (.ref D0) (.ref CB) = some (!nb))
    (G : FnHX X.prog X.w X.K X.mg X.base k g 2 fn) (hr : Room k X.A) (hgf : Gl X fx) (hmf : X.mg fx = some (.ref g)) (hdf : (fx == ("__debug__" : Str)) = false)
    (hv : ∀ a pn, SG1 (X.suite a pn) W0 ev gv)
    (hs1 : starEach [.Attribute (.Name n p10) f p11, ev] X.env = (false, eval (.Attribute (.Name n p10) f p11) X.env) :: starEach [ev] X.env) (hs2 : starEach [ev] X.env = (false, eval ev X.env) :: starEach [] X.env) (hs3 : (backTo q2 (starEach [ev] X.env)).any (·.1) = false)
    (hb : ∀ (W : WX) (pn : List (Addr × Obj)) (xe : Value → Shared → Prop), L2N.Takes (X.tr pn xe) W → PassesOwn (model X.prog X.w) X.A X.env xe → SB (X.tr pn xe) W body b) :
    SS X W (.Try body [.ExceptHandler (some (.Name x0 np)) (some n) [.Return (some ex) pr] pos'] [] [] pos) (sTry x0 i b (hFn x0 f fn gv)) := by
  subst hex
  have suite : ∀ (a : Addr) (oe : Obj) (cls : Value) (d : Option Addr) (pn : List (Addr × Obj)), L2N.Zn cls d oe → (∃ vs, oe.data = .fields vs) →
      PSs (X.suite a ((a, oe) :: pn)) [.Return (some (eTwo n A B f fx ev nb p1 p2 p3 p4 p5 p6 p7 p8 p9 p10 p11 pb q1 q2)) pr]
        (fun D' σ H => ∃ F env x fs, FrS X.mg F env σ H ∧ σ[i]? = some (some (.ref a)) ∧ ErrAt X.mg F H x fs cls d ∧ GoodO X.mg W0 (relR X.mg) D'.rt F env σ H (hFn x0 f fn gv x fs env)) := fun a oe cls d pn hz hf => by
    by_cases hcls : cls = .ref D0
    · have base := fun fs : List (Str × D) => pss_one (ps_ret (pos := pr) (suite_two (fs := fs) (p1 := p1) (p2 := p2) (p3 := p3) (p4 := p4) (p5 := p5) (p6 := p6) (p7 := p7) (p8 := p8) (p9 := p9) (p10 := p10) (p11 := p11) (pos := pb) (q1 := q1) (q2 := q2) (nb := nb) (pn := pn) (x := x0) hz hf hN hln2 hnd hnc T hgi hmi hgA hmA hdA hgB hmB hdB kA kB G hr hgf hmf hdf (hv a _) hcls rfl hs1 hs2 hs3))
      refine ⟨fun pins s σ H D' I h => ?_⟩
      obtain ⟨F, env, x, fs, fr, es, er, g1⟩ := h
      by_cases hx : x = x0
      · rw [hx] at er g1
        exact (base fs).run pins s σ H D' I ⟨F, env, fr, es, er, g1⟩
      · unfold hFn at g1
        rw [if_neg hx] at g1
        exact False.elim g1
    · refine ⟨fun pins s σ H D' I h => ?_⟩
      obtain ⟨F, env, x, fs, fr, es, er, g1⟩ := h
      unfold hFn at g1
      by_cases hx : x = x0
      · obtain ⟨C, e1, e2, _⟩ := er
        rw [hx, T.g0] at e2
        cases e2
        exact absurd e1 hcls
      · rw [if_neg hx] at g1
        exact False.elim g1
  refine ⟨PS.imp (L2N.ps_try_as (tb := fun W => tS X.mg W b) (pos := pos) (pos' := pos') (np := np) hs hfr hNd hN hln ⟨hg0, hd0, .inl T.g0⟩ tk (fun W pn xe t p => (hb W pn xe t p).pss) suite) fun D' σ H ⟨F, env, fr, g1⟩ => ?_⟩
  refine ⟨F, env, fr, ?_⟩
  unfold sTry at g1
  cases eb : b env with
  | next e => rw [eb] at g1; exact g1
  | brk e => rw [eb] at g1; exact g1
  | cont e => rw [eb] at g1; exact g1
  | ret r e => rw [eb] at g1; exact g1
  | stuck => rw [eb] at g1; exact False.elim g1
  | err x fs e =>
    rw [eb] at g1
    dsimp only at g1
    by_cases hx : x = x0
    · rw [if_pos hx] at g1
      cases es : e[i]? with
      | none => rw [es] at g1; exact False.elim g1
      | some s0 =>
        rw [es] at g1
        dsimp only at g1
        split at g1
        · exact False.elim g1
        · rename_i hrf
          intro F1 σ1 H1 c d f1 x1 er
          have hc : c = .ref D0 := by
            obtain ⟨C, e1, e2, _⟩ := er
            rw [hx, T.g0] at e2
            cases e2
            exact e1
          refine ⟨true, by rw [hc]; exact exm, fun _ a ha => ?_, fun z => nomatch z⟩
          have f2 := f1.drop i (.ref a)
          have x2 : ExS F env σ H F1 (e.set i .no) (σ1.set i (some (.ref a))) H1 := ExS.put x1 es (fun y z => hrf (by rw [z]; rfl)) (fun z => nomatch z)
          have hil : i < σ1.length := by rw [← f1.len]; exact (List.getElem?_eq_some_iff.mp es).1
          refine ⟨F1, e.set i .no, x, fs, f2, nth_set_self hil, er, ?_⟩
          cases eh : hFn x0 f fn gv x fs (e.set i .no) with
          | stuck => rw [eh] at g1; exact False.elim g1
          | err _ _ _ => rw [eh] at g1; exact False.elim g1
          | ok r e2 =>
            rw [eh] at g1
            intro F3 H3 v f3 x3 r3
            exact g1 F3 _ H3 v f3 (x2.trans x3) (back_R _ _ _ _ _ _ _ _ x2.live r3)
    · rw [if_neg hx] at g1
      exact False.elim g1
end
end Sim

/-! Sim26: facts about own exception classes. -/
namespace Sim
open PySem PySem.Spec PyProof.Rows L2
def bOex (x : Str) : Fb := fun K => oexB K (He.ga K x)
def bBase (x : Str) : Fb := fun K => baseB K (He.ga K x)
def bXf (x : Str) : Fb := fun K => xfB K (He.ga K x)
def bKit (x y : Str) (b : Bool) : Fb := fun K => decide (PySem.W.kitOne K (.ref (He.ga K x)) (.ref (He.ga K y)) = some b)
def bExc (x : Str) : Fb := fun K => He.eqO (PySem.W.findIn K (.ref (He.ga K x)) "__getattribute__") (some (some (.builtin "BaseException.__getattribute__"))) && (He.eqO (PySem.W.findIn K (.ref (He.ga K x)) "__getattr__") (some none) &&
  (decide (PySem.W.subIn K (.ref (He.ga K x)) (.type "BaseException") = some true) && (PySem.W.hasDictIn K (He.ga K x) && bIns x K)))
section
variable {fs : List Fb} {fn : List DefA} {K : PySem.W.Frag} {mg : Mg}
theorem Tx.oex (Z : Tx fs fn K mg) (i : Nat) {x : Str} (h : fs[i]? = some (bOex x) := by rfl) : OexC K (He.ga K x) := oexB_ok (Z.fact i h)
theorem Tx.base (Z : Tx fs fn K mg) (i : Nat) {x : Str} (h : fs[i]? = some (bBase x) := by rfl) : BaseI K (He.ga K x) := baseB_ok (Z.fact i h)
theorem Tx.xf (Z : Tx fs fn K mg) (i : Nat) {x : Str} (h : fs[i]? = some (bXf x) := by rfl) : XfC K (He.ga K x) := xfB_ok (Z.fact i h)
theorem Tx.kit (Z : Tx fs fn K mg) (i : Nat) {x y : Str} {b : Bool} (h : fs[i]? = some (bKit x y b) := by rfl) : PySem.W.kitOne K (.ref (He.ga K x)) (.ref (He.ga K y)) = some b := of_decide_eq_true (Z.fact i h)
theorem Tx.exm (Z : Tx fs fn K mg) (i : Nat) {x y : Str} {b : Bool} (h : fs[i]? = some (bFa (.exm x y b)) := by rfl) : PySem.W.exmOne K (.ref (He.ga K x)) (.ref (He.ga K y)) = some b := He.exm_ok (Z.fact i h)
theorem Tx.exc (Z : Tx fs fn K mg) (i : Nat) {x : Str} (h : fs[i]? = some (bExc x) := by rfl) : ExcC K (He.ga K x) := by
  have c := Z.fact i h
  unfold bExc bIns at c
  simp only [Bool.and_eq_true] at c
  obtain ⟨c1, c2, c3, c4, c5, c6, c7, c8⟩ := c
  exact ⟨He.eqO_ok c1, He.eqO_ok c2, of_decide_eq_true c3, c4, He.eqO_ok c5, He.eqO_ok c6, of_decide_eq_true c7, of_decide_eq_true c8⟩
theorem exX_of {P : Program} {w : World} {base : Heap} {x f b vn qual : Str} {params : Arguments} {scope : Scope} {fI : Addr} {body : List Stmt} {m : Str} {j : Nat} {p1 p2 p3 p4 p5 p6 p7 p8 p9 p10 : Pos}
    (gC : mg x = some (.ref (He.ga K x))) (T : OexC K (He.ga K x)) (M : Meth K (He.ga K x) "__init__" fI) (TB : BaseI K (He.ga K b)) (gB : mg b = some (.ref (He.ga K b))) (hno : NoAttr K (He.ga K x) f)
    (F : ∃ fd, FunD K "__init__" qual params body scope [] [] fI fd) (S : FnScope ["self", vn] ["self", vn] scope)
    (hbody : body = [.Expr (.Call (.Attribute (.Name b p1) "__init__" p2) [.Name "self" p3, .Constant (.str m) j p4] [] p5) p6, .Assign [.Attribute (.Name "self" p7) f p8] (.Name vn p9) p10])
    (hbase : ∀ X : Cx, ∃ pl : Sem Bool, eval (.Call (.Attribute (.Name b p1) "__init__" p2) [.Name "self" p3, .Constant (.str m) j p4] [] p5) X.env = (eval (.Name b p1) X.env >>= fun ov => standAt p2.atName >>= fun _ => holding [ov] (getMethod ov "__init__" pl) >>= fun q => callWith p5 q.1 q.2 (backTo p5 (starEach [.Name "self" p3, .Constant (.str m) j p4] X.env)) (backToKw p5 (keywordEach [] X.env))))
    (kb : scope.names.lookup b = some .globalImplicit) (hb : (b == ("__debug__" : Str)) = false) (hv : (vn == ("__debug__" : Str)) = false) (hv2 : (vn == ("__classdict__" : Str)) = false)
    (hbn : ∀ (kV doc pm : Value) (an : Option Addr) (cdv ct : Value) (us : List Value), us.length = 2 → bindArgs (PySem.W.fnOf "__init__" qual params body scope .none kV doc pm an cdv ct) ⟨us, []⟩ = pure ((["self", vn] : List Str).zip us)) :
    ExX P w K mg base x f (He.ga K x) fI := by
  obtain ⟨fd, F⟩ := F
  subst hbody
  exact ⟨gC, T, M.at_, beq_iff_eq.mp M.fn, fd, ["self", vn], exinit_ok F S T TB gB hno kb hb hv hv2 hbase, F.bindsN hbn⟩
end
theorem FnHX.mono {P : Program} {w : World} {K : PySem.W.Frag} {mg : Mg} {base : Heap} {j k : Nat} {f : Addr} {n : Nat} {fn : Fn} (F : FnHX P w K mg base j f n fn) (h : j ≤ k) : FnHX P w K mg base k f n fn := by
  obtain ⟨fd, ps, a, b⟩ := F.ok
  exact ⟨⟨fd, ps, ⟨a.len, fun A outer s H args us vs Q E p hr => a.run A outer s H args us vs Q E p (hr.mono h)⟩, b⟩, F.kp⟩
end Sim

set_option maxHeartbeats 0
/-! Lw: what each def of the law does, and that it does it. Printed by gen.py. -/
namespace Lw
open PySem PySem.Spec PyProof.Rows L2 Sim
abbrev top (i : Nat) : Stmt := PySem.Challenge.pw_pinnedbycounts_k93_quick_order.main.body.getD i (.Pass ⟨0, 0, 0, 0⟩)
abbrev s_merged : Stmt := top 15
abbrev s_ascending : Stmt := top 16
abbrev s_Schema_u__contains_u_ : Stmt := mem (top 42) 6
abbrev s_Schema_u__getitem_u_ : Stmt := mem (top 42) 7
abbrev s_is_natural : Stmt := top 18
abbrev s_check_row : Stmt := top 35
abbrev s_Pattern_u__init_u_ : Stmt := mem (top 37) 3
abbrev s_is_integer : Stmt := top 17
abbrev s_is_word : Stmt := top 41
abbrev s_Schema_u__init_u_ : Stmt := mem (top 42) 2
abbrev s__law_draw : Stmt := top 45
abbrev s__law_inner : Stmt := top 59
abbrev s__law_pattern : Stmt := top 54
abbrev s__law_near : Stmt := top 61
abbrev s__law_pairs : Stmt := top 60
abbrev s__law_taken : Stmt := top 62
abbrev s__law_quick : Stmt := top 64
abbrev s__law_same : Stmt := top 46
abbrev s_Pattern_inner : Stmt := mem (top 37) 5
abbrev s_neighbour_lists : Stmt := top 20
abbrev s_require_order : Stmt := top 22
abbrev s_without_value : Stmt := top 21
abbrev s_order_width : Stmt := top 23
abbrev s__law_refused : Stmt := top 65
abbrev s__law_shuffled : Stmt := top 58
abbrev s__law_sorted : Stmt := top 47
abbrev s__law_close : Stmt := top 48
abbrev s__law_row : Stmt := top 52
abbrev s__law_random : Stmt := top 53
abbrev s__law_some : Stmt := top 57
abbrev s__law_start : Stmt := top 44
abbrev s__law_width : Stmt := top 63
abbrev s__law_word : Stmt := top 49
abbrev s__law_pool : Stmt := top 50
abbrev s__law_tables : Stmt := top 51
abbrev s__law_two_tables : Stmt := top 55
abbrev s__law_world : Stmt := top 56
abbrev s_fewest_neighbours : Stmt := top 24
abbrev s_quick_order : Stmt := top 25
abbrev s_law : Stmt := top 66
abbrev s_BadOrder_u__init_u_ : Stmt := mem (top 13) 0
/-! ### meanings -/
noncomputable def cH__law_same : En → OutS :=
  sSeq (sIf (cOr (cB (cIs (tB "bool") (cVar 0))) (cB (cIs (tB "bool") (cVar 1)))) (sRet (cAndV (cIs (tB "bool") (cVar 0)) (cAndV (cIs (tB "bool") (cVar 1)) (cOp fEq (cVar 0) (cVar 1))))) (sNext))
  (sSeq (sIf (cOr (cB (cIs (tB "int") (cVar 0))) (cB (cIs (tB "int") (cVar 1)))) (sRet (cAndV (cIs (tB "int") (cVar 0)) (cAndV (cIs (tB "int") (cVar 1)) (cOp fEq (cVar 0) (cVar 1))))) (sNext))
  (sSeq (sNever)
  (sSeq (sNever)
  (sSeq (sNever)
  (sSeq (sNever)
  (sSeq (sNever)
  (sNever)))))))
noncomputable def fnH__law_same : Fn := mkFn 3 cH__law_same
noncomputable def c_merged : En → OutS :=
  sSeq (sSet 2 (cLst []))
  (sSeq (sSet 3 (cC (.int 0)))
  (sSeq (sFor (cIt (cVar 0)) (storeD 4) (sSeq (sWhile (cAnd (cB (cOp fLt (cVar 3) (cBlt gLen [.p (cVar 1)]))) (cB (cOp fLt (cOp fIx (cVar 1) (cVar 3)) (cVar 4)))) (sSeq (sDrop (cAppend 2 (cOp fIx (cVar 1) (cVar 3))))
  (sSet 3 (cOp fAdd (cVar 3) (cC (.int 1))))))
  (sDrop (cAppend 2 (cVar 4)))))
  (sRet (cOp fAdd (cVar 2) (cSl (cVar 1) (some (cVar 3)) none)))))
noncomputable def fn_merged : Fn := mkFn 5 c_merged
noncomputable def c_ascending : En → OutS :=
  sSeq (sSet 1 (cLC (cIt (cVar 0)) (storeD 5) (cYes) (cLst [cVar 5]) [5]))
  (sSeq (sWhile (cB (cOp fGt (cBlt gLen [.p (cVar 1)]) (cC (.int 1)))) (sSeq (sSet 4 (cLC (cRng3 (cC (.int 0)) (cOp fSub (cBlt gLen [.p (cVar 1)]) (cC (.int 1))) (cC (.int 2))) (storeD 6) (cYes) (cCall fn_merged [.v (cOp fIx (cVar 1) (cVar 6)), .v (cOp fIx (cVar 1) (cOp fAdd (cVar 6) (cC (.int 1))))]) [6]))
  (sSeq (sIf (cB (cOp fEq (cOp fMod (cBlt gLen [.p (cVar 1)]) (cC (.int 2))) (cC (.int 1)))) (sDrop (cAppend 4 (cOp fIx (cVar 1) (cNeg (cC (.int 1)))))) (sNext))
  (sSet 1 (cVar 4)))))
  (sSeq (sSet 2 (cLst []))
  (sSeq (sFor (cIt (cVar 1)) (storeD 3) (sFor (cIt (cVar 3)) (storeD 5) (sIf (cOr (cB (cOp fEq (cBlt gLen [.p (cVar 2)]) (cC (.int 0)))) (cB (cOp fNe (cOp fIx (cVar 2) (cNeg (cC (.int 1)))) (cVar 5)))) (sDrop (cAppend 2 (cVar 5))) (sNext))))
  (sRet (cVar 2)))))
noncomputable def fn_ascending : Fn := mkFn 7 c_ascending
noncomputable def c_Schema_u__contains_u_ : En → OutS :=
  sRet (cOp fIn (cVar 1) (cFld "Schema" "names" (cVar 0)))
noncomputable def fn_Schema_u__contains_u_ : Fn := mkFn 2 c_Schema_u__contains_u_
noncomputable def c_Schema_u__getitem_u_ : En → OutS :=
  sSeq (sIf (cB (cOp fNotIn (cVar 1) (cFld "Schema" "names" (cVar 0)))) (sNever) (sNext))
  (sRet (cOp fIx (cFld "Schema" "widths" (cVar 0)) (cVar 1)))
noncomputable def fn_Schema_u__getitem_u_ : Fn := mkFn 2 c_Schema_u__getitem_u_
noncomputable def c_is_natural : En → OutS :=
  sRet (cAndV (cIs (tB "int") (cVar 0)) (cAndV (cNotV (cIs (tB "bool") (cVar 0))) (cOp fGe (cVar 0) (cC (.int 0)))))
noncomputable def fn_is_natural : Fn := mkFn 1 c_is_natural
noncomputable def c_check_row : En → OutS :=
  sSeq (sIf (cB (cOwnIn "Schema" fn_Schema_u__contains_u_ not (cOp fIx (cVar 1) (cC (.int 0))) (cVar 0))) (sNever) (sNext))
  (sSeq (sIf (cB (cOp fNe (cOp fSub (cBlt gLen [.p (cVar 1)]) (cC (.int 1))) (cOwnIx "Schema" fn_Schema_u__getitem_u_ (cVar 0) (cOp fIx (cVar 1) (cC (.int 0)))))) (sNever) (sNext))
  (sFor (cIt (cSl (cVar 1) (some (cC (.int 1))) none)) (storeD 2) (sIf (cNot (cB (cCall fn_is_natural [.v (cVar 2)]))) (sNever) (sNext))))
noncomputable def fn_check_row : Fn := mkFn 3 c_check_row
noncomputable def c_Pattern_u__init_u_ : En → OutS :=
  sSeq (sFor (cIt (cVar 2)) (storeD 4) (sDrop (cCall fn_check_row [.v (cVar 1), .v (cVar 4)])))
  (sSeq (sFor (cIt (cVar 3)) (storeD 5) (sIf (cNot (cB (cCall fn_is_natural [.v (cVar 5)]))) (sNever) (sNext)))
  (sSeq (sIf (cB (cOp fGt (cBlt gLen [.p (cVar 3)]) (cC (.int 4)))) (sNever) (sNext))
  (sSeq (sSet 6 (cCall fn_ascending [.v (cVar 2)]))
  (sSeq (sIf (cB (cOp fGt (cBlt gLen [.p (cVar 6)]) (cC (.int 600)))) (sNever) (sNext))
  (sSeq (sSet 7 cDK)
  (sSeq (sFor (cIt (cVar 3)) (storeD 5) (sSetIx 7 (cC (.bl true)) (cVar 5)))
  (sSeq (sFor (cIt (cVar 6)) (storeD 4) (sFor (cIt (cSl (cVar 4) (some (cC (.int 1))) none)) (storeD 5) (sSetIx 7 (cC (.bl true)) (cVar 5))))
  (sSeq (sIf (cB (cOp fGt (cBlt gLen [.p (cVar 7)]) (cC (.int 300)))) (sNever) (sNext))
  (sSeq (sFor (cRng1 (cBlt gLen [.p (cVar 7)])) (storeD 5) (sIf (cB (cOp fNotIn (cVar 5) (cVar 7))) (sNever) (sNext)))
  (sSeq (sFldD 0 "Pattern" "schema" (cVar 1))
  (sSeq (sFldD 0 "Pattern" "rows" (cBlt gTuple [.p (cVar 6)]))
  (sSeq (sFldD 0 "Pattern" "head" (cBlt gTuple [.p (cVar 3)]))
  (sFldD 0 "Pattern" "size" (cBlt gLen [.p (cVar 7)]))))))))))))))
noncomputable def fn_Pattern_u__init_u_ : Fn := mkFn 8 c_Pattern_u__init_u_
noncomputable def c_is_integer : En → OutS :=
  sRet (cAndV (cIs (tB "int") (cVar 0)) (cAndV (cNotV (cIs (tB "bool") (cVar 0))) (cChain fLe fLe (cVar 1) (cVar 0) (cVar 2))))
noncomputable def fn_is_integer : Fn := mkFn 3 c_is_integer
noncomputable def c_is_word : En → OutS :=
  sSeq (sIf (cNot (cB (cChain fLe fLe (cC (.int 1)) (cBlt gLen [.p (cVar 0)]) (cC (.int 20))))) (sRet (cC (.bl false))) (sNext))
  (sSeq (sFor (cIt (cVar 0)) (storeD 1) (sIf (cB (cOp fNotIn (cVar 1) (cC (.str "ABCDEFGHIJKLMNOPQRSTUVWXYZabcdefghijklmnopqrstuvwxyz0123456789_")))) (sRet (cC (.bl false))) (sNext)))
  (sRet (cC (.bl true))))
noncomputable def fn_is_word : Fn := mkFn 2 c_is_word
noncomputable def c_Schema_u__init_u_ : En → OutS :=
  sSeq (sIf (cB (cOp fGt (cBlt gLen [.p (cVar 1)]) (cC (.int 8)))) (sNever) (sNext))
  (sSeq (sSet 2 cDK)
  (sSeq (sFor (cIt (cVar 1)) (unpack [3, 4]) (sSeq (sIf (cNot (cB (cCall fn_is_word [.v (cVar 3)]))) (sNever) (sNext))
  (sSeq (sIf (cNot (cB (cCall fn_is_integer [.v (cVar 4), .v (cC (.int 1)), .v (cC (.int 4))]))) (sNever) (sNext))
  (sSeq (sIf (cB (cOp fIn (cVar 3) (cVar 2))) (sNever) (sNext))
  (sSetIx 2 (cVar 4) (cVar 3))))))
  (sSeq (sFldD 0 "Schema" "names" (cBlt gTuple [.p (cCall fn_ascending [.v (cBlt gList [.p (cVar 2)])])]))
  (sFldD 0 "Schema" "widths" (cVar 2)))))
noncomputable def fn_Schema_u__init_u_ : Fn := mkFn 5 c_Schema_u__init_u_
noncomputable def c__law_draw : En → OutS :=
  sSeq (sIf (cB (cOp fLt (cVar 1) (cC (.int 2)))) (sRet (cC (.int 0))) (sNext))
  (sSeq (sIf (cB (cOp fEq (cOp fIx (cVar 0) (cC (.int 3))) (cC (.int 0)))) (sSeq (sIf (cB (cOp fGe (cOp fIx (cVar 0) (cC (.int 1))) (cBlt gLen [.p (cOp fIx (cVar 0) (cC (.int 0)))]))) (sRet (cC (.int 0))) (sNext))
  (sSeq (sSet 3 (cBlt gInt [.p (cOp fIx (cOp fIx (cVar 0) (cC (.int 0))) (cOp fIx (cVar 0) (cC (.int 1))))]))
  (sSeq (sIf (cB (cOp fLt (cVar 3) (cC (.int 0)))) (sSet 3 (cOp fSub (cC (.int 0)) (cVar 3))) (sNext))
  (sSeq (sSetIx 0 (cOp fAdd (cOp fIx (cVar 0) (cC (.int 1))) (cC (.int 1))) (cC (.int 1)))
  (sSeq (sSetIx 0 (cVar 3) (cC (.int 2)))
  (sSeq (sSetIx 0 (cC (.int 3)) (cC (.int 3)))
  (sSeq (sSetIx 0 (cC (.int 0)) (cC (.int 4)))
  (sIf (cB (cOp fGe (cVar 3) (cOp fPow (cC (.int 10)) (cC (.int 18))))) (sSeq (sSetIx 0 (cC (.int 60)) (cC (.int 3)))
  (sSetIx 0 (cC (.int 1)) (cC (.int 4)))) (sNext))))))))) (sNext))
  (sSeq (sSetIx 0 (cOp fSub (cOp fIx (cVar 0) (cC (.int 3))) (cC (.int 1))) (cC (.int 3)))
  (sSeq (sIf (cB (cOp fEq (cOp fIx (cVar 0) (cC (.int 4))) (cC (.int 1)))) (sSeq (sSet 4 (cOp fMod (cBlt gInt [.p (cOp fIx (cVar 0) (cC (.int 2)))]) (cVar 1)))
  (sSeq (sSetIx 0 (cOp fFdiv (cBlt gInt [.p (cOp fIx (cVar 0) (cC (.int 2)))]) (cVar 1)) (cC (.int 2)))
  (sSeq (sIf (cB (cOp fEq (cOp fIx (cVar 0) (cC (.int 2))) (cC (.int 0)))) (sSetIx 0 (cC (.int 0)) (cC (.int 3))) (sNext))
  (sRet (cVar 4))))) (sNext))
  (sSeq (sSet 2 (cOp fMod (cBlt gInt [.p (cOp fAdd (cOp fAdd (cOp fMul (cOp fIx (cVar 0) (cC (.int 2))) (cC (.int 48271))) (cOp fMul (cOp fIx (cVar 0) (cC (.int 3))) (cC (.int 69621)))) (cC (.int 7919)))]) (cC (.int 2147483647))))
  (sRet (cOp fMod (cBlt gInt [.p (cOp fMod (cBlt gInt [.p (cOp fAdd (cOp fAdd (cOp fMul (cVar 2) (cC (.int 16807))) (cOp fMul (cOp fIx (cVar 0) (cC (.int 3))) (cC (.int 10133)))) (cC (.int 104729)))]) (cC (.int 2147483629)))]) (cVar 1)))))))
noncomputable def fn__law_draw : Fn := mkFn 5 c__law_draw
noncomputable def c__law_inner : En → OutS :=
  sRet (cLC (cRng1 (cOp fIx (cVar 0) (cC (.int 2)))) (storeD 1) (cB (cOp fNotIn (cVar 1) (cOp fIx (cVar 0) (cC (.int 1))))) (cVar 1) [1])
noncomputable def fn__law_inner : Fn := mkFn 2 c__law_inner
noncomputable def c__law_pattern : En → OutS :=
  sRet (cMake "Pattern" fn_Pattern_u__init_u_ [.v (cVar 0), .v (cBlt gList [.p (cOp fIx (cVar 1) (cC (.int 0)))]), .v (cOp fIx (cVar 1) (cC (.int 1)))])
noncomputable def fn__law_pattern : Fn := mkFn 2 c__law_pattern
noncomputable def c__law_near : En → OutS :=
  sRet (cLC (cIt (cVar 0)) (storeD 2) (cB (cOp fEq (cOp fIx (cVar 2) (cC (.int 0))) (cVar 1))) (cOp fIx (cVar 2) (cC (.int 1))) [2])
noncomputable def fn__law_near : Fn := mkFn 3 c__law_near
noncomputable def c__law_pairs : En → OutS :=
  sSeq (sSet 1 (cLst []))
  (sSeq (sFor (cIt (cOp fIx (cVar 0) (cC (.int 0)))) (storeD 2) (sFor (cIt (cSl (cVar 2) (some (cC (.int 1))) none)) (storeD 3) (sFor (cIt (cSl (cVar 2) (some (cC (.int 1))) none)) (storeD 4) (sIf (cAnd (cB (cOp fNe (cVar 3) (cVar 4))) (cAnd (cB (cOp fNotIn (cVar 3) (cOp fIx (cVar 0) (cC (.int 1))))) (cAnd (cB (cOp fNotIn (cVar 4) (cOp fIx (cVar 0) (cC (.int 1))))) (cB (cOp fNotIn (cTup [cVar 3, cVar 4]) (cVar 1)))))) (sDrop (cAppend 1 (cTup [cVar 3, cVar 4]))) (sNext)))))
  (sRet (cVar 1)))
noncomputable def fn__law_pairs : Fn := mkFn 5 c__law_pairs
noncomputable def c__law_taken : En → OutS :=
  sSeq (sSet 2 (cCall fn__law_near [.v (cVar 0), .v (cVar 1)]))
  (sSeq (sSet 3 (cLC (cIt (cVar 0)) (storeD 6) (cAnd (cB (cOp fNe (cOp fIx (cVar 6) (cC (.int 0))) (cVar 1))) (cB (cOp fNe (cOp fIx (cVar 6) (cC (.int 1))) (cVar 1)))) (cVar 6) [6]))
  (sSeq (sFor (cIt (cVar 2)) (storeD 4) (sFor (cIt (cVar 2)) (storeD 5) (sIf (cAnd (cB (cOp fNe (cVar 4) (cVar 5))) (cB (cOp fNotIn (cTup [cVar 4, cVar 5]) (cVar 3)))) (sDrop (cAppend 3 (cTup [cVar 4, cVar 5]))) (sNext))))
  (sRet (cVar 3))))
noncomputable def fn__law_taken : Fn := mkFn 7 c__law_taken
noncomputable def c__law_quick : En → OutS :=
  sSeq (sSet 1 (cCall fn__law_pairs [.v (cVar 0)]))
  (sSeq (sSet 2 (cCall fn__law_inner [.v (cVar 0)]))
  (sSeq (sSet 3 (cLst []))
  (sSeq (sFor (cRng1 (cBlt gLen [.p (cVar 2)])) (storeD 4) (sSeq (sSet 5 (cOp fIx (cVar 2) (cC (.int 0))))
  (sSeq (sFor (cIt (cVar 2)) (storeD 6) (sIf (cB (cOp fLt (cBlt gLen [.p (cCall fn__law_near [.v (cVar 1), .v (cVar 6)])]) (cBlt gLen [.p (cCall fn__law_near [.v (cVar 1), .v (cVar 5)])]))) (sSet 5 (cVar 6)) (sNext)))
  (sSeq (sDrop (cAppend 3 (cVar 5)))
  (sSeq (sSet 1 (cCall fn__law_taken [.v (cVar 1), .v (cVar 5)]))
  (sSet 2 (cLC (cIt (cVar 2)) (storeD 6) (cB (cOp fNe (cVar 6) (cVar 5))) (cVar 6) [6])))))))
  (sRet (cVar 3)))))
noncomputable def fn__law_quick : Fn := mkFn 7 c__law_quick
noncomputable def c__law_same (g : Fn) : En → OutS :=
  sSeq (sIf (cOr (cB (cIs (tB "bool") (cVar 0))) (cB (cIs (tB "bool") (cVar 1)))) (sRet (cAndV (cIs (tB "bool") (cVar 0)) (cAndV (cIs (tB "bool") (cVar 1)) (cOp fEq (cVar 0) (cVar 1))))) (sNext))
  (sSeq (sIf (cOr (cB (cIs (tB "int") (cVar 0))) (cB (cIs (tB "int") (cVar 1)))) (sRet (cAndV (cIs (tB "int") (cVar 0)) (cAndV (cIs (tB "int") (cVar 1)) (cOp fEq (cVar 0) (cVar 1))))) (sNext))
  (sSeq (sIf (cOr (cB (cIs (tB "str") (cVar 0))) (cB (cIs (tB "str") (cVar 1)))) (sRet (cAndV (cIs (tB "str") (cVar 0)) (cAndV (cIs (tB "str") (cVar 1)) (cOp fEq (cVar 0) (cVar 1))))) (sNext))
  (sSeq (sIf (cOr (cB (cOp fIsN (cVar 0) (cC (.non)))) (cB (cOp fIsN (cVar 1) (cC (.non))))) (sRet (cAndV (cOp fIsN (cVar 0) (cC (.non))) (cOp fIsN (cVar 1) (cC (.non))))) (sNext))
  (sSeq (sIf (cOr (cB (cOp fNe (cIs (tB "tuple") (cVar 0)) (cIs (tB "tuple") (cVar 1)))) (cB (cOp fNe (cIs (tB "list") (cVar 0)) (cIs (tB "list") (cVar 1))))) (sRet (cC (.bl false))) (sNext))
  (sSeq (sIf (cOr (cNot (cB (cIs (tB2 "list" "tuple") (cVar 0)))) (cB (cOp fNe (cBlt gLen [.p (cVar 0)]) (cBlt gLen [.p (cVar 1)])))) (sRet (cC (.bl false))) (sNext))
  (sSeq (sFor (cRng1 (cBlt gLen [.p (cVar 1)])) (storeD 2) (sIf (cNot (cB (cCall g [.v (cOp fIx (cVar 0) (cVar 2)), .v (cOp fIx (cVar 1) (cVar 2))]))) (sRet (cC (.bl false))) (sNext)))
  (sRet (cC (.bl true)))))))))
noncomputable def f__law_same : Nat → Fn
  | 0 => fun _ => .stuck
  | k + 1 => mkFn 3 (c__law_same (f__law_same k))
noncomputable def fn__law_same : Fn := f__law_same 6
noncomputable def c_Pattern_inner : En → OutS :=
  sRet (cBlt gTuple [.p (cLC (cRng1 (cFld "Pattern" "size" (cVar 0))) (storeD 1) (cB (cOp fNotIn (cVar 1) (cFld "Pattern" "head" (cVar 0)))) (cVar 1) [1])])
noncomputable def fn_Pattern_inner : Fn := mkFn 2 c_Pattern_inner
noncomputable def c_neighbour_lists : En → OutS :=
  sSeq (sSet 1 (cDC (cIt (cProp "Pattern" fn_Pattern_inner (cVar 0))) (storeD 4) (cYes) (cVar 4) (cLst []) [4]))
  (sSeq (sFor (cIt (cFld "Pattern" "rows" (cVar 0))) (storeD 2) (sSeq (sSet 3 (cLC (cIt (cSl (cVar 2) (some (cC (.int 1))) none)) (storeD 4) (cB (cOp fIn (cVar 4) (cVar 1))) (cVar 4) [4]))
  (sFor (cIt (cVar 3)) (storeD 4) (sSetIx 1 (cOp fAdd (cOp fIx (cVar 1) (cVar 4)) (cLC (cIt (cVar 3)) (storeD 5) (cB (cOp fNe (cVar 5) (cVar 4))) (cVar 5) [5])) (cVar 4)))))
  (sRet (cDC (cKeys 1) (storeD 4) (cYes) (cVar 4) (cCall fn_ascending [.v (cOp fIx (cVar 1) (cVar 4))]) [4])))
noncomputable def fn_neighbour_lists : Fn := mkFn 6 c_neighbour_lists
noncomputable def c_require_order : En → OutS :=
  sSeq (sSet 2 (cBlt gList [.p (cProp "Pattern" fn_Pattern_inner (cVar 0))]))
  (sSeq (sFor (cIt (cVar 1)) (storeD 3) (sSeq (sIf (cB (cOp fNotIn (cVar 3) (cVar 2))) (sRaise "BadOrder" "value" (cVar 3)) (sNext))
  (sSet 2 (cLC (cIt (cVar 2)) (storeD 4) (cB (cOp fNe (cVar 4) (cVar 3))) (cVar 4) [4]))))
  (sIf (cB (cOp fGt (cBlt gLen [.p (cVar 2)]) (cC (.int 0)))) (sRaise "BadOrder" "value" (cOp fIx (cVar 2) (cC (.int 0)))) (sNext)))
noncomputable def fn_require_order : Fn := mkFn 5 c_require_order
noncomputable def c_without_value : En → OutS :=
  sSeq (sSet 2 (cOp fIx (cVar 0) (cVar 1)))
  (sSeq (sSet 3 cDK)
  (sSeq (sForD 0 (storeD 4) (sIf (cB (cOp fIn (cVar 4) (cVar 2))) (sSetIx 3 (cCall fn_ascending [.v (cLC (cIt (cOp fAdd (cOp fIx (cVar 0) (cVar 4)) (cVar 2))) (storeD 5) (cB (cOp fNotIn (cVar 5) (cTup [cVar 1, cVar 4]))) (cVar 5) [5])]) (cVar 4)) (sIf (cB (cOp fNe (cVar 4) (cVar 1))) (sSetIx 3 (cOp fIx (cVar 0) (cVar 4)) (cVar 4)) (sNext))))
  (sRet (cVar 3))))
noncomputable def fn_without_value : Fn := mkFn 6 c_without_value
noncomputable def c_order_width : En → OutS :=
  sSeq (sDrop (cCall fn_require_order [.v (cVar 0), .v (cVar 1)]))
  (sSeq (sSet 2 (cCall fn_neighbour_lists [.v (cVar 0)]))
  (sSeq (sSet 3 (cC (.int 0)))
  (sSeq (sFor (cIt (cVar 1)) (storeD 4) (sSeq (sIf (cB (cOp fGt (cBlt gLen [.p (cOp fIx (cVar 2) (cVar 4))]) (cVar 3))) (sSet 3 (cBlt gLen [.p (cOp fIx (cVar 2) (cVar 4))])) (sNext))
  (sSet 2 (cCall fn_without_value [.v (cVar 2), .v (cVar 4)]))))
  (sRet (cVar 3)))))
noncomputable def fn_order_width : Fn := mkFn 5 c_order_width
noncomputable def c__law_refused : En → OutS :=
  sSeq (sTry "BadOrder" 3 (sDrop (cCall fn_order_width [.v (cVar 0), .v (cVar 1)])) (hFn "BadOrder" "value" fnH__law_same (.v (cVar 2))))
  (sRet (cC (.bl false)))
noncomputable def fn__law_refused : Fn := mkFn 4 c__law_refused
noncomputable def c__law_shuffled : En → OutS :=
  sSeq (sSet 2 (cLst []))
  (sSeq (sFor (cIt (cVar 1)) (storeD 3) (sSeq (sSet 4 (cCall fn__law_draw [.p (cVar 0), .v (cOp fAdd (cBlt gLen [.p (cVar 2)]) (cC (.int 1)))]))
  (sSet 2 (cOp fAdd (cOp fAdd (cSl (cVar 2) none (some (cVar 4))) (cLst [cVar 3])) (cSl (cVar 2) (some (cVar 4)) none)))))
  (sRet (cVar 2)))
noncomputable def fn__law_shuffled : Fn := mkFn 5 c__law_shuffled
noncomputable def c__law_sorted : En → OutS :=
  sSeq (sSet 1 (cLst []))
  (sSeq (sFor (cIt (cVar 0)) (storeD 2) (sSeq (sSet 3 (cC (.int 0)))
  (sSeq (sFor (cRng1 (cBlt gLen [.p (cVar 1)])) (storeD 4) (sIf (cB (cOp fLt (cOp fIx (cVar 1) (cVar 4)) (cVar 2))) (sSet 3 (cOp fAdd (cVar 4) (cC (.int 1)))) (sNext)))
  (sIf (cOr (cB (cOp fEq (cVar 3) (cBlt gLen [.p (cVar 1)]))) (cB (cOp fNe (cOp fIx (cVar 1) (cVar 3)) (cVar 2)))) (sSet 1 (cOp fAdd (cOp fAdd (cSl (cVar 1) none (some (cVar 3))) (cLst [cVar 2])) (cSl (cVar 1) (some (cVar 3)) none))) (sNext)))))
  (sRet (cVar 1)))
noncomputable def fn__law_sorted : Fn := mkFn 5 c__law_sorted
noncomputable def c__law_close : En → OutS :=
  sSeq (sSet 3 (cBlt gList [.p (cVar 1)]))
  (sSeq (sFor (cIt (cVar 0)) (storeD 4) (sSet 3 (cOp fAdd (cVar 3) (cBlt gList [.p (cSl (cVar 4) (some (cC (.int 1))) none)]))))
  (sSeq (sSet 5 (cLst []))
  (sSeq (sFor (cIt (cVar 2)) (storeD 6) (sIf (cAnd (cB (cOp fIn (cVar 6) (cVar 3))) (cB (cOp fNotIn (cVar 6) (cVar 5)))) (sDrop (cAppend 5 (cVar 6))) (sNext)))
  (sSeq (sSet 7 (cLst []))
  (sSeq (sFor (cIt (cVar 0)) (storeD 4) (sDrop (cAppend 7 (cOp fAdd (cTup [cOp fIx (cVar 4) (cC (.int 0))]) (cBlt gTuple [.p (cLC (cIt (cSl (cVar 4) (some (cC (.int 1))) none)) (storeD 6) (cYes) (cIndex (cVar 5) (cVar 6)) [6])])))))
  (sRet (cTup [cCall fn__law_sorted [.v (cVar 7)], cBlt gTuple [.p (cLC (cIt (cVar 1)) (storeD 6) (cYes) (cIndex (cVar 5) (cVar 6)) [6])], cBlt gLen [.p (cVar 5)]])))))))
noncomputable def fn__law_close : Fn := mkFn 8 c__law_close
noncomputable def c__law_row : En → OutS :=
  sSeq (sSet 3 (cOp fIx (cVar 1) (cCall fn__law_draw [.p (cVar 0), .v (cBlt gLen [.p (cVar 1)])])))
  (sRet (cOp fAdd (cTup [cOp fIx (cVar 3) (cC (.int 0))]) (cBlt gTuple [.p (cLC (cRng1 (cOp fIx (cVar 3) (cC (.int 1)))) (storeD 4) (cYes) (cCall fn__law_draw [.p (cVar 0), .v (cVar 2)]) [4])])))
noncomputable def fn__law_row : Fn := mkFn 5 c__law_row
noncomputable def c__law_random : En → OutS :=
  sSeq (sSet 5 (cLC (cRng1 (cVar 2)) (storeD 7) (cYes) (cCall fn__law_draw [.p (cVar 0), .v (cVar 3)]) [7]))
  (sSeq (sSet 6 (cLC (cRng1 (cVar 4)) (storeD 8) (cYes) (cCall fn__law_row [.p (cVar 0), .v (cVar 1), .v (cVar 3)]) [8]))
  (sRet (cCall fn__law_close [.v (cVar 6), .v (cVar 5), .v (cLC (cRng1 (cVar 3)) (storeD 9) (cYes) (cVar 9) [9])])))
noncomputable def fn__law_random : Fn := mkFn 10 c__law_random
noncomputable def c__law_some : En → OutS :=
  sRet (cCall fn__law_random [.p (cVar 0), .v (cVar 1), .v (cVar 2), .v (cOp fAdd (cC (.int 1)) (cCall fn__law_draw [.p (cVar 0), .v (cVar 3)])), .v (cOp fAdd (cC (.int 1)) (cCall fn__law_draw [.p (cVar 0), .v (cVar 4)]))])
noncomputable def fn__law_some : Fn := mkFn 5 c__law_some
noncomputable def c__law_start : En → OutS :=
  sRet (cLst [cLC (cIt (cVar 0)) (storeD 1) (cYes) (cBlt gInt [.p (cVar 1)]) [1], cC (.int 0), cC (.int 0), cC (.int 0), cC (.int 0)])
noncomputable def fn__law_start : Fn := mkFn 2 c__law_start
noncomputable def c__law_width : En → OutS :=
  sSeq (sSet 2 (cCall fn__law_pairs [.v (cVar 0)]))
  (sSeq (sSet 3 (cC (.int 0)))
  (sSeq (sFor (cIt (cVar 1)) (storeD 4) (sSeq (sIf (cB (cOp fGt (cBlt gLen [.p (cCall fn__law_near [.v (cVar 2), .v (cVar 4)])]) (cVar 3))) (sSet 3 (cBlt gLen [.p (cCall fn__law_near [.v (cVar 2), .v (cVar 4)])])) (sNext))
  (sSet 2 (cCall fn__law_taken [.v (cVar 2), .v (cVar 4)]))))
  (sRet (cVar 3))))
noncomputable def fn__law_width : Fn := mkFn 5 c__law_width
noncomputable def c__law_word : En → OutS :=
  sSeq (sSet 1 (cC (.str "abcdefghijklmnopqrstuvwxyzABCDEFGHIJKLMNOPQRSTUVWXYZ0123456789_")))
  (sSeq (sSet 2 (cOp fAdd (cC (.int 1)) (cCall fn__law_draw [.p (cVar 0), .v (cC (.int 3))])))
  (sSeq (sIf (cB (cOp fEq (cCall fn__law_draw [.p (cVar 0), .v (cC (.int 5))]) (cC (.int 4)))) (sSet 2 (cOp fAdd (cC (.int 1)) (cCall fn__law_draw [.p (cVar 0), .v (cC (.int 20))]))) (sNext))
  (sRet (cJoin (cC (.str "")) (cLC (cRng1 (cVar 2)) (storeD 3) (cYes) (cOp fIx (cVar 1) (cCall fn__law_draw [.p (cVar 0), .v (cC (.int 63))])) [3])))))
noncomputable def fn__law_word : Fn := mkFn 4 c__law_word
noncomputable def c__law_pool : En → OutS :=
  sSeq (sSet 2 (cLst []))
  (sSeq (sFor (cRng1 (cVar 1)) (storeD 3) (sSeq (sSet 4 (cCall fn__law_word [.p (cVar 0)]))
  (sSeq (sSet 5 (cCall fn__law_draw [.p (cVar 0), .v (cC (.int 2))]))
  (sSeq (sSet 6 (cVar 4))
  (sSeq (sFor (cIt (cC (.str "abcdefghijkl"))) (storeD 7) (sIf (cB (cOp fIn (cVar 6) (cVar 2))) (sSeq (sSet 6 (cOp fAdd (cVar 7) (cSl (cVar 4) none (some (cC (.int 19))))))
  (sIf (cB (cOp fEq (cVar 5) (cC (.int 1)))) (sSet 6 (cOp fAdd (cSl (cVar 4) none (some (cC (.int 19)))) (cVar 7))) (sNext))) (sNext)))
  (sDrop (cAppend 2 (cVar 6))))))))
  (sRet (cVar 2)))
noncomputable def fn__law_pool : Fn := mkFn 8 c__law_pool
noncomputable def c__law_tables : En → OutS :=
  sSeq (sSet 3 (cCall fn__law_pool [.p (cVar 0), .v (cOp fAdd (cC (.int 1)) (cCall fn__law_draw [.p (cVar 0), .v (cVar 1)]))]))
  (sRet (cLC (cIt (cVar 3)) (storeD 4) (cYes) (cTup [cVar 4, cOp fAdd (cC (.int 1)) (cCall fn__law_draw [.p (cVar 0), .v (cVar 2)])]) [4]))
noncomputable def fn__law_tables : Fn := mkFn 5 c__law_tables
noncomputable def c__law_two_tables : En → OutS :=
  sSeq (sSet 1 (cTup [cOp fAdd (cC (.str "M")) (cBlt gStr [.p (cCall fn__law_draw [.p (cVar 0), .v (cC (.int 1000))])]), cC (.int 2)]))
  (sSeq (sSet 2 (cTup [cOp fAdd (cOp fIx (cC (.str "AT")) (cCall fn__law_draw [.p (cVar 0), .v (cC (.int 2))])) (cBlt gStr [.p (cCall fn__law_draw [.p (cVar 0), .v (cC (.int 1000))])]), cOp fAdd (cC (.int 1)) (cCall fn__law_draw [.p (cVar 0), .v (cC (.int 2))])]))
  (sRet (cSl (cLst [cVar 1, cVar 2]) none (some (cOp fAdd (cC (.int 1)) (cCall fn__law_draw [.p (cVar 0), .v (cC (.int 2))]))))))
noncomputable def fn__law_two_tables : Fn := mkFn 3 c__law_two_tables
noncomputable def c__law_world : En → OutS :=
  sSeq (sIf (cB (cOp fEq (cCall fn__law_draw [.p (cVar 0), .v (cC (.int 4))]) (cC (.int 3)))) (sRet (cCall fn__law_tables [.p (cVar 0), .v (cC (.int 3)), .v (cC (.int 4))])) (sNext))
  (sRet (cCall fn__law_two_tables [.p (cVar 0)]))
noncomputable def fn__law_world : Fn := mkFn 1 c__law_world
noncomputable def c_fewest_neighbours : En → OutS :=
  sSeq (sSet 1 (cNeg (cC (.int 1))))
  (sSeq (sSet 2 (cC (.int 0)))
  (sSeq (sForD 0 (storeD 3) (sIf (cOr (cB (cOp fEq (cVar 1) (cNeg (cC (.int 1))))) (cB (cOp fLt (cBlt gLen [.p (cOp fIx (cVar 0) (cVar 3))]) (cVar 2)))) (sSeq (sSet 1 (cVar 3))
  (sSet 2 (cBlt gLen [.p (cOp fIx (cVar 0) (cVar 3))]))) (sNext)))
  (sRet (cVar 1))))
noncomputable def fn_fewest_neighbours : Fn := mkFn 4 c_fewest_neighbours
noncomputable def c_quick_order : En → OutS :=
  sSeq (sSet 1 (cCall fn_neighbour_lists [.v (cVar 0)]))
  (sSeq (sSet 2 (cLst []))
  (sSeq (sWhile (cB (cOp fGt (cBlt gLen [.p (cVar 1)]) (cC (.int 0)))) (sSeq (sSet 3 (cCall fn_fewest_neighbours [.v (cVar 1)]))
  (sSeq (sDrop (cAppend 2 (cVar 3)))
  (sSet 1 (cCall fn_without_value [.v (cVar 1), .v (cVar 3)])))))
  (sRet (cVar 2))))
noncomputable def fn_quick_order : Fn := mkFn 4 c_quick_order
noncomputable def c_law : En → OutS :=
  sSeq (sSet 1 (cCall fn__law_start [.v (cVar 0)]))
  (sSeq (sSet 2 (cCall fn__law_world [.p (cVar 1)]))
  (sSeq (sSet 3 (cCall fn__law_draw [.p (cVar 1), .v (cC (.int 3))]))
  (sSeq (sSet 4 (cCall fn__law_some [.p (cVar 1), .v (cVar 2), .v (cVar 3), .v (cC (.int 6)), .v (cC (.int 8))]))
  (sSeq (sSet 5 (cCall fn__law_pattern [.v (cMake "Schema" fn_Schema_u__init_u_ [.v (cBlt gList [.p (cVar 2)])]), .v (cVar 4)]))
  (sSeq (sSet 6 (cCall fn__law_quick [.v (cVar 4)]))
  (sSeq (sSet 7 (cCall fn_quick_order [.v (cVar 5)]))
  (sSeq (sIf (cNot (cB (cCall fn__law_same [.p (cVar 7), .v (cVar 6)]))) (sRet (cC (.bl false))) (sNext))
  (sSeq (sDrop (cAppend 7 (cC (.int 0))))
  (sSeq (sIf (cOr (cNot (cB (cCall fn__law_same [.v (cCall fn_quick_order [.v (cVar 5)]), .v (cVar 6)]))) (cNot (cB (cCall fn__law_same [.v (cCall fn_order_width [.v (cVar 5), .v (cBlt gList [.p (cVar 6)])]), .v (cCall fn__law_width [.v (cVar 4), .v (cVar 6)])])))) (sRet (cC (.bl false))) (sNext))
  (sSeq (sSet 8 (cCall fn__law_shuffled [.p (cVar 1), .v (cCall fn__law_inner [.v (cVar 4)])]))
  (sSeq (sIf (cNot (cB (cCall fn__law_same [.v (cCall fn_order_width [.v (cVar 5), .v (cBlt gList [.p (cVar 8)])]), .v (cCall fn__law_width [.v (cVar 4), .v (cVar 8)])]))) (sRet (cC (.bl false))) (sNext))
  (sSeq (sIf (cAnd (cB (cOp fGt (cBlt gLen [.p (cVar 8)]) (cC (.int 0)))) (cNot (cB (cCall fn__law_refused [.v (cVar 5), .v (cSl (cVar 8) (some (cC (.int 1))) none), .v (cOp fIx (cVar 8) (cC (.int 0)))])))) (sRet (cC (.bl false))) (sNext))
  (sSeq (sIf (cAnd (cB (cOp fGt (cBlt gLen [.p (cVar 8)]) (cC (.int 0)))) (cNot (cB (cCall fn__law_refused [.v (cVar 5), .v (cOp fAdd (cVar 8) (cLst [cOp fIx (cVar 8) (cNeg (cC (.int 1)))])), .v (cOp fIx (cVar 8) (cNeg (cC (.int 1))))])))) (sRet (cC (.bl false))) (sNext))
  (sSeq (sIf (cAnd (cB (cOp fGt (cVar 3) (cC (.int 0)))) (cNot (cB (cCall fn__law_refused [.v (cVar 5), .v (cOp fAdd (cVar 8) (cLst [cOp fIx (cOp fIx (cVar 4) (cC (.int 1))) (cC (.int 0))])), .v (cOp fIx (cOp fIx (cVar 4) (cC (.int 1))) (cC (.int 0)))])))) (sRet (cC (.bl false))) (sNext))
  (sSeq (sSet 9 (cOp fAdd (cC (.int 4)) (cCall fn__law_draw [.p (cVar 1), .v (cC (.int 9))])))
  (sSeq (sSet 10 (cMake "Pattern" fn_Pattern_u__init_u_ [.v (cMake "Schema" fn_Schema_u__init_u_ [.v (cLst [cTup [cC (.str "E"), cC (.int 2)]])]), .v (cLC (cRng1 (cVar 9)) (storeD 11) (cYes) (cTup [cC (.str "E"), cVar 11, cOp fMod (cBlt gInt [.p (cOp fAdd (cVar 11) (cC (.int 1)))]) (cVar 9)]) [11]), .v (cTup [])]))
  (sSeq (sIf (cOr (cNot (cB (cCall fn__law_same [.v (cCall fn_quick_order [.v (cVar 10)]), .v (cLC (cRng1 (cVar 9)) (storeD 11) (cYes) (cVar 11) [11])]))) (cNot (cB (cCall fn__law_same [.v (cCall fn_order_width [.v (cVar 10), .v (cCall fn_quick_order [.v (cVar 10)])]), .v (cC (.int 2))])))) (sRet (cC (.bl false))) (sNext))
  (sRet (cCall fn__law_refused [.v (cVar 5), .v (cOp fAdd (cVar 8) (cLst [cOp fIx (cVar 4) (cC (.int 2))])), .v (cOp fIx (cVar 4) (cC (.int 2)))])))))))))))))))))))
noncomputable def fn_law : Fn := mkFn 12 c_law
/-! ### what is read off the start -/
def fs : List Fb := [bFa (.glo "_law_start"),
  bFa (.glo "_law_world"),
  bFa (.glo "_law_draw"),
  bFa (.glo "_law_some"),
  bFa (.free "list"),
  bFa (.mkr "Schema"),
  bFa (.glo "Schema"),
  bFa (.glo "_law_pattern"),
  bFa (.glo "_law_quick"),
  bFa (.glo "quick_order"),
  bFa (.glo "_law_same"),
  bFa (.glo "order_width"),
  bFa (.glo "_law_width"),
  bFa (.glo "_law_inner"),
  bFa (.glo "_law_shuffled"),
  bFa (.free "len"),
  bFa (.glo "_law_refused"),
  bFa (.free "int"),
  bFa (.free "range"),
  bFa (.mkr "Pattern"),
  bFa (.glo "Pattern"),
  bFa (.glo "check_row"),
  bFa (.glo "is_natural"),
  bCon "Pattern" "MAX_HEAD" 4,
  bFa (.glo "ascending"),
  bCon "Pattern" "MAX_ROWS" 600,
  bCon "Pattern" "MAX_VALUES" 300,
  bFa (.cls "Pattern"),
  bFa (.noat "Pattern" "schema"),
  bFa (.free "tuple"),
  bFa (.noat "Pattern" "rows"),
  bFa (.noat "Pattern" "head"),
  bFa (.noat "Pattern" "size"),
  bFa (.glo "merged"),
  bFa (.meth "Schema" "__contains__"),
  bFa (.meth "Schema" "__getitem__"),
  bFnIn "Schema" "__getitem__",
  bFa (.cls "Schema"),
  bFa (.noat "Schema" "names"),
  bFa (.noat "Schema" "widths"),
  bFa (.free "isinstance"),
  bFa (.free "bool"),
  bCon "Schema" "MAX_TABLES" 8,
  bFa (.glo "is_word"),
  bCon "Schema" "MAX_WIDTH" 4,
  bFa (.glo "is_integer"),
  bFa (.int "MAX_WORD" 20),
  bFa (.str "WORD_CHARACTERS" "ABCDEFGHIJKLMNOPQRSTUVWXYZabcdefghijklmnopqrstuvwxyz0123456789_"),
  bFa (.glo "_law_pairs"),
  bFa (.glo "_law_near"),
  bFa (.glo "_law_taken"),
  bFa (.glo "BadOrder"),
  bExc "BadOrder",
  bXf "BadOrder",
  bFa (.noat "BadOrder" "value"),
  bFa (.exm "BadOrder" "BadOrder" true),
  bFa (.glo "InputError"),
  bFa (.glo "TooLarge"),
  bKit "BadOrder" "InputError" true,
  bKit "BadOrder" "TooLarge" false,
  bFa (.free "str"),
  bFa (.glo "require_order"),
  bFa (.glo "neighbour_lists"),
  bFa (.glo "without_value"),
  bProp "Pattern" "inner",
  bFa (.glo "_law_random"),
  bFa (.glo "_law_row"),
  bFa (.glo "_law_close"),
  bFa (.glo "_law_sorted"),
  bFa (.glo "_law_tables"),
  bFa (.glo "_law_two_tables"),
  bFa (.glo "_law_pool"),
  bFa (.glo "_law_word"),
  bFa (.glo "fewest_neighbours"),
  bOex "BadOrder",
  bFa (.meth "BadOrder" "__init__"),
  bBase "InputError"]
def fnl : List Sim.DefA := [⟨fun K => (He.ga K "merged"), "merged", "merged", defArgs s_merged, defBody s_merged, defScope s_merged, [], []⟩,
  ⟨fun K => (He.ga K "ascending"), "ascending", "ascending", defArgs s_ascending, defBody s_ascending, defScope s_ascending, [], []⟩,
  ⟨fun K => (He.ma K (He.ga K "Schema") "__contains__"), "__contains__", "Schema.__contains__", defArgs s_Schema_u__contains_u_, defBody s_Schema_u__contains_u_, defScope s_Schema_u__contains_u_, [], []⟩,
  ⟨fun K => (He.ma K (He.ga K "Schema") "__getitem__"), "__getitem__", "Schema.__getitem__", defArgs s_Schema_u__getitem_u_, defBody s_Schema_u__getitem_u_, defScope s_Schema_u__getitem_u_, [], []⟩,
  ⟨fun K => (He.ga K "is_natural"), "is_natural", "is_natural", defArgs s_is_natural, defBody s_is_natural, defScope s_is_natural, [], []⟩,
  ⟨fun K => (He.ga K "check_row"), "check_row", "check_row", defArgs s_check_row, defBody s_check_row, defScope s_check_row, [], []⟩,
  ⟨fun K => (He.ma K (He.ga K "Pattern") "__init__"), "__init__", "Pattern.__init__", defArgs s_Pattern_u__init_u_, defBody s_Pattern_u__init_u_, defScope s_Pattern_u__init_u_, [], []⟩,
  ⟨fun K => (He.ga K "is_integer"), "is_integer", "is_integer", defArgs s_is_integer, defBody s_is_integer, defScope s_is_integer, [], []⟩,
  ⟨fun K => (He.ga K "is_word"), "is_word", "is_word", defArgs s_is_word, defBody s_is_word, defScope s_is_word, [], []⟩,
  ⟨fun K => (He.ma K (He.ga K "Schema") "__init__"), "__init__", "Schema.__init__", defArgs s_Schema_u__init_u_, defBody s_Schema_u__init_u_, defScope s_Schema_u__init_u_, [], []⟩,
  ⟨fun K => (He.ga K "_law_draw"), "_law_draw", "_law_draw", defArgs s__law_draw, defBody s__law_draw, defScope s__law_draw, [], []⟩,
  ⟨fun K => (He.ga K "_law_inner"), "_law_inner", "_law_inner", defArgs s__law_inner, defBody s__law_inner, defScope s__law_inner, [], []⟩,
  ⟨fun K => (He.ga K "_law_pattern"), "_law_pattern", "_law_pattern", defArgs s__law_pattern, defBody s__law_pattern, defScope s__law_pattern, [], []⟩,
  ⟨fun K => (He.ga K "_law_near"), "_law_near", "_law_near", defArgs s__law_near, defBody s__law_near, defScope s__law_near, [], []⟩,
  ⟨fun K => (He.ga K "_law_pairs"), "_law_pairs", "_law_pairs", defArgs s__law_pairs, defBody s__law_pairs, defScope s__law_pairs, [], []⟩,
  ⟨fun K => (He.ga K "_law_taken"), "_law_taken", "_law_taken", defArgs s__law_taken, defBody s__law_taken, defScope s__law_taken, [], []⟩,
  ⟨fun K => (He.ga K "_law_quick"), "_law_quick", "_law_quick", defArgs s__law_quick, defBody s__law_quick, defScope s__law_quick, [], []⟩,
  ⟨fun K => (He.ga K "_law_same"), "_law_same", "_law_same", defArgs s__law_same, defBody s__law_same, defScope s__law_same, [], []⟩,
  ⟨fun K => (pga K "Pattern" "inner"), "inner", "Pattern.inner", defArgs s_Pattern_inner, defBody s_Pattern_inner, defScope s_Pattern_inner, [], []⟩,
  ⟨fun K => (He.ga K "neighbour_lists"), "neighbour_lists", "neighbour_lists", defArgs s_neighbour_lists, defBody s_neighbour_lists, defScope s_neighbour_lists, [], []⟩,
  ⟨fun K => (He.ga K "require_order"), "require_order", "require_order", defArgs s_require_order, defBody s_require_order, defScope s_require_order, [], []⟩,
  ⟨fun K => (He.ga K "without_value"), "without_value", "without_value", defArgs s_without_value, defBody s_without_value, defScope s_without_value, [], []⟩,
  ⟨fun K => (He.ga K "order_width"), "order_width", "order_width", defArgs s_order_width, defBody s_order_width, defScope s_order_width, [], []⟩,
  ⟨fun K => (He.ga K "_law_refused"), "_law_refused", "_law_refused", defArgs s__law_refused, defBody s__law_refused, defScope s__law_refused, [], []⟩,
  ⟨fun K => (He.ga K "_law_shuffled"), "_law_shuffled", "_law_shuffled", defArgs s__law_shuffled, defBody s__law_shuffled, defScope s__law_shuffled, [], []⟩,
  ⟨fun K => (He.ga K "_law_sorted"), "_law_sorted", "_law_sorted", defArgs s__law_sorted, defBody s__law_sorted, defScope s__law_sorted, [], []⟩,
  ⟨fun K => (He.ga K "_law_close"), "_law_close", "_law_close", defArgs s__law_close, defBody s__law_close, defScope s__law_close, [], []⟩,
  ⟨fun K => (He.ga K "_law_row"), "_law_row", "_law_row", defArgs s__law_row, defBody s__law_row, defScope s__law_row, [], []⟩,
  ⟨fun K => (He.ga K "_law_random"), "_law_random", "_law_random", defArgs s__law_random, defBody s__law_random, defScope s__law_random, [], []⟩,
  ⟨fun K => (He.ga K "_law_some"), "_law_some", "_law_some", defArgs s__law_some, defBody s__law_some, defScope s__law_some, [], []⟩,
  ⟨fun K => (He.ga K "_law_start"), "_law_start", "_law_start", defArgs s__law_start, defBody s__law_start, defScope s__law_start, [], []⟩,
  ⟨fun K => (He.ga K "_law_width"), "_law_width", "_law_width", defArgs s__law_width, defBody s__law_width, defScope s__law_width, [], []⟩,
  ⟨fun K => (He.ga K "_law_word"), "_law_word", "_law_word", defArgs s__law_word, defBody s__law_word, defScope s__law_word, [], []⟩,
  ⟨fun K => (He.ga K "_law_pool"), "_law_pool", "_law_pool", defArgs s__law_pool, defBody s__law_pool, defScope s__law_pool, [], []⟩,
  ⟨fun K => (He.ga K "_law_tables"), "_law_tables", "_law_tables", defArgs s__law_tables, defBody s__law_tables, defScope s__law_tables, [], []⟩,
  ⟨fun K => (He.ga K "_law_two_tables"), "_law_two_tables", "_law_two_tables", defArgs s__law_two_tables, defBody s__law_two_tables, defScope s__law_two_tables, [], []⟩,
  ⟨fun K => (He.ga K "_law_world"), "_law_world", "_law_world", defArgs s__law_world, defBody s__law_world, defScope s__law_world, [], []⟩,
  ⟨fun K => (He.ga K "fewest_neighbours"), "fewest_neighbours", "fewest_neighbours", defArgs s_fewest_neighbours, defBody s_fewest_neighbours, defScope s_fewest_neighbours, [], []⟩,
  ⟨fun K => (He.ga K "quick_order"), "quick_order", "quick_order", defArgs s_quick_order, defBody s_quick_order, defScope s_quick_order, [], []⟩,
  ⟨fun K => (He.ga K "law"), "law", "law", defArgs s_law, defBody s_law, defScope s_law, [], []⟩,
  ⟨fun K => (He.ma K (He.ga K "BadOrder") "__init__"), "__init__", "BadOrder.__init__", defArgs s_BadOrder_u__init_u_, defBody s_BadOrder_u__init_u_, defScope s_BadOrder_u__init_u_, [], []⟩]
/-! ### derivations -/
section
variable {P : Program} {w : World} {K : PySem.W.Frag} {mg : Mg} {base : Heap}
theorem sc_BadOrder_u__init_u_ : FnScope ["self", "value"] ["self", "value"] (defScope s_BadOrder_u__init_u_) := ⟨rfl, rfl, rfl, by decide +kernel, rfl, by decide +kernel, by decide +kernel⟩
theorem ex_BadOrder (Z : Tx fs fnl K mg) : ExX P w K mg base "BadOrder" "value" (He.ga K "BadOrder") (He.ma K (He.ga K "BadOrder") "__init__") := exX_of (Z.glo 51) (Z.oex 74) (Z.meth 75) (Z.base 76) (Z.glo 56) (Z.noat 54) (Z.def_ 40) sc_BadOrder_u__init_u_ rfl (fun _ => ⟨_, rfl⟩) rfl (by decide) (by decide) (by decide) (fun _ _ _ _ _ _ us hl => match us, hl with | [_, _], _ => rfl)
theorem sc_merged : FnScope ["first", "second", "result", "place", "item"] ["first", "second"] (defScope s_merged) := ⟨rfl, rfl, rfl, by decide +kernel, rfl, by decide +kernel, by decide +kernel⟩
theorem sb_merged (Z : Tx fs fnl K mg) {f : Addr} {cdv : Value} {A : Around} {outer : List Env} {s : Shared} {H : Hp} {E : XK} (hr : Room 0 (A.deeper (envOfC "merged" (defScope s_merged) s.heap.objs.size f cdv))) : SB (cxOf (L2N.CX P w) P w K mg base ["first", "second", "result", "place", "item"] "merged" (defScope s_merged) f cdv A outer s H E) (WD E) (defBody s_merged) c_merged := by
  have S := sc_merged
  have hu : U (cxOf (L2N.CX P w) P w K mg base ["first", "second", "result", "place", "item"] "merged" (defScope s_merged) f cdv A outer s H E) := Room.u hr
  exact (sb_cons (ss_set S.nd rfl (loc_ok rfl) (se_lst sa_nil))
    (sb_cons (ss_set S.nd rfl (loc_ok rfl) se_int)
    (sb_cons (ss_for owns_cx rfl (si_val (se_var 0 rfl (vis_ok rfl))) (sg_name S.nd rfl (loc_ok rfl)) (sb_cons (ss_while owns_cx (st_sw (sw_and (st_cmp (op_lt' hu) (se_var 3 rfl (vis_ok rfl)) (se_blt cd_len (by exact rfl) (Z.free 15) bt_len (sas_cons (ag_p (se_var 1 rfl (vis_ok rfl))) sas_nil))) (sw_and1 (st_cmp (op_lt' hu) (se_ix (op_ix' hu) (se_var 1 rfl (vis_ok rfl)) (se_var 3 rfl (vis_ok rfl))) (se_var 4 rfl (vis_ok rfl)))))) (sb_cons (ss_expr (se_append (i := 2) (n := "result") rfl (vis_ok rfl) (se_ix (op_ix' hu) (se_var 1 rfl (vis_ok rfl)) (se_var 3 rfl (vis_ok rfl)))))
    (sb_one (ss_set S.nd rfl (loc_ok rfl) (se_bin op_add' (se_var 3 rfl (vis_ok rfl)) se_int)))))
    (sb_one (ss_expr (se_append (i := 2) (n := "result") rfl (vis_ok rfl) (se_var 4 rfl (vis_ok rfl)))))))
    (sb_one (ss_ret (se_bin op_add' (se_var 2 rfl (vis_ok rfl)) (se_slice (se_var 1 rfl (vis_ok rfl)) (so_some (se_var 3 rfl (vis_ok rfl))) so_none)))))))
theorem ok_merged (Z : Tx fs fnl K mg) : FnX P w K mg base 1 (He.ga K "merged") 2 fn_merged := fnX_of (Z.def_ 0) sc_merged (by decide) rfl (fun _ _ _ _ _ _ us hl => match us, hl with | [_, _], _ => rfl) fun cdv A outer s H E hr => sb_merged Z hr
theorem sc_ascending : FnScope ["things", "runs", "result", "run", "joined", "thing", "at"] ["things"] (defScope s_ascending) := ⟨rfl, rfl, rfl, by decide +kernel, rfl, by decide +kernel, by decide +kernel⟩
theorem sb_ascending (Z : Tx fs fnl K mg) {f : Addr} {cdv : Value} {A : Around} {outer : List Env} {s : Shared} {H : Hp} {E : XK} (hr : Room 1 (A.deeper (envOfC "ascending" (defScope s_ascending) s.heap.objs.size f cdv))) : SB (cxOf (L2N.CX P w) P w K mg base ["things", "runs", "result", "run", "joined", "thing", "at"] "ascending" (defScope s_ascending) f cdv A outer s H E) (WD E) (defBody s_ascending) c_ascending := by
  have S := sc_ascending
  have hu : U (cxOf (L2N.CX P w) P w K mg base ["things", "runs", "result", "run", "joined", "thing", "at"] "ascending" (defScope s_ascending) f cdv A outer s H E) := Room.u hr
  exact (sb_cons (ss_set S.nd rfl (loc_ok rfl) (se_lc rfl S.nd (si_val (se_var 0 rfl (vis_ok rfl))) (blkOk_by (own := [("thing", 5)]) rfl) (fun s H C cl fp => (sg_name S.nd rfl (loc_ok rfl))) (fun s H C cl fp => si_nil) (fun s H C cl fp => (se_lst (sa_cons (se_var 5 rfl (vis_ok rfl)) sa_nil)))))
    (sb_cons (ss_while owns_cx (st_cmp op_gt' (se_blt cd_len (by exact rfl) (Z.free 15) bt_len (sas_cons (ag_p (se_var 1 rfl (vis_ok rfl))) sas_nil)) se_int) (sb_cons (ss_setLc rfl S.nd rfl rfl (sw_true rfl rfl rfl rfl) (si_range3 (by exact rfl) (Z.free 18) se_int (se_bin op_sub' (se_blt cd_len (by exact rfl) (Z.free 15) bt_len (sas_cons (ag_p (se_var 1 rfl (vis_ok rfl))) sas_nil)) se_int) se_int) (blkOk_by (own := [("at", 6)]) rfl) (fun s H C cl fp => (sg_name S.nd rfl (loc_ok rfl))) (fun s H C cl fp => si_nil) (fun s H C cl fp => (se_call takes_w0 ((ok_merged Z).at hr) (by exact rfl) (Z.glo 33) (sas_cons (ag_v (se_ix (op_ix' hu) (se_var 1 rfl (vis_ok rfl)) (se_var 6 rfl (vis_ok rfl)))) (sas_cons (ag_v (se_ix (op_ix' hu) (se_var 1 rfl (vis_ok rfl)) (se_bin op_add' (se_var 6 rfl (vis_ok rfl)) se_int))) sas_nil)))))
    (sb_cons (ss_if (st_cmp (op_eq' hu) (se_bin op_mod' (se_blt cd_len (by exact rfl) (Z.free 15) bt_len (sas_cons (ag_p (se_var 1 rfl (vis_ok rfl))) sas_nil)) se_int) se_int) (sb_one (ss_expr (se_append (i := 4) (n := "joined") rfl (vis_ok rfl) (se_ix (op_ix' hu) (se_var 1 rfl (vis_ok rfl)) (se_neg se_int))))) sb_nil)
    (sb_one (ss_set S.nd rfl (loc_ok rfl) (se_var 4 rfl (vis_ok rfl)))))))
    (sb_cons (ss_set S.nd rfl (loc_ok rfl) (se_lst sa_nil))
    (sb_cons (ss_for owns_cx rfl (si_val (se_var 1 rfl (vis_ok rfl))) (sg_name S.nd rfl (loc_ok rfl)) (sb_one (ss_for owns_cx rfl (si_val (se_var 3 rfl (vis_ok rfl))) (sg_name S.nd rfl (loc_ok rfl)) (sb_one (ss_if (st_sw (sw_or (st_cmp (op_eq' hu) (se_blt cd_len (by exact rfl) (Z.free 15) bt_len (sas_cons (ag_p (se_var 2 rfl (vis_ok rfl))) sas_nil)) se_int) (sw_or1 (st_cmp (op_ne' hu) (se_ix (op_ix' hu) (se_var 2 rfl (vis_ok rfl)) (se_neg se_int)) (se_var 5 rfl (vis_ok rfl)))))) (sb_one (ss_expr (se_append (i := 2) (n := "result") rfl (vis_ok rfl) (se_var 5 rfl (vis_ok rfl))))) sb_nil)))))
    (sb_one (ss_ret (se_var 2 rfl (vis_ok rfl))))))))
theorem ok_ascending (Z : Tx fs fnl K mg) : FnX P w K mg base 2 (He.ga K "ascending") 1 fn_ascending := fnX_of (Z.def_ 1) sc_ascending (by decide) rfl (fun _ _ _ _ _ _ us hl => match us, hl with | [_], _ => rfl) fun cdv A outer s H E hr => sb_ascending Z hr
theorem sc_Schema_u__contains_u_ : FnScope ["self", "name"] ["self", "name"] (defScope s_Schema_u__contains_u_) := ⟨rfl, rfl, rfl, by decide +kernel, rfl, by decide +kernel, by decide +kernel⟩
theorem sb_Schema_u__contains_u_ (Z : Tx fs fnl K mg) {f : Addr} {cdv : Value} {A : Around} {outer : List Env} {s : Shared} {H : Hp} {E : XK} (hr : Room 0 (A.deeper (envOfC "Schema.__contains__" (defScope s_Schema_u__contains_u_) s.heap.objs.size f cdv))) : SB (cxOf (L2N.CX P w) P w K mg base ["self", "name"] "Schema.__contains__" (defScope s_Schema_u__contains_u_) f cdv A outer s H E) (WD E) (defBody s_Schema_u__contains_u_) c_Schema_u__contains_u_ := by
  have S := sc_Schema_u__contains_u_
  have hu : U (cxOf (L2N.CX P w) P w K mg base ["self", "name"] "Schema.__contains__" (defScope s_Schema_u__contains_u_) f cdv A outer s H E) := Room.u hr
  exact (sb_one (ss_ret (se_cmp (op_in' hu) (se_var 1 rfl (vis_ok rfl)) (se_fld (se_var 0 rfl (vis_ok rfl)) (Z.glo 6) (Z.cls 37) (Z.noat 38)))))
theorem ok_Schema_u__contains_u_ (Z : Tx fs fnl K mg) : FnX P w K mg base 1 (He.ma K (He.ga K "Schema") "__contains__") 2 fn_Schema_u__contains_u_ := fnX_of (Z.def_ 2) sc_Schema_u__contains_u_ (by decide) rfl (fun _ _ _ _ _ _ us hl => match us, hl with | [_, _], _ => rfl) fun cdv A outer s H E hr => sb_Schema_u__contains_u_ Z hr
theorem sc_Schema_u__getitem_u_ : FnScope ["self", "name"] ["self", "name"] (defScope s_Schema_u__getitem_u_) := ⟨rfl, rfl, rfl, by decide +kernel, rfl, by decide +kernel, by decide +kernel⟩
theorem sb_Schema_u__getitem_u_ (Z : Tx fs fnl K mg) {f : Addr} {cdv : Value} {A : Around} {outer : List Env} {s : Shared} {H : Hp} {E : XK} (hr : Room 0 (A.deeper (envOfC "Schema.__getitem__" (defScope s_Schema_u__getitem_u_) s.heap.objs.size f cdv))) : SB (cxOf (L2N.CX P w) P w K mg base ["self", "name"] "Schema.__getitem__" (defScope s_Schema_u__getitem_u_) f cdv A outer s H E) (WD E) (defBody s_Schema_u__getitem_u_) c_Schema_u__getitem_u_ := by
  have S := sc_Schema_u__getitem_u_
  have hu : U (cxOf (L2N.CX P w) P w K mg base ["self", "name"] "Schema.__getitem__" (defScope s_Schema_u__getitem_u_) f cdv A outer s H E) := Room.u hr
  exact (sb_cons (ss_if (st_cmp (op_notIn' hu) (se_var 1 rfl (vis_ok rfl)) (se_fld (se_var 0 rfl (vis_ok rfl)) (Z.glo 6) (Z.cls 37) (Z.noat 38))) (sb_one ss_never) sb_nil)
    (sb_one (ss_ret (se_ix (op_ix' hu) (se_fld (se_var 0 rfl (vis_ok rfl)) (Z.glo 6) (Z.cls 37) (Z.noat 39)) (se_var 1 rfl (vis_ok rfl))))))
theorem ok_Schema_u__getitem_u_ (Z : Tx fs fnl K mg) : FnX P w K mg base 1 (He.ma K (He.ga K "Schema") "__getitem__") 2 fn_Schema_u__getitem_u_ := fnX_of (Z.def_ 3) sc_Schema_u__getitem_u_ (by decide) rfl (fun _ _ _ _ _ _ us hl => match us, hl with | [_, _], _ => rfl) fun cdv A outer s H E hr => sb_Schema_u__getitem_u_ Z hr
theorem sc_is_natural : FnScope ["value"] ["value"] (defScope s_is_natural) := ⟨rfl, rfl, rfl, by decide +kernel, rfl, by decide +kernel, by decide +kernel⟩
theorem sb_is_natural (Z : Tx fs fnl K mg) {f : Addr} {cdv : Value} {A : Around} {outer : List Env} {s : Shared} {H : Hp} {E : XK} (hr : Room 0 (A.deeper (envOfC "is_natural" (defScope s_is_natural) s.heap.objs.size f cdv))) : SB (cxOf (L2N.CX P w) P w K mg base ["value"] "is_natural" (defScope s_is_natural) f cdv A outer s H E) (WD E) (defBody s_is_natural) c_is_natural := by
  have S := sc_is_natural
  have hu : U (cxOf (L2N.CX P w) P w K mg base ["value"] "is_natural" (defScope s_is_natural) f cdv A outer s H E) := Room.u hr
  exact (sb_one (ss_ret (se_and (se_isi is_b (.ty _) (pe_bltn (by exact rfl) (Z.free 17) bt_int rfl) (by exact rfl) (Z.free 40) (se_var 0 rfl (vis_ok rfl))) (se_and (se_not (se_isi is_b (.ty _) (pe_bltn (by exact rfl) (Z.free 41) bt_bool rfl) (by exact rfl) (Z.free 40) (se_var 0 rfl (vis_ok rfl)))) (se_one (se_cmp op_ge' (se_var 0 rfl (vis_ok rfl)) se_int))))))
theorem ok_is_natural (Z : Tx fs fnl K mg) : FnX P w K mg base 1 (He.ga K "is_natural") 1 fn_is_natural := fnX_of (Z.def_ 4) sc_is_natural (by decide) rfl (fun _ _ _ _ _ _ us hl => match us, hl with | [_], _ => rfl) fun cdv A outer s H E hr => sb_is_natural Z hr
theorem sc_check_row : FnScope ["schema", "row", "value"] ["schema", "row"] (defScope s_check_row) := ⟨rfl, rfl, rfl, by decide +kernel, rfl, by decide +kernel, by decide +kernel⟩
theorem sb_check_row (Z : Tx fs fnl K mg) {f : Addr} {cdv : Value} {A : Around} {outer : List Env} {s : Shared} {H : Hp} {E : XK} (hr : Room 2 (A.deeper (envOfC "check_row" (defScope s_check_row) s.heap.objs.size f cdv))) : SB (cxOf (L2N.CX P w) P w K mg base ["schema", "row", "value"] "check_row" (defScope s_check_row) f cdv A outer s H E) (WD E) (defBody s_check_row) c_check_row := by
  have S := sc_check_row
  have hu : U (cxOf (L2N.CX P w) P w K mg base ["schema", "row", "value"] "check_row" (defScope s_check_row) f cdv A outer s H E) := Room.u hr
  exact (sb_cons (ss_if (st_ownNotIn (Z.glo 6) (Meth.own (Z.meth 34)) ((ok_Schema_u__contains_u_ Z).at hr) (se_ix (op_ix' hu) (se_var 1 rfl (vis_ok rfl)) se_int) (se_var 0 rfl (vis_ok rfl))) (sb_one ss_never) sb_nil)
    (sb_cons (ss_if (st_cmp (op_ne' hu) (se_bin op_sub' (se_blt cd_len (by exact rfl) (Z.free 15) bt_len (sas_cons (ag_p (se_var 1 rfl (vis_ok rfl))) sas_nil)) se_int) (se_ownIx (Z.glo 6) (Meth.own (Z.meth 35)) (Z.fnIn 36) ((ok_Schema_u__getitem_u_ Z).at1 hr) (se_var 0 rfl (vis_ok rfl)) (se_ix (op_ix' hu) (se_var 1 rfl (vis_ok rfl)) se_int))) (sb_one ss_never) sb_nil)
    (sb_one (ss_for owns_cx rfl (si_val (se_slice (se_var 1 rfl (vis_ok rfl)) (so_some se_int) so_none)) (sg_name S.nd rfl (loc_ok rfl)) (sb_one (ss_if (st_not (st_val (se_call xe_cx ((ok_is_natural Z).at hr) (by exact rfl) (Z.glo 22) (sas_cons (ag_v (se_var 2 rfl (vis_ok rfl))) sas_nil)))) (sb_one ss_never) sb_nil))))))
theorem ok_check_row (Z : Tx fs fnl K mg) : FnX P w K mg base 3 (He.ga K "check_row") 2 fn_check_row := fnX_of (Z.def_ 5) sc_check_row (by decide) rfl (fun _ _ _ _ _ _ us hl => match us, hl with | [_, _], _ => rfl) fun cdv A outer s H E hr => sb_check_row Z hr
theorem sc_Pattern_u__init_u_ : FnScope ["self", "schema", "rows", "head", "row", "value", "ordered", "used"] ["self", "schema", "rows", "head"] (defScope s_Pattern_u__init_u_) := ⟨rfl, rfl, rfl, by decide +kernel, rfl, by decide +kernel, by decide +kernel⟩
theorem sb_Pattern_u__init_u_ (Z : Tx fs fnl K mg) {f : Addr} {cdv : Value} {A : Around} {outer : List Env} {s : Shared} {H : Hp} {E : XK} (hr : Room 3 (A.deeper (envOfC "Pattern.__init__" (defScope s_Pattern_u__init_u_) s.heap.objs.size f cdv))) : SB (cxOf (L2N.CX P w) P w K mg base ["self", "schema", "rows", "head", "row", "value", "ordered", "used"] "Pattern.__init__" (defScope s_Pattern_u__init_u_) f cdv A outer s H E) (WD E) (defBody s_Pattern_u__init_u_) c_Pattern_u__init_u_ := by
  have S := sc_Pattern_u__init_u_
  have hu : U (cxOf (L2N.CX P w) P w K mg base ["self", "schema", "rows", "head", "row", "value", "ordered", "used"] "Pattern.__init__" (defScope s_Pattern_u__init_u_) f cdv A outer s H E) := Room.u hr
  exact (sb_cons (ss_for owns_cx rfl (si_val (se_var 2 rfl (vis_ok rfl))) (sg_name S.nd rfl (loc_ok rfl)) (sb_one (ss_expr (se_call xe_cx ((ok_check_row Z).at hr) (by exact rfl) (Z.glo 21) (sas_cons (ag_v (se_var 1 rfl (vis_ok rfl))) (sas_cons (ag_v (se_var 4 rfl (vis_ok rfl))) sas_nil))))))
    (sb_cons (ss_for owns_cx rfl (si_val (se_var 3 rfl (vis_ok rfl))) (sg_name S.nd rfl (loc_ok rfl)) (sb_one (ss_if (st_not (st_val (se_call xe_cx ((ok_is_natural Z).at hr) (by exact rfl) (Z.glo 22) (sas_cons (ag_v (se_var 5 rfl (vis_ok rfl))) sas_nil)))) (sb_one ss_never) sb_nil)))
    (sb_cons (ss_if (st_cmp op_gt' (se_blt cd_len (by exact rfl) (Z.free 15) bt_len (sas_cons (ag_p (se_var 3 rfl (vis_ok rfl))) sas_nil)) (se_cval (d := .int 4) (by exact rfl) (Z.glo 20) (Z.con 23).1 (Z.con 23).2.choose_spec rfl)) (sb_one ss_never) sb_nil)
    (sb_cons (ss_set S.nd rfl (loc_ok rfl) (se_call xe_cx ((ok_ascending Z).at hr) (by exact rfl) (Z.glo 24) (sas_cons (ag_v (se_var 2 rfl (vis_ok rfl))) sas_nil)))
    (sb_cons (ss_if (st_cmp op_gt' (se_blt cd_len (by exact rfl) (Z.free 15) bt_len (sas_cons (ag_p (se_var 6 rfl (vis_ok rfl))) sas_nil)) (se_cval (d := .int 600) (by exact rfl) (Z.glo 20) (Z.con 25).1 (Z.con 25).2.choose_spec rfl)) (sb_one ss_never) sb_nil)
    (sb_cons (ss_set S.nd rfl (loc_ok rfl) se_dnewK)
    (sb_cons (ss_for owns_cx rfl (si_val (se_var 3 rfl (vis_ok rfl))) (sg_name S.nd rfl (loc_ok rfl)) (sb_one (ss_setIx (i := 7) (n := "used") hu rfl (vis_ok rfl) se_bl (se_var 5 rfl (vis_ok rfl)))))
    (sb_cons (ss_for owns_cx rfl (si_val (se_var 6 rfl (vis_ok rfl))) (sg_name S.nd rfl (loc_ok rfl)) (sb_one (ss_for owns_cx rfl (si_val (se_slice (se_var 4 rfl (vis_ok rfl)) (so_some se_int) so_none)) (sg_name S.nd rfl (loc_ok rfl)) (sb_one (ss_setIx (i := 7) (n := "used") hu rfl (vis_ok rfl) se_bl (se_var 5 rfl (vis_ok rfl)))))))
    (sb_cons (ss_if (st_cmp op_gt' (se_blt cd_len (by exact rfl) (Z.free 15) bt_len (sas_cons (ag_p (se_var 7 rfl (vis_ok rfl))) sas_nil)) (se_cval (d := .int 300) (by exact rfl) (Z.glo 20) (Z.con 26).1 (Z.con 26).2.choose_spec rfl)) (sb_one ss_never) sb_nil)
    (sb_cons (ss_for owns_cx rfl (si_range1 (by exact rfl) (Z.free 18) (se_blt cd_len (by exact rfl) (Z.free 15) bt_len (sas_cons (ag_p (se_var 7 rfl (vis_ok rfl))) sas_nil))) (sg_name S.nd rfl (loc_ok rfl)) (sb_one (ss_if (st_cmp (op_notIn' hu) (se_var 5 rfl (vis_ok rfl)) (se_var 7 rfl (vis_ok rfl))) (sb_one ss_never) sb_nil)))
    (sb_cons (ss_fld (i := 0) (n := "self") rfl (vis_ok rfl) (se_var 1 rfl (vis_ok rfl)) (Z.glo 20) (Z.cls 27) (Z.noat 28))
    (sb_cons (ss_fld (i := 0) (n := "self") rfl (vis_ok rfl) (se_cty cd_tuple (by exact rfl) (Z.free 29) bt_tuple (sas_cons (ag_p (se_var 6 rfl (vis_ok rfl))) sas_nil)) (Z.glo 20) (Z.cls 27) (Z.noat 30))
    (sb_cons (ss_fld (i := 0) (n := "self") rfl (vis_ok rfl) (se_cty cd_tuple (by exact rfl) (Z.free 29) bt_tuple (sas_cons (ag_p (se_var 3 rfl (vis_ok rfl))) sas_nil)) (Z.glo 20) (Z.cls 27) (Z.noat 31))
    (sb_one (ss_fld (i := 0) (n := "self") rfl (vis_ok rfl) (se_blt cd_len (by exact rfl) (Z.free 15) bt_len (sas_cons (ag_p (se_var 7 rfl (vis_ok rfl))) sas_nil)) (Z.glo 20) (Z.cls 27) (Z.noat 32))))))))))))))))
theorem ok_Pattern_u__init_u_ (Z : Tx fs fnl K mg) : FnX P w K mg base 4 (He.ma K (He.ga K "Pattern") "__init__") 4 fn_Pattern_u__init_u_ := fnX_of (Z.def_ 6) sc_Pattern_u__init_u_ (by decide) rfl (fun _ _ _ _ _ _ us hl => match us, hl with | [_, _, _, _], _ => rfl) fun cdv A outer s H E hr => sb_Pattern_u__init_u_ Z hr
theorem sc_is_integer : FnScope ["value", "least", "most"] ["value", "least", "most"] (defScope s_is_integer) := ⟨rfl, rfl, rfl, by decide +kernel, rfl, by decide +kernel, by decide +kernel⟩
theorem sb_is_integer (Z : Tx fs fnl K mg) {f : Addr} {cdv : Value} {A : Around} {outer : List Env} {s : Shared} {H : Hp} {E : XK} (hr : Room 0 (A.deeper (envOfC "is_integer" (defScope s_is_integer) s.heap.objs.size f cdv))) : SB (cxOf (L2N.CX P w) P w K mg base ["value", "least", "most"] "is_integer" (defScope s_is_integer) f cdv A outer s H E) (WD E) (defBody s_is_integer) c_is_integer := by
  have S := sc_is_integer
  have hu : U (cxOf (L2N.CX P w) P w K mg base ["value", "least", "most"] "is_integer" (defScope s_is_integer) f cdv A outer s H E) := Room.u hr
  exact (sb_one (ss_ret (se_and (se_isi is_b (.ty _) (pe_bltn (by exact rfl) (Z.free 17) bt_int rfl) (by exact rfl) (Z.free 40) (se_var 0 rfl (vis_ok rfl))) (se_and (se_not (se_isi is_b (.ty _) (pe_bltn (by exact rfl) (Z.free 41) bt_bool rfl) (by exact rfl) (Z.free 40) (se_var 0 rfl (vis_ok rfl)))) (se_one (se_chain op_le' op_le' (se_var 1 rfl (vis_ok rfl)) (se_var 0 rfl (vis_ok rfl)) (se_var 2 rfl (vis_ok rfl))))))))
theorem ok_is_integer (Z : Tx fs fnl K mg) : FnX P w K mg base 1 (He.ga K "is_integer") 3 fn_is_integer := fnX_of (Z.def_ 7) sc_is_integer (by decide) rfl (fun _ _ _ _ _ _ us hl => match us, hl with | [_, _, _], _ => rfl) fun cdv A outer s H E hr => sb_is_integer Z hr
theorem sc_is_word : FnScope ["text", "char"] ["text"] (defScope s_is_word) := ⟨rfl, rfl, rfl, by decide +kernel, rfl, by decide +kernel, by decide +kernel⟩
theorem sb_is_word (Z : Tx fs fnl K mg) {f : Addr} {cdv : Value} {A : Around} {outer : List Env} {s : Shared} {H : Hp} {E : XK} (hr : Room 0 (A.deeper (envOfC "is_word" (defScope s_is_word) s.heap.objs.size f cdv))) : SB (cxOf (L2N.CX P w) P w K mg base ["text", "char"] "is_word" (defScope s_is_word) f cdv A outer s H E) (WD E) (defBody s_is_word) c_is_word := by
  have S := sc_is_word
  have hu : U (cxOf (L2N.CX P w) P w K mg base ["text", "char"] "is_word" (defScope s_is_word) f cdv A outer s H E) := Room.u hr
  exact (sb_cons (ss_if (st_not (st_chain op_le' op_le' se_int (se_blt cd_len (by exact rfl) (Z.free 15) bt_len (sas_cons (ag_p (se_var 0 rfl (vis_ok rfl))) sas_nil)) (se_glob (by exact rfl) (Z.int 46).choose_spec.1 (Z.int 46).choose_spec.2 rfl))) (sb_one (ss_ret se_bl)) sb_nil)
    (sb_cons (ss_for owns_cx rfl (si_val (se_var 0 rfl (vis_ok rfl))) (sg_name S.nd rfl (loc_ok rfl)) (sb_one (ss_if (st_cmp (op_notIn' hu) (se_var 1 rfl (vis_ok rfl)) (se_glob (by exact rfl) (Z.str 47).choose_spec.1 (Z.str 47).choose_spec.2 rfl)) (sb_one (ss_ret se_bl)) sb_nil)))
    (sb_one (ss_ret se_bl))))
theorem ok_is_word (Z : Tx fs fnl K mg) : FnX P w K mg base 1 (He.ga K "is_word") 1 fn_is_word := fnX_of (Z.def_ 8) sc_is_word (by decide) rfl (fun _ _ _ _ _ _ us hl => match us, hl with | [_], _ => rfl) fun cdv A outer s H E hr => sb_is_word Z hr
theorem sc_Schema_u__init_u_ : FnScope ["self", "tables", "known", "name", "width"] ["self", "tables"] (defScope s_Schema_u__init_u_) := ⟨rfl, rfl, rfl, by decide +kernel, rfl, by decide +kernel, by decide +kernel⟩
theorem sb_Schema_u__init_u_ (Z : Tx fs fnl K mg) {f : Addr} {cdv : Value} {A : Around} {outer : List Env} {s : Shared} {H : Hp} {E : XK} (hr : Room 2 (A.deeper (envOfC "Schema.__init__" (defScope s_Schema_u__init_u_) s.heap.objs.size f cdv))) : SB (cxOf (L2N.CX P w) P w K mg base ["self", "tables", "known", "name", "width"] "Schema.__init__" (defScope s_Schema_u__init_u_) f cdv A outer s H E) (WD E) (defBody s_Schema_u__init_u_) c_Schema_u__init_u_ := by
  have S := sc_Schema_u__init_u_
  have hu : U (cxOf (L2N.CX P w) P w K mg base ["self", "tables", "known", "name", "width"] "Schema.__init__" (defScope s_Schema_u__init_u_) f cdv A outer s H E) := Room.u hr
  exact (sb_cons (ss_if (st_cmp op_gt' (se_blt cd_len (by exact rfl) (Z.free 15) bt_len (sas_cons (ag_p (se_var 1 rfl (vis_ok rfl))) sas_nil)) (se_cval (d := .int 8) (by exact rfl) (Z.glo 6) (Z.con 42).1 (Z.con 42).2.choose_spec rfl)) (sb_one ss_never) sb_nil)
    (sb_cons (ss_set S.nd rfl (loc_ok rfl) se_dnewK)
    (sb_cons (ss_for owns_cx rfl (si_val (se_var 1 rfl (vis_ok rfl))) (sg_tup rfl (sgs_cons S.nd rfl (loc_ok rfl) (sgs_cons S.nd rfl (loc_ok rfl) sgs_nil))) (sb_cons (ss_if (st_not (st_val (se_call xe_cx ((ok_is_word Z).at hr) (by exact rfl) (Z.glo 43) (sas_cons (ag_v (se_var 3 rfl (vis_ok rfl))) sas_nil)))) (sb_one ss_never) sb_nil)
    (sb_cons (ss_if (st_not (st_val (se_call xe_cx ((ok_is_integer Z).at hr) (by exact rfl) (Z.glo 45) (sas_cons (ag_v (se_var 4 rfl (vis_ok rfl))) (sas_cons (ag_v se_int) (sas_cons (ag_v (se_cval (d := .int 4) (by exact rfl) (Z.glo 6) (Z.con 44).1 (Z.con 44).2.choose_spec rfl)) sas_nil)))))) (sb_one ss_never) sb_nil)
    (sb_cons (ss_if (st_cmp (op_in' hu) (se_var 3 rfl (vis_ok rfl)) (se_var 2 rfl (vis_ok rfl))) (sb_one ss_never) sb_nil)
    (sb_one (ss_setIx (i := 2) (n := "known") hu rfl (vis_ok rfl) (se_var 4 rfl (vis_ok rfl)) (se_var 3 rfl (vis_ok rfl))))))))
    (sb_cons (ss_fld (i := 0) (n := "self") rfl (vis_ok rfl) (se_cty cd_tuple (by exact rfl) (Z.free 29) bt_tuple (sas_cons (ag_p (se_call xe_cx ((ok_ascending Z).at hr) (by exact rfl) (Z.glo 24) (sas_cons (ag_v (se_cty (cd_list rfl) (by exact rfl) (Z.free 4) bt_list (sas_cons (ag_p (se_var 2 rfl (vis_ok rfl))) sas_nil))) sas_nil))) sas_nil)) (Z.glo 6) (Z.cls 37) (Z.noat 38))
    (sb_one (ss_fld (i := 0) (n := "self") rfl (vis_ok rfl) (se_var 2 rfl (vis_ok rfl)) (Z.glo 6) (Z.cls 37) (Z.noat 39)))))))
theorem ok_Schema_u__init_u_ (Z : Tx fs fnl K mg) : FnX P w K mg base 3 (He.ma K (He.ga K "Schema") "__init__") 2 fn_Schema_u__init_u_ := fnX_of (Z.def_ 9) sc_Schema_u__init_u_ (by decide) rfl (fun _ _ _ _ _ _ us hl => match us, hl with | [_, _], _ => rfl) fun cdv A outer s H E hr => sb_Schema_u__init_u_ Z hr
theorem sc__law_draw : FnScope ["state", "limit", "mixed", "cell", "number"] ["state", "limit"] (defScope s__law_draw) := ⟨rfl, rfl, rfl, by decide +kernel, rfl, by decide +kernel, by decide +kernel⟩
theorem sb__law_draw (Z : Tx fs fnl K mg) {f : Addr} {cdv : Value} {A : Around} {outer : List Env} {s : Shared} {H : Hp} {E : XK} (hr : Room 0 (A.deeper (envOfC "_law_draw" (defScope s__law_draw) s.heap.objs.size f cdv))) : SB (cxOf (L2N.CX P w) P w K mg base ["state", "limit", "mixed", "cell", "number"] "_law_draw" (defScope s__law_draw) f cdv A outer s H E) (WD E) (defBody s__law_draw) c__law_draw := by
  have S := sc__law_draw
  have hu : U (cxOf (L2N.CX P w) P w K mg base ["state", "limit", "mixed", "cell", "number"] "_law_draw" (defScope s__law_draw) f cdv A outer s H E) := Room.u hr
  exact (sb_cons (ss_if (st_cmp (op_lt' hu) (se_var 1 rfl (vis_ok rfl)) se_int) (sb_one (ss_ret se_int)) sb_nil)
    (sb_cons (ss_if (st_cmp (op_eq' hu) (se_ix (op_ix' hu) (se_var 0 rfl (vis_ok rfl)) se_int) se_int) (sb_cons (ss_if (st_cmp op_ge' (se_ix (op_ix' hu) (se_var 0 rfl (vis_ok rfl)) se_int) (se_blt cd_len (by exact rfl) (Z.free 15) bt_len (sas_cons (ag_p (se_ix (op_ix' hu) (se_var 0 rfl (vis_ok rfl)) se_int)) sas_nil))) (sb_one (ss_ret se_int)) sb_nil)
    (sb_cons (ss_set S.nd rfl (loc_ok rfl) (se_cty cd_int (by exact rfl) (Z.free 17) bt_int (sas_cons (ag_p (se_ix (op_ix' hu) (se_ix (op_ix' hu) (se_var 0 rfl (vis_ok rfl)) se_int) (se_ix (op_ix' hu) (se_var 0 rfl (vis_ok rfl)) se_int))) sas_nil)))
    (sb_cons (ss_if (st_cmp (op_lt' hu) (se_var 3 rfl (vis_ok rfl)) se_int) (sb_one (ss_set S.nd rfl (loc_ok rfl) (se_bin op_sub' se_int (se_var 3 rfl (vis_ok rfl))))) sb_nil)
    (sb_cons (ss_setIx (i := 0) (n := "state") hu rfl (vis_ok rfl) (se_bin op_add' (se_ix (op_ix' hu) (se_var 0 rfl (vis_ok rfl)) se_int) se_int) se_int)
    (sb_cons (ss_setIx (i := 0) (n := "state") hu rfl (vis_ok rfl) (se_var 3 rfl (vis_ok rfl)) se_int)
    (sb_cons (ss_setIx (i := 0) (n := "state") hu rfl (vis_ok rfl) se_int se_int)
    (sb_cons (ss_setIx (i := 0) (n := "state") hu rfl (vis_ok rfl) se_int se_int)
    (sb_one (ss_if (st_cmp op_ge' (se_var 3 rfl (vis_ok rfl)) (se_bin op_pow' se_int se_int)) (sb_cons (ss_setIx (i := 0) (n := "state") hu rfl (vis_ok rfl) se_int se_int)
    (sb_one (ss_setIx (i := 0) (n := "state") hu rfl (vis_ok rfl) se_int se_int))) sb_nil))))))))) sb_nil)
    (sb_cons (ss_setIx (i := 0) (n := "state") hu rfl (vis_ok rfl) (se_bin op_sub' (se_ix (op_ix' hu) (se_var 0 rfl (vis_ok rfl)) se_int) se_int) se_int)
    (sb_cons (ss_if (st_cmp (op_eq' hu) (se_ix (op_ix' hu) (se_var 0 rfl (vis_ok rfl)) se_int) se_int) (sb_cons (ss_set S.nd rfl (loc_ok rfl) (se_bin op_mod' (se_cty cd_int (by exact rfl) (Z.free 17) bt_int (sas_cons (ag_p (se_ix (op_ix' hu) (se_var 0 rfl (vis_ok rfl)) se_int)) sas_nil)) (se_var 1 rfl (vis_ok rfl))))
    (sb_cons (ss_setIx (i := 0) (n := "state") hu rfl (vis_ok rfl) (se_bin op_fdiv' (se_cty cd_int (by exact rfl) (Z.free 17) bt_int (sas_cons (ag_p (se_ix (op_ix' hu) (se_var 0 rfl (vis_ok rfl)) se_int)) sas_nil)) (se_var 1 rfl (vis_ok rfl))) se_int)
    (sb_cons (ss_if (st_cmp (op_eq' hu) (se_ix (op_ix' hu) (se_var 0 rfl (vis_ok rfl)) se_int) se_int) (sb_one (ss_setIx (i := 0) (n := "state") hu rfl (vis_ok rfl) se_int se_int)) sb_nil)
    (sb_one (ss_ret (se_var 4 rfl (vis_ok rfl))))))) sb_nil)
    (sb_cons (ss_set S.nd rfl (loc_ok rfl) (se_bin op_mod' (se_cty cd_int (by exact rfl) (Z.free 17) bt_int (sas_cons (ag_p (se_bin op_add' (se_bin op_add' (se_bin op_mul' (se_ix (op_ix' hu) (se_var 0 rfl (vis_ok rfl)) se_int) se_int) (se_bin op_mul' (se_ix (op_ix' hu) (se_var 0 rfl (vis_ok rfl)) se_int) se_int)) se_int)) sas_nil)) se_int))
    (sb_one (ss_ret (se_bin op_mod' (se_cty cd_int (by exact rfl) (Z.free 17) bt_int (sas_cons (ag_p (se_bin op_mod' (se_cty cd_int (by exact rfl) (Z.free 17) bt_int (sas_cons (ag_p (se_bin op_add' (se_bin op_add' (se_bin op_mul' (se_var 2 rfl (vis_ok rfl)) se_int) (se_bin op_mul' (se_ix (op_ix' hu) (se_var 0 rfl (vis_ok rfl)) se_int) se_int)) se_int)) sas_nil)) se_int)) sas_nil)) (se_var 1 rfl (vis_ok rfl))))))))))
theorem ok__law_draw (Z : Tx fs fnl K mg) : FnX P w K mg base 1 (He.ga K "_law_draw") 2 fn__law_draw := fnX_of (Z.def_ 10) sc__law_draw (by decide) rfl (fun _ _ _ _ _ _ us hl => match us, hl with | [_, _], _ => rfl) fun cdv A outer s H E hr => sb__law_draw Z hr
theorem sc__law_inner : FnScope ["plain", "value"] ["plain"] (defScope s__law_inner) := ⟨rfl, rfl, rfl, by decide +kernel, rfl, by decide +kernel, by decide +kernel⟩
theorem sb__law_inner (Z : Tx fs fnl K mg) {f : Addr} {cdv : Value} {A : Around} {outer : List Env} {s : Shared} {H : Hp} {E : XK} (hr : Room 0 (A.deeper (envOfC "_law_inner" (defScope s__law_inner) s.heap.objs.size f cdv))) : SB (cxOf (L2N.CX P w) P w K mg base ["plain", "value"] "_law_inner" (defScope s__law_inner) f cdv A outer s H E) (WD E) (defBody s__law_inner) c__law_inner := by
  have S := sc__law_inner
  have hu : U (cxOf (L2N.CX P w) P w K mg base ["plain", "value"] "_law_inner" (defScope s__law_inner) f cdv A outer s H E) := Room.u hr
  exact (sb_one (ss_ret (se_lc rfl S.nd (si_range1 (by exact rfl) (Z.free 18) (se_ix (op_ix' hu) (se_var 0 rfl (vis_ok rfl)) se_int)) (blkOk_by (own := [("value", 1)]) rfl) (fun s H C cl fp => (sg_name S.nd rfl (loc_ok rfl))) (fun s H C cl fp => (si_one (st_cmp (op_notIn' hu) (se_var 1 rfl (vis_ok rfl)) (se_ix (op_ix' hu) (se_var 0 rfl (vis_ok rfl)) se_int)))) (fun s H C cl fp => (se_var 1 rfl (vis_ok rfl))))))
theorem ok__law_inner (Z : Tx fs fnl K mg) : FnX P w K mg base 1 (He.ga K "_law_inner") 1 fn__law_inner := fnX_of (Z.def_ 11) sc__law_inner (by decide) rfl (fun _ _ _ _ _ _ us hl => match us, hl with | [_], _ => rfl) fun cdv A outer s H E hr => sb__law_inner Z hr
theorem sc__law_pattern : FnScope ["schema", "plain"] ["schema", "plain"] (defScope s__law_pattern) := ⟨rfl, rfl, rfl, by decide +kernel, rfl, by decide +kernel, by decide +kernel⟩
theorem sb__law_pattern (Z : Tx fs fnl K mg) {f : Addr} {cdv : Value} {A : Around} {outer : List Env} {s : Shared} {H : Hp} {E : XK} (hr : Room 5 (A.deeper (envOfC "_law_pattern" (defScope s__law_pattern) s.heap.objs.size f cdv))) : SB (cxOf (L2N.CX P w) P w K mg base ["schema", "plain"] "_law_pattern" (defScope s__law_pattern) f cdv A outer s H E) (WD E) (defBody s__law_pattern) c__law_pattern := by
  have S := sc__law_pattern
  have hu : U (cxOf (L2N.CX P w) P w K mg base ["schema", "plain"] "_law_pattern" (defScope s__law_pattern) f cdv A outer s H E) := Room.u hr
  exact (sb_one (ss_ret (se_make xe_cx (Z.mkr 19) ((ok_Pattern_u__init_u_ Z).at1 hr) (by exact rfl) (Z.glo 20) (sas_cons (ag_v (se_var 0 rfl (vis_ok rfl))) (sas_cons (ag_v (se_cty (cd_list rfl) (by exact rfl) (Z.free 4) bt_list (sas_cons (ag_p (se_ix (op_ix' hu) (se_var 1 rfl (vis_ok rfl)) se_int)) sas_nil))) (sas_cons (ag_v (se_ix (op_ix' hu) (se_var 1 rfl (vis_ok rfl)) se_int)) sas_nil))))))
theorem ok__law_pattern (Z : Tx fs fnl K mg) : FnX P w K mg base 6 (He.ga K "_law_pattern") 2 fn__law_pattern := fnX_of (Z.def_ 12) sc__law_pattern (by decide) rfl (fun _ _ _ _ _ _ us hl => match us, hl with | [_, _], _ => rfl) fun cdv A outer s H E hr => sb__law_pattern Z hr
theorem sc__law_near : FnScope ["pairs", "value", "pair"] ["pairs", "value"] (defScope s__law_near) := ⟨rfl, rfl, rfl, by decide +kernel, rfl, by decide +kernel, by decide +kernel⟩
theorem sb__law_near (Z : Tx fs fnl K mg) {f : Addr} {cdv : Value} {A : Around} {outer : List Env} {s : Shared} {H : Hp} {E : XK} (hr : Room 0 (A.deeper (envOfC "_law_near" (defScope s__law_near) s.heap.objs.size f cdv))) : SB (cxOf (L2N.CX P w) P w K mg base ["pairs", "value", "pair"] "_law_near" (defScope s__law_near) f cdv A outer s H E) (WD E) (defBody s__law_near) c__law_near := by
  have S := sc__law_near
  have hu : U (cxOf (L2N.CX P w) P w K mg base ["pairs", "value", "pair"] "_law_near" (defScope s__law_near) f cdv A outer s H E) := Room.u hr
  exact (sb_one (ss_ret (se_lc rfl S.nd (si_val (se_var 0 rfl (vis_ok rfl))) (blkOk_by (own := [("pair", 2)]) rfl) (fun s H C cl fp => (sg_name S.nd rfl (loc_ok rfl))) (fun s H C cl fp => (si_one (st_cmp (op_eq' hu) (se_ix (op_ix' hu) (se_var 2 rfl (vis_ok rfl)) se_int) (se_var 1 rfl (vis_ok rfl))))) (fun s H C cl fp => (se_ix (op_ix' hu) (se_var 2 rfl (vis_ok rfl)) se_int)))))
theorem ok__law_near (Z : Tx fs fnl K mg) : FnX P w K mg base 1 (He.ga K "_law_near") 2 fn__law_near := fnX_of (Z.def_ 13) sc__law_near (by decide) rfl (fun _ _ _ _ _ _ us hl => match us, hl with | [_, _], _ => rfl) fun cdv A outer s H E hr => sb__law_near Z hr
theorem sc__law_pairs : FnScope ["plain", "pairs", "row", "a", "b"] ["plain"] (defScope s__law_pairs) := ⟨rfl, rfl, rfl, by decide +kernel, rfl, by decide +kernel, by decide +kernel⟩
theorem sb__law_pairs (Z : Tx fs fnl K mg) {f : Addr} {cdv : Value} {A : Around} {outer : List Env} {s : Shared} {H : Hp} {E : XK} (hr : Room 0 (A.deeper (envOfC "_law_pairs" (defScope s__law_pairs) s.heap.objs.size f cdv))) : SB (cxOf (L2N.CX P w) P w K mg base ["plain", "pairs", "row", "a", "b"] "_law_pairs" (defScope s__law_pairs) f cdv A outer s H E) (WD E) (defBody s__law_pairs) c__law_pairs := by
  have S := sc__law_pairs
  have hu : U (cxOf (L2N.CX P w) P w K mg base ["plain", "pairs", "row", "a", "b"] "_law_pairs" (defScope s__law_pairs) f cdv A outer s H E) := Room.u hr
  exact (sb_cons (ss_set S.nd rfl (loc_ok rfl) (se_lst sa_nil))
    (sb_cons (ss_for owns_cx rfl (si_val (se_ix (op_ix' hu) (se_var 0 rfl (vis_ok rfl)) se_int)) (sg_name S.nd rfl (loc_ok rfl)) (sb_one (ss_for owns_cx rfl (si_val (se_slice (se_var 2 rfl (vis_ok rfl)) (so_some se_int) so_none)) (sg_name S.nd rfl (loc_ok rfl)) (sb_one (ss_for owns_cx rfl (si_val (se_slice (se_var 2 rfl (vis_ok rfl)) (so_some se_int) so_none)) (sg_name S.nd rfl (loc_ok rfl)) (sb_one (ss_if (st_sw (sw_and (st_cmp (op_ne' hu) (se_var 3 rfl (vis_ok rfl)) (se_var 4 rfl (vis_ok rfl))) (sw_and (st_cmp (op_notIn' hu) (se_var 3 rfl (vis_ok rfl)) (se_ix (op_ix' hu) (se_var 0 rfl (vis_ok rfl)) se_int)) (sw_and (st_cmp (op_notIn' hu) (se_var 4 rfl (vis_ok rfl)) (se_ix (op_ix' hu) (se_var 0 rfl (vis_ok rfl)) se_int)) (sw_and1 (st_cmp (op_notIn' hu) (se_tup (sa_cons (se_var 3 rfl (vis_ok rfl)) (sa_cons (se_var 4 rfl (vis_ok rfl)) sa_nil))) (se_var 1 rfl (vis_ok rfl)))))))) (sb_one (ss_expr (se_append (i := 1) (n := "pairs") rfl (vis_ok rfl) (se_tup (sa_cons (se_var 3 rfl (vis_ok rfl)) (sa_cons (se_var 4 rfl (vis_ok rfl)) sa_nil)))))) sb_nil)))))))
    (sb_one (ss_ret (se_var 1 rfl (vis_ok rfl))))))
theorem ok__law_pairs (Z : Tx fs fnl K mg) : FnX P w K mg base 1 (He.ga K "_law_pairs") 1 fn__law_pairs := fnX_of (Z.def_ 14) sc__law_pairs (by decide) rfl (fun _ _ _ _ _ _ us hl => match us, hl with | [_], _ => rfl) fun cdv A outer s H E hr => sb__law_pairs Z hr
theorem sc__law_taken : FnScope ["pairs", "value", "near", "left", "a", "b", "pair"] ["pairs", "value"] (defScope s__law_taken) := ⟨rfl, rfl, rfl, by decide +kernel, rfl, by decide +kernel, by decide +kernel⟩
theorem sb__law_taken (Z : Tx fs fnl K mg) {f : Addr} {cdv : Value} {A : Around} {outer : List Env} {s : Shared} {H : Hp} {E : XK} (hr : Room 1 (A.deeper (envOfC "_law_taken" (defScope s__law_taken) s.heap.objs.size f cdv))) : SB (cxOf (L2N.CX P w) P w K mg base ["pairs", "value", "near", "left", "a", "b", "pair"] "_law_taken" (defScope s__law_taken) f cdv A outer s H E) (WD E) (defBody s__law_taken) c__law_taken := by
  have S := sc__law_taken
  have hu : U (cxOf (L2N.CX P w) P w K mg base ["pairs", "value", "near", "left", "a", "b", "pair"] "_law_taken" (defScope s__law_taken) f cdv A outer s H E) := Room.u hr
  exact (sb_cons (ss_set S.nd rfl (loc_ok rfl) (se_call xe_cx ((ok__law_near Z).at hr) (by exact rfl) (Z.glo 49) (sas_cons (ag_v (se_var 0 rfl (vis_ok rfl))) (sas_cons (ag_v (se_var 1 rfl (vis_ok rfl))) sas_nil))))
    (sb_cons (ss_setLc rfl S.nd rfl rfl (sw_true rfl rfl rfl rfl) (si_val (se_var 0 rfl (vis_ok rfl))) (blkOk_by (own := [("pair", 6)]) rfl) (fun s H C cl fp => (sg_name S.nd rfl (loc_ok rfl))) (fun s H C cl fp => (si_one (st_sw (sw_and (st_cmp (op_ne' hu) (se_ix (op_ix' hu) (se_var 6 rfl (vis_ok rfl)) se_int) (se_var 1 rfl (vis_ok rfl))) (sw_and1 (st_cmp (op_ne' hu) (se_ix (op_ix' hu) (se_var 6 rfl (vis_ok rfl)) se_int) (se_var 1 rfl (vis_ok rfl)))))))) (fun s H C cl fp => (se_var 6 rfl (vis_ok rfl))))
    (sb_cons (ss_for owns_cx rfl (si_val (se_var 2 rfl (vis_ok rfl))) (sg_name S.nd rfl (loc_ok rfl)) (sb_one (ss_for owns_cx rfl (si_val (se_var 2 rfl (vis_ok rfl))) (sg_name S.nd rfl (loc_ok rfl)) (sb_one (ss_if (st_sw (sw_and (st_cmp (op_ne' hu) (se_var 4 rfl (vis_ok rfl)) (se_var 5 rfl (vis_ok rfl))) (sw_and1 (st_cmp (op_notIn' hu) (se_tup (sa_cons (se_var 4 rfl (vis_ok rfl)) (sa_cons (se_var 5 rfl (vis_ok rfl)) sa_nil))) (se_var 3 rfl (vis_ok rfl)))))) (sb_one (ss_expr (se_append (i := 3) (n := "left") rfl (vis_ok rfl) (se_tup (sa_cons (se_var 4 rfl (vis_ok rfl)) (sa_cons (se_var 5 rfl (vis_ok rfl)) sa_nil)))))) sb_nil)))))
    (sb_one (ss_ret (se_var 3 rfl (vis_ok rfl)))))))
theorem ok__law_taken (Z : Tx fs fnl K mg) : FnX P w K mg base 2 (He.ga K "_law_taken") 2 fn__law_taken := fnX_of (Z.def_ 15) sc__law_taken (by decide) rfl (fun _ _ _ _ _ _ us hl => match us, hl with | [_, _], _ => rfl) fun cdv A outer s H E hr => sb__law_taken Z hr
theorem sc__law_quick : FnScope ["plain", "pairs", "left", "order", "turn", "best", "value"] ["plain"] (defScope s__law_quick) := ⟨rfl, rfl, rfl, by decide +kernel, rfl, by decide +kernel, by decide +kernel⟩
theorem sb__law_quick (Z : Tx fs fnl K mg) {f : Addr} {cdv : Value} {A : Around} {outer : List Env} {s : Shared} {H : Hp} {E : XK} (hr : Room 2 (A.deeper (envOfC "_law_quick" (defScope s__law_quick) s.heap.objs.size f cdv))) : SB (cxOf (L2N.CX P w) P w K mg base ["plain", "pairs", "left", "order", "turn", "best", "value"] "_law_quick" (defScope s__law_quick) f cdv A outer s H E) (WD E) (defBody s__law_quick) c__law_quick := by
  have S := sc__law_quick
  have hu : U (cxOf (L2N.CX P w) P w K mg base ["plain", "pairs", "left", "order", "turn", "best", "value"] "_law_quick" (defScope s__law_quick) f cdv A outer s H E) := Room.u hr
  exact (sb_cons (ss_set S.nd rfl (loc_ok rfl) (se_call xe_cx ((ok__law_pairs Z).at hr) (by exact rfl) (Z.glo 48) (sas_cons (ag_v (se_var 0 rfl (vis_ok rfl))) sas_nil)))
    (sb_cons (ss_set S.nd rfl (loc_ok rfl) (se_call xe_cx ((ok__law_inner Z).at hr) (by exact rfl) (Z.glo 13) (sas_cons (ag_v (se_var 0 rfl (vis_ok rfl))) sas_nil)))
    (sb_cons (ss_set S.nd rfl (loc_ok rfl) (se_lst sa_nil))
    (sb_cons (ss_for owns_cx rfl (si_range1 (by exact rfl) (Z.free 18) (se_blt cd_len (by exact rfl) (Z.free 15) bt_len (sas_cons (ag_p (se_var 2 rfl (vis_ok rfl))) sas_nil))) (sg_name S.nd rfl (loc_ok rfl)) (sb_cons (ss_set S.nd rfl (loc_ok rfl) (se_ix (op_ix' hu) (se_var 2 rfl (vis_ok rfl)) se_int))
    (sb_cons (ss_for owns_cx rfl (si_val (se_var 2 rfl (vis_ok rfl))) (sg_name S.nd rfl (loc_ok rfl)) (sb_one (ss_if (st_cmp (op_lt' hu) (se_blt cd_len (by exact rfl) (Z.free 15) bt_len (sas_cons (ag_p (se_call xe_cx ((ok__law_near Z).at hr) (by exact rfl) (Z.glo 49) (sas_cons (ag_v (se_var 1 rfl (vis_ok rfl))) (sas_cons (ag_v (se_var 6 rfl (vis_ok rfl))) sas_nil)))) sas_nil)) (se_blt cd_len (by exact rfl) (Z.free 15) bt_len (sas_cons (ag_p (se_call xe_cx ((ok__law_near Z).at hr) (by exact rfl) (Z.glo 49) (sas_cons (ag_v (se_var 1 rfl (vis_ok rfl))) (sas_cons (ag_v (se_var 5 rfl (vis_ok rfl))) sas_nil)))) sas_nil))) (sb_one (ss_set S.nd rfl (loc_ok rfl) (se_var 6 rfl (vis_ok rfl)))) sb_nil)))
    (sb_cons (ss_expr (se_append (i := 3) (n := "order") rfl (vis_ok rfl) (se_var 5 rfl (vis_ok rfl))))
    (sb_cons (ss_set S.nd rfl (loc_ok rfl) (se_call xe_cx ((ok__law_taken Z).at hr) (by exact rfl) (Z.glo 50) (sas_cons (ag_v (se_var 1 rfl (vis_ok rfl))) (sas_cons (ag_v (se_var 5 rfl (vis_ok rfl))) sas_nil))))
    (sb_one (ss_setLc rfl S.nd rfl rfl (sw_true rfl rfl rfl rfl) (si_val (se_var 2 rfl (vis_ok rfl))) (blkOk_by (own := [("value", 6)]) rfl) (fun s H C cl fp => (sg_name S.nd rfl (loc_ok rfl))) (fun s H C cl fp => (si_one (st_cmp (op_ne' hu) (se_var 6 rfl (vis_ok rfl)) (se_var 5 rfl (vis_ok rfl))))) (fun s H C cl fp => (se_var 6 rfl (vis_ok rfl))))))))))
    (sb_one (ss_ret (se_var 3 rfl (vis_ok rfl))))))))
theorem ok__law_quick (Z : Tx fs fnl K mg) : FnX P w K mg base 3 (He.ga K "_law_quick") 1 fn__law_quick := fnX_of (Z.def_ 16) sc__law_quick (by decide) rfl (fun _ _ _ _ _ _ us hl => match us, hl with | [_], _ => rfl) fun cdv A outer s H E hr => sb__law_quick Z hr
theorem sc__law_same : FnScope ["a", "b", "k"] ["a", "b"] (defScope s__law_same) := ⟨rfl, rfl, rfl, by decide +kernel, rfl, by decide +kernel, by decide +kernel⟩
theorem sbH__law_same (Z : Tx fs fnl K mg) {f : Addr} {cdv : Value} {A : Around} {outer : List Env} {s : Shared} {H : Hp} {E : XK} {p : Addr × Obj} (hr : L2H.RoomH 0 (A.deeper (envOfC "_law_same" (defScope s__law_same) s.heap.objs.size f cdv))) : SB (L2H.cxH (L2N.CX P w) P w K mg base ["a", "b", "k"] "_law_same" (defScope s__law_same) f cdv A outer s H E p) (WD E) (defBody s__law_same) cH__law_same := by
  have S := sc__law_same
  have hu : U (L2H.cxH (L2N.CX P w) P w K mg base ["a", "b", "k"] "_law_same" (defScope s__law_same) f cdv A outer s H E p) := RoomH.u hr
  exact (sb_cons (ss_if (st_sw (sw_or (st_val (se_isi is_b (.ty _) (pe_bltn (by exact rfl) (Z.free 41) bt_bool rfl) (by exact rfl) (Z.free 40) (se_var 0 rfl (vis_ok rfl)))) (sw_or1 (st_val (se_isi is_b (.ty _) (pe_bltn (by exact rfl) (Z.free 41) bt_bool rfl) (by exact rfl) (Z.free 40) (se_var 1 rfl (vis_ok rfl))))))) (sb_one (ss_ret (se_and (se_isi is_b (.ty _) (pe_bltn (by exact rfl) (Z.free 41) bt_bool rfl) (by exact rfl) (Z.free 40) (se_var 0 rfl (vis_ok rfl))) (se_and (se_isi is_b (.ty _) (pe_bltn (by exact rfl) (Z.free 41) bt_bool rfl) (by exact rfl) (Z.free 40) (se_var 1 rfl (vis_ok rfl))) (se_one (se_cmp (op_eq' hu) (se_var 0 rfl (vis_ok rfl)) (se_var 1 rfl (vis_ok rfl)))))))) sb_nil)
    (sb_cons (ss_if (st_sw (sw_or (st_val (se_isi is_b (.ty _) (pe_bltn (by exact rfl) (Z.free 17) bt_int rfl) (by exact rfl) (Z.free 40) (se_var 0 rfl (vis_ok rfl)))) (sw_or1 (st_val (se_isi is_b (.ty _) (pe_bltn (by exact rfl) (Z.free 17) bt_int rfl) (by exact rfl) (Z.free 40) (se_var 1 rfl (vis_ok rfl))))))) (sb_one (ss_ret (se_and (se_isi is_b (.ty _) (pe_bltn (by exact rfl) (Z.free 17) bt_int rfl) (by exact rfl) (Z.free 40) (se_var 0 rfl (vis_ok rfl))) (se_and (se_isi is_b (.ty _) (pe_bltn (by exact rfl) (Z.free 17) bt_int rfl) (by exact rfl) (Z.free 40) (se_var 1 rfl (vis_ok rfl))) (se_one (se_cmp (op_eq' hu) (se_var 0 rfl (vis_ok rfl)) (se_var 1 rfl (vis_ok rfl)))))))) sb_nil)
    (sb_cons ss_never
    (sb_cons ss_never
    (sb_cons ss_never
    (sb_cons ss_never
    (sb_cons ss_never
    (sb_one ss_never))))))))
theorem okH__law_same (Z : Tx fs fnl K mg) : FnHX P w K mg base 1 (He.ga K "_law_same") 2 fnH__law_same := fnHX_of (Z.def_ 17) sc__law_same (by decide) rfl (fun _ _ _ _ _ _ us hl => match us, hl with | [_, _], _ => rfl) fun cdv A outer s H E p hr => sbH__law_same Z hr
theorem sb__law_same (Z : Tx fs fnl K mg) {j : Nat} {g : Fn} (G : FnX P w K mg base j (He.ga K "_law_same") 2 g) {m : Nat} (hj : j ≤ m) {f : Addr} {cdv : Value} {A : Around} {outer : List Env} {s : Shared} {H : Hp} {E : XK} (hr : Room m (A.deeper (envOfC "_law_same" (defScope s__law_same) s.heap.objs.size f cdv))) : SB (cxOf (L2N.CX P w) P w K mg base ["a", "b", "k"] "_law_same" (defScope s__law_same) f cdv A outer s H E) (WD E) (defBody s__law_same) (c__law_same g) := by
  have S := sc__law_same
  have hu : U (cxOf (L2N.CX P w) P w K mg base ["a", "b", "k"] "_law_same" (defScope s__law_same) f cdv A outer s H E) := Room.u hr
  exact (sb_cons (ss_if (st_sw (sw_or (st_val (se_isi is_b (.ty _) (pe_bltn (by exact rfl) (Z.free 41) bt_bool rfl) (by exact rfl) (Z.free 40) (se_var 0 rfl (vis_ok rfl)))) (sw_or1 (st_val (se_isi is_b (.ty _) (pe_bltn (by exact rfl) (Z.free 41) bt_bool rfl) (by exact rfl) (Z.free 40) (se_var 1 rfl (vis_ok rfl))))))) (sb_one (ss_ret (se_and (se_isi is_b (.ty _) (pe_bltn (by exact rfl) (Z.free 41) bt_bool rfl) (by exact rfl) (Z.free 40) (se_var 0 rfl (vis_ok rfl))) (se_and (se_isi is_b (.ty _) (pe_bltn (by exact rfl) (Z.free 41) bt_bool rfl) (by exact rfl) (Z.free 40) (se_var 1 rfl (vis_ok rfl))) (se_one (se_cmp (op_eq' hu) (se_var 0 rfl (vis_ok rfl)) (se_var 1 rfl (vis_ok rfl)))))))) sb_nil)
    (sb_cons (ss_if (st_sw (sw_or (st_val (se_isi is_b (.ty _) (pe_bltn (by exact rfl) (Z.free 17) bt_int rfl) (by exact rfl) (Z.free 40) (se_var 0 rfl (vis_ok rfl)))) (sw_or1 (st_val (se_isi is_b (.ty _) (pe_bltn (by exact rfl) (Z.free 17) bt_int rfl) (by exact rfl) (Z.free 40) (se_var 1 rfl (vis_ok rfl))))))) (sb_one (ss_ret (se_and (se_isi is_b (.ty _) (pe_bltn (by exact rfl) (Z.free 17) bt_int rfl) (by exact rfl) (Z.free 40) (se_var 0 rfl (vis_ok rfl))) (se_and (se_isi is_b (.ty _) (pe_bltn (by exact rfl) (Z.free 17) bt_int rfl) (by exact rfl) (Z.free 40) (se_var 1 rfl (vis_ok rfl))) (se_one (se_cmp (op_eq' hu) (se_var 0 rfl (vis_ok rfl)) (se_var 1 rfl (vis_ok rfl)))))))) sb_nil)
    (sb_cons (ss_if (st_sw (sw_or (st_val (se_isi is_b (.ty _) (pe_bltn (by exact rfl) (Z.free 60) bt_str rfl) (by exact rfl) (Z.free 40) (se_var 0 rfl (vis_ok rfl)))) (sw_or1 (st_val (se_isi is_b (.ty _) (pe_bltn (by exact rfl) (Z.free 60) bt_str rfl) (by exact rfl) (Z.free 40) (se_var 1 rfl (vis_ok rfl))))))) (sb_one (ss_ret (se_and (se_isi is_b (.ty _) (pe_bltn (by exact rfl) (Z.free 60) bt_str rfl) (by exact rfl) (Z.free 40) (se_var 0 rfl (vis_ok rfl))) (se_and (se_isi is_b (.ty _) (pe_bltn (by exact rfl) (Z.free 60) bt_str rfl) (by exact rfl) (Z.free 40) (se_var 1 rfl (vis_ok rfl))) (se_one (se_cmp (op_eq' hu) (se_var 0 rfl (vis_ok rfl)) (se_var 1 rfl (vis_ok rfl)))))))) sb_nil)
    (sb_cons (ss_if (st_sw (sw_or (st_cmp op_isN' (se_var 0 rfl (vis_ok rfl)) se_non) (sw_or1 (st_cmp op_isN' (se_var 1 rfl (vis_ok rfl)) se_non)))) (sb_one (ss_ret (se_and (se_cmp op_isN' (se_var 0 rfl (vis_ok rfl)) se_non) (se_one (se_cmp op_isN' (se_var 1 rfl (vis_ok rfl)) se_non))))) sb_nil)
    (sb_cons (ss_if (st_sw (sw_or (st_cmp (op_ne' hu) (se_isi is_b (.ty _) (pe_bltn (by exact rfl) (Z.free 29) bt_tuple rfl) (by exact rfl) (Z.free 40) (se_var 0 rfl (vis_ok rfl))) (se_isi is_b (.ty _) (pe_bltn (by exact rfl) (Z.free 29) bt_tuple rfl) (by exact rfl) (Z.free 40) (se_var 1 rfl (vis_ok rfl)))) (sw_or1 (st_cmp (op_ne' hu) (se_isi is_b (.ty _) (pe_bltn (by exact rfl) (Z.free 4) bt_list rfl) (by exact rfl) (Z.free 40) (se_var 0 rfl (vis_ok rfl))) (se_isi is_b (.ty _) (pe_bltn (by exact rfl) (Z.free 4) bt_list rfl) (by exact rfl) (Z.free 40) (se_var 1 rfl (vis_ok rfl))))))) (sb_one (ss_ret se_bl)) sb_nil)
    (sb_cons (ss_if (st_sw (sw_or (st_not (st_val (se_isi2 is_b2 (.ty _) (.ty _) (pe_bltn (by exact rfl) (Z.free 4) bt_list rfl) (pe_bltn (by exact rfl) (Z.free 29) bt_tuple rfl) (by exact rfl) (Z.free 40) (se_var 0 rfl (vis_ok rfl))))) (sw_or1 (st_cmp (op_ne' hu) (se_blt cd_len (by exact rfl) (Z.free 15) bt_len (sas_cons (ag_p (se_var 0 rfl (vis_ok rfl))) sas_nil)) (se_blt cd_len (by exact rfl) (Z.free 15) bt_len (sas_cons (ag_p (se_var 1 rfl (vis_ok rfl))) sas_nil)))))) (sb_one (ss_ret se_bl)) sb_nil)
    (sb_cons (ss_for owns_cx rfl (si_range1 (by exact rfl) (Z.free 18) (se_blt cd_len (by exact rfl) (Z.free 15) bt_len (sas_cons (ag_p (se_var 1 rfl (vis_ok rfl))) sas_nil))) (sg_name S.nd rfl (loc_ok rfl)) (sb_one (ss_if (st_not (st_val (se_call xe_cx (G.at hr hj) (by exact rfl) (Z.glo 10) (sas_cons (ag_v (se_ix (op_ix' hu) (se_var 0 rfl (vis_ok rfl)) (se_var 2 rfl (vis_ok rfl)))) (sas_cons (ag_v (se_ix (op_ix' hu) (se_var 1 rfl (vis_ok rfl)) (se_var 2 rfl (vis_ok rfl)))) sas_nil))))) (sb_one (ss_ret se_bl)) sb_nil)))
    (sb_one (ss_ret se_bl)))))))))
theorem okn__law_same (Z : Tx fs fnl K mg) : ∀ k : Nat, FnX P w K mg base (k + 1) (He.ga K "_law_same") 2 (f__law_same k)
  | 0 => fnX_stuck (Z.def_ 17) sc__law_same rfl (fun _ _ _ _ _ _ us hl => match us, hl with | [_, _], _ => rfl)
  | k + 1 => by
    have G := okn__law_same Z k
    have F := fnX_of (k := k + 1) (Z.def_ 17) sc__law_same (by decide) rfl (fun _ _ _ _ _ _ us hl => match us, hl with | [_, _], _ => rfl) fun cdv A outer s H E hr => sb__law_same Z G (by omega) hr
    have e : k + 1 + 1 = k + 1 + 1 := by omega
    rw [e] at F
    exact F
theorem ok__law_same (Z : Tx fs fnl K mg) : FnX P w K mg base 7 (He.ga K "_law_same") 2 fn__law_same := okn__law_same Z 6
theorem sc_Pattern_inner : FnScope ["self", "value"] ["self"] (defScope s_Pattern_inner) := ⟨rfl, rfl, rfl, by decide +kernel, rfl, by decide +kernel, by decide +kernel⟩
theorem sb_Pattern_inner (Z : Tx fs fnl K mg) {f : Addr} {cdv : Value} {A : Around} {outer : List Env} {s : Shared} {H : Hp} {E : XK} (hr : Room 0 (A.deeper (envOfC "Pattern.inner" (defScope s_Pattern_inner) s.heap.objs.size f cdv))) : SB (cxOf (L2N.CX P w) P w K mg base ["self", "value"] "Pattern.inner" (defScope s_Pattern_inner) f cdv A outer s H E) (WD E) (defBody s_Pattern_inner) c_Pattern_inner := by
  have S := sc_Pattern_inner
  have hu : U (cxOf (L2N.CX P w) P w K mg base ["self", "value"] "Pattern.inner" (defScope s_Pattern_inner) f cdv A outer s H E) := Room.u hr
  exact (sb_one (ss_ret (se_cty cd_tuple (by exact rfl) (Z.free 29) bt_tuple (sas_cons (ag_p (se_lc rfl S.nd (si_range1 (by exact rfl) (Z.free 18) (se_fld (se_var 0 rfl (vis_ok rfl)) (Z.glo 20) (Z.cls 27) (Z.noat 32))) (blkOk_by (own := [("value", 1)]) rfl) (fun s H C cl fp => (sg_name S.nd rfl (loc_ok rfl))) (fun s H C cl fp => (si_one (st_cmp (op_notIn' hu) (se_var 1 rfl (vis_ok rfl)) (se_fld (se_var 0 rfl (vis_ok rfl)) (Z.glo 20) (Z.cls 27) (Z.noat 31))))) (fun s H C cl fp => (se_var 1 rfl (vis_ok rfl))))) sas_nil))))
theorem ok_Pattern_inner (Z : Tx fs fnl K mg) : FnX P w K mg base 1 (pga K "Pattern" "inner") 1 fn_Pattern_inner := fnX_of (Z.def_ 18) sc_Pattern_inner (by decide) rfl (fun _ _ _ _ _ _ us hl => match us, hl with | [_], _ => rfl) fun cdv A outer s H E hr => sb_Pattern_inner Z hr
theorem sc_neighbour_lists : FnScope ["pattern", "near", "row", "inside", "value", "other"] ["pattern"] (defScope s_neighbour_lists) := ⟨rfl, rfl, rfl, by decide +kernel, rfl, by decide +kernel, by decide +kernel⟩
theorem sb_neighbour_lists (Z : Tx fs fnl K mg) {f : Addr} {cdv : Value} {A : Around} {outer : List Env} {s : Shared} {H : Hp} {E : XK} (hr : Room 2 (A.deeper (envOfC "neighbour_lists" (defScope s_neighbour_lists) s.heap.objs.size f cdv))) : SB (cxOf (L2N.CX P w) P w K mg base ["pattern", "near", "row", "inside", "value", "other"] "neighbour_lists" (defScope s_neighbour_lists) f cdv A outer s H E) (WD E) (defBody s_neighbour_lists) c_neighbour_lists := by
  have S := sc_neighbour_lists
  have hu : U (cxOf (L2N.CX P w) P w K mg base ["pattern", "near", "row", "inside", "value", "other"] "neighbour_lists" (defScope s_neighbour_lists) f cdv A outer s H E) := Room.u hr
  exact (sb_cons (ss_set S.nd rfl (loc_ok rfl) (se_dc rfl S.nd (si_val (se_prop (se_var 0 rfl (vis_ok rfl)) (Z.glo 20) (Z.cls 27) (Z.prop 64) ((ok_Pattern_inner Z).at1 hr))) (blkOk_by (own := [("value", 4)]) rfl) (fun s H C cl fp => (sg_name S.nd rfl (loc_ok rfl))) (fun s H C cl fp => si_nil) (fun s H C cl fp => (se_var 4 rfl (vis_ok rfl))) (fun s H C cl fp => (se_lst sa_nil))))
    (sb_cons (ss_for owns_cx rfl (si_val (se_fld (se_var 0 rfl (vis_ok rfl)) (Z.glo 20) (Z.cls 27) (Z.noat 30))) (sg_name S.nd rfl (loc_ok rfl)) (sb_cons (ss_setLc rfl S.nd rfl rfl (sw_true rfl rfl rfl rfl) (si_val (se_slice (se_var 2 rfl (vis_ok rfl)) (so_some se_int) so_none)) (blkOk_by (own := [("value", 4)]) rfl) (fun s H C cl fp => (sg_name S.nd rfl (loc_ok rfl))) (fun s H C cl fp => (si_one (st_cmp (op_in' hu) (se_var 4 rfl (vis_ok rfl)) (se_var 1 rfl (vis_ok rfl))))) (fun s H C cl fp => (se_var 4 rfl (vis_ok rfl))))
    (sb_one (ss_for owns_cx rfl (si_val (se_var 3 rfl (vis_ok rfl))) (sg_name S.nd rfl (loc_ok rfl)) (sb_one (ss_setIx (i := 1) (n := "near") hu rfl (vis_ok rfl) (se_bin op_add' (se_ix (op_ix' hu) (se_var 1 rfl (vis_ok rfl)) (se_var 4 rfl (vis_ok rfl))) (se_lc rfl S.nd (si_val (se_var 3 rfl (vis_ok rfl))) (blkOk_by (own := [("other", 5)]) rfl) (fun s H C cl fp => (sg_name S.nd rfl (loc_ok rfl))) (fun s H C cl fp => (si_one (st_cmp (op_ne' hu) (se_var 5 rfl (vis_ok rfl)) (se_var 4 rfl (vis_ok rfl))))) (fun s H C cl fp => (se_var 5 rfl (vis_ok rfl))))) (se_var 4 rfl (vis_ok rfl))))))))
    (sb_one (ss_ret (se_dcD (i := 1) (n := "near") rfl S.nd rfl (vis_ok rfl) (blkOk_by (own := [("value", 4)]) rfl) (fun s H C cl fp => (sg_name S.nd rfl (loc_ok rfl))) (fun s H C cl fp => si_nil) (fun s H C cl fp => (se_var 4 rfl (vis_ok rfl))) (fun s H C cl fp => (se_call takes_w0 ((ok_ascending Z).at hr) (by exact rfl) (Z.glo 24) (sas_cons (ag_v (se_ix (op_ix' hu) (se_var 1 rfl (vis_ok rfl)) (se_var 4 rfl (vis_ok rfl)))) sas_nil))))))))
theorem ok_neighbour_lists (Z : Tx fs fnl K mg) : FnX P w K mg base 3 (He.ga K "neighbour_lists") 1 fn_neighbour_lists := fnX_of (Z.def_ 19) sc_neighbour_lists (by decide) rfl (fun _ _ _ _ _ _ us hl => match us, hl with | [_], _ => rfl) fun cdv A outer s H E hr => sb_neighbour_lists Z hr
theorem sc_require_order : FnScope ["pattern", "order", "left", "value", "other"] ["pattern", "order"] (defScope s_require_order) := ⟨rfl, rfl, rfl, by decide +kernel, rfl, by decide +kernel, by decide +kernel⟩
theorem sb_require_order (Z : Tx fs fnl K mg) {f : Addr} {cdv : Value} {A : Around} {outer : List Env} {s : Shared} {H : Hp} {E : XK} (hr : Room 2 (A.deeper (envOfC "require_order" (defScope s_require_order) s.heap.objs.size f cdv))) : SB (cxOf (L2N.CX P w) P w K mg base ["pattern", "order", "left", "value", "other"] "require_order" (defScope s_require_order) f cdv A outer s H E) (WD E) (defBody s_require_order) c_require_order := by
  have S := sc_require_order
  have hu : U (cxOf (L2N.CX P w) P w K mg base ["pattern", "order", "left", "value", "other"] "require_order" (defScope s_require_order) f cdv A outer s H E) := Room.u hr
  exact (sb_cons (ss_set S.nd rfl (loc_ok rfl) (se_cty (cd_list rfl) (by exact rfl) (Z.free 4) bt_list (sas_cons (ag_p (se_prop (se_var 0 rfl (vis_ok rfl)) (Z.glo 20) (Z.cls 27) (Z.prop 64) ((ok_Pattern_inner Z).at1 hr))) sas_nil)))
    (sb_cons (ss_for owns_cx rfl (si_val (se_var 1 rfl (vis_ok rfl))) (sg_name S.nd rfl (loc_ok rfl)) (sb_cons (ss_if (st_cmp (op_notIn' hu) (se_var 3 rfl (vis_ok rfl)) (se_var 2 rfl (vis_ok rfl))) (sb_one (ss_raise (ex_BadOrder Z) rfl xe_cx hr (by decide) (by exact rfl) (se_var 3 rfl (vis_ok rfl)))) sb_nil)
    (sb_one (ss_setLc rfl S.nd rfl rfl (sw_true rfl rfl rfl rfl) (si_val (se_var 2 rfl (vis_ok rfl))) (blkOk_by (own := [("other", 4)]) rfl) (fun s H C cl fp => (sg_name S.nd rfl (loc_ok rfl))) (fun s H C cl fp => (si_one (st_cmp (op_ne' hu) (se_var 4 rfl (vis_ok rfl)) (se_var 3 rfl (vis_ok rfl))))) (fun s H C cl fp => (se_var 4 rfl (vis_ok rfl)))))))
    (sb_one (ss_if (st_cmp op_gt' (se_blt cd_len (by exact rfl) (Z.free 15) bt_len (sas_cons (ag_p (se_var 2 rfl (vis_ok rfl))) sas_nil)) se_int) (sb_one (ss_raise (ex_BadOrder Z) rfl xe_cx hr (by decide) (by exact rfl) (se_ix (op_ix' hu) (se_var 2 rfl (vis_ok rfl)) se_int))) sb_nil))))
theorem ok_require_order (Z : Tx fs fnl K mg) : FnX P w K mg base 3 (He.ga K "require_order") 2 fn_require_order := fnX_of (Z.def_ 20) sc_require_order (by decide) rfl (fun _ _ _ _ _ _ us hl => match us, hl with | [_, _], _ => rfl) fun cdv A outer s H E hr => sb_require_order Z hr
theorem sc_without_value : FnScope ["near", "value", "around", "result", "other", "third"] ["near", "value"] (defScope s_without_value) := ⟨rfl, rfl, rfl, by decide +kernel, rfl, by decide +kernel, by decide +kernel⟩
theorem sb_without_value (Z : Tx fs fnl K mg) {f : Addr} {cdv : Value} {A : Around} {outer : List Env} {s : Shared} {H : Hp} {E : XK} (hr : Room 2 (A.deeper (envOfC "without_value" (defScope s_without_value) s.heap.objs.size f cdv))) : SB (cxOf (L2N.CX P w) P w K mg base ["near", "value", "around", "result", "other", "third"] "without_value" (defScope s_without_value) f cdv A outer s H E) (WD E) (defBody s_without_value) c_without_value := by
  have S := sc_without_value
  have hu : U (cxOf (L2N.CX P w) P w K mg base ["near", "value", "around", "result", "other", "third"] "without_value" (defScope s_without_value) f cdv A outer s H E) := Room.u hr
  exact (sb_cons (ss_set S.nd rfl (loc_ok rfl) (se_ix (op_ix' hu) (se_var 0 rfl (vis_ok rfl)) (se_var 1 rfl (vis_ok rfl))))
    (sb_cons (ss_set S.nd rfl (loc_ok rfl) se_dnewK)
    (sb_cons (ss_forD (i := 0) (n := "near") owns_cx rfl rfl (vis_ok rfl) (sg_name S.nd rfl (loc_ok rfl)) (sb_one (ss_if (st_cmp (op_in' hu) (se_var 4 rfl (vis_ok rfl)) (se_var 2 rfl (vis_ok rfl))) (sb_one (ss_setIx (i := 3) (n := "result") hu rfl (vis_ok rfl) (se_call xe_cx ((ok_ascending Z).at hr) (by exact rfl) (Z.glo 24) (sas_cons (ag_v (se_lc rfl S.nd (si_val (se_bin op_add' (se_ix (op_ix' hu) (se_var 0 rfl (vis_ok rfl)) (se_var 4 rfl (vis_ok rfl))) (se_var 2 rfl (vis_ok rfl)))) (blkOk_by (own := [("third", 5)]) rfl) (fun s H C cl fp => (sg_name S.nd rfl (loc_ok rfl))) (fun s H C cl fp => (si_one (st_cmp (op_notIn' hu) (se_var 5 rfl (vis_ok rfl)) (se_tup (sa_cons (se_var 1 rfl (vis_ok rfl)) (sa_cons (se_var 4 rfl (vis_ok rfl)) sa_nil)))))) (fun s H C cl fp => (se_var 5 rfl (vis_ok rfl))))) sas_nil)) (se_var 4 rfl (vis_ok rfl)))) (sb_one (ss_if (st_cmp (op_ne' hu) (se_var 4 rfl (vis_ok rfl)) (se_var 1 rfl (vis_ok rfl))) (sb_one (ss_setIx (i := 3) (n := "result") hu rfl (vis_ok rfl) (se_ix (op_ix' hu) (se_var 0 rfl (vis_ok rfl)) (se_var 4 rfl (vis_ok rfl))) (se_var 4 rfl (vis_ok rfl)))) sb_nil)))))
    (sb_one (ss_ret (se_var 3 rfl (vis_ok rfl)))))))
theorem ok_without_value (Z : Tx fs fnl K mg) : FnX P w K mg base 3 (He.ga K "without_value") 2 fn_without_value := fnX_of (Z.def_ 21) sc_without_value (by decide) rfl (fun _ _ _ _ _ _ us hl => match us, hl with | [_, _], _ => rfl) fun cdv A outer s H E hr => sb_without_value Z hr
theorem sc_order_width : FnScope ["pattern", "order", "near", "width", "value"] ["pattern", "order"] (defScope s_order_width) := ⟨rfl, rfl, rfl, by decide +kernel, rfl, by decide +kernel, by decide +kernel⟩
theorem sb_order_width (Z : Tx fs fnl K mg) {f : Addr} {cdv : Value} {A : Around} {outer : List Env} {s : Shared} {H : Hp} {E : XK} (hr : Room 3 (A.deeper (envOfC "order_width" (defScope s_order_width) s.heap.objs.size f cdv))) : SB (cxOf (L2N.CX P w) P w K mg base ["pattern", "order", "near", "width", "value"] "order_width" (defScope s_order_width) f cdv A outer s H E) (WD E) (defBody s_order_width) c_order_width := by
  have S := sc_order_width
  have hu : U (cxOf (L2N.CX P w) P w K mg base ["pattern", "order", "near", "width", "value"] "order_width" (defScope s_order_width) f cdv A outer s H E) := Room.u hr
  exact (sb_cons (ss_expr (se_call xe_cx ((ok_require_order Z).at hr) (by exact rfl) (Z.glo 61) (sas_cons (ag_v (se_var 0 rfl (vis_ok rfl))) (sas_cons (ag_v (se_var 1 rfl (vis_ok rfl))) sas_nil))))
    (sb_cons (ss_set S.nd rfl (loc_ok rfl) (se_call xe_cx ((ok_neighbour_lists Z).at hr) (by exact rfl) (Z.glo 62) (sas_cons (ag_v (se_var 0 rfl (vis_ok rfl))) sas_nil)))
    (sb_cons (ss_set S.nd rfl (loc_ok rfl) se_int)
    (sb_cons (ss_for owns_cx rfl (si_val (se_var 1 rfl (vis_ok rfl))) (sg_name S.nd rfl (loc_ok rfl)) (sb_cons (ss_if (st_cmp op_gt' (se_blt cd_len (by exact rfl) (Z.free 15) bt_len (sas_cons (ag_p (se_ix (op_ix' hu) (se_var 2 rfl (vis_ok rfl)) (se_var 4 rfl (vis_ok rfl)))) sas_nil)) (se_var 3 rfl (vis_ok rfl))) (sb_one (ss_set S.nd rfl (loc_ok rfl) (se_blt cd_len (by exact rfl) (Z.free 15) bt_len (sas_cons (ag_p (se_ix (op_ix' hu) (se_var 2 rfl (vis_ok rfl)) (se_var 4 rfl (vis_ok rfl)))) sas_nil)))) sb_nil)
    (sb_one (ss_set S.nd rfl (loc_ok rfl) (se_call xe_cx ((ok_without_value Z).at hr) (by exact rfl) (Z.glo 63) (sas_cons (ag_v (se_var 2 rfl (vis_ok rfl))) (sas_cons (ag_v (se_var 4 rfl (vis_ok rfl))) sas_nil)))))))
    (sb_one (ss_ret (se_var 3 rfl (vis_ok rfl))))))))
theorem ok_order_width (Z : Tx fs fnl K mg) : FnX P w K mg base 4 (He.ga K "order_width") 2 fn_order_width := fnX_of (Z.def_ 22) sc_order_width (by decide) rfl (fun _ _ _ _ _ _ us hl => match us, hl with | [_, _], _ => rfl) fun cdv A outer s H E hr => sb_order_width Z hr
theorem sc__law_refused : FnScope ["pattern", "order", "value", "why"] ["pattern", "order", "value"] (defScope s__law_refused) := ⟨rfl, rfl, rfl, by decide +kernel, rfl, by decide +kernel, by decide +kernel⟩
theorem sb__law_refused (Z : Tx fs fnl K mg) {f : Addr} {cdv : Value} {A : Around} {outer : List Env} {s : Shared} {H : Hp} {E : XK} (hr : Room 4 (A.deeper (envOfC "_law_refused" (defScope s__law_refused) s.heap.objs.size f cdv))) : SB (cxOf (L2N.CX P w) P w K mg base ["pattern", "order", "value", "why"] "_law_refused" (defScope s__law_refused) f cdv A outer s H E) (WD E) (defBody s__law_refused) c__law_refused := by
  have S := sc__law_refused
  have hu : U (cxOf (L2N.CX P w) P w K mg base ["pattern", "order", "value", "why"] "_law_refused" (defScope s__law_refused) f cdv A outer s H E) := Room.u hr
  exact (sb_cons (ss_try (n := "why") (nb := true) rfl rfl S.nd rfl rfl rfl xe_cx ⟨(Z.glo 51), Z.exc 52, Z.xf 53, Z.noat 54⟩ (by exact rfl) (by decide) (Z.exm 55) rfl (by decide) (by decide) (by exact rfl) (Z.free 40) (by exact rfl) (Z.glo 56) (by decide) (by exact rfl) (Z.glo 57) (by decide) (Z.kit 58) (Z.kit 59) (FnHX.mono (okH__law_same Z) (by decide)) hr (by exact rfl) (Z.glo 10) (by decide) (fun a pn => ag_v (se_var 2 rfl (vis_ok rfl))) rfl rfl rfl (fun W pn xe tk own => (sb_one (ss_expr (se_call tk ((ok_order_width Z).at hr) (by exact rfl) (Z.glo 11) (sas_cons (ag_v (se_var 0 rfl (vis_ok rfl))) (sas_cons (ag_v (se_var 1 rfl (vis_ok rfl))) sas_nil)))))))
    (sb_one (ss_ret se_bl)))
theorem ok__law_refused (Z : Tx fs fnl K mg) : FnX P w K mg base 5 (He.ga K "_law_refused") 3 fn__law_refused := fnX_of (Z.def_ 23) sc__law_refused (by decide) rfl (fun _ _ _ _ _ _ us hl => match us, hl with | [_, _, _], _ => rfl) fun cdv A outer s H E hr => sb__law_refused Z hr
theorem sc__law_shuffled : FnScope ["state", "things", "result", "thing", "place"] ["state", "things"] (defScope s__law_shuffled) := ⟨rfl, rfl, rfl, by decide +kernel, rfl, by decide +kernel, by decide +kernel⟩
theorem sb__law_shuffled (Z : Tx fs fnl K mg) {f : Addr} {cdv : Value} {A : Around} {outer : List Env} {s : Shared} {H : Hp} {E : XK} (hr : Room 1 (A.deeper (envOfC "_law_shuffled" (defScope s__law_shuffled) s.heap.objs.size f cdv))) : SB (cxOf (L2N.CX P w) P w K mg base ["state", "things", "result", "thing", "place"] "_law_shuffled" (defScope s__law_shuffled) f cdv A outer s H E) (WD E) (defBody s__law_shuffled) c__law_shuffled := by
  have S := sc__law_shuffled
  have hu : U (cxOf (L2N.CX P w) P w K mg base ["state", "things", "result", "thing", "place"] "_law_shuffled" (defScope s__law_shuffled) f cdv A outer s H E) := Room.u hr
  exact (sb_cons (ss_set S.nd rfl (loc_ok rfl) (se_lst sa_nil))
    (sb_cons (ss_for owns_cx rfl (si_val (se_var 1 rfl (vis_ok rfl))) (sg_name S.nd rfl (loc_ok rfl)) (sb_cons (ss_set S.nd rfl (loc_ok rfl) (se_call xe_cx ((ok__law_draw Z).at hr) (by exact rfl) (Z.glo 2) (sas_cons (ag_p (se_var 0 rfl (vis_ok rfl))) (sas_cons (ag_v (se_bin op_add' (se_blt cd_len (by exact rfl) (Z.free 15) bt_len (sas_cons (ag_p (se_var 2 rfl (vis_ok rfl))) sas_nil)) se_int)) sas_nil))))
    (sb_one (ss_set S.nd rfl (loc_ok rfl) (se_bin op_add' (se_bin op_add' (se_slice (se_var 2 rfl (vis_ok rfl)) so_none (so_some (se_var 4 rfl (vis_ok rfl)))) (se_lst (sa_cons (se_var 3 rfl (vis_ok rfl)) sa_nil))) (se_slice (se_var 2 rfl (vis_ok rfl)) (so_some (se_var 4 rfl (vis_ok rfl))) so_none))))))
    (sb_one (ss_ret (se_var 2 rfl (vis_ok rfl))))))
theorem ok__law_shuffled (Z : Tx fs fnl K mg) : FnX P w K mg base 2 (He.ga K "_law_shuffled") 2 fn__law_shuffled := fnX_of (Z.def_ 24) sc__law_shuffled (by decide) rfl (fun _ _ _ _ _ _ us hl => match us, hl with | [_, _], _ => rfl) fun cdv A outer s H E hr => sb__law_shuffled Z hr
theorem sc__law_sorted : FnScope ["things", "result", "thing", "place", "k"] ["things"] (defScope s__law_sorted) := ⟨rfl, rfl, rfl, by decide +kernel, rfl, by decide +kernel, by decide +kernel⟩
theorem sb__law_sorted (Z : Tx fs fnl K mg) {f : Addr} {cdv : Value} {A : Around} {outer : List Env} {s : Shared} {H : Hp} {E : XK} (hr : Room 0 (A.deeper (envOfC "_law_sorted" (defScope s__law_sorted) s.heap.objs.size f cdv))) : SB (cxOf (L2N.CX P w) P w K mg base ["things", "result", "thing", "place", "k"] "_law_sorted" (defScope s__law_sorted) f cdv A outer s H E) (WD E) (defBody s__law_sorted) c__law_sorted := by
  have S := sc__law_sorted
  have hu : U (cxOf (L2N.CX P w) P w K mg base ["things", "result", "thing", "place", "k"] "_law_sorted" (defScope s__law_sorted) f cdv A outer s H E) := Room.u hr
  exact (sb_cons (ss_set S.nd rfl (loc_ok rfl) (se_lst sa_nil))
    (sb_cons (ss_for owns_cx rfl (si_val (se_var 0 rfl (vis_ok rfl))) (sg_name S.nd rfl (loc_ok rfl)) (sb_cons (ss_set S.nd rfl (loc_ok rfl) se_int)
    (sb_cons (ss_for owns_cx rfl (si_range1 (by exact rfl) (Z.free 18) (se_blt cd_len (by exact rfl) (Z.free 15) bt_len (sas_cons (ag_p (se_var 1 rfl (vis_ok rfl))) sas_nil))) (sg_name S.nd rfl (loc_ok rfl)) (sb_one (ss_if (st_cmp (op_lt' hu) (se_ix (op_ix' hu) (se_var 1 rfl (vis_ok rfl)) (se_var 4 rfl (vis_ok rfl))) (se_var 2 rfl (vis_ok rfl))) (sb_one (ss_set S.nd rfl (loc_ok rfl) (se_bin op_add' (se_var 4 rfl (vis_ok rfl)) se_int))) sb_nil)))
    (sb_one (ss_if (st_sw (sw_or (st_cmp (op_eq' hu) (se_var 3 rfl (vis_ok rfl)) (se_blt cd_len (by exact rfl) (Z.free 15) bt_len (sas_cons (ag_p (se_var 1 rfl (vis_ok rfl))) sas_nil))) (sw_or1 (st_cmp (op_ne' hu) (se_ix (op_ix' hu) (se_var 1 rfl (vis_ok rfl)) (se_var 3 rfl (vis_ok rfl))) (se_var 2 rfl (vis_ok rfl)))))) (sb_one (ss_set S.nd rfl (loc_ok rfl) (se_bin op_add' (se_bin op_add' (se_slice (se_var 1 rfl (vis_ok rfl)) so_none (so_some (se_var 3 rfl (vis_ok rfl)))) (se_lst (sa_cons (se_var 2 rfl (vis_ok rfl)) sa_nil))) (se_slice (se_var 1 rfl (vis_ok rfl)) (so_some (se_var 3 rfl (vis_ok rfl))) so_none)))) sb_nil)))))
    (sb_one (ss_ret (se_var 1 rfl (vis_ok rfl))))))
theorem ok__law_sorted (Z : Tx fs fnl K mg) : FnX P w K mg base 1 (He.ga K "_law_sorted") 1 fn__law_sorted := fnX_of (Z.def_ 25) sc__law_sorted (by decide) rfl (fun _ _ _ _ _ _ us hl => match us, hl with | [_], _ => rfl) fun cdv A outer s H E hr => sb__law_sorted Z hr
theorem sc__law_close : FnScope ["rows", "head", "listed", "used", "row", "kept", "label", "result"] ["rows", "head", "listed"] (defScope s__law_close) := ⟨rfl, rfl, rfl, by decide +kernel, rfl, by decide +kernel, by decide +kernel⟩
theorem sb__law_close (Z : Tx fs fnl K mg) {f : Addr} {cdv : Value} {A : Around} {outer : List Env} {s : Shared} {H : Hp} {E : XK} (hr : Room 1 (A.deeper (envOfC "_law_close" (defScope s__law_close) s.heap.objs.size f cdv))) : SB (cxOf (L2N.CX P w) P w K mg base ["rows", "head", "listed", "used", "row", "kept", "label", "result"] "_law_close" (defScope s__law_close) f cdv A outer s H E) (WD E) (defBody s__law_close) c__law_close := by
  have S := sc__law_close
  have hu : U (cxOf (L2N.CX P w) P w K mg base ["rows", "head", "listed", "used", "row", "kept", "label", "result"] "_law_close" (defScope s__law_close) f cdv A outer s H E) := Room.u hr
  exact (sb_cons (ss_set S.nd rfl (loc_ok rfl) (se_cty (cd_list rfl) (by exact rfl) (Z.free 4) bt_list (sas_cons (ag_p (se_var 1 rfl (vis_ok rfl))) sas_nil)))
    (sb_cons (ss_for owns_cx rfl (si_val (se_var 0 rfl (vis_ok rfl))) (sg_name S.nd rfl (loc_ok rfl)) (sb_one (ss_set S.nd rfl (loc_ok rfl) (se_bin op_add' (se_var 3 rfl (vis_ok rfl)) (se_cty (cd_list rfl) (by exact rfl) (Z.free 4) bt_list (sas_cons (ag_p (se_slice (se_var 4 rfl (vis_ok rfl)) (so_some se_int) so_none)) sas_nil))))))
    (sb_cons (ss_set S.nd rfl (loc_ok rfl) (se_lst sa_nil))
    (sb_cons (ss_for owns_cx rfl (si_val (se_var 2 rfl (vis_ok rfl))) (sg_name S.nd rfl (loc_ok rfl)) (sb_one (ss_if (st_sw (sw_and (st_cmp (op_in' hu) (se_var 6 rfl (vis_ok rfl)) (se_var 3 rfl (vis_ok rfl))) (sw_and1 (st_cmp (op_notIn' hu) (se_var 6 rfl (vis_ok rfl)) (se_var 5 rfl (vis_ok rfl)))))) (sb_one (ss_expr (se_append (i := 5) (n := "kept") rfl (vis_ok rfl) (se_var 6 rfl (vis_ok rfl))))) sb_nil)))
    (sb_cons (ss_set S.nd rfl (loc_ok rfl) (se_lst sa_nil))
    (sb_cons (ss_for owns_cx rfl (si_val (se_var 0 rfl (vis_ok rfl))) (sg_name S.nd rfl (loc_ok rfl)) (sb_one (ss_expr (se_append (i := 7) (n := "result") rfl (vis_ok rfl) (se_bin op_add' (se_tup (sa_cons (se_ix (op_ix' hu) (se_var 4 rfl (vis_ok rfl)) se_int) sa_nil)) (se_cty cd_tuple (by exact rfl) (Z.free 29) bt_tuple (sas_cons (ag_p (se_lc rfl S.nd (si_val (se_slice (se_var 4 rfl (vis_ok rfl)) (so_some se_int) so_none)) (blkOk_by (own := [("label", 6)]) rfl) (fun s H C cl fp => (sg_name S.nd rfl (loc_ok rfl))) (fun s H C cl fp => si_nil) (fun s H C cl fp => (se_index hu (se_var 5 rfl (vis_ok rfl)) (se_var 6 rfl (vis_ok rfl)))))) sas_nil)))))))
    (sb_one (ss_ret (se_tup (sa_cons (se_call xe_cx ((ok__law_sorted Z).at hr) (by exact rfl) (Z.glo 68) (sas_cons (ag_v (se_var 7 rfl (vis_ok rfl))) sas_nil)) (sa_cons (se_cty cd_tuple (by exact rfl) (Z.free 29) bt_tuple (sas_cons (ag_p (se_lc rfl S.nd (si_val (se_var 1 rfl (vis_ok rfl))) (blkOk_by (own := [("label", 6)]) rfl) (fun s H C cl fp => (sg_name S.nd rfl (loc_ok rfl))) (fun s H C cl fp => si_nil) (fun s H C cl fp => (se_index hu (se_var 5 rfl (vis_ok rfl)) (se_var 6 rfl (vis_ok rfl)))))) sas_nil)) (sa_cons (se_blt cd_len (by exact rfl) (Z.free 15) bt_len (sas_cons (ag_p (se_var 5 rfl (vis_ok rfl))) sas_nil)) sa_nil))))))))))))
theorem ok__law_close (Z : Tx fs fnl K mg) : FnX P w K mg base 2 (He.ga K "_law_close") 3 fn__law_close := fnX_of (Z.def_ 26) sc__law_close (by decide) rfl (fun _ _ _ _ _ _ us hl => match us, hl with | [_, _, _], _ => rfl) fun cdv A outer s H E hr => sb__law_close Z hr
theorem sc__law_row : FnScope ["state", "tables", "size", "table", "column"] ["state", "tables", "size"] (defScope s__law_row) := ⟨rfl, rfl, rfl, by decide +kernel, rfl, by decide +kernel, by decide +kernel⟩
theorem sb__law_row (Z : Tx fs fnl K mg) {f : Addr} {cdv : Value} {A : Around} {outer : List Env} {s : Shared} {H : Hp} {E : XK} (hr : Room 1 (A.deeper (envOfC "_law_row" (defScope s__law_row) s.heap.objs.size f cdv))) : SB (cxOf (L2N.CX P w) P w K mg base ["state", "tables", "size", "table", "column"] "_law_row" (defScope s__law_row) f cdv A outer s H E) (WD E) (defBody s__law_row) c__law_row := by
  have S := sc__law_row
  have hu : U (cxOf (L2N.CX P w) P w K mg base ["state", "tables", "size", "table", "column"] "_law_row" (defScope s__law_row) f cdv A outer s H E) := Room.u hr
  exact (sb_cons (ss_set S.nd rfl (loc_ok rfl) (se_ix (op_ix' hu) (se_var 1 rfl (vis_ok rfl)) (se_call xe_cx ((ok__law_draw Z).at hr) (by exact rfl) (Z.glo 2) (sas_cons (ag_p (se_var 0 rfl (vis_ok rfl))) (sas_cons (ag_v (se_blt cd_len (by exact rfl) (Z.free 15) bt_len (sas_cons (ag_p (se_var 1 rfl (vis_ok rfl))) sas_nil))) sas_nil)))))
    (sb_one (ss_ret (se_bin op_add' (se_tup (sa_cons (se_ix (op_ix' hu) (se_var 3 rfl (vis_ok rfl)) se_int) sa_nil)) (se_cty cd_tuple (by exact rfl) (Z.free 29) bt_tuple (sas_cons (ag_p (se_lc rfl S.nd (si_range1 (by exact rfl) (Z.free 18) (se_ix (op_ix' hu) (se_var 3 rfl (vis_ok rfl)) se_int)) (blkOk_by (own := [("column", 4)]) rfl) (fun s H C cl fp => (sg_name S.nd rfl (loc_ok rfl))) (fun s H C cl fp => si_nil) (fun s H C cl fp => (se_call takes_w0 ((ok__law_draw Z).at hr) (by exact rfl) (Z.glo 2) (sas_cons (ag_p (se_var 0 rfl (vis_ok rfl))) (sas_cons (ag_v (se_var 2 rfl (vis_ok rfl))) sas_nil)))))) sas_nil))))))
theorem ok__law_row (Z : Tx fs fnl K mg) : FnX P w K mg base 2 (He.ga K "_law_row") 3 fn__law_row := fnX_of (Z.def_ 27) sc__law_row (by decide) rfl (fun _ _ _ _ _ _ us hl => match us, hl with | [_, _, _], _ => rfl) fun cdv A outer s H E hr => sb__law_row Z hr
theorem sc__law_random : FnScope ["state", "tables", "columns", "size", "count", "head", "rows", "column", "k", "value"] ["state", "tables", "columns", "size", "count"] (defScope s__law_random) := ⟨rfl, rfl, rfl, by decide +kernel, rfl, by decide +kernel, by decide +kernel⟩
theorem sb__law_random (Z : Tx fs fnl K mg) {f : Addr} {cdv : Value} {A : Around} {outer : List Env} {s : Shared} {H : Hp} {E : XK} (hr : Room 2 (A.deeper (envOfC "_law_random" (defScope s__law_random) s.heap.objs.size f cdv))) : SB (cxOf (L2N.CX P w) P w K mg base ["state", "tables", "columns", "size", "count", "head", "rows", "column", "k", "value"] "_law_random" (defScope s__law_random) f cdv A outer s H E) (WD E) (defBody s__law_random) c__law_random := by
  have S := sc__law_random
  have hu : U (cxOf (L2N.CX P w) P w K mg base ["state", "tables", "columns", "size", "count", "head", "rows", "column", "k", "value"] "_law_random" (defScope s__law_random) f cdv A outer s H E) := Room.u hr
  exact (sb_cons (ss_setLc rfl S.nd rfl rfl (sw_true rfl rfl rfl rfl) (si_range1 (by exact rfl) (Z.free 18) (se_var 2 rfl (vis_ok rfl))) (blkOk_by (own := [("column", 7)]) rfl) (fun s H C cl fp => (sg_name S.nd rfl (loc_ok rfl))) (fun s H C cl fp => si_nil) (fun s H C cl fp => (se_call takes_w0 ((ok__law_draw Z).at hr) (by exact rfl) (Z.glo 2) (sas_cons (ag_p (se_var 0 rfl (vis_ok rfl))) (sas_cons (ag_v (se_var 3 rfl (vis_ok rfl))) sas_nil)))))
    (sb_cons (ss_setLc rfl S.nd rfl rfl (sw_true rfl rfl rfl rfl) (si_range1 (by exact rfl) (Z.free 18) (se_var 4 rfl (vis_ok rfl))) (blkOk_by (own := [("k", 8)]) rfl) (fun s H C cl fp => (sg_name S.nd rfl (loc_ok rfl))) (fun s H C cl fp => si_nil) (fun s H C cl fp => (se_call takes_w0 ((ok__law_row Z).at hr) (by exact rfl) (Z.glo 66) (sas_cons (ag_p (se_var 0 rfl (vis_ok rfl))) (sas_cons (ag_v (se_var 1 rfl (vis_ok rfl))) (sas_cons (ag_v (se_var 3 rfl (vis_ok rfl))) sas_nil))))))
    (sb_one (ss_ret (se_call xe_cx ((ok__law_close Z).at hr) (by exact rfl) (Z.glo 67) (sas_cons (ag_v (se_var 6 rfl (vis_ok rfl))) (sas_cons (ag_v (se_var 5 rfl (vis_ok rfl))) (sas_cons (ag_v (se_lc rfl S.nd (si_range1 (by exact rfl) (Z.free 18) (se_var 3 rfl (vis_ok rfl))) (blkOk_by (own := [("value", 9)]) rfl) (fun s H C cl fp => (sg_name S.nd rfl (loc_ok rfl))) (fun s H C cl fp => si_nil) (fun s H C cl fp => (se_var 9 rfl (vis_ok rfl))))) sas_nil))))))))
theorem ok__law_random (Z : Tx fs fnl K mg) : FnX P w K mg base 3 (He.ga K "_law_random") 5 fn__law_random := fnX_of (Z.def_ 28) sc__law_random (by decide) rfl (fun _ _ _ _ _ _ us hl => match us, hl with | [_, _, _, _, _], _ => rfl) fun cdv A outer s H E hr => sb__law_random Z hr
theorem sc__law_some : FnScope ["state", "tables", "columns", "size", "count"] ["state", "tables", "columns", "size", "count"] (defScope s__law_some) := ⟨rfl, rfl, rfl, by decide +kernel, rfl, by decide +kernel, by decide +kernel⟩
theorem sb__law_some (Z : Tx fs fnl K mg) {f : Addr} {cdv : Value} {A : Around} {outer : List Env} {s : Shared} {H : Hp} {E : XK} (hr : Room 3 (A.deeper (envOfC "_law_some" (defScope s__law_some) s.heap.objs.size f cdv))) : SB (cxOf (L2N.CX P w) P w K mg base ["state", "tables", "columns", "size", "count"] "_law_some" (defScope s__law_some) f cdv A outer s H E) (WD E) (defBody s__law_some) c__law_some := by
  have S := sc__law_some
  have hu : U (cxOf (L2N.CX P w) P w K mg base ["state", "tables", "columns", "size", "count"] "_law_some" (defScope s__law_some) f cdv A outer s H E) := Room.u hr
  exact (sb_one (ss_ret (se_call xe_cx ((ok__law_random Z).at hr) (by exact rfl) (Z.glo 65) (sas_cons (ag_p (se_var 0 rfl (vis_ok rfl))) (sas_cons (ag_v (se_var 1 rfl (vis_ok rfl))) (sas_cons (ag_v (se_var 2 rfl (vis_ok rfl))) (sas_cons (ag_v (se_bin op_add' se_int (se_call xe_cx ((ok__law_draw Z).at hr) (by exact rfl) (Z.glo 2) (sas_cons (ag_p (se_var 0 rfl (vis_ok rfl))) (sas_cons (ag_v (se_var 3 rfl (vis_ok rfl))) sas_nil))))) (sas_cons (ag_v (se_bin op_add' se_int (se_call xe_cx ((ok__law_draw Z).at hr) (by exact rfl) (Z.glo 2) (sas_cons (ag_p (se_var 0 rfl (vis_ok rfl))) (sas_cons (ag_v (se_var 4 rfl (vis_ok rfl))) sas_nil))))) sas_nil))))))))
theorem ok__law_some (Z : Tx fs fnl K mg) : FnX P w K mg base 4 (He.ga K "_law_some") 5 fn__law_some := fnX_of (Z.def_ 29) sc__law_some (by decide) rfl (fun _ _ _ _ _ _ us hl => match us, hl with | [_, _, _, _, _], _ => rfl) fun cdv A outer s H E hr => sb__law_some Z hr
theorem sc__law_start : FnScope ["script", "cell"] ["script"] (defScope s__law_start) := ⟨rfl, rfl, rfl, by decide +kernel, rfl, by decide +kernel, by decide +kernel⟩
theorem sb__law_start (Z : Tx fs fnl K mg) {f : Addr} {cdv : Value} {A : Around} {outer : List Env} {s : Shared} {H : Hp} {E : XK} (hr : Room 0 (A.deeper (envOfC "_law_start" (defScope s__law_start) s.heap.objs.size f cdv))) : SB (cxOf (L2N.CX P w) P w K mg base ["script", "cell"] "_law_start" (defScope s__law_start) f cdv A outer s H E) (WD E) (defBody s__law_start) c__law_start := by
  have S := sc__law_start
  have hu : U (cxOf (L2N.CX P w) P w K mg base ["script", "cell"] "_law_start" (defScope s__law_start) f cdv A outer s H E) := Room.u hr
  exact (sb_one (ss_ret (se_lst (sa_cons (se_lc rfl S.nd (si_val (se_var 0 rfl (vis_ok rfl))) (blkOk_by (own := [("cell", 1)]) rfl) (fun s H C cl fp => (sg_name S.nd rfl (loc_ok rfl))) (fun s H C cl fp => si_nil) (fun s H C cl fp => (se_cty cd_int (by exact rfl) (Z.free 17) bt_int (sas_cons (ag_p (se_var 1 rfl (vis_ok rfl))) sas_nil)))) (sa_cons se_int (sa_cons se_int (sa_cons se_int (sa_cons se_int sa_nil))))))))
theorem ok__law_start (Z : Tx fs fnl K mg) : FnX P w K mg base 1 (He.ga K "_law_start") 1 fn__law_start := fnX_of (Z.def_ 30) sc__law_start (by decide) rfl (fun _ _ _ _ _ _ us hl => match us, hl with | [_], _ => rfl) fun cdv A outer s H E hr => sb__law_start Z hr
theorem sc__law_width : FnScope ["plain", "order", "pairs", "width", "value"] ["plain", "order"] (defScope s__law_width) := ⟨rfl, rfl, rfl, by decide +kernel, rfl, by decide +kernel, by decide +kernel⟩
theorem sb__law_width (Z : Tx fs fnl K mg) {f : Addr} {cdv : Value} {A : Around} {outer : List Env} {s : Shared} {H : Hp} {E : XK} (hr : Room 2 (A.deeper (envOfC "_law_width" (defScope s__law_width) s.heap.objs.size f cdv))) : SB (cxOf (L2N.CX P w) P w K mg base ["plain", "order", "pairs", "width", "value"] "_law_width" (defScope s__law_width) f cdv A outer s H E) (WD E) (defBody s__law_width) c__law_width := by
  have S := sc__law_width
  have hu : U (cxOf (L2N.CX P w) P w K mg base ["plain", "order", "pairs", "width", "value"] "_law_width" (defScope s__law_width) f cdv A outer s H E) := Room.u hr
  exact (sb_cons (ss_set S.nd rfl (loc_ok rfl) (se_call xe_cx ((ok__law_pairs Z).at hr) (by exact rfl) (Z.glo 48) (sas_cons (ag_v (se_var 0 rfl (vis_ok rfl))) sas_nil)))
    (sb_cons (ss_set S.nd rfl (loc_ok rfl) se_int)
    (sb_cons (ss_for owns_cx rfl (si_val (se_var 1 rfl (vis_ok rfl))) (sg_name S.nd rfl (loc_ok rfl)) (sb_cons (ss_if (st_cmp op_gt' (se_blt cd_len (by exact rfl) (Z.free 15) bt_len (sas_cons (ag_p (se_call xe_cx ((ok__law_near Z).at hr) (by exact rfl) (Z.glo 49) (sas_cons (ag_v (se_var 2 rfl (vis_ok rfl))) (sas_cons (ag_v (se_var 4 rfl (vis_ok rfl))) sas_nil)))) sas_nil)) (se_var 3 rfl (vis_ok rfl))) (sb_one (ss_set S.nd rfl (loc_ok rfl) (se_blt cd_len (by exact rfl) (Z.free 15) bt_len (sas_cons (ag_p (se_call xe_cx ((ok__law_near Z).at hr) (by exact rfl) (Z.glo 49) (sas_cons (ag_v (se_var 2 rfl (vis_ok rfl))) (sas_cons (ag_v (se_var 4 rfl (vis_ok rfl))) sas_nil)))) sas_nil)))) sb_nil)
    (sb_one (ss_set S.nd rfl (loc_ok rfl) (se_call xe_cx ((ok__law_taken Z).at hr) (by exact rfl) (Z.glo 50) (sas_cons (ag_v (se_var 2 rfl (vis_ok rfl))) (sas_cons (ag_v (se_var 4 rfl (vis_ok rfl))) sas_nil)))))))
    (sb_one (ss_ret (se_var 3 rfl (vis_ok rfl)))))))
theorem ok__law_width (Z : Tx fs fnl K mg) : FnX P w K mg base 3 (He.ga K "_law_width") 2 fn__law_width := fnX_of (Z.def_ 31) sc__law_width (by decide) rfl (fun _ _ _ _ _ _ us hl => match us, hl with | [_, _], _ => rfl) fun cdv A outer s H E hr => sb__law_width Z hr
theorem sc__law_word : FnScope ["state", "signs", "size", "k"] ["state"] (defScope s__law_word) := ⟨rfl, rfl, rfl, by decide +kernel, rfl, by decide +kernel, by decide +kernel⟩
theorem sb__law_word (Z : Tx fs fnl K mg) {f : Addr} {cdv : Value} {A : Around} {outer : List Env} {s : Shared} {H : Hp} {E : XK} (hr : Room 1 (A.deeper (envOfC "_law_word" (defScope s__law_word) s.heap.objs.size f cdv))) : SB (cxOf (L2N.CX P w) P w K mg base ["state", "signs", "size", "k"] "_law_word" (defScope s__law_word) f cdv A outer s H E) (WD E) (defBody s__law_word) c__law_word := by
  have S := sc__law_word
  have hu : U (cxOf (L2N.CX P w) P w K mg base ["state", "signs", "size", "k"] "_law_word" (defScope s__law_word) f cdv A outer s H E) := Room.u hr
  exact (sb_cons (ss_set S.nd rfl (loc_ok rfl) se_str)
    (sb_cons (ss_set S.nd rfl (loc_ok rfl) (se_bin op_add' se_int (se_call xe_cx ((ok__law_draw Z).at hr) (by exact rfl) (Z.glo 2) (sas_cons (ag_p (se_var 0 rfl (vis_ok rfl))) (sas_cons (ag_v se_int) sas_nil)))))
    (sb_cons (ss_if (st_cmp (op_eq' hu) (se_call xe_cx ((ok__law_draw Z).at hr) (by exact rfl) (Z.glo 2) (sas_cons (ag_p (se_var 0 rfl (vis_ok rfl))) (sas_cons (ag_v se_int) sas_nil))) se_int) (sb_one (ss_set S.nd rfl (loc_ok rfl) (se_bin op_add' se_int (se_call xe_cx ((ok__law_draw Z).at hr) (by exact rfl) (Z.glo 2) (sas_cons (ag_p (se_var 0 rfl (vis_ok rfl))) (sas_cons (ag_v se_int) sas_nil)))))) sb_nil)
    (sb_one (ss_ret (se_join se_str (se_lc rfl S.nd (si_range1 (by exact rfl) (Z.free 18) (se_var 2 rfl (vis_ok rfl))) (blkOk_by (own := [("k", 3)]) rfl) (fun s H C cl fp => (sg_name S.nd rfl (loc_ok rfl))) (fun s H C cl fp => si_nil) (fun s H C cl fp => (se_ix (op_ix' hu) (se_var 1 rfl (vis_ok rfl)) (se_call takes_w0 ((ok__law_draw Z).at hr) (by exact rfl) (Z.glo 2) (sas_cons (ag_p (se_var 0 rfl (vis_ok rfl))) (sas_cons (ag_v se_int) sas_nil))))))))))))
theorem ok__law_word (Z : Tx fs fnl K mg) : FnX P w K mg base 2 (He.ga K "_law_word") 1 fn__law_word := fnX_of (Z.def_ 32) sc__law_word (by decide) rfl (fun _ _ _ _ _ _ us hl => match us, hl with | [_], _ => rfl) fun cdv A outer s H E hr => sb__law_word Z hr
theorem sc__law_pool : FnScope ["state", "count", "pool", "k", "plain", "back", "word", "mark"] ["state", "count"] (defScope s__law_pool) := ⟨rfl, rfl, rfl, by decide +kernel, rfl, by decide +kernel, by decide +kernel⟩
theorem sb__law_pool (Z : Tx fs fnl K mg) {f : Addr} {cdv : Value} {A : Around} {outer : List Env} {s : Shared} {H : Hp} {E : XK} (hr : Room 2 (A.deeper (envOfC "_law_pool" (defScope s__law_pool) s.heap.objs.size f cdv))) : SB (cxOf (L2N.CX P w) P w K mg base ["state", "count", "pool", "k", "plain", "back", "word", "mark"] "_law_pool" (defScope s__law_pool) f cdv A outer s H E) (WD E) (defBody s__law_pool) c__law_pool := by
  have S := sc__law_pool
  have hu : U (cxOf (L2N.CX P w) P w K mg base ["state", "count", "pool", "k", "plain", "back", "word", "mark"] "_law_pool" (defScope s__law_pool) f cdv A outer s H E) := Room.u hr
  exact (sb_cons (ss_set S.nd rfl (loc_ok rfl) (se_lst sa_nil))
    (sb_cons (ss_for owns_cx rfl (si_range1 (by exact rfl) (Z.free 18) (se_var 1 rfl (vis_ok rfl))) (sg_name S.nd rfl (loc_ok rfl)) (sb_cons (ss_set S.nd rfl (loc_ok rfl) (se_call xe_cx ((ok__law_word Z).at hr) (by exact rfl) (Z.glo 72) (sas_cons (ag_p (se_var 0 rfl (vis_ok rfl))) sas_nil)))
    (sb_cons (ss_set S.nd rfl (loc_ok rfl) (se_call xe_cx ((ok__law_draw Z).at hr) (by exact rfl) (Z.glo 2) (sas_cons (ag_p (se_var 0 rfl (vis_ok rfl))) (sas_cons (ag_v se_int) sas_nil))))
    (sb_cons (ss_set S.nd rfl (loc_ok rfl) (se_var 4 rfl (vis_ok rfl)))
    (sb_cons (ss_for owns_cx rfl (si_val se_str) (sg_name S.nd rfl (loc_ok rfl)) (sb_one (ss_if (st_cmp (op_in' hu) (se_var 6 rfl (vis_ok rfl)) (se_var 2 rfl (vis_ok rfl))) (sb_cons (ss_set S.nd rfl (loc_ok rfl) (se_bin op_add' (se_var 7 rfl (vis_ok rfl)) (se_slice (se_var 4 rfl (vis_ok rfl)) so_none (so_some se_int))))
    (sb_one (ss_if (st_cmp (op_eq' hu) (se_var 5 rfl (vis_ok rfl)) se_int) (sb_one (ss_set S.nd rfl (loc_ok rfl) (se_bin op_add' (se_slice (se_var 4 rfl (vis_ok rfl)) so_none (so_some se_int)) (se_var 7 rfl (vis_ok rfl))))) sb_nil))) sb_nil)))
    (sb_one (ss_expr (se_append (i := 2) (n := "pool") rfl (vis_ok rfl) (se_var 6 rfl (vis_ok rfl))))))))))
    (sb_one (ss_ret (se_var 2 rfl (vis_ok rfl))))))
theorem ok__law_pool (Z : Tx fs fnl K mg) : FnX P w K mg base 3 (He.ga K "_law_pool") 2 fn__law_pool := fnX_of (Z.def_ 33) sc__law_pool (by decide) rfl (fun _ _ _ _ _ _ us hl => match us, hl with | [_, _], _ => rfl) fun cdv A outer s H E hr => sb__law_pool Z hr
theorem sc__law_tables : FnScope ["state", "most", "widest", "names", "name"] ["state", "most", "widest"] (defScope s__law_tables) := ⟨rfl, rfl, rfl, by decide +kernel, rfl, by decide +kernel, by decide +kernel⟩
theorem sb__law_tables (Z : Tx fs fnl K mg) {f : Addr} {cdv : Value} {A : Around} {outer : List Env} {s : Shared} {H : Hp} {E : XK} (hr : Room 3 (A.deeper (envOfC "_law_tables" (defScope s__law_tables) s.heap.objs.size f cdv))) : SB (cxOf (L2N.CX P w) P w K mg base ["state", "most", "widest", "names", "name"] "_law_tables" (defScope s__law_tables) f cdv A outer s H E) (WD E) (defBody s__law_tables) c__law_tables := by
  have S := sc__law_tables
  have hu : U (cxOf (L2N.CX P w) P w K mg base ["state", "most", "widest", "names", "name"] "_law_tables" (defScope s__law_tables) f cdv A outer s H E) := Room.u hr
  exact (sb_cons (ss_set S.nd rfl (loc_ok rfl) (se_call xe_cx ((ok__law_pool Z).at hr) (by exact rfl) (Z.glo 71) (sas_cons (ag_p (se_var 0 rfl (vis_ok rfl))) (sas_cons (ag_v (se_bin op_add' se_int (se_call xe_cx ((ok__law_draw Z).at hr) (by exact rfl) (Z.glo 2) (sas_cons (ag_p (se_var 0 rfl (vis_ok rfl))) (sas_cons (ag_v (se_var 1 rfl (vis_ok rfl))) sas_nil))))) sas_nil))))
    (sb_one (ss_ret (se_lc rfl S.nd (si_val (se_var 3 rfl (vis_ok rfl))) (blkOk_by (own := [("name", 4)]) rfl) (fun s H C cl fp => (sg_name S.nd rfl (loc_ok rfl))) (fun s H C cl fp => si_nil) (fun s H C cl fp => (se_tup (sa_cons (se_var 4 rfl (vis_ok rfl)) (sa_cons (se_bin op_add' se_int (se_call takes_w0 ((ok__law_draw Z).at hr) (by exact rfl) (Z.glo 2) (sas_cons (ag_p (se_var 0 rfl (vis_ok rfl))) (sas_cons (ag_v (se_var 2 rfl (vis_ok rfl))) sas_nil)))) sa_nil))))))))
theorem ok__law_tables (Z : Tx fs fnl K mg) : FnX P w K mg base 4 (He.ga K "_law_tables") 3 fn__law_tables := fnX_of (Z.def_ 34) sc__law_tables (by decide) rfl (fun _ _ _ _ _ _ us hl => match us, hl with | [_, _, _], _ => rfl) fun cdv A outer s H E hr => sb__law_tables Z hr
theorem sc__law_two_tables : FnScope ["state", "first", "second"] ["state"] (defScope s__law_two_tables) := ⟨rfl, rfl, rfl, by decide +kernel, rfl, by decide +kernel, by decide +kernel⟩
theorem sb__law_two_tables (Z : Tx fs fnl K mg) {f : Addr} {cdv : Value} {A : Around} {outer : List Env} {s : Shared} {H : Hp} {E : XK} (hr : Room 1 (A.deeper (envOfC "_law_two_tables" (defScope s__law_two_tables) s.heap.objs.size f cdv))) : SB (cxOf (L2N.CX P w) P w K mg base ["state", "first", "second"] "_law_two_tables" (defScope s__law_two_tables) f cdv A outer s H E) (WD E) (defBody s__law_two_tables) c__law_two_tables := by
  have S := sc__law_two_tables
  have hu : U (cxOf (L2N.CX P w) P w K mg base ["state", "first", "second"] "_law_two_tables" (defScope s__law_two_tables) f cdv A outer s H E) := Room.u hr
  exact (sb_cons (ss_set S.nd rfl (loc_ok rfl) (se_tup (sa_cons (se_bin op_add' se_str (se_cty cd_strI (by exact rfl) (Z.free 60) bt_str (sas_cons (ag_p (se_call xe_cx ((ok__law_draw Z).at hr) (by exact rfl) (Z.glo 2) (sas_cons (ag_p (se_var 0 rfl (vis_ok rfl))) (sas_cons (ag_v se_int) sas_nil)))) sas_nil))) (sa_cons se_int sa_nil))))
    (sb_cons (ss_set S.nd rfl (loc_ok rfl) (se_tup (sa_cons (se_bin op_add' (se_ix (op_ix' hu) se_str (se_call xe_cx ((ok__law_draw Z).at hr) (by exact rfl) (Z.glo 2) (sas_cons (ag_p (se_var 0 rfl (vis_ok rfl))) (sas_cons (ag_v se_int) sas_nil)))) (se_cty cd_strI (by exact rfl) (Z.free 60) bt_str (sas_cons (ag_p (se_call xe_cx ((ok__law_draw Z).at hr) (by exact rfl) (Z.glo 2) (sas_cons (ag_p (se_var 0 rfl (vis_ok rfl))) (sas_cons (ag_v se_int) sas_nil)))) sas_nil))) (sa_cons (se_bin op_add' se_int (se_call xe_cx ((ok__law_draw Z).at hr) (by exact rfl) (Z.glo 2) (sas_cons (ag_p (se_var 0 rfl (vis_ok rfl))) (sas_cons (ag_v se_int) sas_nil)))) sa_nil))))
    (sb_one (ss_ret (se_slice (se_lst (sa_cons (se_var 1 rfl (vis_ok rfl)) (sa_cons (se_var 2 rfl (vis_ok rfl)) sa_nil))) so_none (so_some (se_bin op_add' se_int (se_call xe_cx ((ok__law_draw Z).at hr) (by exact rfl) (Z.glo 2) (sas_cons (ag_p (se_var 0 rfl (vis_ok rfl))) (sas_cons (ag_v se_int) sas_nil))))))))))
theorem ok__law_two_tables (Z : Tx fs fnl K mg) : FnX P w K mg base 2 (He.ga K "_law_two_tables") 1 fn__law_two_tables := fnX_of (Z.def_ 35) sc__law_two_tables (by decide) rfl (fun _ _ _ _ _ _ us hl => match us, hl with | [_], _ => rfl) fun cdv A outer s H E hr => sb__law_two_tables Z hr
theorem sc__law_world : FnScope ["state"] ["state"] (defScope s__law_world) := ⟨rfl, rfl, rfl, by decide +kernel, rfl, by decide +kernel, by decide +kernel⟩
theorem sb__law_world (Z : Tx fs fnl K mg) {f : Addr} {cdv : Value} {A : Around} {outer : List Env} {s : Shared} {H : Hp} {E : XK} (hr : Room 4 (A.deeper (envOfC "_law_world" (defScope s__law_world) s.heap.objs.size f cdv))) : SB (cxOf (L2N.CX P w) P w K mg base ["state"] "_law_world" (defScope s__law_world) f cdv A outer s H E) (WD E) (defBody s__law_world) c__law_world := by
  have S := sc__law_world
  have hu : U (cxOf (L2N.CX P w) P w K mg base ["state"] "_law_world" (defScope s__law_world) f cdv A outer s H E) := Room.u hr
  exact (sb_cons (ss_if (st_cmp (op_eq' hu) (se_call xe_cx ((ok__law_draw Z).at hr) (by exact rfl) (Z.glo 2) (sas_cons (ag_p (se_var 0 rfl (vis_ok rfl))) (sas_cons (ag_v se_int) sas_nil))) se_int) (sb_one (ss_ret (se_call xe_cx ((ok__law_tables Z).at hr) (by exact rfl) (Z.glo 69) (sas_cons (ag_p (se_var 0 rfl (vis_ok rfl))) (sas_cons (ag_v se_int) (sas_cons (ag_v se_int) sas_nil)))))) sb_nil)
    (sb_one (ss_ret (se_call xe_cx ((ok__law_two_tables Z).at hr) (by exact rfl) (Z.glo 70) (sas_cons (ag_p (se_var 0 rfl (vis_ok rfl))) sas_nil)))))
theorem ok__law_world (Z : Tx fs fnl K mg) : FnX P w K mg base 5 (He.ga K "_law_world") 1 fn__law_world := fnX_of (Z.def_ 36) sc__law_world (by decide) rfl (fun _ _ _ _ _ _ us hl => match us, hl with | [_], _ => rfl) fun cdv A outer s H E hr => sb__law_world Z hr
theorem sc_fewest_neighbours : FnScope ["near", "best", "fewest_found", "value"] ["near"] (defScope s_fewest_neighbours) := ⟨rfl, rfl, rfl, by decide +kernel, rfl, by decide +kernel, by decide +kernel⟩
theorem sb_fewest_neighbours (Z : Tx fs fnl K mg) {f : Addr} {cdv : Value} {A : Around} {outer : List Env} {s : Shared} {H : Hp} {E : XK} (hr : Room 0 (A.deeper (envOfC "fewest_neighbours" (defScope s_fewest_neighbours) s.heap.objs.size f cdv))) : SB (cxOf (L2N.CX P w) P w K mg base ["near", "best", "fewest_found", "value"] "fewest_neighbours" (defScope s_fewest_neighbours) f cdv A outer s H E) (WD E) (defBody s_fewest_neighbours) c_fewest_neighbours := by
  have S := sc_fewest_neighbours
  have hu : U (cxOf (L2N.CX P w) P w K mg base ["near", "best", "fewest_found", "value"] "fewest_neighbours" (defScope s_fewest_neighbours) f cdv A outer s H E) := Room.u hr
  exact (sb_cons (ss_set S.nd rfl (loc_ok rfl) (se_neg se_int))
    (sb_cons (ss_set S.nd rfl (loc_ok rfl) se_int)
    (sb_cons (ss_forD (i := 0) (n := "near") owns_cx rfl rfl (vis_ok rfl) (sg_name S.nd rfl (loc_ok rfl)) (sb_one (ss_if (st_sw (sw_or (st_cmp (op_eq' hu) (se_var 1 rfl (vis_ok rfl)) (se_neg se_int)) (sw_or1 (st_cmp (op_lt' hu) (se_blt cd_len (by exact rfl) (Z.free 15) bt_len (sas_cons (ag_p (se_ix (op_ix' hu) (se_var 0 rfl (vis_ok rfl)) (se_var 3 rfl (vis_ok rfl)))) sas_nil)) (se_var 2 rfl (vis_ok rfl)))))) (sb_cons (ss_set S.nd rfl (loc_ok rfl) (se_var 3 rfl (vis_ok rfl)))
    (sb_one (ss_set S.nd rfl (loc_ok rfl) (se_blt cd_len (by exact rfl) (Z.free 15) bt_len (sas_cons (ag_p (se_ix (op_ix' hu) (se_var 0 rfl (vis_ok rfl)) (se_var 3 rfl (vis_ok rfl)))) sas_nil))))) sb_nil)))
    (sb_one (ss_ret (se_var 1 rfl (vis_ok rfl)))))))
theorem ok_fewest_neighbours (Z : Tx fs fnl K mg) : FnX P w K mg base 1 (He.ga K "fewest_neighbours") 1 fn_fewest_neighbours := fnX_of (Z.def_ 37) sc_fewest_neighbours (by decide) rfl (fun _ _ _ _ _ _ us hl => match us, hl with | [_], _ => rfl) fun cdv A outer s H E hr => sb_fewest_neighbours Z hr
theorem sc_quick_order : FnScope ["pattern", "near", "order", "value"] ["pattern"] (defScope s_quick_order) := ⟨rfl, rfl, rfl, by decide +kernel, rfl, by decide +kernel, by decide +kernel⟩
theorem sb_quick_order (Z : Tx fs fnl K mg) {f : Addr} {cdv : Value} {A : Around} {outer : List Env} {s : Shared} {H : Hp} {E : XK} (hr : Room 3 (A.deeper (envOfC "quick_order" (defScope s_quick_order) s.heap.objs.size f cdv))) : SB (cxOf (L2N.CX P w) P w K mg base ["pattern", "near", "order", "value"] "quick_order" (defScope s_quick_order) f cdv A outer s H E) (WD E) (defBody s_quick_order) c_quick_order := by
  have S := sc_quick_order
  have hu : U (cxOf (L2N.CX P w) P w K mg base ["pattern", "near", "order", "value"] "quick_order" (defScope s_quick_order) f cdv A outer s H E) := Room.u hr
  exact (sb_cons (ss_set S.nd rfl (loc_ok rfl) (se_call xe_cx ((ok_neighbour_lists Z).at hr) (by exact rfl) (Z.glo 62) (sas_cons (ag_v (se_var 0 rfl (vis_ok rfl))) sas_nil)))
    (sb_cons (ss_set S.nd rfl (loc_ok rfl) (se_lst sa_nil))
    (sb_cons (ss_while owns_cx (st_cmp op_gt' (se_blt cd_len (by exact rfl) (Z.free 15) bt_len (sas_cons (ag_p (se_var 1 rfl (vis_ok rfl))) sas_nil)) se_int) (sb_cons (ss_set S.nd rfl (loc_ok rfl) (se_call xe_cx ((ok_fewest_neighbours Z).at hr) (by exact rfl) (Z.glo 73) (sas_cons (ag_v (se_var 1 rfl (vis_ok rfl))) sas_nil)))
    (sb_cons (ss_expr (se_append (i := 2) (n := "order") rfl (vis_ok rfl) (se_var 3 rfl (vis_ok rfl))))
    (sb_one (ss_set S.nd rfl (loc_ok rfl) (se_call xe_cx ((ok_without_value Z).at hr) (by exact rfl) (Z.glo 63) (sas_cons (ag_v (se_var 1 rfl (vis_ok rfl))) (sas_cons (ag_v (se_var 3 rfl (vis_ok rfl))) sas_nil))))))))
    (sb_one (ss_ret (se_var 2 rfl (vis_ok rfl)))))))
theorem ok_quick_order (Z : Tx fs fnl K mg) : FnX P w K mg base 4 (He.ga K "quick_order") 1 fn_quick_order := fnX_of (Z.def_ 38) sc_quick_order (by decide) rfl (fun _ _ _ _ _ _ us hl => match us, hl with | [_], _ => rfl) fun cdv A outer s H E hr => sb_quick_order Z hr
theorem sc_law : FnScope ["script", "state", "tables", "columns", "plain", "pattern", "due", "told", "order", "length", "ring", "k"] ["script"] (defScope s_law) := ⟨rfl, rfl, rfl, by decide +kernel, rfl, by decide +kernel, by decide +kernel⟩
theorem sb_law (Z : Tx fs fnl K mg) {f : Addr} {cdv : Value} {A : Around} {outer : List Env} {s : Shared} {H : Hp} {E : XK} (hr : Room 7 (A.deeper (envOfC "law" (defScope s_law) s.heap.objs.size f cdv))) : SB (cxOf (L2N.CX P w) P w K mg base ["script", "state", "tables", "columns", "plain", "pattern", "due", "told", "order", "length", "ring", "k"] "law" (defScope s_law) f cdv A outer s H E) (WD E) (defBody s_law) c_law := by
  have S := sc_law
  have hu : U (cxOf (L2N.CX P w) P w K mg base ["script", "state", "tables", "columns", "plain", "pattern", "due", "told", "order", "length", "ring", "k"] "law" (defScope s_law) f cdv A outer s H E) := Room.u hr
  exact (sb_cons (ss_set S.nd rfl (loc_ok rfl) (se_call xe_cx ((ok__law_start Z).at hr) (by exact rfl) (Z.glo 0) (sas_cons (ag_v (se_var 0 rfl (vis_ok rfl))) sas_nil)))
    (sb_cons (ss_set S.nd rfl (loc_ok rfl) (se_call xe_cx ((ok__law_world Z).at hr) (by exact rfl) (Z.glo 1) (sas_cons (ag_p (se_var 1 rfl (vis_ok rfl))) sas_nil)))
    (sb_cons (ss_set S.nd rfl (loc_ok rfl) (se_call xe_cx ((ok__law_draw Z).at hr) (by exact rfl) (Z.glo 2) (sas_cons (ag_p (se_var 1 rfl (vis_ok rfl))) (sas_cons (ag_v se_int) sas_nil))))
    (sb_cons (ss_set S.nd rfl (loc_ok rfl) (se_call xe_cx ((ok__law_some Z).at hr) (by exact rfl) (Z.glo 3) (sas_cons (ag_p (se_var 1 rfl (vis_ok rfl))) (sas_cons (ag_v (se_var 2 rfl (vis_ok rfl))) (sas_cons (ag_v (se_var 3 rfl (vis_ok rfl))) (sas_cons (ag_v se_int) (sas_cons (ag_v se_int) sas_nil)))))))
    (sb_cons (ss_set S.nd rfl (loc_ok rfl) (se_call xe_cx ((ok__law_pattern Z).at hr) (by exact rfl) (Z.glo 7) (sas_cons (ag_v (se_make xe_cx (Z.mkr 5) ((ok_Schema_u__init_u_ Z).at1 hr) (by exact rfl) (Z.glo 6) (sas_cons (ag_v (se_cty (cd_list rfl) (by exact rfl) (Z.free 4) bt_list (sas_cons (ag_p (se_var 2 rfl (vis_ok rfl))) sas_nil))) sas_nil))) (sas_cons (ag_v (se_var 4 rfl (vis_ok rfl))) sas_nil))))
    (sb_cons (ss_set S.nd rfl (loc_ok rfl) (se_call xe_cx ((ok__law_quick Z).at hr) (by exact rfl) (Z.glo 8) (sas_cons (ag_v (se_var 4 rfl (vis_ok rfl))) sas_nil)))
    (sb_cons (ss_set S.nd rfl (loc_ok rfl) (se_call xe_cx ((ok_quick_order Z).at hr) (by exact rfl) (Z.glo 9) (sas_cons (ag_v (se_var 5 rfl (vis_ok rfl))) sas_nil)))
    (sb_cons (ss_if (st_not (st_val (se_call xe_cx ((ok__law_same Z).at hr) (by exact rfl) (Z.glo 10) (sas_cons (ag_p (se_var 7 rfl (vis_ok rfl))) (sas_cons (ag_v (se_var 6 rfl (vis_ok rfl))) sas_nil))))) (sb_one (ss_ret se_bl)) sb_nil)
    (sb_cons (ss_expr (se_append (i := 7) (n := "told") rfl (vis_ok rfl) se_int))
    (sb_cons (ss_if (st_sw (sw_or (st_not (st_val (se_call xe_cx ((ok__law_same Z).at hr) (by exact rfl) (Z.glo 10) (sas_cons (ag_v (se_call xe_cx ((ok_quick_order Z).at hr) (by exact rfl) (Z.glo 9) (sas_cons (ag_v (se_var 5 rfl (vis_ok rfl))) sas_nil))) (sas_cons (ag_v (se_var 6 rfl (vis_ok rfl))) sas_nil))))) (sw_or1 (st_not (st_val (se_call xe_cx ((ok__law_same Z).at hr) (by exact rfl) (Z.glo 10) (sas_cons (ag_v (se_call xe_cx ((ok_order_width Z).at hr) (by exact rfl) (Z.glo 11) (sas_cons (ag_v (se_var 5 rfl (vis_ok rfl))) (sas_cons (ag_v (se_cty (cd_list rfl) (by exact rfl) (Z.free 4) bt_list (sas_cons (ag_p (se_var 6 rfl (vis_ok rfl))) sas_nil))) sas_nil)))) (sas_cons (ag_v (se_call xe_cx ((ok__law_width Z).at hr) (by exact rfl) (Z.glo 12) (sas_cons (ag_v (se_var 4 rfl (vis_ok rfl))) (sas_cons (ag_v (se_var 6 rfl (vis_ok rfl))) sas_nil)))) sas_nil)))))))) (sb_one (ss_ret se_bl)) sb_nil)
    (sb_cons (ss_set S.nd rfl (loc_ok rfl) (se_call xe_cx ((ok__law_shuffled Z).at hr) (by exact rfl) (Z.glo 14) (sas_cons (ag_p (se_var 1 rfl (vis_ok rfl))) (sas_cons (ag_v (se_call xe_cx ((ok__law_inner Z).at hr) (by exact rfl) (Z.glo 13) (sas_cons (ag_v (se_var 4 rfl (vis_ok rfl))) sas_nil))) sas_nil))))
    (sb_cons (ss_if (st_not (st_val (se_call xe_cx ((ok__law_same Z).at hr) (by exact rfl) (Z.glo 10) (sas_cons (ag_v (se_call xe_cx ((ok_order_width Z).at hr) (by exact rfl) (Z.glo 11) (sas_cons (ag_v (se_var 5 rfl (vis_ok rfl))) (sas_cons (ag_v (se_cty (cd_list rfl) (by exact rfl) (Z.free 4) bt_list (sas_cons (ag_p (se_var 8 rfl (vis_ok rfl))) sas_nil))) sas_nil)))) (sas_cons (ag_v (se_call xe_cx ((ok__law_width Z).at hr) (by exact rfl) (Z.glo 12) (sas_cons (ag_v (se_var 4 rfl (vis_ok rfl))) (sas_cons (ag_v (se_var 8 rfl (vis_ok rfl))) sas_nil)))) sas_nil))))) (sb_one (ss_ret se_bl)) sb_nil)
    (sb_cons (ss_if (st_sw (sw_and (st_cmp op_gt' (se_blt cd_len (by exact rfl) (Z.free 15) bt_len (sas_cons (ag_p (se_var 8 rfl (vis_ok rfl))) sas_nil)) se_int) (sw_and1 (st_not (st_val (se_call xe_cx ((ok__law_refused Z).at hr) (by exact rfl) (Z.glo 16) (sas_cons (ag_v (se_var 5 rfl (vis_ok rfl))) (sas_cons (ag_v (se_slice (se_var 8 rfl (vis_ok rfl)) (so_some se_int) so_none)) (sas_cons (ag_v (se_ix (op_ix' hu) (se_var 8 rfl (vis_ok rfl)) se_int)) sas_nil))))))))) (sb_one (ss_ret se_bl)) sb_nil)
    (sb_cons (ss_if (st_sw (sw_and (st_cmp op_gt' (se_blt cd_len (by exact rfl) (Z.free 15) bt_len (sas_cons (ag_p (se_var 8 rfl (vis_ok rfl))) sas_nil)) se_int) (sw_and1 (st_not (st_val (se_call xe_cx ((ok__law_refused Z).at hr) (by exact rfl) (Z.glo 16) (sas_cons (ag_v (se_var 5 rfl (vis_ok rfl))) (sas_cons (ag_v (se_bin op_add' (se_var 8 rfl (vis_ok rfl)) (se_lst (sa_cons (se_ix (op_ix' hu) (se_var 8 rfl (vis_ok rfl)) (se_neg se_int)) sa_nil)))) (sas_cons (ag_v (se_ix (op_ix' hu) (se_var 8 rfl (vis_ok rfl)) (se_neg se_int))) sas_nil))))))))) (sb_one (ss_ret se_bl)) sb_nil)
    (sb_cons (ss_if (st_sw (sw_and (st_cmp op_gt' (se_var 3 rfl (vis_ok rfl)) se_int) (sw_and1 (st_not (st_val (se_call xe_cx ((ok__law_refused Z).at hr) (by exact rfl) (Z.glo 16) (sas_cons (ag_v (se_var 5 rfl (vis_ok rfl))) (sas_cons (ag_v (se_bin op_add' (se_var 8 rfl (vis_ok rfl)) (se_lst (sa_cons (se_ix (op_ix' hu) (se_ix (op_ix' hu) (se_var 4 rfl (vis_ok rfl)) se_int) se_int) sa_nil)))) (sas_cons (ag_v (se_ix (op_ix' hu) (se_ix (op_ix' hu) (se_var 4 rfl (vis_ok rfl)) se_int) se_int)) sas_nil))))))))) (sb_one (ss_ret se_bl)) sb_nil)
    (sb_cons (ss_set S.nd rfl (loc_ok rfl) (se_bin op_add' se_int (se_call xe_cx ((ok__law_draw Z).at hr) (by exact rfl) (Z.glo 2) (sas_cons (ag_p (se_var 1 rfl (vis_ok rfl))) (sas_cons (ag_v se_int) sas_nil)))))
    (sb_cons (ss_set S.nd rfl (loc_ok rfl) (se_make xe_cx (Z.mkr 19) ((ok_Pattern_u__init_u_ Z).at1 hr) (by exact rfl) (Z.glo 20) (sas_cons (ag_v (se_make xe_cx (Z.mkr 5) ((ok_Schema_u__init_u_ Z).at1 hr) (by exact rfl) (Z.glo 6) (sas_cons (ag_v (se_lst (sa_cons (se_tup (sa_cons se_str (sa_cons se_int sa_nil))) sa_nil))) sas_nil))) (sas_cons (ag_v (se_lc rfl S.nd (si_range1 (by exact rfl) (Z.free 18) (se_var 9 rfl (vis_ok rfl))) (blkOk_by (own := [("k", 11)]) rfl) (fun s H C cl fp => (sg_name S.nd rfl (loc_ok rfl))) (fun s H C cl fp => si_nil) (fun s H C cl fp => (se_tup (sa_cons se_str (sa_cons (se_var 11 rfl (vis_ok rfl)) (sa_cons (se_bin op_mod' (se_cty cd_int (by exact rfl) (Z.free 17) bt_int (sas_cons (ag_p (se_bin op_add' (se_var 11 rfl (vis_ok rfl)) se_int)) sas_nil)) (se_var 9 rfl (vis_ok rfl))) sa_nil))))))) (sas_cons (ag_v (se_tup sa_nil)) sas_nil)))))
    (sb_cons (ss_if (st_sw (sw_or (st_not (st_val (se_call xe_cx ((ok__law_same Z).at hr) (by exact rfl) (Z.glo 10) (sas_cons (ag_v (se_call xe_cx ((ok_quick_order Z).at hr) (by exact rfl) (Z.glo 9) (sas_cons (ag_v (se_var 10 rfl (vis_ok rfl))) sas_nil))) (sas_cons (ag_v (se_lc rfl S.nd (si_range1 (by exact rfl) (Z.free 18) (se_var 9 rfl (vis_ok rfl))) (blkOk_by (own := [("k", 11)]) rfl) (fun s H C cl fp => (sg_name S.nd rfl (loc_ok rfl))) (fun s H C cl fp => si_nil) (fun s H C cl fp => (se_var 11 rfl (vis_ok rfl))))) sas_nil))))) (sw_or1 (st_not (st_val (se_call xe_cx ((ok__law_same Z).at hr) (by exact rfl) (Z.glo 10) (sas_cons (ag_v (se_call xe_cx ((ok_order_width Z).at hr) (by exact rfl) (Z.glo 11) (sas_cons (ag_v (se_var 10 rfl (vis_ok rfl))) (sas_cons (ag_v (se_call xe_cx ((ok_quick_order Z).at hr) (by exact rfl) (Z.glo 9) (sas_cons (ag_v (se_var 10 rfl (vis_ok rfl))) sas_nil))) sas_nil)))) (sas_cons (ag_v se_int) sas_nil)))))))) (sb_one (ss_ret se_bl)) sb_nil)
    (sb_one (ss_ret (se_call xe_cx ((ok__law_refused Z).at hr) (by exact rfl) (Z.glo 16) (sas_cons (ag_v (se_var 5 rfl (vis_ok rfl))) (sas_cons (ag_v (se_bin op_add' (se_var 8 rfl (vis_ok rfl)) (se_lst (sa_cons (se_ix (op_ix' hu) (se_var 4 rfl (vis_ok rfl)) se_int) sa_nil)))) (sas_cons (ag_v (se_ix (op_ix' hu) (se_var 4 rfl (vis_ok rfl)) se_int)) sas_nil))))))))))))))))))))))))
theorem ok_law (Z : Tx fs fnl K mg) : FnX P w K mg base 8 (He.ga K "law") 1 fn_law := fnX_of (Z.def_ 39) sc_law (by decide) rfl (fun _ _ _ _ _ _ us hl => match us, hl with | [_], _ => rfl) fun cdv A outer s H E hr => sb_law Z hr
end
end Lw

/-! Sim27: what a meaning comes to, asked backwards. -/
namespace Sim
open PySem PySem.Spec PyProof.Rows L2

abbrev EP := Str → List (Str × D) → En → Prop
abbrev eF : EP := fun _ _ _ => False
def wOd {α : Type} (o : Out α) (E : EP) (Q : α → En → Prop) : Prop := match o with
  | .ok a e => Q a e
  | .err x fs e => E x fs e
  | .stuck => False
structure wO {α : Type} (o : Out α) (E : EP) (Q : α → En → Prop) : Prop where
  out : wOd o E Q
theorem wO_eq {α : Type} {o : Out α} {E : EP} {Q : α → En → Prop} : wO o E Q = wOd o E Q := propext ⟨fun h => h.out, fun h => ⟨h⟩⟩
structure Ks where
  nx : En → Prop
  rt : R → En → Prop
  bk : En → Prop
  ct : En → Prop
  er : EP
def wSd (o : OutS) (k : Ks) : Prop := match o with
  | .next e => k.nx e
  | .ret r e => k.rt r e
  | .brk e => k.bk e
  | .cont e => k.ct e
  | .err x fs e => k.er x fs e
  | .stuck => False
structure wS (o : OutS) (k : Ks) : Prop where
  out : wSd o k
theorem wS_eq {o : OutS} {k : Ks} : wS o k = wSd o k := propext ⟨fun h => h.out, fun h => ⟨h⟩⟩
def wFd (o : OutF) (E : Str → List (Str × D) → List Sl → Prop) (Q : R → List Sl → Prop) : Prop := match o with
  | .ret r p => Q r p
  | .err x fs p => E x fs p
  | .stuck => False
structure wF (o : OutF) (E : Str → List (Str × D) → List Sl → Prop) (Q : R → List Sl → Prop) : Prop where
  out : wFd o E Q
theorem wF_eq {o : OutF} {E : Str → List (Str × D) → List Sl → Prop} {Q : R → List Sl → Prop} : wF o E Q = wFd o E Q := propext ⟨fun h => h.out, fun h => ⟨h⟩⟩
theorem wO_congr {α : Type} {o : Out α} {o' : Unit → (Out α)} {E : EP} {Q : α → En → Prop} (h : ∀ u : Unit, o = o' u) : wO o E Q = wO (o' ()) E Q := by rw [h ()]
theorem wS_congr {o : OutS} {o' : Unit → OutS} {k : Ks} (h : ∀ u : Unit, o = o' u) : wS o k = wS (o' ()) k := by rw [h ()]
theorem wF_congr {o : OutF} {o' : Unit → OutF} {E : Str → List (Str × D) → List Sl → Prop} {Q : R → List Sl → Prop} (h : ∀ u : Unit, o = o' u) : wF o E Q = wF (o' ()) E Q := by rw [h ()]
/-! small ones -/
def wSl (o : Option Sl) (A : D → Prop) (B : Prop) : Prop := match o with
  | some (.d x) => A x
  | some (.own _) => B
  | some (.ref _) => B
  | _ => False
theorem wSl_congr {o : Option Sl} {o' : Unit → (Option Sl)} {A : D → Prop} {B : Prop} (h : ∀ u : Unit, o = o' u) : wSl o A B = wSl (o' ()) A B := by rw [h ()]
@[simp ↓] theorem wSl_d {x : D} {A : D → Prop} {B : Prop} : wSl (some (.d x)) A B = A x := propext Iff.rfl
@[simp ↓] theorem wSl_own {x : D} {A : D → Prop} {B : Prop} : wSl (some (.own x)) A B = B := propext Iff.rfl
@[simp ↓] theorem wSl_ref {x : D} {A : D → Prop} {B : Prop} : wSl (some (.ref x)) A B = B := propext Iff.rfl
/-- frozen -/
def wZl (o : Option Sl) (A B : D → Prop) : Prop := match o with
  | some (.d x) => A x
  | some (.own x) => B x
  | _ => False
theorem wZl_congr {o : Option Sl} {o' : Unit → (Option Sl)} {A B : D → Prop} (h : ∀ u : Unit, o = o' u) : wZl o A B = wZl (o' ()) A B := by rw [h ()]
@[simp ↓] theorem wZl_d {x : D} {A B : D → Prop} : wZl (some (.d x)) A B = A x := propext Iff.rfl
@[simp ↓] theorem wZl_own {x : D} {A B : D → Prop} : wZl (some (.own x)) A B = B x := propext Iff.rfl
def wSet (r : R) (env : En) (Q : D → En → Prop) : Prop := match r with
  | .d x => Q x env
  | .new x => Q x env
  | .at i => wZl env[i]? (fun x => Q x env) fun x => Q x (env.set i (.d x))
theorem wSet_congr {o : R} {o' : Unit → R} {e : En} {Q : D → En → Prop} (h : ∀ u : Unit, o = o' u) : wSet o e Q = wSet (o' ()) e Q := by rw [h ()]
@[simp ↓] theorem wSet_d {x : D} {e : En} {Q : D → En → Prop} : wSet (.d x) e Q = Q x e := propext Iff.rfl
@[simp ↓] theorem wSet_new {x : D} {e : En} {Q : D → En → Prop} : wSet (.new x) e Q = Q x e := propext Iff.rfl
@[simp ↓] theorem wSet_at {i : Nat} {e : En} {Q : D → En → Prop} : wSet (.at i) e Q = wZl e[i]? (fun x => Q x e) fun x => Q x (e.set i (.d x)) := propext Iff.rfl
def wPk (r : R) (env : En) (Q : P → En → Prop) : Prop := match r with
  | .d x => Q (.d x) env
  | .new x => Q (.d x) env
  | .at i => Q (.at i) env
theorem wPk_congr {o : R} {o' : Unit → R} {e : En} {Q : P → En → Prop} (h : ∀ u : Unit, o = o' u) : wPk o e Q = wPk (o' ()) e Q := by rw [h ()]
@[simp ↓] theorem wPk_d {x : D} {e : En} {Q : P → En → Prop} : wPk (.d x) e Q = Q (.d x) e := propext Iff.rfl
@[simp ↓] theorem wPk_new {x : D} {e : En} {Q : P → En → Prop} : wPk (.new x) e Q = Q (.d x) e := propext Iff.rfl
@[simp ↓] theorem wPk_at {i : Nat} {e : En} {Q : P → En → Prop} : wPk (.at i) e Q = Q (.at i) e := propext Iff.rfl
/-- an option: there it is -/
def wSm {α : Type} (o : Option α) (Q : α → Prop) : Prop := match o with
  | some x => Q x
  | none => False
theorem wSm_congr {α : Type} {o : Option α} {o' : Unit → (Option α)} {Q : α → Prop} (h : ∀ u : Unit, o = o' u) : wSm o Q = wSm (o' ()) Q := by rw [h ()]
@[simp ↓] theorem wSm_some {α : Type} {x : α} {Q : α → Prop} : wSm (some x) Q = Q x := propext Iff.rfl
def wCt (o : Option Sl) (Q : D → Prop) : Prop := match o with
  | some (.d x) => Q x
  | some (.own x) => Q x
  | some (.ref x) => Q x
  | _ => False
theorem wCt_congr {o : Option Sl} {o' : Unit → (Option Sl)} {Q : D → Prop} (h : ∀ u : Unit, o = o' u) : wCt o Q = wCt (o' ()) Q := by rw [h ()]
@[simp ↓] theorem wCt_d {x : D} {A : D → Prop} : wCt (some (.d x)) A = A x := propext Iff.rfl
@[simp ↓] theorem wCt_own {x : D} {A : D → Prop} : wCt (some (.own x)) A = A x := propext Iff.rfl
@[simp ↓] theorem wCt_ref {x : D} {A : D → Prop} : wCt (some (.ref x)) A = A x := propext Iff.rfl
def wLk (p : P) (e : En) (Q : D → Prop) : Prop := match p with
  | .d x => Q x
  | .at i => wCt e[i]? Q
theorem wLk_congr {o : P} {o' : Unit → P} {e : En} {Q : D → Prop} (h : ∀ u : Unit, o = o' u) : wLk o e Q = wLk (o' ()) e Q := by rw [h ()]
@[simp ↓] theorem wLk_d {x : D} {e : En} {Q : D → Prop} : wLk (.d x) e Q = Q x := propext Iff.rfl
@[simp ↓] theorem wLk_at {i : Nat} {e : En} {Q : D → Prop} : wLk (.at i) e Q = wCt e[i]? Q := propext Iff.rfl
theorem wLk_eq {p : P} {e : En} {Q : D → Prop} : wLk p e Q = wSm (look p e) Q := by
  cases p with
  | d x => rfl
  | «at» i =>
    show wCt e[i]? Q = wSm (e[i]?.bind Sl.cont) Q
    cases e[i]? with
    | none => rfl
    | some s => cases s <;> rfl
def wBl (r : R) (Q : Bool → Prop) : Prop := match r with
  | .d (.bl b) => Q b
  | _ => False
theorem wBl_congr {o : R} {o' : Unit → R} {Q : Bool → Prop} (h : ∀ u : Unit, o = o' u) : wBl o Q = wBl (o' ()) Q := by rw [h ()]
@[simp ↓] theorem wBl_b {b : Bool} {Q : Bool → Prop} : wBl (.d (.bl b)) Q = Q b := propext Iff.rfl
def wIf (b : Bool) (A B : Prop) : Prop := match b with
  | true => A
  | false => B
theorem wIf_congr {o : Bool} {o' : Unit → Bool} {A B : Prop} (h : ∀ u : Unit, o = o' u) : wIf o A B = wIf (o' ()) A B := by rw [h ()]
@[simp ↓] theorem wIf_t {A B : Prop} : wIf true A B = A := propext Iff.rfl
@[simp ↓] theorem wIf_f {A B : Prop} : wIf false A B = B := propext Iff.rfl
theorem wIf_in {b : Bool} {A B : Prop} (h1 : b = true → A) (h2 : b = false → B) : wIf b A B := by
  cases b with
  | true => exact h1 rfl
  | false => exact h2 rfl
theorem wIf_dec {p : Prop} [Decidable p] {A B : Prop} (h1 : p → A) (h2 : ¬ p → B) : wIf (decide p) A B := wIf_in (fun h => h1 (of_decide_eq_true h)) fun h => h2 (of_decide_eq_false h)
theorem wIf_not {b : Bool} {A B : Prop} : wIf (!b) A B = wIf b B A := by cases b <;> rfl
/-- a side condition -/
def wC (c : Prop) (A : Prop) : Prop := c ∧ A
theorem wC_congr {c : Prop} {c' : Unit → Prop} {A : Prop} (h : ∀ u : Unit, c = c' u) : wC c A = wC (c' ()) A := by rw [h ()]
@[simp ↓] theorem wC_t {A : Prop} : wC True A = A := by simp [wC]
theorem wC_in {c A : Prop} (h : c) (k : A) : wC c A := ⟨h, k⟩
def wI (r : R) (Q : Int → Prop) : Prop := match r with
  | .d (.int i) => Q i
  | _ => False
theorem wI_congr {o : R} {o' : Unit → R} {Q : Int → Prop} (h : ∀ u : Unit, o = o' u) : wI o Q = wI (o' ()) Q := by rw [h ()]
@[simp ↓] theorem wI_i {i : Int} {Q : Int → Prop} : wI (.d (.int i)) Q = Q i := propext Iff.rfl

section
variable {α β : Type} {E : EP} {env : En} {k : Ks}
/-! expressions -/
@[simp ↓] theorem wO_ok {a : α} {Q : α → En → Prop} : wO (.ok a env) E Q = Q a env := by first | rfl | (simp only [wO_eq, wS_eq] <;> rfl)
@[simp ↓] theorem wO_err {x : Str} {fs : List (Str × D)} {Q : α → En → Prop} : wO (.err x fs env) E Q = E x fs env := by first | rfl | (simp only [wO_eq, wS_eq] <;> rfl)
@[simp ↓] theorem wO_bind {o : Out α} {f : α → En → Out β} {Q : β → En → Prop} : wO (o.bind f) E Q = wO o E fun a e => wO (f a e) E Q := by cases o <;> first | rfl | (simp only [wO_eq, wS_eq] <;> rfl)
variable {Q : R → En → Prop} {c ca cb cc : En → Out R} {f f' : D → D → Option R}
@[simp ↓] theorem wO_var {i : Nat} : wO (cVar i env) E Q = wSl env[i]? (fun x => Q (.d x) env) (Q (.at i) env) := by
  unfold cVar wSl
  cases env[i]? with
  | none => first | rfl | (simp only [wO_eq, wS_eq] <;> rfl)
  | some s => cases s <;> first | rfl | (simp only [wO_eq, wS_eq] <;> rfl)
@[simp ↓] theorem wO_c {x : D} : wO (cC x env) E Q = Q (.d x) env := by first | rfl | (simp only [wO_eq, wS_eq] <;> rfl)
@[simp ↓] theorem wO_V {Q : D → En → Prop} : wO (cV c env) E Q = wO (c env) E fun r e => wSet r e Q := by
  unfold cV
  rw [wO_bind]
  congr 1
  funext r e
  cases r with
  | d x => first | rfl | (simp only [wO_eq, wS_eq] <;> rfl)
  | new x => first | rfl | (simp only [wO_eq, wS_eq] <;> rfl)
  | «at» i =>
    unfold settle wSet wZl
    dsimp only
    cases e[i]? with
    | none => first | rfl | (simp only [wO_eq, wS_eq] <;> rfl)
    | some s => cases s <;> first | rfl | (simp only [wO_eq, wS_eq] <;> rfl)
@[simp ↓] theorem wO_P {Q : P → En → Prop} : wO (cP c env) E Q = wO (c env) E fun r e => wPk r e Q := by
  unfold cP
  rw [wO_bind]
  congr 1
  funext r e
  cases r <;> first | rfl | (simp only [wO_eq, wS_eq] <;> rfl)
@[simp ↓] theorem wO_op : wO (cOp f ca cb env) E Q = wO (ca env) E fun r e => wPk r e fun p e1 => wO (cb e1) E fun s e => wPk s e fun q e2 => wLk p e2 fun x => wLk q e2 fun y => wSm (f x y) fun r => Q r e2 := by
  unfold cOp
  rw [wO_bind, wO_P]
  congr 1; funext r e
  congr 1; funext p e1
  rw [wO_bind, wO_P]
  congr 1; funext r e
  congr 1; funext q e2
  rw [wLk_eq]
  cases look p e2 with
  | none => first | rfl | (simp only [wO_eq, wS_eq] <;> rfl)
  | some x =>
    show _ = wLk q e2 _
    rw [wLk_eq]
    cases look q e2 with
    | none => first | rfl | (simp only [wO_eq, wS_eq] <;> rfl)
    | some y =>
      dsimp only [wSm]
      cases f x y <;> first | rfl | (simp only [wO_eq, wS_eq] <;> rfl)
@[simp ↓] theorem wO_B {Q : Bool → En → Prop} : wO (cB c env) E Q = wO (c env) E fun r e => wBl r fun b => Q b e := by
  unfold cB
  rw [wO_bind]
  congr 1; funext r e
  cases r with
  | d x => cases x <;> first | rfl | (simp only [wO_eq, wS_eq] <;> rfl)
  | _ => first | rfl | (simp only [wO_eq, wS_eq] <;> rfl)
@[simp ↓] theorem wO_and {ta tb : En → Out Bool} {Q : Bool → En → Prop} : wO (cAnd ta tb env) E Q = wO (ta env) E fun b e => wIf b (wO (tb e) E Q) (Q false e) := by
  unfold cAnd
  rw [wO_bind]
  congr 1; funext b e
  cases b <;> first | rfl | (simp only [wO_eq, wS_eq] <;> rfl)
@[simp ↓] theorem wO_or {ta tb : En → Out Bool} {Q : Bool → En → Prop} : wO (cOr ta tb env) E Q = wO (ta env) E fun b e => wIf b (Q true e) (wO (tb e) E Q) := by
  unfold cOr
  rw [wO_bind]
  congr 1; funext b e
  cases b <;> first | rfl | (simp only [wO_eq, wS_eq] <;> rfl)
@[simp ↓] theorem wO_not {ta : En → Out Bool} {Q : Bool → En → Prop} : wO (cNot ta env) E Q = wO (ta env) E fun b e => Q (!b) e := by
  unfold cNot
  rw [wO_bind]; (first | rfl | (simp only [wO_eq, wS_eq] <;> rfl))
theorem wBl_eq {r : R} {Q : Bool → Prop} : wBl r Q = wSm (bval r) Q := by
  cases r with
  | d x => cases x <;> first | rfl | (simp only [wO_eq, wS_eq] <;> rfl)
  | _ => first | rfl | (simp only [wO_eq, wS_eq] <;> rfl)
@[simp ↓] theorem wO_andV : wO (cAndV ca cb env) E Q = wO (ca env) E fun r e => wBl r fun b => wIf b (wO (cb e) E Q) (Q (.d (.bl false)) e) := by
  unfold cAndV
  rw [wO_bind]
  congr 1; funext r e
  rw [wBl_eq]
  cases bval r with
  | none => first | rfl | (simp only [wO_eq, wS_eq] <;> rfl)
  | some b => cases b <;> first | rfl | (simp only [wO_eq, wS_eq] <;> rfl)
@[simp ↓] theorem wO_orV : wO (cOrV ca cb env) E Q = wO (ca env) E fun r e => wBl r fun b => wIf b (Q (.d (.bl true)) e) (wO (cb e) E Q) := by
  unfold cOrV
  rw [wO_bind]
  congr 1; funext r e
  rw [wBl_eq]
  cases bval r with
  | none => first | rfl | (simp only [wO_eq, wS_eq] <;> rfl)
  | some b => cases b <;> first | rfl | (simp only [wO_eq, wS_eq] <;> rfl)
@[simp ↓] theorem wO_notV : wO (cNotV ca env) E Q = wO (ca env) E fun r e => wBl r fun b => Q (.d (.bl (!b))) e := by
  unfold cNotV
  rw [wO_bind]
  congr 1; funext r e
  rw [wBl_eq]
  cases bval r <;> first | rfl | (simp only [wO_eq, wS_eq] <;> rfl)
@[simp ↓] theorem wO_neg : wO (cNeg ca env) E Q = wO (ca env) E fun r e => wI r fun i => Q (.d (.int (-i))) e := by
  unfold cNeg
  rw [wO_bind]
  congr 1; funext r e
  cases r with
  | d x => cases x <;> first | rfl | (simp only [wO_eq, wS_eq] <;> rfl)
  | _ => first | rfl | (simp only [wO_eq, wS_eq] <;> rfl)
@[simp ↓] theorem wO_if {t : En → Out Bool} : wO (cIf t ca cb env) E Q = wO (t env) E fun b e => wIf b (wO (ca e) E Q) (wO (cb e) E Q) := by
  unfold cIf
  rw [wO_bind]
  congr 1; funext b e
  cases b <;> first | rfl | (simp only [wO_eq, wS_eq] <;> rfl)
@[simp ↓] theorem wO_chain : wO (cChain f f' ca cb cc env) E Q = wO (ca env) E fun r e => wSet r e fun x e1 => wO (cb e1) E fun r e => wSet r e fun y e2 => wSm (f x y) fun r => wBl r fun b => wIf b (wO (cc e2) E fun r e => wSet r e fun z e3 => wSm (f' y z) fun r => Q r e3) (Q (.d (.bl false)) e2) := by
  unfold cChain
  rw [wO_bind, wO_V]
  congr 1; funext r e
  congr 1; funext x e1
  rw [wO_bind, wO_V]
  congr 1; funext r e
  congr 1; funext y e2
  cases f x y with
  | none => first | rfl | (simp only [wO_eq, wS_eq] <;> rfl)
  | some r =>
    show _ = wBl r _
    rw [wBl_eq]
    dsimp only
    cases bval r with
    | none => first | rfl | (simp only [wO_eq, wS_eq] <;> rfl)
    | some b =>
      cases b with
      | false => first | rfl | (simp only [wO_eq, wS_eq] <;> rfl)
      | true =>
        show wO (Out.bind _ _) _ _ = wO (cc e2) E _
        rw [wO_bind, wO_V]
        congr 1; funext r e
        congr 1; funext z e3
        cases f' y z <;> first | rfl | (simp only [wO_eq, wS_eq] <;> rfl)
@[simp ↓] theorem wO_A0 {Q : List D → En → Prop} : wO (cA [] env) E Q = Q [] env := by first | rfl | (simp only [wO_eq, wS_eq] <;> rfl)
@[simp ↓] theorem wO_A1 {cs : List (En → Out R)} {Q : List D → En → Prop} : wO (cA (c :: cs) env) E Q = wO (c env) E fun r e => wSet r e fun x e => wO (cA cs e) E fun xs e => Q (x :: xs) e := by
  show wO ((cV c env).bind fun x e => (cA cs e).bind fun xs e2 => .ok (x :: xs) e2) E Q = _
  rw [wO_bind, wO_V]
  congr 1; funext r e
  congr 1; funext x e1
  rw [wO_bind]; (first | rfl | (simp only [wO_eq, wS_eq] <;> rfl))
theorem wO_ite {p : Prop} [Decidable p] {a : Out α} {Q : α → En → Prop} : wO (if p then a else .stuck) E Q = wC p (wO a E Q) := by
  by_cases h : p
  · rw [if_pos h]; simp [wC, h]
  · rw [if_neg h]; simp [wC, h, wO_eq, wOd]
theorem wS_ite {p : Prop} [Decidable p] {a : OutS} : wS (if p then a else .stuck) k = wC p (wS a k) := by
  by_cases h : p
  · rw [if_pos h]; simp [wC, h]
  · rw [if_neg h]; simp [wC, h, wS_eq, wSd]
@[simp ↓] theorem wO_tup {cs : List (En → Out R)} : wO (cTup cs env) E Q = wO (cA cs env) E fun xs e => wC (xs.length ≤ lim) (Q (.d (.tup xs)) e) := by
  unfold cTup
  rw [wO_bind]
  congr 1; funext xs e
  (try dsimp only); rw [wO_ite]; (first | rfl | (simp only [wO_eq, wS_eq] <;> rfl))
@[simp ↓] theorem wO_lst {cs : List (En → Out R)} : wO (cLst cs env) E Q = wO (cA cs env) E fun xs e => wC (xs.length ≤ lim) (Q (.new (.lst xs)) e) := by
  unfold cLst
  rw [wO_bind]
  congr 1; funext xs e
  (try dsimp only); rw [wO_ite]; (first | rfl | (simp only [wO_eq, wS_eq] <;> rfl))
/-- a list that may grow -/
def wMl (s : Option Sl) (Q : Sl → List D → Prop) : Prop := match s with
  | some (.own (.lst xs)) => Q (.own (.lst xs)) xs
  | some (.ref (.lst xs)) => Q (.ref (.lst xs)) xs
  | _ => False
theorem wMl_congr {o : Option Sl} {o' : Unit → (Option Sl)} {Q : Sl → List D → Prop} (h : ∀ u : Unit, o = o' u) : wMl o Q = wMl (o' ()) Q := by rw [h ()]
@[simp ↓] theorem wMl_o {xs : List D} {Q : Sl → List D → Prop} : wMl (some (.own (.lst xs))) Q = Q (.own (.lst xs)) xs := propext Iff.rfl
@[simp ↓] theorem wMl_r {xs : List D} {Q : Sl → List D → Prop} : wMl (some (.ref (.lst xs))) Q = Q (.ref (.lst xs)) xs := propext Iff.rfl
theorem wMl_eq {s : Option Sl} {Q : Sl → List D → Prop} : wMl s Q = (match s with | some s => (match mlst s with | some ds => Q s ds | none => False) | none => False) := by
  cases s with
  | none => first | rfl | (simp only [wO_eq, wS_eq] <;> rfl)
  | some s =>
    cases s with
    | no => first | rfl | (simp only [wO_eq, wS_eq] <;> rfl)
    | d x => first | rfl | (simp only [wO_eq, wS_eq] <;> rfl)
    | own x => cases x <;> first | rfl | (simp only [wO_eq, wS_eq] <;> rfl)
    | ref x => cases x <;> first | rfl | (simp only [wO_eq, wS_eq] <;> rfl)
@[simp ↓] theorem with_own {x y : D} : Sl.with (.own x) y = .own y := rfl
@[simp ↓] theorem with_ref {x y : D} : Sl.with (.ref x) y = .ref y := rfl
@[simp ↓] theorem wO_append {i : Nat} : wO (cAppend i c env) E Q = wMl env[i]? fun _ _ => wO (c env) E fun r e => wSet r e fun x e => wMl e[i]? fun s ds => wC (ds.length < lim) (Q (.d .non) (e.set i (s.with (.lst (ds ++ [x]))))) := by
  unfold cAppend
  rw [wMl_eq]
  cases env[i]? with
  | none => first | rfl | (simp only [wO_eq, wS_eq] <;> rfl)
  | some s =>
    rw [Option.bind_some]
    dsimp only
    cases mlst s with
    | none => first | rfl | (simp only [wO_eq, wS_eq] <;> rfl)
    | some ds =>
      dsimp only
      rw [wO_bind, wO_V]
      congr 1; funext r e
      congr 1; funext x e1
      rw [wMl_eq]
      cases e1[i]? with
      | none => first | rfl | (simp only [wO_eq, wS_eq] <;> rfl)
      | some s =>
        dsimp only
        cases mlst s with
        | none => first | rfl | (simp only [wO_eq, wS_eq] <;> rfl)
        | some ds => (try dsimp only); rw [wO_ite]; (first | rfl | (simp only [wO_eq, wS_eq] <;> rfl))
@[simp ↓] theorem wO_O0 {Q : Option Int → En → Prop} : wO (cO none env) E Q = Q none env := by first | rfl | (simp only [wO_eq, wS_eq] <;> rfl)
@[simp ↓] theorem wO_O1 {Q : Option Int → En → Prop} : wO (cO (some c) env) E Q = wO (c env) E fun r e => wI r fun i => Q (some i) e := by
  unfold cO
  rw [wO_bind]
  congr 1; funext r e
  cases r with
  | d x => cases x <;> first | rfl | (simp only [wO_eq, wS_eq] <;> rfl)
  | _ => first | rfl | (simp only [wO_eq, wS_eq] <;> rfl)
@[simp ↓] theorem wO_sl {lo hi : Option (En → Out R)} : wO (cSl c lo hi env) E Q = wO (c env) E fun r e => wPk r e fun p e1 => wO (cO lo e1) E fun l e2 => wO (cO hi e2) E fun u e3 => wLk p e3 fun x => wSm (fSl x l u) fun r => Q r e3 := by
  unfold cSl
  rw [wO_bind, wO_P]
  congr 1; funext r e
  congr 1; funext p e1
  rw [wO_bind]
  congr 1; funext l e2
  rw [wO_bind]
  congr 1; funext u e3
  rw [wLk_eq]
  cases look p e3 with
  | none => first | rfl | (simp only [wO_eq, wS_eq] <;> rfl)
  | some x =>
    dsimp only [wSm]
    cases fSl x l u <;> first | rfl | (simp only [wO_eq, wS_eq] <;> rfl)
/-! args -/
def wFx (r : R) (env : En) (Q : P → En → Prop) : Prop := match r with
  | .d x => Q (.d x) env
  | .new x => Q (.d x) env
  | .at i => match env[i]? with
    | some (.own x) => Q (.d x) (env.set i (.d x))
    | some (.d x) => Q (.d x) env
    | some (.ref _) => Q (.at i) env
    | _ => False
def wFy (o : Option Sl) (A B : D → Prop) (C : Prop) : Prop := match o with
  | some (.own x) => A x
  | some (.d x) => B x
  | some (.ref _) => C
  | _ => False
theorem wFy_congr {o : Option Sl} {o' : Unit → (Option Sl)} {A B : D → Prop} {C : Prop} (h : ∀ u : Unit, o = o' u) : wFy o A B C = wFy (o' ()) A B C := by rw [h ()]
@[simp ↓] theorem wFy_o {x : D} {A B : D → Prop} {C : Prop} : wFy (some (.own x)) A B C = A x := propext Iff.rfl
@[simp ↓] theorem wFy_d {x : D} {A B : D → Prop} {C : Prop} : wFy (some (.d x)) A B C = B x := propext Iff.rfl
@[simp ↓] theorem wFy_r {x : D} {A B : D → Prop} {C : Prop} : wFy (some (.ref x)) A B C = C := propext Iff.rfl
theorem wFx_congr {o : R} {o' : Unit → R} {e : En} {Q : P → En → Prop} (h : ∀ u : Unit, o = o' u) : wFx o e Q = wFx (o' ()) e Q := by rw [h ()]
@[simp ↓] theorem wFx_d {x : D} {e : En} {Q : P → En → Prop} : wFx (.d x) e Q = Q (.d x) e := propext Iff.rfl
@[simp ↓] theorem wFx_new {x : D} {e : En} {Q : P → En → Prop} : wFx (.new x) e Q = Q (.d x) e := propext Iff.rfl
@[simp ↓] theorem wFx_at {i : Nat} {e : En} {Q : P → En → Prop} : wFx (.at i) e Q = wFy e[i]? (fun x => Q (.d x) (e.set i (.d x))) (fun x => Q (.d x) e) (Q (.at i) e) := by
  unfold wFx wFy
  dsimp only
@[simp ↓] theorem wO_Av {Q : P → En → Prop} : wO (cAg (.v c) env) E Q = wO (c env) E fun r e => wFx r e Q := by
  unfold cAg
  rw [wO_bind]
  congr 1; funext r e
  cases r with
  | d x => first | rfl | (simp only [wO_eq, wS_eq] <;> rfl)
  | new x => first | rfl | (simp only [wO_eq, wS_eq] <;> rfl)
  | «at» i =>
    unfold fix wFx
    dsimp only
    cases e[i]? with
    | none => first | rfl | (simp only [wO_eq, wS_eq] <;> rfl)
    | some s => cases s <;> first | rfl | (simp only [wO_eq, wS_eq] <;> rfl)
@[simp ↓] theorem wO_Ap {Q : P → En → Prop} : wO (cAg (.p c) env) E Q = wO (c env) E fun r e => wPk r e Q := by
  show wO (cP c env) E Q = _
  exact wO_P
@[simp ↓] theorem wO_As0 {Q : List P → En → Prop} : wO (cAs [] env) E Q = Q [] env := by first | rfl | (simp only [wO_eq, wS_eq] <;> rfl)
@[simp ↓] theorem wO_As1 {g : Ag} {gs : List Ag} {Q : List P → En → Prop} : wO (cAs (g :: gs) env) E Q = wO (cAg g env) E fun p e => wO (cAs gs e) E fun ps e => Q (p :: ps) e := by
  show wO ((cAg g env).bind fun p e => (cAs gs e).bind fun ps e2 => .ok (p :: ps) e2) E Q = _
  rw [wO_bind]
  congr 1; funext p e
  rw [wO_bind]; (first | rfl | (simp only [wO_eq, wS_eq] <;> rfl))
@[simp ↓] theorem wO_blt {g : List D → Option R} {gs : List Ag} : wO (cBlt g gs env) E Q = wO (cAs gs env) E fun ps e => wSm ((looks ps e).bind g) fun r => Q r e := by
  unfold cBlt
  rw [wO_bind]
  congr 1; funext ps e
  cases (looks ps e).bind g <;> first | rfl | (simp only [wO_eq, wS_eq] <;> rfl)
@[simp] theorem looks_nil {e : En} : looks [] e = some [] := rfl
@[simp] theorem looks_d {x : D} {ps : List P} {e : En} : looks (.d x :: ps) e = (looks ps e).map (x :: ·) := rfl
@[simp] theorem looks_at {i : Nat} {ps : List P} {e : En} : looks (.at i :: ps) e = (e[i]?.bind Sl.cont).bind fun x => (looks ps e).map (x :: ·) := rfl
@[simp] theorem cont_own {x : D} : Sl.cont (.own x) = some x := rfl
@[simp] theorem cont_ref {x : D} : Sl.cont (.ref x) = some x := rfl
@[simp] theorem cont_d {x : D} : Sl.cont (.d x) = some x := rfl
@[simp] theorem mut_own {x : D} : Sl.mut (.own x) = some x := rfl
@[simp] theorem mut_ref {x : D} : Sl.mut (.ref x) = some x := rfl
/-! calls -/
def wRt (r : R) (Q : R → Prop) : Prop := match r with
  | .d x => Q (.d x)
  | .new x => Q (.new x)
  | .at _ => False
theorem wRt_congr {o : R} {o' : Unit → R} {Q : R → Prop} (h : ∀ u : Unit, o = o' u) : wRt o Q = wRt (o' ()) Q := by rw [h ()]
@[simp ↓] theorem wRt_d {x : D} {Q : R → Prop} : wRt (.d x) Q = Q (.d x) := propext Iff.rfl
@[simp ↓] theorem wRt_n {x : D} {Q : R → Prop} : wRt (.new x) Q = Q (.new x) := propext Iff.rfl
@[simp ↓] theorem wSlots0 {e : En} : slotsOf [] e = some [] := by first | rfl | (simp only [wO_eq, wS_eq] <;> rfl)
@[simp ↓] theorem wSlots1 {x : D} {ps : List P} {e : En} : slotsOf (.d x :: ps) e = (slotsOf ps e).map (.d x :: ·) := by first | rfl | (simp only [wO_eq, wS_eq] <;> rfl)
@[simp ↓] theorem wSlots2 {i : Nat} {ps : List P} {e : En} : slotsOf (.at i :: ps) e = (e[i]?.bind Sl.mut).bind fun x => (slotsOf ps e).map (.ref x :: ·) := by first | rfl | (simp only [wO_eq, wS_eq] <;> rfl)
@[simp] theorem idxs0 : idxs [] = [] := rfl
@[simp] theorem idxs1 {x : D} {ps : List P} : idxs (.d x :: ps) = idxs ps := rfl
@[simp] theorem idxs2 {i : Nat} {ps : List P} : idxs (.at i :: ps) = i :: idxs ps := rfl
@[simp] theorem putBack0 {ss : List Sl} {e : En} : putBack [] ss e = e := rfl
@[simp] theorem putBack1 {x : D} {ps : List P} {ss : List Sl} {e : En} : putBack (.d x :: ps) ss e = putBack ps ss.tail e := by cases ss <;> first | rfl | (simp only [wO_eq, wS_eq] <;> rfl)
@[simp] theorem putBack2 {i : Nat} {ps : List P} {s : Sl} {ss : List Sl} {e : En} : putBack (.at i :: ps) (s :: ss) e = putAt i s (putBack ps ss e) := rfl
theorem putAt_eq {i : Nat} {s : Sl} {e : En} : putAt i s e = (match e[i]?, s.cont with | some t, some x => e.set i (t.with x) | _, _ => e) := rfl
@[simp ↓] theorem wO_cf {fn : Fn} {pre : List Sl} {ps : List P} : wO (callFn fn pre ps env) E Q = wC (idxs ps).Nodup (wSm (slotsOf ps env) fun ss => wF (fn (pre ++ ss)) (fun x fs post => E x fs (putBack ps (post.drop pre.length) env)) fun r post => wRt r fun r => Q r (putBack ps (post.drop pre.length) env)) := by
  unfold callFn
  by_cases h : (idxs ps).Nodup
  · rw [if_pos h]
    simp only [h, wC, true_and]
    cases slotsOf ps env with
    | none => first | rfl | (simp only [wO_eq, wS_eq] <;> rfl)
    | some ss =>
      show wO (match fn (pre ++ ss) with | .ret r post => _ | .err x fs post => _ | .stuck => _) E Q = wF (fn (pre ++ ss)) _ _
      rw [wF_eq]
      cases fn (pre ++ ss) with
      | ret r post => cases r <;> first | rfl | (simp only [wO_eq, wS_eq] <;> rfl)
      | err x fs post => first | rfl | (simp only [wO_eq, wS_eq] <;> rfl)
      | stuck => first | rfl | (simp only [wO_eq, wS_eq] <;> rfl)
  · rw [if_neg h]; simp [wC, h, wO_eq, wOd]
@[simp ↓] theorem wO_call {fn : Fn} {gs : List Ag} : wO (cCall fn gs env) E Q = wO (cAs gs env) E fun ps e => wO (callFn fn [] ps e) E Q := by
  unfold cCall
  rw [wO_bind]
theorem wF.mono {o : OutF} {E E' : Str → List (Str × D) → List Sl → Prop} {Q Q' : R → List Sl → Prop} (h : wF o E Q) (hE : ∀ x fs p, E x fs p → E' x fs p) (hQ : ∀ r p, Q r p → Q' r p) : wF o E' Q' := by
  have h := h.out
  refine ⟨?_⟩
  cases o with
  | ret r p => exact hQ r p h
  | err x fs p => exact hE x fs p h
  | stuck => exact h
theorem wF.bind {o : OutF} {E' : Str → List (Str × D) → List Sl → Prop} {Q Q' : R → List Sl → Prop} (h : wF o (fun _ _ _ => False) Q) (hQ : ∀ r p, Q r p → Q' r p) : wF o E' Q' := h.mono (fun _ _ _ z => z.elim) hQ
theorem wO.mono {o : Out α} {E' : EP} {Q Q' : α → En → Prop} (h : wO o E Q) (hE : ∀ x fs p, E x fs p → E' x fs p) (hQ : ∀ r p, Q r p → Q' r p) : wO o E' Q' := by
  have h := h.out
  refine ⟨?_⟩
  cases o with
  | ok r p => exact hQ r p h
  | err x fs p => exact hE x fs p h
  | stuck => exact h
/-! own classes -/
@[simp ↓] theorem wO_fld {x g : Str} : wO (cFld x g c env) E Q = wO (c env) E fun r e => wPk r e fun p e => wLk p e fun d => wSm (fld x g d) fun y => Q (.d y) e := by
  unfold cFld
  rw [wO_bind, wO_P]
  congr 1; funext r e
  congr 1; funext p e1
  rw [wLk_eq]
  cases look p e1 with
  | none => first | rfl | (simp only [wO_eq, wS_eq] <;> rfl)
  | some d =>
    rw [Option.bind_some]
    dsimp only [wSm]
    cases fld x g d <;> first | rfl | (simp only [wO_eq, wS_eq] <;> rfl)
@[simp ↓] theorem wO_noE {o : Out α} {Q : α → En → Prop} : wO (noE o) E Q = wO o eF Q := by cases o <;> first | rfl | (simp only [wO_eq, wS_eq] <;> rfl)
@[simp ↓] theorem wO_prop {x : Str} {fn : Fn} : wO (cProp x fn c env) E Q = wO (c env) E fun r e => wFx r e fun p e => wC ((look p e).bind cls? = some x) (wO (callFn fn [] [p] e) eF Q) := by
  unfold cProp
  rw [wO_bind, wO_Av]
  congr 1; funext r e
  congr 1; funext p e1
  rw [wO_ite, wO_noE]
@[simp ↓] theorem wO_own {x : Str} {fn : Fn} {post : R → En → Out R} {fl : Bool} : wO (cOwn x fn post fl ca cb env) E Q = wO (ca env) E fun r e => wFx r e fun p e => wO (cb e) E fun r e => wFx r e fun q e2 => wC ((look (if fl then q else p) e2).bind cls? = some x) (wO (callFn fn [] (if fl then [q, p] else [p, q]) e2) eF fun r e => wO (post r e) E Q) := by
  unfold cOwn
  rw [wO_bind, wO_Av]
  congr 1; funext r e
  congr 1; funext p e1
  rw [wO_bind, wO_Av]
  congr 1; funext r e
  congr 1; funext q e2
  rw [wO_ite, wO_bind, wO_noE]
@[simp ↓] theorem wO_ownIn {x : Str} {fn : Fn} {g : Bool → Bool} : wO (cOwnIn x fn g ca cb env) E Q = wO (cOwn x fn (pBool g) true ca cb env) E Q := by first | rfl | (simp only [wO_eq, wS_eq] <;> rfl)
@[simp ↓] theorem wO_ownIx {x : Str} {fn : Fn} : wO (cOwnIx x fn ca cb env) E Q = wO (cOwn x fn pId false ca cb env) E Q := by first | rfl | (simp only [wO_eq, wS_eq] <;> rfl)
@[simp ↓] theorem wO_pBool {g : Bool → Bool} {r : R} : wO (pBool g r env) E Q = wBl r fun b => Q (.d (.bl (g b))) env := by
  unfold pBool
  cases r with
  | d x => cases x <;> first | rfl | (simp only [wO_eq, wS_eq] <;> rfl)
  | _ => first | rfl | (simp only [wO_eq, wS_eq] <;> rfl)
@[simp ↓] theorem wO_pId {r : R} : wO (pId r env) E Q = Q r env := by first | rfl | (simp only [wO_eq, wS_eq] <;> rfl)
@[simp ↓] theorem wO_make {x : Str} {fn : Fn} {gs : List Ag} : wO (cMake x fn gs env) E Q = wO (cAs gs env) E fun ps e => wC (idxs ps).Nodup (wSm (slotsOf ps e) fun ss => wF (fn (.ref (.ins x []) :: ss)) (fun n fs post => post ≠ [] ∧ E n fs (putBack ps post.tail e)) fun r post => r = .d .non ∧ ∃ y, post.head? = some (.ref y) ∧ Q (.new y) (putBack ps post.tail e)) := by
  unfold cMake
  rw [wO_bind]
  congr 1; funext ps e
  unfold makeFn
  rw [wO_ite]
  congr 1
  cases slotsOf ps e with
  | none => first | rfl | (simp only [wO_eq, wS_eq] <;> rfl)
  | some ss =>
    show wO (match fn (.ref (.ins x []) :: ss) with | .ret (.d .non) (.ref y :: post) => _ | .err n fs (_ :: post) => _ | _ => _) E Q = wF (fn (.ref (.ins x []) :: ss)) _ _
    rw [wF_eq]
    cases fn (.ref (.ins x []) :: ss) with
    | stuck => first | rfl | (simp only [wO_eq, wS_eq] <;> rfl)
    | err n fs post =>
      cases post with
      | nil => simp [wFd, wO_eq, wOd]
      | cons a t => simp [wFd, wO_eq, wOd]
    | ret r post =>
      cases post with
      | nil =>
        cases r with
        | d x => cases x <;> simp [wFd, wO_eq, wOd]
        | _ => simp [wFd, wO_eq, wOd]
      | cons a t =>
        cases r with
        | d x => cases x <;> cases a <;> simp [wFd, wO_eq, wOd]
        | _ => simp [wFd, wO_eq, wOd]
@[simp ↓] theorem wO_is {T : IsT} : wO (cIs T c env) E Q = wO (c env) E fun r e => wPk r e fun p e => wLk p e fun d => wSm (isD T d) fun b => Q (.d (.bl b)) e := by
  unfold cIs
  rw [wO_bind, wO_P]
  congr 1; funext r e
  congr 1; funext p e1
  rw [wLk_eq]
  cases look p e1 with
  | none => first | rfl | (simp only [wO_eq, wS_eq] <;> rfl)
  | some d =>
    rw [Option.bind_some]
    dsimp only [wSm]
    cases isD T d <;> first | rfl | (simp only [wO_eq, wS_eq] <;> rfl)
/-! what is walked -/
@[simp ↓] theorem wO_it {Q : List D → En → Prop} : wO (cIt c env) E Q = wO (c env) E fun r e => wSet r e fun x e => wSm (itemsOf x) fun l => Q l e := by
  unfold cIt
  rw [wO_bind, wO_V]
  congr 1; funext r e
  congr 1; funext x e1
  cases itemsOf x <;> first | rfl | (simp only [wO_eq, wS_eq] <;> rfl)
@[simp ↓] theorem wO_keys {i : Nat} {Q : List D → En → Prop} : wO (cKeys i env) E Q = wO (cVar i env) E fun r e => wSet r e fun x e => wSm (keysD x) fun l => Q l e := by
  unfold cKeys
  rw [wO_bind, wO_V]
  congr 1; funext r e
  congr 1; funext x e1
  cases keysD x <;> first | rfl | (simp only [wO_eq, wS_eq] <;> rfl)
/-- an int -/
def wJ (d : D) (Q : Int → Prop) : Prop := match d with
  | .int i => Q i
  | _ => False
theorem wJ_congr {o : D} {o' : Unit → D} {Q : Int → Prop} (h : ∀ u : Unit, o = o' u) : wJ o Q = wJ (o' ()) Q := by rw [h ()]
@[simp ↓] theorem wJ_i {i : Int} {Q : Int → Prop} : wJ (.int i) Q = Q i := propext Iff.rfl
def rgOk (j : Int) : Prop := -(2 ^ 62) ≤ j ∧ j < 2 ^ 62
theorem rg {j : Int} (h0 : 0 ≤ j) (h1 : j < 1000000000) : rgOk j := by unfold rgOk; omega
@[simp ↓] theorem wO_rng1 {Q : List D → En → Prop} : wO (cRng1 ca env) E Q = wO (ca env) E fun r e => wSet r e fun x e => wJ x fun j => wC (rgOk j) (Q (rng 0 j.toNat) e) := by
  unfold cRng1
  rw [wO_bind, wO_A1]
  congr 1; funext r e
  congr 1; funext x e1
  rw [wO_A0]
  cases x <;> first | rfl | ((try dsimp only); rw [wO_ite]; (first | rfl | (simp only [wO_eq, wS_eq] <;> rfl))) | (simp only [wO_eq, wS_eq] <;> rfl)
end
end Sim

/-! Sim28: what statements and loops come to, asked backwards. -/
namespace Sim
open PySem PySem.Spec PyProof.Rows L2

/-- a slot that may be given -/
def wNr (o : Option Sl) (A : Prop) : Prop := match o with
  | some (.ref _) => False
  | some _ => A
  | none => False
theorem wNr_congr {o : Option Sl} {o' : Unit → (Option Sl)} {A : Prop} (h : ∀ u : Unit, o = o' u) : wNr o A = wNr (o' ()) A := by rw [h ()]
@[simp ↓] theorem wNr_no {A : Prop} : wNr (some .no) A = A := propext Iff.rfl
@[simp ↓] theorem wNr_d {x : D} {A : Prop} : wNr (some (.d x)) A = A := propext Iff.rfl
@[simp ↓] theorem wNr_own {x : D} {A : Prop} : wNr (some (.own x)) A = A := propext Iff.rfl
theorem wNr_in {s : Sl} {A : Prop} (h : isRef s = false) (k : A) : wNr (some s) A := by cases s <;> first | exact k | cases h
def wR3 (r : R) (A B : D → Prop) (C : Nat → Prop) : Prop := match r with
  | .d x => A x
  | .new x => B x
  | .at i => C i
theorem wR3_congr {o : R} {o' : Unit → R} {A B : D → Prop} {C : Nat → Prop} (h : ∀ u : Unit, o = o' u) : wR3 o A B C = wR3 (o' ()) A B C := by rw [h ()]
@[simp ↓] theorem wR3_d {x : D} {A B : D → Prop} {C : Nat → Prop} : wR3 (.d x) A B C = A x := propext Iff.rfl
@[simp ↓] theorem wR3_n {x : D} {A B : D → Prop} {C : Nat → Prop} : wR3 (.new x) A B C = B x := propext Iff.rfl
@[simp ↓] theorem wR3_a {x : Nat} {A B : D → Prop} {C : Nat → Prop} : wR3 (.at x) A B C = C x := propext Iff.rfl
def wMu (o : Option Sl) (Q : Sl → D → Prop) : Prop := match o with
  | some (.own x) => Q (.own x) x
  | some (.ref x) => Q (.ref x) x
  | _ => False
theorem wMu_congr {o : Option Sl} {o' : Unit → (Option Sl)} {Q : Sl → D → Prop} (h : ∀ u : Unit, o = o' u) : wMu o Q = wMu (o' ()) Q := by rw [h ()]
@[simp ↓] theorem wMu_o {x : D} {Q : Sl → D → Prop} : wMu (some (.own x)) Q = Q (.own x) x := propext Iff.rfl
@[simp ↓] theorem wMu_r {x : D} {Q : Sl → D → Prop} : wMu (some (.ref x)) Q = Q (.ref x) x := propext Iff.rfl
section
variable {α β : Type} {E : EP} {env : En} {k : Ks}
variable {Q : R → En → Prop} {c ca cb cc ck : En → Out R} {a b : En → OutS} {t : En → Out Bool}
@[simp ↓] theorem wS_next : wS (.next env) k = k.nx env := by first | rfl | (simp only [wO_eq, wS_eq] <;> rfl)
@[simp ↓] theorem wS_ret {r : R} : wS (.ret r env) k = k.rt r env := by first | rfl | (simp only [wO_eq, wS_eq] <;> rfl)
@[simp ↓] theorem wS_brk : wS (.brk env) k = k.bk env := by first | rfl | (simp only [wO_eq, wS_eq] <;> rfl)
@[simp ↓] theorem wS_cont : wS (.cont env) k = k.ct env := by first | rfl | (simp only [wO_eq, wS_eq] <;> rfl)
@[simp ↓] theorem wS_err {x : Str} {fs : List (Str × D)} : wS (.err x fs env) k = k.er x fs env := by first | rfl | (simp only [wO_eq, wS_eq] <;> rfl)
@[simp ↓] theorem wS_sNext : wS (sNext env) k = k.nx env := by first | rfl | (simp only [wO_eq, wS_eq] <;> rfl)
theorem wS_seq : wS (sSeq a b env) k = wS (a env) { k with nx := fun e => wS (b e) k } := by
  unfold sSeq
  cases a env <;> first | rfl | (simp only [wO_eq, wS_eq] <;> rfl)
theorem wS_sq (h : ∀ P : En → Prop, (∀ e, wS (b e) k → P e) → wS (a env) { k with nx := P }) : wS (sSeq a b env) k := by
  rw [wS_seq]
  exact h _ fun _ q => q
@[simp ↓] theorem wS_then {o : Out α} {f : α → En → OutS} : wS (o.then f) k = wO o k.er fun x e => wS (f x e) k := by cases o <;> first | rfl | (simp only [wO_eq, wS_eq] <;> rfl)
@[simp ↓] theorem wS_set {i : Nat} : wS (sSet i c env) k = wO (c env) k.er fun r e => wNr e[i]? (wR3 r (fun x => k.nx (e.set i (.d x))) (fun x => k.nx (e.set i (.own x))) fun j => wZl e[j]? (fun x => k.nx (e.set i (.d x))) fun x => k.nx ((e.set j (.d x)).set i (.d x))) := by
  unfold sSet
  rw [wS_then]
  congr 1; funext r e
  unfold store
  cases e[i]? with
  | none => first | rfl | (simp only [wO_eq, wS_eq] <;> rfl)
  | some s =>
    cases s with
    | ref x => first | rfl | (simp only [wO_eq, wS_eq] <;> rfl)
    | _ =>
      cases r with
      | d x => first | rfl | (simp only [wO_eq, wS_eq] <;> rfl)
      | new x => first | rfl | (simp only [wO_eq, wS_eq] <;> rfl)
      | «at» j =>
        simp only [isRef, Bool.false_eq_true, if_false, wNr, wR3, settle]
        cases e[j]? with
        | none => first | rfl | (simp only [wO_eq, wS_eq] <;> rfl)
        | some s => cases s <;> first | rfl | (simp only [wO_eq, wS_eq] <;> rfl)
@[simp ↓] theorem wS_if : wS (sIf t a b env) k = wO (t env) k.er fun x e => wIf x (wS (a e) k) (wS (b e) k) := by
  unfold sIf
  rw [wS_then]
  congr 1; funext x e
  cases x <;> first | rfl | (simp only [wO_eq, wS_eq] <;> rfl)
@[simp ↓] theorem wS_sRet : wS (sRet c env) k = wO (c env) k.er fun r e => k.rt r e := by
  unfold sRet
  rw [wS_then]; (first | rfl | (simp only [wO_eq, wS_eq] <;> rfl) | (congr 1; funext r e; (simp only [wO_eq, wS_eq] <;> rfl)))
@[simp ↓] theorem wS_drop : wS (sDrop c env) k = wO (c env) k.er fun r e => k.nx e := by
  unfold sDrop
  rw [wS_then]; (first | rfl | (simp only [wO_eq, wS_eq] <;> rfl) | (congr 1; funext r e; (simp only [wO_eq, wS_eq] <;> rfl)))
@[simp ↓] theorem wS_setIx {i : Nat} : wS (sSetIx i c ck env) k = wO (c env) k.er fun r e => wSet r e fun x e1 => wMu e1[i]? fun _ _ => wO (ck e1) k.er fun r e => wSet r e fun y e2 => wMu e2[i]? fun s o => wSm (putD o y x) fun o' => k.nx (e2.set i (s.with o')) := by
  unfold sSetIx
  rw [wS_then, wO_V]
  congr 1; funext r e
  congr 1; funext x e1
  cases h1 : e1[i]? with
  | none => first | rfl | (simp only [wO_eq, wS_eq] <;> rfl)
  | some s1 =>
    have key : ∀ z : D, wS ((cV ck e1).then fun k e2 => match e2[i]? with
        | some s => (match s.mut with
          | some o => (match putD o k x with
            | some o' => .next (e2.set i (s.with o'))
            | none => .stuck)
          | none => .stuck)
        | none => .stuck) k = wO (ck e1) k.er fun r e => wSet r e fun y e2 => wMu e2[i]? fun s o => wSm (putD o y x) fun o' => k.nx (e2.set i (s.with o')) := fun _ => by
      rw [wS_then, wO_V]
      congr 1; funext r e
      congr 1; funext y e2
      cases e2[i]? with
      | none => first | rfl | (simp only [wO_eq, wS_eq] <;> rfl)
      | some s =>
        cases s with
        | no => first | rfl | (simp only [wO_eq, wS_eq] <;> rfl)
        | d x => first | rfl | (simp only [wO_eq, wS_eq] <;> rfl)
        | own o => dsimp only [Sl.mut, wMu]; cases putD o y x <;> first | rfl | (simp only [wO_eq, wS_eq] <;> rfl)
        | ref o => dsimp only [Sl.mut, wMu]; cases putD o y x <;> first | rfl | (simp only [wO_eq, wS_eq] <;> rfl)
    cases s1 with
    | no => first | rfl | (simp only [wO_eq, wS_eq] <;> rfl)
    | d x => first | rfl | (simp only [wO_eq, wS_eq] <;> rfl)
    | own o => exact key o
    | ref o => exact key o
@[simp ↓] theorem wS_for {ci : En → Out (List D)} {kk : D → En → Option En} : wS (sFor ci kk b env) k = wO (ci env) k.er fun items e => wS (forL kk b items e) k := by
  unfold sFor
  rw [wS_then]
@[simp ↓] theorem wS_noErr {o : OutS} : wS (noErrS o) k = wS o { k with er := eF } := by cases o <;> first | rfl | (simp only [wO_eq, wS_eq] <;> rfl)
@[simp ↓] theorem wS_forD {i : Nat} {kk : D → En → Option En} : wS (sForD i kk b env) k = wO (cKeys i env) k.er fun items e => wS (forL kk b items e) { k with er := eF } := by
  unfold sForD
  rw [wS_then]
  congr 1; funext items e
  exact wS_noErr
@[simp ↓] theorem wS_raise {x f : Str} : wS (sRaise x f c env) k = wO (c env) k.er fun r e => wSet r e fun y e => k.er x [(f, y)] e := by
  unfold sRaise
  rw [wS_then, wO_V]; (first | rfl | (simp only [wO_eq, wS_eq] <;> rfl) | (congr 1; funext r e; (simp only [wO_eq, wS_eq] <;> rfl)))
@[simp ↓] theorem wS_try {x0 : Str} {i : Nat} {h : Str → List (Str × D) → En → Out R} : wS (sTry x0 i b h env) k = wS (b env) { k with er := fun x fs e => wC (x = x0) (wNr e[i]? (wO (h x fs (e.set i .no)) eF fun r e2 => k.rt r e2)) } := by
  unfold sTry
  cases b env with
  | err x fs e =>
    rw [wS_err]
    dsimp only
    by_cases hx : x = x0
    · rw [if_pos hx]
      simp only [hx, wC, true_and]
      cases e[i]? with
      | none => first | rfl | (simp only [wO_eq, wS_eq] <;> rfl)
      | some s =>
        cases s with
        | ref y => first | rfl | (simp only [wO_eq, wS_eq] <;> rfl)
        | _ =>
          simp only [isRef, Bool.false_eq_true, if_false, wNr]
          cases h x0 fs (e.set i .no) <;> first | rfl | (simp only [wO_eq, wS_eq] <;> rfl)
    · rw [if_neg hx]
      simp [wC, hx, wS_eq, wSd]
  | _ => first | rfl | (simp only [wO_eq, wS_eq] <;> rfl)
@[simp ↓] theorem wO_hFn {x0 f x : Str} {fn : Fn} {gv : Ag} {fs : List (Str × D)} : wO (hFn x0 f fn gv x fs env) E Q = wC (x = x0) (wSm (fs.lookup f) fun y => wO (cAg gv env) E fun p e => wO (callFn fn [] [.d y, p] e) eF Q) := by
  unfold hFn
  rw [wO_ite]
  congr 1
  cases fs.lookup f with
  | none => first | rfl | (simp only [wO_eq, wS_eq] <;> rfl)
  | some y =>
    dsimp only [wSm]
    rw [wO_bind]
    congr 1; funext p e
    exact wO_noE
def wIns (d : D) (x : Str) (Q : List (Str × D) → Prop) : Prop := match d with
  | .ins z fs => z = x ∧ Q fs
  | _ => False
theorem wIns_congr {o : D} {o' : Unit → D} {x : Str} {Q : List (Str × D) → Prop} (h : ∀ u : Unit, o = o' u) : wIns o x Q = wIns (o' ()) x Q := by rw [h ()]
@[simp ↓] theorem wIns_i {x : Str} {fs : List (Str × D)} {Q : List (Str × D) → Prop} : wIns (.ins x fs) x Q = Q fs := by simp [wIns]
@[simp ↓] theorem wS_fldD {i : Nat} {x f : Str} : wS (sFldD i x f c env) k = wO (c env) k.er fun r e => wSet r e fun y e => wMu e[i]? fun s o => wIns o x fun fs => wC (fs.length < 1000) (k.nx (e.set i (s.with (.ins x (putFd f y fs))))) := by
  unfold sFldD
  rw [wS_then, wO_V]
  congr 1; funext r e
  congr 1; funext y e1
  have key : ∀ (s : Sl) (z : Str) (fs : List (Str × D)), wS (if z = x ∧ fs.length < 1000 then OutS.next (e1.set i (s.with (.ins z (putFd f y fs)))) else .stuck) k = (z = x ∧ wC (fs.length < 1000) (k.nx (e1.set i (s.with (.ins x (putFd f y fs)))))) := fun s z fs => by
    rw [wS_ite]
    by_cases h : z = x
    · subst h; simp [wC]
    · simp [wC, h]
  cases e1[i]? with
  | none => first | rfl | (simp only [wO_eq, wS_eq] <;> rfl)
  | some s =>
    cases s with
    | no => first | rfl | (simp only [wO_eq, wS_eq] <;> rfl)
    | d x => first | rfl | (simp only [wO_eq, wS_eq] <;> rfl)
    | own o => cases o <;> first | rfl | exact key _ _ _ | (simp only [wS_eq] <;> rfl)
    | ref o => cases o <;> first | rfl | exact key _ _ _ | (simp only [wS_eq] <;> rfl)
/-! a slot of a state at hand -/
@[simp ↓] theorem wSl_g0 {s : Sl} {l : En} {A : D → Prop} {B : Prop} : wSl (s :: l)[0]? A B = wSl (some s) A B := propext Iff.rfl
@[simp ↓] theorem wSl_gs {s : Sl} {l : En} {i : Nat} {A : D → Prop} {B : Prop} : wSl (s :: l)[i + 1]? A B = wSl l[i]? A B := propext Iff.rfl
@[simp ↓] theorem wSl_s0 {s x : Sl} {l : En} {i : Nat} {A : D → Prop} {B : Prop} : wSl ((s :: l).set 0 x)[i]? A B = wSl (x :: l)[i]? A B := propext Iff.rfl
@[simp ↓] theorem wSl_ss {s x : Sl} {l : En} {i j : Nat} {A : D → Prop} {B : Prop} : wSl ((s :: l).set (j + 1) x)[i]? A B = wSl (s :: l.set j x)[i]? A B := propext Iff.rfl
@[simp ↓] theorem wZl_g0 {s : Sl} {l : En} {A B : D → Prop} : wZl (s :: l)[0]? A B = wZl (some s) A B := propext Iff.rfl
@[simp ↓] theorem wZl_gs {s : Sl} {l : En} {i : Nat} {A B : D → Prop} : wZl (s :: l)[i + 1]? A B = wZl l[i]? A B := propext Iff.rfl
@[simp ↓] theorem wZl_s0 {s x : Sl} {l : En} {i : Nat} {A B : D → Prop} : wZl ((s :: l).set 0 x)[i]? A B = wZl (x :: l)[i]? A B := propext Iff.rfl
@[simp ↓] theorem wZl_ss {s x : Sl} {l : En} {i j : Nat} {A B : D → Prop} : wZl ((s :: l).set (j + 1) x)[i]? A B = wZl (s :: l.set j x)[i]? A B := propext Iff.rfl
@[simp ↓] theorem wCt_g0 {s : Sl} {l : En} {A : D → Prop} : wCt (s :: l)[0]? A = wCt (some s) A := propext Iff.rfl
@[simp ↓] theorem wCt_gs {s : Sl} {l : En} {i : Nat} {A : D → Prop} : wCt (s :: l)[i + 1]? A = wCt l[i]? A := propext Iff.rfl
@[simp ↓] theorem wCt_s0 {s x : Sl} {l : En} {i : Nat} {A : D → Prop} : wCt ((s :: l).set 0 x)[i]? A = wCt (x :: l)[i]? A := propext Iff.rfl
@[simp ↓] theorem wCt_ss {s x : Sl} {l : En} {i j : Nat} {A : D → Prop} : wCt ((s :: l).set (j + 1) x)[i]? A = wCt (s :: l.set j x)[i]? A := propext Iff.rfl
@[simp ↓] theorem wMl_g0 {s : Sl} {l : En} {A : Sl → List D → Prop} : wMl (s :: l)[0]? A = wMl (some s) A := propext Iff.rfl
@[simp ↓] theorem wMl_gs {s : Sl} {l : En} {i : Nat} {A : Sl → List D → Prop} : wMl (s :: l)[i + 1]? A = wMl l[i]? A := propext Iff.rfl
@[simp ↓] theorem wMl_s0 {s x : Sl} {l : En} {i : Nat} {A : Sl → List D → Prop} : wMl ((s :: l).set 0 x)[i]? A = wMl (x :: l)[i]? A := propext Iff.rfl
@[simp ↓] theorem wMl_ss {s x : Sl} {l : En} {i j : Nat} {A : Sl → List D → Prop} : wMl ((s :: l).set (j + 1) x)[i]? A = wMl (s :: l.set j x)[i]? A := propext Iff.rfl
@[simp ↓] theorem wFy_g0 {s : Sl} {l : En} {A B : D → Prop} {C : Prop} : wFy (s :: l)[0]? A B C = wFy (some s) A B C := propext Iff.rfl
@[simp ↓] theorem wFy_gs {s : Sl} {l : En} {i : Nat} {A B : D → Prop} {C : Prop} : wFy (s :: l)[i + 1]? A B C = wFy l[i]? A B C := propext Iff.rfl
@[simp ↓] theorem wFy_s0 {s x : Sl} {l : En} {i : Nat} {A B : D → Prop} {C : Prop} : wFy ((s :: l).set 0 x)[i]? A B C = wFy (x :: l)[i]? A B C := propext Iff.rfl
@[simp ↓] theorem wFy_ss {s x : Sl} {l : En} {i j : Nat} {A B : D → Prop} {C : Prop} : wFy ((s :: l).set (j + 1) x)[i]? A B C = wFy (s :: l.set j x)[i]? A B C := propext Iff.rfl
@[simp ↓] theorem wNr_g0 {s : Sl} {l : En} {A : Prop} : wNr (s :: l)[0]? A = wNr (some s) A := propext Iff.rfl
@[simp ↓] theorem wNr_gs {s : Sl} {l : En} {i : Nat} {A : Prop} : wNr (s :: l)[i + 1]? A = wNr l[i]? A := propext Iff.rfl
@[simp ↓] theorem wNr_s0 {s x : Sl} {l : En} {i : Nat} {A : Prop} : wNr ((s :: l).set 0 x)[i]? A = wNr (x :: l)[i]? A := propext Iff.rfl
@[simp ↓] theorem wNr_ss {s x : Sl} {l : En} {i j : Nat} {A : Prop} : wNr ((s :: l).set (j + 1) x)[i]? A = wNr (s :: l.set j x)[i]? A := propext Iff.rfl
@[simp ↓] theorem wMu_g0 {s : Sl} {l : En} {A : Sl → D → Prop} : wMu (s :: l)[0]? A = wMu (some s) A := propext Iff.rfl
@[simp ↓] theorem wMu_gs {s : Sl} {l : En} {i : Nat} {A : Sl → D → Prop} : wMu (s :: l)[i + 1]? A = wMu l[i]? A := propext Iff.rfl
@[simp ↓] theorem wMu_s0 {s x : Sl} {l : En} {i : Nat} {A : Sl → D → Prop} : wMu ((s :: l).set 0 x)[i]? A = wMu (x :: l)[i]? A := propext Iff.rfl
@[simp ↓] theorem wMu_ss {s x : Sl} {l : En} {i j : Nat} {A : Sl → D → Prop} : wMu ((s :: l).set (j + 1) x)[i]? A = wMu (s :: l.set j x)[i]? A := propext Iff.rfl
/-! targets -/
@[simp ↓] theorem wSm_store {i : Nat} {x : D} {Q : En → Prop} : wSm (storeD i x env) Q = wNr env[i]? (Q (env.set i (.d x))) := by
  unfold storeD
  cases env[i]? with
  | none => first | rfl | (simp only [wO_eq, wS_eq] <;> rfl)
  | some s => cases s <;> first | rfl | (simp only [wO_eq, wS_eq] <;> rfl)
@[simp ↓] theorem wSm_ds0 {Q : En → Prop} : wSm (storeDs [] [] env) Q = Q env := by first | rfl | (simp only [wO_eq, wS_eq] <;> rfl)
@[simp ↓] theorem wSm_ds1 {i : Nat} {is : List Nat} {x : D} {xs : List D} {Q : En → Prop} : wSm (storeDs (i :: is) (x :: xs) env) Q = wNr env[i]? (wSm (storeDs is xs (env.set i (.d x))) Q) := by
  show wSm ((storeD i x env).bind (storeDs is xs)) Q = _
  unfold storeD
  cases env[i]? with
  | none => first | rfl | (simp only [wO_eq, wS_eq] <;> rfl)
  | some s => cases s <;> first | rfl | (simp only [wO_eq, wS_eq] <;> rfl)
@[simp ↓] theorem wSm_unpack {is : List Nat} {ds : List D} {Q : En → Prop} : wSm (unpack is (.tup ds) env) Q = wSm (storeDs is ds env) Q := by first | rfl | (simp only [wO_eq, wS_eq] <;> rfl)
/-! loops -/
theorem wOd.mono {α : Type} {o : Out α} {E E' : EP} {Q Q' : α → En → Prop} (h : wOd o E Q) (hE : ∀ x fs p, E x fs p → E' x fs p) (hQ : ∀ r p, Q r p → Q' r p) : wOd o E' Q' := by
  cases o with
  | ok r p => exact hQ r p h
  | err x fs p => exact hE x fs p h
  | stuck => exact h
theorem wS_forLD {kk : D → En → Option En} (I : List D → En → Prop) : ∀ {items : List D} {env : En}, I items env → (∀ x xs e, I (x :: xs) e → wSm (kk x e) fun e1 => wSd (b e1) { nx := I xs, rt := k.rt, bk := k.nx, ct := I xs, er := k.er }) → (∀ e, I [] e → k.nx e) → wSd (forL kk b items env) k
  | [], env, h0, hs, hn => hn env h0
  | x :: xs, env, h0, hs, hn => by
    have q := hs x xs env h0
    unfold forL
    cases e1 : kk x env with
    | none => rw [e1] at q; exact q
    | some e =>
      rw [e1] at q
      have q : wSd (b e) _ := q
      dsimp only
      cases eb : b e with
      | next e' => rw [eb] at q; exact wS_forLD I q hs hn
      | cont e' => rw [eb] at q; exact wS_forLD I q hs hn
      | brk e' => rw [eb] at q; exact q
      | ret r e' => rw [eb] at q; exact q
      | err n fs e' => rw [eb] at q; exact q
      | stuck => rw [eb] at q; exact q
theorem wS_forL {kk : D → En → Option En} (I : List D → En → Prop) : ∀ {items : List D} {env : En}, I items env → (∀ x xs e, I (x :: xs) e → wSm (kk x e) fun e1 => wS (b e1) { nx := I xs, rt := k.rt, bk := k.nx, ct := I xs, er := k.er }) → (∀ e, I [] e → k.nx e) → wS (forL kk b items env) k := by
  intro items env h0 hs hn
  simp only [wS_eq] at hs ⊢
  exact wS_forLD I h0 hs hn
theorem wS_fl {kk : D → En → Option En} {items : List D} (I : List D → En → Prop) (h0 : I items env) (hs : ∀ (J : List D → En → Prop), (∀ r e, I r e → J r e) → ∀ x xs e, I (x :: xs) e → wSm (kk x e) fun e1 => wS (b e1) { nx := J xs, rt := k.rt, bk := k.nx, ct := J xs, er := k.er }) (hn : ∀ e, I [] e → k.nx e) : wS (forL kk b items env) k :=
  wS_forL I h0 (fun x xs e h => hs I (fun _ _ q => q) x xs e h) hn
theorem whileN_det : ∀ {n m : Nat} {env : En} {o o' : OutS}, whileN t b n env = some o → whileN t b m env = some o' → o = o'
  | 0, _, _, _, _, h, _ => nomatch h
  | _ + 1, 0, _, _, _, _, h => nomatch h
  | n + 1, m + 1, env, o, o', h, h' => by
    unfold whileN at h h'
    cases et : t env with
    | stuck => rw [et] at h h'; cases h; cases h'; rfl
    | err x fs e => rw [et] at h h'; cases h; cases h'; rfl
    | ok k e =>
      rw [et] at h h'
      cases k with
      | false => cases h; cases h'; rfl
      | true =>
        dsimp only at h h'
        cases eb : b e with
        | next e' => rw [eb] at h h'; exact whileN_det h h'
        | cont e' => rw [eb] at h h'; exact whileN_det h h'
        | _ => rw [eb] at h h'; cases h; cases h'; rfl
theorem wS_whileD (I : Nat → En → Prop) {n : Nat} (h0 : I n env) (hs : ∀ n e, I n e → wOd (t e) k.er fun x e1 => wIf x (wSd (b e1) { nx := fun e => ∃ m, m < n ∧ I m e, rt := k.rt, bk := k.nx, ct := fun e => ∃ m, m < n ∧ I m e, er := k.er }) (k.nx e1)) : wSd (sWhile t b env) k := by
  have key : ∀ N, ∀ n, n ≤ N → ∀ e, I n e → ∃ M o, whileN t b M e = some o ∧ wSd o k := by
    intro N
    induction N with
    | zero =>
      intro n hn e h
      have q := hs n e h
      refine ⟨1, ?_⟩
      unfold whileN
      cases et : t e with
      | stuck => rw [et] at q; exact q.elim
      | err x fs e => rw [et] at q; exact ⟨_, rfl, q⟩
      | ok x e1 =>
        rw [et] at q
        cases x with
        | false => exact ⟨_, rfl, q⟩
        | true =>
          have q : wSd (b e1) _ := q
          dsimp only
          cases eb : b e1 with
          | next e' => rw [eb] at q; obtain ⟨m, hm, _⟩ := q; omega
          | cont e' => rw [eb] at q; obtain ⟨m, hm, _⟩ := q; omega
          | brk e' => rw [eb] at q; exact ⟨_, rfl, q⟩
          | ret r e' => rw [eb] at q; exact ⟨_, rfl, q⟩
          | err n fs e' => rw [eb] at q; exact ⟨_, rfl, q⟩
          | stuck => rw [eb] at q; exact q.elim
    | succ N ih =>
      intro n hn e h
      have q := hs n e h
      cases et : t e with
      | stuck => rw [et] at q; exact q.elim
      | err x fs e' => rw [et] at q; exact ⟨1, .err x fs e', by unfold whileN; rw [et], q⟩
      | ok x e1 =>
        rw [et] at q
        cases x with
        | false => exact ⟨1, .next e1, by unfold whileN; rw [et], q⟩
        | true =>
          have q : wSd (b e1) _ := q
          cases eb : b e1 with
          | next e' =>
            rw [eb] at q
            obtain ⟨m, hm, q⟩ := q
            obtain ⟨M, o, h1, h2⟩ := ih m (by omega) e' q
            exact ⟨M + 1, o, by unfold whileN; rw [et]; dsimp only; rw [eb]; exact h1, h2⟩
          | cont e' =>
            rw [eb] at q
            obtain ⟨m, hm, q⟩ := q
            obtain ⟨M, o, h1, h2⟩ := ih m (by omega) e' q
            exact ⟨M + 1, o, by unfold whileN; rw [et]; dsimp only; rw [eb]; exact h1, h2⟩
          | brk e' => rw [eb] at q; exact ⟨1, .next e', by unfold whileN; rw [et]; dsimp only; rw [eb], q⟩
          | ret r e' => rw [eb] at q; exact ⟨1, .ret r e', by unfold whileN; rw [et]; dsimp only; rw [eb], q⟩
          | err n fs e' => rw [eb] at q; exact ⟨1, .err n fs e', by unfold whileN; rw [et]; dsimp only; rw [eb], q⟩
          | stuck => rw [eb] at q; exact q.elim
  obtain ⟨M, o, h1, h2⟩ := key n n (Nat.le_refl _) env h0
  have ex : ∃ n o, whileN t b n env = some o := ⟨M, o, h1⟩
  unfold sWhile
  rw [dif_pos ex]
  have e2 := ex.choose_spec.choose_spec
  rw [whileN_det e2 h1]
  exact h2
theorem wS_while (I : Nat → En → Prop) {n : Nat} (h0 : I n env) (hs : ∀ n e, I n e → wO (t e) k.er fun x e1 => wIf x (wS (b e1) { nx := fun e => ∃ m, m < n ∧ I m e, rt := k.rt, bk := k.nx, ct := fun e => ∃ m, m < n ∧ I m e, er := k.er }) (k.nx e1)) : wS (sWhile t b env) k := by
  simp only [wO_eq, wS_eq] at hs ⊢
  exact wS_whileD I h0 hs
theorem wS_wh {n : Nat} (I : Nat → En → Prop) (h0 : I n env) (hs : ∀ n (J : En → Prop), (∀ m e, m < n → I m e → J e) → ∀ e, I n e → wO (t e) k.er fun x e1 => wIf x (wS (b e1) { nx := J, rt := k.rt, bk := k.nx, ct := J, er := k.er }) (k.nx e1)) : wS (sWhile t b env) k :=
  wS_while I h0 fun n e h => hs n (fun e => ∃ m, m < n ∧ I m e) (fun m e h1 h2 => ⟨m, h1, h2⟩) e h
/-! comprehensions -/
@[simp ↓] theorem wO_LC {ci : En → Out (List D)} {kk : D → En → Option En} {vs : List Nat} : wO (cLC ci kk t c vs env) E Q = wO (ci env) E fun items e1 => wO (lcL kk t (cV c) vs items (wipeE e1 vs)) E fun ys e2 => wC (ys.length ≤ lim) (Q (.new (.lst ys)) (restE e1 e2 vs)) := by
  unfold cLC
  rw [wO_bind]
  congr 1; funext items e1
  rw [wO_bind]
  congr 1; funext ys e2
  (try dsimp only); rw [wO_ite]; (first | rfl | (simp only [wO_eq, wS_eq] <;> rfl))
@[simp ↓] theorem wO_DC {ci : En → Out (List D)} {kk : D → En → Option En} {vs : List Nat} : wO (cDC ci kk t ck c vs env) E Q = wO (ci env) E fun items e1 => wO (dcL kk t (cV ck) (cV c) vs items (wipeE e1 vs) []) E fun ys e2 => Q (.new (.dk ys)) (restE e1 e2 vs) := by
  unfold cDC
  rw [wO_bind]
  congr 1; funext items e1
  rw [wO_bind]; (first | rfl | (simp only [wO_eq, wS_eq] <;> rfl))
theorem wO_lcLD {kk : D → En → Option En} {cd : En → Out D} {vs : List Nat} {Q : List D → En → Prop} (I : List D → List D → En → Prop) {items : List D} (h0 : I items [] env)
    (hs : ∀ x xs acc e, I (x :: xs) acc e → wSm (kk x e) fun e1 => wOd (t e1) eF fun z e2 => wIf z (wOd (cd e2) eF fun y e3 => I xs (acc ++ [y]) (wipeE e3 vs)) (I xs acc (wipeE e2 vs))) (hn : ∀ acc e, I [] acc e → Q acc e) : wOd (lcL kk t cd vs items env) E Q := by
  have key : ∀ (items acc : List D) (env : En), I items acc env → ∃ ys e, lcL kk t cd vs items env = .ok ys e ∧ I [] (acc ++ ys) e := by
    intro items
    induction items with
    | nil => intro acc env h; exact ⟨[], env, rfl, by simpa using h⟩
    | cons x xs ih =>
      intro acc env h
      have q := hs x xs acc env h
      unfold lcL
      cases e1 : kk x env with
      | none => rw [e1] at q; exact q.elim
      | some e =>
        rw [e1] at q
        have q : wOd (t e) _ _ := q
        dsimp only
        cases et : t e with
        | stuck => rw [et] at q; exact q.elim
        | err _ _ _ => rw [et] at q; exact q.elim
        | ok z e2 =>
          rw [et] at q
          cases z with
          | false => exact ih acc _ q
          | true =>
            have q : wOd (cd e2) _ _ := q
            dsimp only
            cases ec : cd e2 with
            | stuck => rw [ec] at q; exact q.elim
            | err _ _ _ => rw [ec] at q; exact q.elim
            | ok y e3 =>
              rw [ec] at q
              obtain ⟨ys, e', h1, h2⟩ := ih (acc ++ [y]) _ q
              dsimp only
              rw [h1]
              exact ⟨y :: ys, e', rfl, by simpa using h2⟩
  obtain ⟨ys, e, h1, h2⟩ := key items [] env h0
  rw [h1]
  exact hn _ _ (by simpa using h2)
theorem wO_lcL {kk : D → En → Option En} {cd : En → Out D} {vs : List Nat} {Q : List D → En → Prop} (I : List D → List D → En → Prop) {items : List D} (h0 : I items [] env)
    (hs : ∀ x xs acc e, I (x :: xs) acc e → wSm (kk x e) fun e1 => wO (t e1) eF fun z e2 => wIf z (wO (cd e2) eF fun y e3 => I xs (acc ++ [y]) (wipeE e3 vs)) (I xs acc (wipeE e2 vs))) (hn : ∀ acc e, I [] acc e → Q acc e) : wO (lcL kk t cd vs items env) E Q := by
  simp only [wO_eq] at hs ⊢
  exact wO_lcLD I h0 hs hn
theorem wO_ll {kk : D → En → Option En} {cd : En → Out D} {vs : List Nat} {Q : List D → En → Prop} (I : List D → List D → En → Prop) {items : List D} (h0 : I items [] env)
    (hs : ∀ (J : List D → List D → En → Prop), (∀ r a e, I r a e → J r a e) → ∀ x xs acc e, I (x :: xs) acc e → wSm (kk x e) fun e1 => wO (t e1) eF fun z e2 => wIf z (wO (cd e2) eF fun y e3 => J xs (acc ++ [y]) (wipeE e3 vs)) (J xs acc (wipeE e2 vs))) (hn : ∀ acc e, I [] acc e → Q acc e) : wO (lcL kk t cd vs items env) E Q :=
  wO_lcL I h0 (fun x xs acc e h => hs I (fun _ _ _ q => q) x xs acc e h) hn
/-- .. that leaves all as it was -/
theorem wO_lcPD {kk : D → En → Option En} {cd : En → Out D} {vs : List Nat} {Q : List D → En → Prop} {items : List D} (f : D → Option D)
    (hs : ∀ x ∈ items, wSm (kk x env) fun e1 => wOd (t e1) eF fun z e2 => wIf z (wOd (cd e2) eF fun y e3 => f x = some y ∧ wipeE e3 vs = env) (f x = none ∧ wipeE e2 vs = env)) (hn : Q (items.filterMap f) env) : wOd (lcL kk t cd vs items env) E Q := by
  refine wO_lcLD (fun r acc e => e = env ∧ acc ++ r.filterMap f = items.filterMap f ∧ ∀ x ∈ r, x ∈ items) ⟨rfl, rfl, fun _ h => h⟩ (fun x xs acc e h => ?_) fun acc e h => ?_
  · obtain ⟨he, ha, hm⟩ := h
    subst he
    have q := hs x (hm x (List.mem_cons_self ..))
    cases e1 : kk x e with
    | none => rw [e1] at q; exact q.elim
    | some e' =>
      rw [e1] at q
      have q : wOd (t e') _ _ := q
      show wOd (t e') _ _
      refine q.mono (fun _ _ _ z => z) fun z e2 q => ?_
      cases z with
      | false =>
        obtain ⟨f0, w⟩ : f x = none ∧ _ := q
        exact ⟨w, by rw [List.filterMap_cons, f0] at ha; exact ha, fun y hy => hm y (List.mem_cons_of_mem _ hy)⟩
      | true =>
        have q : wOd (cd e2) _ _ := q
        show wOd (cd e2) _ _
        refine q.mono (fun _ _ _ z => z) fun y e3 ⟨f1, w⟩ => ⟨w, ?_, fun y hy => hm y (List.mem_cons_of_mem _ hy)⟩
        rw [List.filterMap_cons, f1] at ha
        simpa using ha
  · obtain ⟨he, ha, _⟩ := h
    subst he
    rw [show acc = items.filterMap f by simpa using ha]
    exact hn
theorem wO_lcP {kk : D → En → Option En} {cd : En → Out D} {vs : List Nat} {Q : List D → En → Prop} {items : List D} (f : D → Option D)
    (hs : ∀ x ∈ items, wSm (kk x env) fun e1 => wO (t e1) eF fun z e2 => wIf z (wO (cd e2) eF fun y e3 => f x = some y ∧ wipeE e3 vs = env) (f x = none ∧ wipeE e2 vs = env)) (hn : Q (items.filterMap f) env) : wO (lcL kk t cd vs items env) E Q := by
  simp only [wO_eq] at hs ⊢
  exact wO_lcPD f hs hn
theorem wO_dcLD {kk : D → En → Option En} {cy cd : En → Out D} {vs : List Nat} {Q : List (Key × D) → En → Prop} (I : List D → List (Key × D) → En → Prop) : ∀ {items : List D} {env : En} {acc : List (Key × D)}, I items acc env →
    (∀ x xs acc e, I (x :: xs) acc e → wSm (kk x e) fun e1 => wOd (t e1) eF fun z e2 => wIf z (wOd (cy e2) eF fun y e3 => wOd (cd e3) eF fun v e4 => wSm (keyOf y) fun q => wC (acc.length < lim) (I xs (dput acc q v) (wipeE e4 vs))) (I xs acc (wipeE e2 vs))) → (∀ acc e, I [] acc e → Q acc e) → wOd (dcL kk t cy cd vs items env acc) E Q
  | [], env, acc, h0, hs, hn => hn _ _ h0
  | x :: xs, env, acc, h0, hs, hn => by
    have q := hs x xs acc env h0
    unfold dcL
    cases e1 : kk x env with
    | none => rw [e1] at q; exact q.elim
    | some e =>
      rw [e1] at q
      have q : wOd (t e) _ _ := q
      dsimp only
      cases et : t e with
      | stuck => rw [et] at q; exact q.elim
      | err _ _ _ => rw [et] at q; exact q.elim
      | ok z e2 =>
        rw [et] at q
        cases z with
        | false => exact wO_dcLD I q hs hn
        | true =>
          have q : wOd (cy e2) _ _ := q
          dsimp only
          cases ec : cy e2 with
          | stuck => rw [ec] at q; exact q.elim
          | err _ _ _ => rw [ec] at q; exact q.elim
          | ok y e3 =>
            rw [ec] at q
            have q : wOd (cd e3) _ _ := q
            dsimp only
            cases ed : cd e3 with
            | stuck => rw [ed] at q; exact q.elim
            | err _ _ _ => rw [ed] at q; exact q.elim
            | ok v e4 =>
              rw [ed] at q
              have q : wSm (keyOf y) _ := q
              dsimp only
              cases eq : keyOf y with
              | none => rw [eq] at q; exact q.elim
              | some kk =>
                rw [eq] at q
                obtain ⟨q1, q2⟩ := q
                dsimp only
                rw [if_pos q1]
                exact wO_dcLD I q2 hs hn
theorem wO_dcL {kk : D → En → Option En} {cy cd : En → Out D} {vs : List Nat} {Q : List (Key × D) → En → Prop} (I : List D → List (Key × D) → En → Prop) : ∀ {items : List D} {env : En} {acc : List (Key × D)}, I items acc env →
    (∀ x xs acc e, I (x :: xs) acc e → wSm (kk x e) fun e1 => wO (t e1) eF fun z e2 => wIf z (wO (cy e2) eF fun y e3 => wO (cd e3) eF fun v e4 => wSm (keyOf y) fun q => wC (acc.length < lim) (I xs (dput acc q v) (wipeE e4 vs))) (I xs acc (wipeE e2 vs))) → (∀ acc e, I [] acc e → Q acc e) → wO (dcL kk t cy cd vs items env acc) E Q := by
  intro items env acc h0 hs hn
  simp only [wO_eq] at hs ⊢
  exact wO_dcLD I h0 hs hn
theorem wO_dl {kk : D → En → Option En} {cy cd : En → Out D} {vs : List Nat} {Q : List (Key × D) → En → Prop} (I : List D → List (Key × D) → En → Prop) {items : List D} {acc : List (Key × D)} (h0 : I items acc env)
    (hs : ∀ (J : List D → List (Key × D) → En → Prop), (∀ r a e, I r a e → J r a e) → ∀ x xs acc e, I (x :: xs) acc e → wSm (kk x e) fun e1 => wO (t e1) eF fun z e2 => wIf z (wO (cy e2) eF fun y e3 => wO (cd e3) eF fun v e4 => wSm (keyOf y) fun q => wC (acc.length < lim) (J xs (dput acc q v) (wipeE e4 vs))) (J xs acc (wipeE e2 vs))) (hn : ∀ acc e, I [] acc e → Q acc e) : wO (dcL kk t cy cd vs items env acc) E Q :=
  wO_dcL I h0 (fun x xs acc e h => hs I (fun _ _ _ q => q) x xs acc e h) hn
@[simp ↓] theorem wO_yes {Q : Bool → En → Prop} : wO (cYes env) E Q = Q true env := by first | rfl | (simp only [wO_eq, wS_eq] <;> rfl)
def wLs (d : D) (A : Prop) : Prop := match d with
  | .lst _ => A
  | _ => False
theorem wLs_congr {o : D} {o' : Unit → D} {A : Prop} (h : ∀ u : Unit, o = o' u) : wLs o A = wLs (o' ()) A := by rw [h ()]
@[simp ↓] theorem wLs_l {xs : List D} {A : Prop} : wLs (.lst xs) A = A := propext Iff.rfl
@[simp ↓] theorem wO_index : wO (cIndex ca cb env) E Q = wO (ca env) E fun r e => wPk r e fun p e1 => wLk p e1 fun d => wLs d (wO (cb e1) E fun r e => wPk r e fun q e2 => wLk p e2 fun x => wLk q e2 fun y => wSm (gIndex x y) fun w => Q w e2) := by
  unfold cIndex
  rw [wO_bind, wO_P]
  congr 1; funext r e
  congr 1; funext p e1
  rw [wLk_eq]
  cases look p e1 with
  | none => first | rfl | (simp only [wO_eq, wS_eq] <;> rfl)
  | some d =>
    cases d with
    | lst xs =>
      show wO (Out.bind _ _) E Q = wO (cb e1) E _
      rw [wO_bind, wO_P]
      congr 1; funext r e
      congr 1; funext q e2
      rw [wLk_eq]
      cases look p e2 with
      | none => first | rfl | (simp only [wO_eq, wS_eq] <;> rfl)
      | some x =>
        show _ = wLk q e2 _
        rw [wLk_eq]
        cases look q e2 with
        | none => first | rfl | (simp only [wO_eq, wS_eq] <;> rfl)
        | some y =>
          dsimp only [wSm]
          cases gIndex x y <;> first | rfl | (simp only [wO_eq, wS_eq] <;> rfl)
    | _ => first | rfl | (simp only [wO_eq, wS_eq] <;> rfl)
def wSr (d : D) (A : Str → Prop) : Prop := match d with
  | .str z => A z
  | _ => False
theorem wSr_congr {o : D} {o' : Unit → D} {A : Str → Prop} (h : ∀ u : Unit, o = o' u) : wSr o A = wSr (o' ()) A := by rw [h ()]
@[simp ↓] theorem wSr_s {z : Str} {A : Str → Prop} : wSr (.str z) A = A z := by first | rfl | (simp only [wO_eq, wS_eq] <;> rfl)
@[simp ↓] theorem wO_join : wO (cJoin ca cb env) E Q = wO (ca env) E fun r e => wPk r e fun p e1 => wLk p e1 fun d => wSr d fun z => (wO (cb e1) E fun r e => wPk r e fun q e2 => wLk q e2 fun y => wSm (gJoin (.str z) y) fun w => Q w e2) := by
  unfold cJoin
  rw [wO_bind, wO_P]
  congr 1; funext r e
  congr 1; funext p e1
  rw [wLk_eq]
  cases look p e1 with
  | none => first | rfl | (simp only [wO_eq, wS_eq] <;> rfl)
  | some d =>
    cases d with
    | str z =>
      show wO (Out.bind _ _) E Q = wO (cb e1) E _
      rw [wO_bind, wO_P]
      congr 1; funext r e
      congr 1; funext q e2
      rw [wLk_eq]
      cases look q e2 with
      | none => first | rfl | (simp only [wO_eq, wS_eq] <;> rfl)
      | some y =>
        rw [Option.bind_some]
        dsimp only [wSm]
        cases gJoin (.str z) y <;> first | rfl | (simp only [wO_eq, wS_eq] <;> rfl)
    | _ => first | rfl | (simp only [wO_eq, wS_eq] <;> rfl)
/-! a def -/
@[simp] theorem post0 {e : En} : postOf [] e = [] := rfl
@[simp] theorem post_d {x : D} {ss : List Sl} {e : En} : postOf (.d x :: ss) e = .d x :: postOf ss e.tail := rfl
@[simp] theorem post_r {x : D} {ss : List Sl} {e : En} : postOf (.ref x :: ss) e = e.headD .no :: postOf ss e.tail := rfl
theorem wF_mkD {m : Nat} {body : En → OutS} {slots : List Sl} {E : Str → List (Str × D) → List Sl → Prop} {Q : R → List Sl → Prop}
    (h : wSd (body (slots ++ List.replicate (m - slots.length) .no)) { nx := fun e => Q (.d .non) (postOf slots e), rt := fun r e => wR3 r (fun x => Q (.d x) (postOf slots e)) (fun x => Q (.new x) (postOf slots e)) fun i => wZl e[i]? (fun x => Q (.d x) (postOf slots e)) fun x => wC (¬ i < slots.length) (Q (.new x) (postOf slots e)), bk := fun _ => False, ct := fun _ => False, er := fun x fs e => E x fs (postOf slots e) }) : wFd (mkFn m body slots) E Q := by
  unfold mkFn
  cases eb : body (slots ++ List.replicate (m - slots.length) .no) with
  | next e => rw [eb] at h; exact h
  | brk e => rw [eb] at h; exact h
  | cont e => rw [eb] at h; exact h
  | stuck => rw [eb] at h; exact h
  | err x fs e => rw [eb] at h; exact h
  | ret r e =>
    rw [eb] at h
    cases r with
    | d x => exact h
    | new x => exact h
    | «at» i =>
      have h : wZl e[i]? _ _ := h
      dsimp only
      cases ei : e[i]? with
      | none => rw [ei] at h; exact h.elim
      | some s =>
        rw [ei] at h
        cases s with
        | no => exact h.elim
        | d x => exact h
        | ref x => exact h.elim
        | own x =>
          obtain ⟨h1, h2⟩ := h
          dsimp only
          rw [if_neg h1]
          exact h2
theorem wF_mk {m : Nat} {body : En → OutS} {slots : List Sl} {E : Str → List (Str × D) → List Sl → Prop} {Q : R → List Sl → Prop}
    (h : wS (body (slots ++ List.replicate (m - slots.length) .no)) { nx := fun e => Q (.d .non) (postOf slots e), rt := fun r e => wR3 r (fun x => Q (.d x) (postOf slots e)) (fun x => Q (.new x) (postOf slots e)) fun i => wZl e[i]? (fun x => Q (.d x) (postOf slots e)) fun x => wC (¬ i < slots.length) (Q (.new x) (postOf slots e)), bk := fun _ => False, ct := fun _ => False, er := fun x fs e => E x fs (postOf slots e) }) : wF (mkFn m body slots) E Q := by
  rw [wF_eq]
  rw [wS_eq] at h
  exact wF_mkD h
end
end Sim

/-! Sim29: what the operations give, on data at hand. -/
namespace Sim
open PySem PySem.Spec PyProof.Rows L2

abbrev iL (zs : List Int) : List D := zs.map D.int
/-! ### data without truth values, not deep -/
def nb : Nat → D → Bool
  | 0, .tup _ => false | 0, .lst _ => false
  | n + 1, .tup ds => ds.all (nb n) | n + 1, .lst ds => ds.all (nb n)
  | _, .non => true | _, .int _ => true | _, .str _ => true
  | _, .bl _ => false | _, .dk _ => false | _, .dt _ => false | _, .ins _ _ => false
theorem nb_tup {n : Nat} {ds : List D} : nb (n + 1) (.tup ds) = ds.all (nb n) := rfl
theorem nb_lst {n : Nat} {ds : List D} : nb (n + 1) (.lst ds) = ds.all (nb n) := rfl
@[simp] theorem nb_int {n : Nat} {i : Int} : nb n (.int i) = true := by cases n <;> rfl
@[simp] theorem nb_str {n : Nat} {i : Str} : nb n (.str i) = true := by cases n <;> rfl
@[simp] theorem nb_non {n : Nat} : nb n .non = true := by cases n <;> rfl
theorem nb_pl : ∀ {n : Nat} {d : D}, nb n d = true → pl d = true := by
  have key : ∀ n : Nat, (∀ d : D, nb n d = true → pl d = true) → ∀ ds : List D, ds.all (nb n) = true → pls ds = true := by
    intro n h ds
    induction ds with
    | nil => intro _; rfl
    | cons d ds ih =>
      intro q
      simp only [List.all_cons, Bool.and_eq_true] at q
      simp only [pls, Bool.and_eq_true]
      exact ⟨h d q.1, ih q.2⟩
  intro n
  induction n with
  | zero => intro d h; cases d <;> first | rfl | cases h
  | succ n ih =>
    intro d h
    cases d with
    | tup ds => exact key n (fun d q => ih q) ds h
    | lst ds => exact key n (fun d q => ih q) ds h
    | _ => first | rfl | cases h
theorem nb_all {n : Nat} {ds : List D} (h : ds.all (nb n) = true) : pls ds = true := by
  have q : nb (n + 1) (.lst ds) = true := h
  have := nb_pl q
  exact this
theorem nb_dep : ∀ {n : Nat} {d : D}, nb n d = true → (py d).depth ≤ n := by
  have key : ∀ n : Nat, (∀ d : D, nb n d = true → (py d).depth ≤ n) → ∀ ds : List D, ds.all (nb n) = true → PyData.depthAll (pys ds) ≤ n := by
    intro n h ds
    induction ds with
    | nil => intro _; simp [pys, PyData.depthAll]
    | cons d ds ih =>
      intro q
      simp only [List.all_cons, Bool.and_eq_true] at q
      simp only [pys, PyData.depthAll]
      exact Nat.max_le.mpr ⟨h d q.1, ih q.2⟩
  intro n
  induction n with
  | zero => intro d h; cases d <;> first | (simp [py, PyData.depth]; done) | cases h
  | succ n ih =>
    intro d h
    cases d with
    | tup ds =>
      have := key n (fun d q => ih q) ds h
      simp only [py, PyData.depth]; omega
    | lst ds =>
      have := key n (fun d q => ih q) ds h
      simp only [py, PyData.depth]; omega
    | _ => first | (simp [py, PyData.depth]; done) | cases h
/-- == -/
def eqB (a b : D) : Bool := PyData.eqv (py a) (py b)
theorem eqB_iff : ∀ {n m : Nat} {a b : D}, nb n a = true → nb m b = true → (eqB a b = true ↔ a = b) := by
  have key : ∀ n : Nat, (∀ (m : Nat) (a b : D), nb n a = true → nb m b = true → (eqB a b = true ↔ a = b)) → ∀ (m : Nat) (xs ys : List D), xs.all (nb n) = true → ys.all (nb m) = true → (PyData.eqvAll (pys xs) (pys ys) = true ↔ xs = ys) := by
    intro n h m xs
    induction xs with
    | nil =>
      intro ys _ _
      cases ys with
      | nil => simp [pys, PyData.eqvAll]
      | cons y ys => simp [pys, PyData.eqvAll]
    | cons x xs ih =>
      intro ys hx hy
      cases ys with
      | nil => simp [pys, PyData.eqvAll]
      | cons y ys =>
        simp only [List.all_cons, Bool.and_eq_true] at hx hy
        simp only [pys, PyData.eqvAll, Bool.and_eq_true, ih ys hx.2 hy.2]
        have q := h m x y hx.1 hy.1
        unfold eqB at q
        rw [q]
        simp
  intro n
  induction n with
  | zero =>
    intro m a b ha hb
    cases a with
    | tup _ => cases ha
    | lst _ => cases ha
    | bl _ => cases ha
    | dk _ => cases ha
    | dt _ => cases ha
    | ins _ _ => cases ha
    | non => cases b <;> first | (simp [eqB, py, PyData.eqv]; done) | (cases m <;> cases hb)
    | int i => cases b <;> first | (simp [eqB, py, PyData.eqv]; done) | (cases m <;> cases hb)
    | str i => cases b <;> first | (simp [eqB, py, PyData.eqv]; done) | (cases m <;> cases hb)
  | succ n ih =>
    intro m a b ha hb
    cases a with
    | bl _ => cases ha
    | dk _ => cases ha
    | dt _ => cases ha
    | ins _ _ => cases ha
    | non => cases b <;> first | (simp [eqB, py, PyData.eqv]; done) | (cases m <;> cases hb)
    | int i => cases b <;> first | (simp [eqB, py, PyData.eqv]; done) | (cases m <;> cases hb)
    | str i => cases b <;> first | (simp [eqB, py, PyData.eqv]; done) | (cases m <;> cases hb)
    | tup xs =>
      cases b with
      | tup ys =>
        cases m with
        | zero => cases hb
        | succ m =>
          have := key n (fun m a b p q => ih p q) m xs ys ha hb
          simp only [eqB, py, PyData.eqv, D.tup.injEq]
          exact this
      | _ => first | (simp [eqB, py, PyData.eqv]; done) | (cases m <;> cases hb)
    | lst xs =>
      cases b with
      | lst ys =>
        cases m with
        | zero => cases hb
        | succ m =>
          have := key n (fun m a b p q => ih p q) m xs ys ha hb
          simp only [eqB, py, PyData.eqv, D.lst.injEq]
          exact this
      | _ => first | (simp [eqB, py, PyData.eqv]; done) | (cases m <;> cases hb)
section
variable {n m : Nat} {a b : D} {xs ys : List D} {i j : Int} {zs : List Int} {Q : R → Prop}
theorem fEq_nb (ha : nb n a = true) (hb : nb m b = true) (hn : n ≤ 60) : fEq a b = some (.d (.bl (eqB a b))) := by
  unfold fEq
  rw [if_pos ⟨nb_pl ha, nb_pl hb, Nat.le_trans (nb_dep ha) hn⟩]; rfl
theorem fNe_nb (ha : nb n a = true) (hb : nb m b = true) (hn : n ≤ 60) : fNe a b = some (.d (.bl (!eqB a b))) := by
  unfold fNe
  rw [if_pos ⟨nb_pl ha, nb_pl hb, Nat.le_trans (nb_dep ha) hn⟩]; rfl
theorem eqB_int : eqB (.int i) (.int j) = decide (i = j) := by
  unfold eqB
  simp only [py, PyData.eqv]
  by_cases h : i = j <;> simp [h]
theorem eqB_str {x y : Str} : eqB (.str x) (.str y) = decide (x = y) := by
  unfold eqB
  simp only [py, PyData.eqv]
  by_cases h : x = y <;> simp [h]
@[simp] theorem fEq_int : fEq (.int i) (.int j) = some (.d (.bl (decide (i = j)))) := by rw [fEq_nb (n := 0) (m := 0) rfl rfl (by omega), eqB_int]
@[simp] theorem fNe_int : fNe (.int i) (.int j) = some (.d (.bl (!decide (i = j)))) := by rw [fNe_nb (n := 0) (m := 0) rfl rfl (by omega), eqB_int]
@[simp] theorem fEq_str {x y : Str} : fEq (.str x) (.str y) = some (.d (.bl (decide (x = y)))) := by rw [fEq_nb (n := 0) (m := 0) rfl rfl (by omega), eqB_str]
@[simp] theorem fNe_str {x y : Str} : fNe (.str x) (.str y) = some (.d (.bl (!decide (x = y)))) := by rw [fNe_nb (n := 0) (m := 0) rfl rfl (by omega), eqB_str]
@[simp] theorem fEq_bl {x y : Bool} : fEq (.bl x) (.bl y) = some (.d (.bl (x == y))) := by
  unfold fEq
  rw [if_pos ⟨rfl, rfl, by simp [py, PyData.depth]⟩]
  simp only [py, PyData.eqv]
@[simp] theorem fNe_bl {x y : Bool} : fNe (.bl x) (.bl y) = some (.d (.bl (!(x == y)))) := by
  unfold fNe
  rw [if_pos ⟨rfl, rfl, by simp [py, PyData.depth]⟩]
  simp only [py, PyData.eqv]
/-- < -/
def ltB (a b : D) : Bool := PySem.W.dataLt (py a) (py b)
theorem fLt_nb (ha : nb n a = true) (hb : nb m b = true) (hn : n ≤ 60) (hk : PySem.W.alike (py a) (py b) = true) (hnn : a ≠ .non) : fLt a b = some (.d (.bl (ltB a b))) := by
  unfold fLt
  rw [if_pos ⟨nb_pl ha, nb_pl hb, Nat.le_trans (nb_dep ha) hn, hk, fun h => hnn (by cases a <;> first | rfl | cases h)⟩]; rfl
@[simp] theorem ltB_int : ltB (.int i) (.int j) = decide (i < j) := PySem.W.dataLt_int i j
@[simp] theorem fLt_int : fLt (.int i) (.int j) = some (.d (.bl (decide (i < j)))) := by rw [fLt_nb (n := 0) (m := 0) rfl rfl (by omega) (by simp [py, PySem.W.alike]) (by simp), ltB_int]
/-! ints -/
@[simp] theorem fII_int {g : Int → Int → D} : fII g (.int i) (.int j) = some (.d (g i j)) := rfl
@[simp ↓] theorem fIIc_int {C : Int → Int → Prop} [∀ i j, Decidable (C i j)] {g : Int → Int → D} : wSm (fIIc C g (.int i) (.int j)) Q = wC (C i j) (Q (.d (g i j))) := by
  unfold fIIc
  dsimp only
  by_cases h : C i j
  · rw [if_pos h]; simp [wC, h]
  · rw [if_neg h]; simp [wC, h, wSm]
@[simp] theorem fAdd_int : fAdd (.int i) (.int j) = some (.d (.int (i + j))) := rfl
theorem wSm_ite {α : Type} {p : Prop} [Decidable p] {x : α} {Q : α → Prop} : wSm (if p then some x else none) Q = wC p (Q x) := by
  by_cases h : p
  · rw [if_pos h]; simp [wC, h]
  · rw [if_neg h]; simp [wC, h, wSm]
@[simp ↓] theorem fAdd_lst : wSm (fAdd (.lst xs) (.lst ys)) Q = wC (xs.length + ys.length ≤ lim) (Q (.new (.lst (xs ++ ys)))) := wSm_ite
@[simp ↓] theorem fAdd_tup : wSm (fAdd (.tup xs) (.tup ys)) Q = wC (xs.length + ys.length ≤ lim) (Q (.d (.tup (xs ++ ys)))) := wSm_ite
@[simp ↓] theorem fAdd_str {x y : Str} : wSm (fAdd (.str x) (.str y)) Q = wC (x.length + y.length ≤ lim) (Q (.d (.str (x ++ y)))) := wSm_ite
/-! in -/
def inB (ys : List D) (a : D) : Bool := (pys ys).any fun y => PyData.eqv y (py a)
theorem inB_iff (ha : nb n a = true) : ∀ {ys : List D}, ys.all (nb m) = true → (inB ys a = true ↔ a ∈ ys) := by
  intro ys
  induction ys with
  | nil => intro _; simp [inB, pys]
  | cons y ys ih =>
    intro h
    simp only [List.all_cons, Bool.and_eq_true] at h
    have q := ih h.2
    unfold inB at q ⊢
    simp only [pys, List.any_cons, Bool.or_eq_true, q, List.mem_cons]
    have e : PyData.eqv (py y) (py a) = true ↔ y = a := eqB_iff h.1 ha
    rw [e]
    exact ⟨fun z => z.imp Eq.symm id, fun z => z.imp Eq.symm id⟩
theorem ints_nb {k : Nat} : (iL zs).all (nb k) = true := by simp [List.all_eq_true]
theorem isIn_lst (ha : nb n a = true) (hb : ys.all (nb m) = true) (hn : n ≤ 60) : isIn a (.lst ys) = some (inB ys a) := by
  unfold isIn
  dsimp only
  rw [if_pos ⟨nb_pl ha, nb_all hb, Nat.le_trans (nb_dep ha) hn⟩]; rfl
theorem isIn_tup (ha : nb n a = true) (hb : ys.all (nb m) = true) (hn : n ≤ 60) : isIn a (.tup ys) = some (inB ys a) := by
  unfold isIn
  dsimp only
  rw [if_pos ⟨nb_pl ha, nb_all hb, Nat.le_trans (nb_dep ha) hn⟩]; rfl
theorem fIn_lst (ha : nb n a = true) (hb : ys.all (nb m) = true) (hn : n ≤ 60) : fIn a (.lst ys) = some (.d (.bl (inB ys a))) := by unfold fIn; rw [isIn_lst ha hb hn]; rfl
theorem fNotIn_lst (ha : nb n a = true) (hb : ys.all (nb m) = true) (hn : n ≤ 60) : fNotIn a (.lst ys) = some (.d (.bl (!inB ys a))) := by unfold fNotIn; rw [isIn_lst ha hb hn]; rfl
theorem fIn_tup (ha : nb n a = true) (hb : ys.all (nb m) = true) (hn : n ≤ 60) : fIn a (.tup ys) = some (.d (.bl (inB ys a))) := by unfold fIn; rw [isIn_tup ha hb hn]; rfl
theorem fNotIn_tup (ha : nb n a = true) (hb : ys.all (nb m) = true) (hn : n ≤ 60) : fNotIn a (.tup ys) = some (.d (.bl (!inB ys a))) := by unfold fNotIn; rw [isIn_tup ha hb hn]; rfl
theorem inB_int : inB (iL zs) (.int i) = decide (i ∈ zs) := by
  have h := inB_iff (n := 0) (m := 0) (a := .int i) rfl (ints_nb (zs := zs))
  by_cases q : i ∈ zs
  · rw [h.mpr (List.mem_map.mpr ⟨i, q, rfl⟩)]; simp [q]
  · cases e : inB (iL zs) (.int i) with
    | false => simp [q]
    | true =>
      obtain ⟨j, h1, h2⟩ := List.mem_map.mp (h.mp e)
      cases h2
      exact absurd h1 q
@[simp] theorem fIn_ints : fIn (.int i) (.lst (iL zs)) = some (.d (.bl (decide (i ∈ zs)))) := by rw [fIn_lst (n := 0) (m := 0) rfl ints_nb (by omega), inB_int]
@[simp] theorem fNotIn_ints : fNotIn (.int i) (.lst (iL zs)) = some (.d (.bl (!decide (i ∈ zs)))) := by rw [fNotIn_lst (n := 0) (m := 0) rfl ints_nb (by omega), inB_int]
@[simp] theorem fIn_intt : fIn (.int i) (.tup (iL zs)) = some (.d (.bl (decide (i ∈ zs)))) := by rw [fIn_tup (n := 0) (m := 0) rfl ints_nb (by omega), inB_int]
@[simp] theorem fNotIn_intt : fNotIn (.int i) (.tup (iL zs)) = some (.d (.bl (!decide (i ∈ zs)))) := by rw [fNotIn_tup (n := 0) (m := 0) rfl ints_nb (by omega), inB_int]
@[simp] theorem keyOf_int : keyOf (.int i) = some (.inl i) := rfl
@[simp] theorem keyOf_str {x : Str} : keyOf (.str x) = some (.inr x) := rfl
variable {kvs : List (Key × D)}
@[simp] theorem fIn_dk : fIn (.int i) (.dk kvs) = some (.d (.bl (dlook kvs (.inl i)).isSome)) := rfl
@[simp] theorem fNotIn_dk : fNotIn (.int i) (.dk kvs) = some (.d (.bl (!(dlook kvs (.inl i)).isSome))) := rfl
@[simp] theorem fIn_dks {x : Str} : fIn (.str x) (.dk kvs) = some (.d (.bl (dlook kvs (.inr x)).isSome)) := rfl
@[simp] theorem fNotIn_dks {x : Str} : fNotIn (.str x) (.dk kvs) = some (.d (.bl (!(dlook kvs (.inr x)).isSome))) := rfl
/-! x[i] -/
@[simp ↓] theorem fIx_lst : wSm (fIx (.lst xs) (.int i)) Q = wSm (atI xs i) fun d => Q (.d d) := by
  unfold fIx
  dsimp only
  cases atI xs i <;> rfl
@[simp ↓] theorem fIx_tup : wSm (fIx (.tup xs) (.int i)) Q = wSm (atI xs i) fun d => Q (.d d) := by
  unfold fIx
  dsimp only
  cases atI xs i <;> rfl
@[simp ↓] theorem fIx_dk : wSm (fIx (.dk kvs) (.int i)) Q = wSm (dlook kvs (.inl i)) fun d => Q (.d d) := by
  show wSm (match some (dlook kvs (.inl i)) with | some (some x) => some (R.d x) | _ => none) Q = _
  cases dlook kvs (.inl i) <;> rfl
@[simp ↓] theorem fIx_dks {x : Str} : wSm (fIx (.dk kvs) (.str x)) Q = wSm (dlook kvs (.inr x)) fun d => Q (.d d) := by
  show wSm (match some (dlook kvs (.inr x)) with | some (some x) => some (R.d x) | _ => none) Q = _
  cases dlook kvs (.inr x) <;> rfl
@[simp ↓] theorem fIx_str {z : Str} : wSm (fIx (.str z) (.int i)) Q = wC (z.length ≤ lim) (wSm (atI z.cps.toList i) fun c => Q (.d (.str ⟨#[c]⟩))) := by
  unfold fIx
  dsimp only
  by_cases h : z.length ≤ lim
  · rw [if_pos h]
    simp only [wC, h, true_and]
    cases atI z.cps.toList i <;> rfl
  · rw [if_neg h]; simp [wC, h, wSm]
theorem atI_nat {α : Type} {xs : List α} {k : Nat} : atI xs (k : Int) = xs[k]? := by
  unfold atI ixN
  rw [if_pos (by omega)]
  by_cases h : (k : Int) < xs.length
  · rw [if_pos h]; simp
  · rw [if_neg h]
    rw [List.getElem?_eq_none (by omega)]; rfl
theorem atI_pos {α : Type} {xs : List α} {k : Int} (h : 0 ≤ k) : atI xs k = xs[k.toNat]? := by
  have := atI_nat (xs := xs) (k := k.toNat)
  rwa [Int.toNat_of_nonneg h] at this
@[simp] theorem atI_0 {α : Type} {a : α} {l : List α} : atI (a :: l) 0 = some a := atI_nat (k := 0)
@[simp] theorem atI_1 {α : Type} {a b : α} {l : List α} : atI (a :: b :: l) 1 = some b := atI_nat (k := 1)
@[simp] theorem atI_2 {α : Type} {a b c : α} {l : List α} : atI (a :: b :: c :: l) 2 = some c := atI_nat (k := 2)
@[simp] theorem atI_3 {α : Type} {a b c d : α} {l : List α} : atI (a :: b :: c :: d :: l) 3 = some d := atI_nat (k := 3)
@[simp] theorem atI_4 {α : Type} {a b c d e : α} {l : List α} : atI (a :: b :: c :: d :: e :: l) 4 = some e := atI_nat (k := 4)
theorem atI_neg {α : Type} {xs : List α} {x : α} : atI (xs ++ [x]) (-1) = some x := by
  unfold atI ixN
  rw [if_neg (by omega), if_pos (by simp; omega)]
  have e : (-1 + ((xs ++ [x]).length : Int)).toNat = xs.length := by simp; omega
  simp only [e, Option.bind_some]
  simp
theorem ixN_nat {l k : Nat} (h : k < l) : ixN l (k : Int) = some k := by
  unfold ixN
  rw [if_pos (by omega), if_pos (by omega)]; simp
theorem putD_nat {k : Nat} {x : D} (h : k < xs.length) : putD (.lst xs) (.int k) x = some (.lst (xs.set k x)) := by
  unfold putD
  dsimp only
  rw [ixN_nat h]; rfl
variable {a0 a1 a2 a3 a4 x : D}
@[simp] theorem putD_0 : putD (.lst [a0, a1, a2, a3, a4]) (.int 0) x = some (.lst [x, a1, a2, a3, a4]) := putD_nat (k := 0) (by simp)
@[simp] theorem putD_1 : putD (.lst [a0, a1, a2, a3, a4]) (.int 1) x = some (.lst [a0, x, a2, a3, a4]) := putD_nat (k := 1) (by simp)
@[simp] theorem putD_2 : putD (.lst [a0, a1, a2, a3, a4]) (.int 2) x = some (.lst [a0, a1, x, a3, a4]) := putD_nat (k := 2) (by simp)
@[simp] theorem putD_3 : putD (.lst [a0, a1, a2, a3, a4]) (.int 3) x = some (.lst [a0, a1, a2, x, a4]) := putD_nat (k := 3) (by simp)
@[simp] theorem putD_4 : putD (.lst [a0, a1, a2, a3, a4]) (.int 4) x = some (.lst [a0, a1, a2, a3, x]) := putD_nat (k := 4) (by simp)
@[simp ↓] theorem putD_dk {Q : D → Prop} : wSm (putD (.dk kvs) (.int i) x) Q = wC (kvs.length < lim) (Q (.dk (dput kvs (.inl i) x))) := wSm_ite
@[simp ↓] theorem putD_dks {Q : D → Prop} {z : Str} : wSm (putD (.dk kvs) (.str z) x) Q = wC (kvs.length < lim) (Q (.dk (dput kvs (.inr z) x))) := wSm_ite
/-! slices -/
@[simp] theorem fSl_lst {lo hi : Option Int} : fSl (.lst xs) lo hi = some (.new (.lst (cutL xs lo hi))) := rfl
@[simp] theorem fSl_tup {lo hi : Option Int} : fSl (.tup xs) lo hi = some (.d (.tup (cutL xs lo hi))) := rfl
@[simp ↓] theorem fSl_str {z : Str} {lo hi : Option Int} : wSm (fSl (.str z) lo hi) Q = wC (z.length ≤ lim) (Q (.d (.str (cutS z lo hi)))) := wSm_ite
theorem cut_from {α : Type} {xs : List α} {k : Nat} : cutL xs (some (k : Int)) none = xs.drop k := by
  unfold cutL
  rw [HT.sIx_nat, HT.sIx_none]
  by_cases h : k ≤ xs.length
  · rw [Nat.min_eq_left h, List.take_of_length_le (by simp)]
  · rw [Nat.min_eq_right (by omega), List.drop_eq_nil_of_le (Nat.le_refl _), List.drop_eq_nil_of_le (by omega)]; simp
theorem cut_to {α : Type} {xs : List α} {k : Nat} : cutL xs none (some (k : Int)) = xs.take k := by
  unfold cutL
  rw [HT.sIx_nat, HT.sIx_none]
  simp only [List.drop_zero, Nat.sub_zero]
  by_cases h : k ≤ xs.length
  · rw [Nat.min_eq_left h]
  · rw [Nat.min_eq_right (by omega), List.take_of_length_le (Nat.le_refl _), List.take_of_length_le (by omega)]
@[simp] theorem cut_1 {α : Type} {xs : List α} : cutL xs (some 1) none = xs.tail := by
  have := cut_from (xs := xs) (k := 1)
  rw [List.drop_one] at this
  exact this
theorem cut_fromI {α : Type} {xs : List α} {k : Int} (h : 0 ≤ k) : cutL xs (some k) none = xs.drop k.toNat := by
  have := cut_from (xs := xs) (k := k.toNat)
  rwa [Int.toNat_of_nonneg h] at this
theorem cut_toI {α : Type} {xs : List α} {k : Int} (h : 0 ≤ k) : cutL xs none (some k) = xs.take k.toNat := by
  have := cut_to (xs := xs) (k := k.toNat)
  rwa [Int.toNat_of_nonneg h] at this
/-! built-ins -/
@[simp] theorem gLen_lst : gLen [.lst xs] = some (.d (.int xs.length)) := rfl
@[simp] theorem gLen_tup : gLen [.tup xs] = some (.d (.int xs.length)) := rfl
@[simp] theorem gLen_dk : gLen [.dk kvs] = some (.d (.int kvs.length)) := rfl
@[simp ↓] theorem gLen_str {z : Str} : wSm (gLen [.str z]) Q = wC (z.length ≤ lim) (Q (.d (.int z.length))) := wSm_ite
@[simp] theorem gInt_int : gInt [.int i] = some (.d (.int i)) := rfl
@[simp] theorem gList_lst : gList [.lst xs] = some (.new (.lst xs)) := rfl
@[simp] theorem gList_tup : gList [.tup xs] = some (.new (.lst xs)) := rfl
@[simp] theorem gTuple_lst : gTuple [.lst xs] = some (.d (.tup xs)) := rfl
@[simp] theorem gTuple_tup : gTuple [.tup xs] = some (.d (.tup xs)) := rfl
@[simp ↓] theorem gStr_int : wSm (gStr [.int i]) Q = wC (i.natAbs.log2 < 1920) (Q (.d (.str (toString i)))) := wSm_ite
@[simp] theorem items_lst : itemsOf (.lst xs) = some xs := rfl
@[simp] theorem items_tup : itemsOf (.tup xs) = some xs := rfl
@[simp] theorem items_str {z : Str} : itemsOf (.str z) = some (z.cps.toList.map fun c => .str ⟨#[c]⟩) := rfl
@[simp] theorem keysD_dk : keysD (.dk kvs) = some (kvs.map fun p => keyD p.1) := rfl
theorem rng_ints {n : Nat} : rng 0 n = iL ((List.range n).map fun (k : Nat) => (k : Int)) := by
  unfold rng iL
  rw [List.map_map]
  exact List.map_congr_left fun k _ => by simp
theorem gIndex_ints (h : i ∈ zs) : ∃ j : Nat, gIndex (.lst (iL zs)) (.int i) = some (.d (.int j)) ∧ zs[j]? = some i := by
  have hp : pys (iL zs) = zs.map PyData.int := by
    clear h
    induction zs with
    | nil => rfl
    | cons z zs ih => simp only [iL, List.map_cons, pys, py, List.cons.injEq, true_and]; exact ih
  have sh : ∀ zs : List Int, PyData.canLayAll0 (zs.map PyData.int) = true := fun zs => by
    induction zs with
    | nil => rfl
    | cons z zs ih => simp [PyData.canLayAll0, PyData.canLay0, ih]
  have dp : ∀ zs : List Int, PyData.depthAll (zs.map PyData.int) = 0 := fun zs => by
    induction zs with
    | nil => rfl
    | cons z zs ih => simp [PyData.depthAll, PyData.depth, ih]
  have s1 : SeqAt.shaped (.list (pys (iL zs))) = true := by
    rw [hp]
    simp [SeqAt.shaped, PyData.canLay0, sh, PyData.depth, dp]
  have s2 : SeqAt.shaped (py (.int i)) = true := by simp [SeqAt.shaped, PyData.canLay0, py, PyData.depth]
  unfold gIndex
  dsimp only
  rw [if_pos ⟨nb_all (n := 0) ints_nb, rfl, s1, s2⟩, hp]
  · have ex : ∃ j, (zs.map PyData.int).findIdx? (fun z => PyData.eqv z (py (.int i))) = some j := by
      cases e : (zs.map PyData.int).findIdx? (fun z => PyData.eqv z (py (.int i))) with
      | some j => exact ⟨j, rfl⟩
      | none =>
        rw [List.findIdx?_eq_none_iff] at e
        have := e (.int i) (List.mem_map.mpr ⟨i, h, rfl⟩)
        simp [py, PyData.eqv] at this
    obtain ⟨j, e⟩ := ex
    rw [e]
    refine ⟨j, rfl, ?_⟩
    have := List.findIdx?_eq_some_iff_getElem.mp e
    obtain ⟨h1, h2, _⟩ := this
    simp only [List.getElem_map, py, PyData.eqv, beq_iff_eq] at h2
    rw [List.length_map] at h1
    rw [List.getElem?_eq_getElem h1, h2]
/-! isinstance -/
@[simp] theorem is_int_int : isD (tB "int") (.int i) = some true := by show kitB "int" "int" = _; decide +kernel
@[simp] theorem is_int_str {z : Str} : isD (tB "int") (.str z) = some false := by show kitB "str" "int" = _; decide +kernel
@[simp] theorem is_int_tup : isD (tB "int") (.tup xs) = some false := by show kitB "tuple" "int" = _; decide +kernel
@[simp] theorem is_int_lst : isD (tB "int") (.lst xs) = some false := by show kitB "list" "int" = _; decide +kernel
@[simp] theorem is_int_bl {k : Bool} : isD (tB "int") (.bl k) = some true := by show kitB "bool" "int" = _; decide +kernel
@[simp] theorem is_bool_int : isD (tB "bool") (.int i) = some false := by show kitB "int" "bool" = _; decide +kernel
@[simp] theorem is_bool_str {z : Str} : isD (tB "bool") (.str z) = some false := by show kitB "str" "bool" = _; decide +kernel
@[simp] theorem is_bool_tup : isD (tB "bool") (.tup xs) = some false := by show kitB "tuple" "bool" = _; decide +kernel
@[simp] theorem is_bool_lst : isD (tB "bool") (.lst xs) = some false := by show kitB "list" "bool" = _; decide +kernel
@[simp] theorem is_bool_bl {k : Bool} : isD (tB "bool") (.bl k) = some true := by show kitB "bool" "bool" = _; decide +kernel
@[simp] theorem is_str_int : isD (tB "str") (.int i) = some false := by show kitB "int" "str" = _; decide +kernel
@[simp] theorem is_str_str {z : Str} : isD (tB "str") (.str z) = some true := by show kitB "str" "str" = _; decide +kernel
@[simp] theorem is_str_tup : isD (tB "str") (.tup xs) = some false := by show kitB "tuple" "str" = _; decide +kernel
@[simp] theorem is_str_lst : isD (tB "str") (.lst xs) = some false := by show kitB "list" "str" = _; decide +kernel
@[simp] theorem is_tup_tup : isD (tB "tuple") (.tup xs) = some true := by show kitB "tuple" "tuple" = _; decide +kernel
@[simp] theorem is_tup_lst : isD (tB "tuple") (.lst xs) = some false := by show kitB "list" "tuple" = _; decide +kernel
@[simp] theorem is_lst_tup : isD (tB "list") (.tup xs) = some false := by show kitB "tuple" "list" = _; decide +kernel
@[simp] theorem is_lst_lst : isD (tB "list") (.lst xs) = some true := by show kitB "list" "list" = _; decide +kernel
@[simp] theorem is_lt_tup : isD (tB2 "list" "tuple") (.tup xs) = some true := by
  show (match kitB "tuple" "list" with | some true => some true | some false => kitB "tuple" "tuple" | none => none) = _; decide +kernel
@[simp] theorem is_lt_lst : isD (tB2 "list" "tuple") (.lst xs) = some true := by
  show (match kitB "list" "list" with | some true => some true | some false => kitB "list" "tuple" | none => none) = _; decide +kernel
@[simp] theorem fIsN_int : fIsN (.int i) .non = some (.d (.bl false)) := rfl
@[simp] theorem fIsN_lst : fIsN (.lst xs) .non = some (.d (.bl false)) := rfl
@[simp] theorem fIsN_tup : fIsN (.tup xs) .non = some (.d (.bl false)) := rfl
@[simp] theorem fIsN_str {z : Str} : fIsN (.str z) .non = some (.d (.bl false)) := rfl
@[simp] theorem fIsN_non : fIsN .non .non = some (.d (.bl true)) := rfl
@[simp] theorem fld_ins {x f : Str} {fs : List (Str × D)} : fld x f (.ins x fs) = fs.lookup f := by simp [fld]
end
end Sim

namespace Lw
open PySem PySem.Spec PyProof.Rows L2 Sim SX
def DrSt (s : D) : Prop := ∃ (zs : List Int) (p c k f : Int), s = .lst [.lst (iL zs), .int p, .int c, .int k, .int f] ∧ 0 ≤ p ∧ 0 ≤ c ∧ 0 ≤ k ∧ k ≤ 60 ∧ (f = 1 ∨ c < 10 ^ 18)
theorem log_l60 {x : Int} (h0 : 0 ≤ x) (h : x < 10 ^ 18) : x.natAbs.log2 < 60 := by
  have : x.natAbs < 2 ^ 60 := by omega
  by_cases hx : x.natAbs = 0
  · rw [hx]; decide
  · exact (Nat.log2_lt hx).mpr this
theorem log_lt {x : Int} (h0 : 0 ≤ x) (h : x < 10 ^ 18) : x.natAbs.log2 < 500000 := by
  have : x.natAbs < 2 ^ 60 := by omega
  by_cases hx : x.natAbs = 0
  · rw [hx]; decide
  · have := (Nat.log2_lt hx).mpr this
    omega
/-! helpers -/
@[simp] theorem putAt_0r {x y : D} {e : En} : putAt 0 (.ref y) (.ref x :: e) = .ref y :: e := rfl
@[simp] theorem putAt_0o {x y : D} {e : En} : putAt 0 (.ref y) (.own x :: e) = .own y :: e := rfl
@[simp] theorem putAt_s {s t : Sl} {i : Nat} {e : En} : putAt (i + 1) s (t :: e) = t :: putAt i s e := by
  show (match (t :: e)[i + 1]?, s.cont with | some t', some x => (t :: e).set (i + 1) (t'.with x) | _, _ => t :: e) = t :: (match e[i]?, s.cont with | some t, some x => e.set i (t.with x) | _, _ => e)
  rw [List.getElem?_cons_succ]
  cases e[i]? with
  | none => rfl
  | some u => cases s.cont <;> rfl
@[simp] theorem putAt_1 {s t : Sl} {e : En} : putAt 1 s (t :: e) = t :: putAt 0 s e := putAt_s (i := 0)
@[simp] theorem putAt_2 {s t : Sl} {e : En} : putAt 2 s (t :: e) = t :: putAt 1 s e := putAt_s (i := 1)
@[simp] theorem wipe0 {e : En} : wipeE e [] = e := rfl
@[simp] theorem wipe1 {e : En} {v : Nat} {vs : List Nat} : wipeE e (v :: vs) = (wipeE e vs).set v .no := rfl
@[simp] theorem rest0 {a e : En} : restE a e [] = e := rfl
theorem rest1 {a e : En} {v : Nat} {vs : List Nat} {s : Sl} (h : a[v]? = some s) : restE a e (v :: vs) = (restE a e vs).set v s := by
  show (match a[v]? with | some s => (restE a e vs).set v s | none => restE a e vs) = _
  rw [h]
abbrev sL (zs : List Str) : List D := zs.map D.str
theorem sL_nb {zs : List Str} {k : Nat} : (sL zs).all (nb k) = true := by simp [List.all_eq_true]
theorem inB_str {zs : List Str} {i : Str} : inB (sL zs) (.str i) = decide (i ∈ zs) := by
  have h := inB_iff (n := 0) (m := 0) (a := .str i) rfl (sL_nb (zs := zs))
  by_cases q : i ∈ zs
  · rw [h.mpr (List.mem_map.mpr ⟨i, q, rfl⟩)]; simp [q]
  · cases e : inB (sL zs) (.str i) with
    | false => simp [q]
    | true =>
      obtain ⟨j, h1, h2⟩ := List.mem_map.mp (h.mp e)
      cases h2
      exact absurd h1 q
@[simp] theorem fIn_strs {zs : List Str} {i : Str} : fIn (.str i) (.lst (sL zs)) = some (.d (.bl (decide (i ∈ zs)))) := by rw [fIn_lst (n := 0) (m := 0) rfl sL_nb (by omega), inB_str]
@[simp] theorem fNotIn_strs {zs : List Str} {i : Str} : fNotIn (.str i) (.lst (sL zs)) = some (.d (.bl (!decide (i ∈ zs)))) := by rw [fNotIn_lst (n := 0) (m := 0) rfl sL_nb (by omega), inB_str]
@[simp] theorem fIn_strt {zs : List Str} {i : Str} : fIn (.str i) (.tup (sL zs)) = some (.d (.bl (decide (i ∈ zs)))) := by rw [fIn_tup (n := 0) (m := 0) rfl sL_nb (by omega), inB_str]
@[simp] theorem fNotIn_strt {zs : List Str} {i : Str} : fNotIn (.str i) (.tup (sL zs)) = some (.d (.bl (!decide (i ∈ zs)))) := by rw [fNotIn_tup (n := 0) (m := 0) rfl sL_nb (by omega), inB_str]
theorem range_eq {n : Int} (h : 0 ≤ n) : (rng 0 n.toNat).length = n.toNat := by simp [rng]
theorem log_sm {n : Int} (h0 : 0 ≤ n) (h : n < 10 ^ 18) : n.natAbs.log2 < 1920 := by have := log_l60 h0 h; omega
abbrev EF := Str → List (Str × D) → List Sl → Prop
theorem draw_ok {s : D} {m : Int} {E : EF} {Q : R → List Sl → Prop} (hs : DrSt s) (hm : m < 1073741824) (hQ : ∀ (n : Int) (s' : D), DrSt s' → 0 ≤ n → (n < m ∨ n = 0) → Q (.d (.int n)) [.ref s', .d (.int m)]) : wF (fn__law_draw [.ref s, .d (.int m)]) E Q := by
  obtain ⟨zs, p, c, k, f, rfl, h1, h2, h3, h4, h5⟩ := hs
  unfold fn__law_draw
  with_reducible refine wF_mk ?_
  unfold c__law_draw
  refine wS_sq fun P hP => ?_
  simp
  refine wIf_dec (fun hm2 => ?_) (fun hm2 => ?_)
  · exact hQ _ _ ⟨zs, p, c, k, f, rfl, h1, h2, h3, h4, h5⟩ (by omega) (.inr rfl)
  apply hP
  clear hP P
  refine wS_sq fun P hP => ?_
  have fin : ∀ (zs : List Int) (p c k f : Int) (w : Sl), 0 ≤ p → 0 ≤ c → 0 < k → k ≤ 60 → (f = 1 ∨ c < 10 ^ 18) → (isRef w = false) → P [.ref (.lst [.lst (iL zs), .int p, .int c, .int k, .int f]), .d (.int m), .no, w, .no] := by
    intro zs p c k f w h1 h2 h3 h4 h5 hw
    apply hP
    refine wS_sq fun P hP => ?_
    simp
    apply hP
    clear hP P
    refine wS_sq fun P hP => ?_
    simp
    refine wIf_dec (fun hf => ?_) (fun hf => ?_)
    · clear hP
      refine wS_sq fun P hP => ?_
      simp
      refine wC_in (by omega) ?_
      apply hP
      clear hP P
      refine wS_sq fun P hP => ?_
      simp
      refine wC_in ⟨by omega, by omega⟩ ?_
      apply hP
      clear hP P
      refine wS_sq fun P hP => ?_
      have q1 : 0 ≤ c.fdiv m := by rw [Int.fdiv_eq_ediv_of_nonneg _ (by omega)]; exact Int.ediv_nonneg h2 (by omega)
      have q2 : 0 ≤ c.fmod m := Int.fmod_nonneg_of_pos _ (by omega)
      have q3 : c.fmod m < m := Int.fmod_lt_of_pos _ (by omega)
      simp
      refine wIf_dec (fun hf2 => ?_) (fun hf2 => ?_)
      · apply hP
        simp
        exact hQ _ _ ⟨zs, p, _, 0, f, rfl, h1, q1, by omega, by omega, .inl hf⟩ q2 (.inl q3)
      · apply hP
        simp
        exact hQ _ _ ⟨zs, p, _, k - 1, f, rfl, h1, q1, by omega, by omega, .inl hf⟩ q2 (.inl q3)
    · have hc : c < 10 ^ 18 := by
        rcases h5 with h5 | h5
        · exact absurd h5 hf
        · exact h5
      have l1 := log_lt h2 hc
      have l2 : (k - 1).natAbs.log2 < 500000 := log_lt (by omega) (by omega)
      have l3 : Nat.log2 48271 < 20 := by decide
      have l4 : Nat.log2 69621 < 20 := by decide
      apply hP
      clear hP P
      refine wS_sq fun P hP => ?_
      simp
      refine wC_in ?_ (wC_in ?_ ?_)
      · unfold CMulW
        simp
        omega
      · unfold CMulW
        simp
        omega
      apply hP
      simp
      have q2 : ∀ x : Int, 0 ≤ x.fmod 2147483647 := fun x => Int.fmod_nonneg_of_pos _ (by omega)
      have q3 : ∀ x : Int, x.fmod 2147483647 < 2147483647 := fun x => Int.fmod_lt_of_pos _ (by omega)
      have l5 : Nat.log2 16807 < 20 := by decide
      have l6 : Nat.log2 10133 < 20 := by decide
      refine wC_in ?_ (wC_in ?_ (wC_in ?_ ?_))
      · have := log_lt (q2 (c * 48271 + (k - 1) * 69621 + 7919)) (by have := q3 (c * 48271 + (k - 1) * 69621 + 7919); omega)
        unfold CMulW
        simp
        omega
      · unfold CMulW
        simp
        omega
      · omega
      exact hQ _ _ ⟨zs, p, c, k - 1, f, rfl, h1, h2, by omega, by omega, h5⟩ (Int.fmod_nonneg_of_pos _ (by omega)) (.inl (Int.fmod_lt_of_pos _ (by omega)))
  simp
  refine wIf_dec (fun hk => ?_) (fun hk => ?_)
  · (with_reducible refine wS_sq ?_); intro P hP; simp
    refine wIf_dec (fun hp => ?_) (fun hp => ?_)
    · exact hQ _ _ ⟨zs, p, c, k, f, rfl, h1, h2, h3, h4, h5⟩ (by omega) (.inr rfl)
    apply hP; clear hP P
    have hp2 : p.toNat < zs.length := by omega
    have ha : atI (iL zs) p = some (.int zs[p.toNat]) := by
      rw [atI_pos h1, List.getElem?_map, List.getElem?_eq_getElem hp2]; rfl
    generalize zs[p.toNat] = z at ha
    (with_reducible refine wS_sq ?_); intro P hP
    simp [ha]
    apply hP; clear hP P
    refine wS_sq fun P_ hP => ?_
    have fin2 : ∀ z : Int, 0 ≤ z → P_ [.ref (.lst [.lst (iL zs), .int p, .int c, .int k, .int f]), .d (.int m), .no, .d (.int z), .no] := by
      intro z hz
      apply hP
      (with_reducible refine wS_sq ?_); intro P hP; simp
      apply hP; clear hP P
      (with_reducible refine wS_sq ?_); intro P hP; simp
      apply hP; clear hP P
      (with_reducible refine wS_sq ?_); intro P hP; simp
      apply hP; clear hP P
      (with_reducible refine wS_sq ?_); intro P hP; simp
      apply hP; clear hP P
      simp
      refine wC_in ?_ ?_
      · unfold CPow; omega
      refine wIf_dec (fun hz2 => ?_) (fun hz2 => ?_)
      · (with_reducible refine wS_sq ?_); intro P hP; simp
        apply hP; clear hP P
        simp
        exact fin _ _ _ _ _ _ (by omega) hz (by omega) (by omega) (.inl rfl) rfl
      · exact fin _ _ _ _ _ _ (by omega) hz (by omega) (by omega) (.inr (by omega)) rfl
    simp
    refine wIf_dec (fun hz => ?_) (fun hz => ?_)
    · exact fin2 _ (by omega)
    · exact fin2 _ (by omega)
  · exact fin zs p c k f .no h1 h2 (by omega) h4 h5 rfl

/-! ### words -/
abbrev cSigns : Str := "abcdefghijklmnopqrstuvwxyzABCDEFGHIJKLMNOPQRSTUVWXYZ0123456789_"
abbrev cWord : Str := "ABCDEFGHIJKLMNOPQRSTUVWXYZabcdefghijklmnopqrstuvwxyz0123456789_"
def okC (c : Nat) : Bool := cWord.cps.toList.contains c
theorem signs_ok : cSigns.cps.toList.all okC = true := by decide +kernel
theorem signs_len : cSigns.cps.toList.length = 63 := by decide +kernel
structure IsW (z : Str) : Prop where
  lo : 1 ≤ z.cps.toList.length
  hi : z.cps.toList.length ≤ 20
  ok : ∀ c ∈ z.cps.toList, okC c = true
abbrev oneC (c : Nat) : D := .str ⟨#[c]⟩
theorem strs_one : ∀ cs : List Nat, strsOf (cs.map oneC) = some (cs.map fun c => S [c])
  | [] => rfl
  | c :: cs => by
    show (strsOf (cs.map oneC)).map _ = _
    rw [strs_one cs]; rfl
theorem joinL_one : ∀ cs : List Nat, TL.joinL [] (cs.map fun c => [c]) = cs
  | [] => rfl
  | [c] => rfl
  | c :: d :: r => by
    show [c] ++ ([] ++ TL.joinL [] ((d :: r).map fun c => [c])) = _
    rw [joinL_one (d :: r)]; rfl
theorem join_ok {cs : List Nat} (h : cs.length ≤ 1000) : gJoin (.str "") (.lst (cs.map oneC)) = some (.d (.str (S cs))) := by
  unfold gJoin
  dsimp only
  rw [strs_one, Option.bind_some]
  have e : (cs.map fun c => S [c]) = (cs.map fun c => [c]).map S := by rw [List.map_map]; rfl
  have e0 : ("" : Str) = S [] := by decide +kernel
  have e1 : ∀ cs : List Nat, ((cs.map fun c => S [c]).map (·.length)).sum = cs.length := fun cs => by
    induction cs with
    | nil => rfl
    | cons c cs ih => simp only [List.map_cons, List.sum_cons, ih]; simp [Str.length]; omega
  rw [if_pos ?_, e, e0, join_S, joinL_one]
  rw [e1, e0]
  simp [Str.length]
  omega
theorem word_ok {s : D} {E : EF} {Q : R → List Sl → Prop} (hs : DrSt s) (hQ : ∀ (z : Str) (s' : D), DrSt s' → IsW z → Q (.d (.str z)) [.ref s']) : wF (fn__law_word [.ref s]) E Q := by
  unfold fn__law_word
  with_reducible refine wF_mk ?_
  unfold c__law_word
  (with_reducible refine wS_sq ?_); intro P hP; simp
  apply hP; clear hP P
  (with_reducible refine wS_sq ?_); intro P hP; simp
  refine draw_ok hs (by omega) fun n s h1 h2 h3 => ?_
  simp
  apply hP; clear hP P
  refine wS_sq fun P hP => ?_
  have fin : ∀ (n : Int) (s : D), DrSt s → 0 ≤ n → n < 20 → P [.ref s, .d (.str cSigns), .d (.int (1 + n)), .no] := by
    intro n s hs h1 h2
    apply hP
    simp
    refine wC_in (rg (by omega) (by omega)) ?_
    refine wO_ll (fun r acc e => ∃ (s : D) (cs : List Nat), DrSt s ∧ e = [.ref s, .d (.str cSigns), .d (.int (1 + n)), .no] ∧ acc = cs.map oneC ∧ cs.length + r.length = (1 + n).toNat ∧ ∀ c ∈ cs, okC c = true) ⟨s, [], hs, rfl, rfl, by simp [rng], by simp⟩ ?_ ?_
    · rintro J hJ x xs acc e ⟨s, cs, hs, rfl, rfl, hl, hc⟩
      simp
      refine draw_ok hs (by omega) fun m s h1 h2 h3 => ?_
      have hm : m < 63 := by omega
      have hm2 : m.toNat < cSigns.cps.toList.length := by rw [signs_len]; omega
      simp
      refine wC_in (by decide +kernel) ?_
      rw [atI_pos h2, List.getElem?_eq_getElem hm2]
      simp
      refine hJ _ _ _ ⟨s, cs ++ [cSigns.cps.toList[m.toNat]], h1, by simp, by simp, ?_, ?_⟩
      · simp at hl ⊢; omega
      · intro c hcm
        rcases List.mem_append.mp hcm with q | q
        · exact hc c q
        · rw [List.mem_singleton.mp q]
          exact List.all_eq_true.mp signs_ok _ (List.getElem_mem _)
    · rintro acc e ⟨s, cs, hs, rfl, rfl, hl, hc⟩
      simp at hl
      have hl2 : cs.length ≤ 20 := by omega
      simp [lim]
      refine wC_in (by omega) ?_
      rw [join_ok (by omega)]
      simp
      refine hQ _ _ hs ⟨?_, ?_, hc⟩
      · simp; omega
      · simp; omega
  simp
  refine draw_ok h1 (by omega) fun m s hs q1 q2 => ?_
  simp
  refine wIf_dec (fun h => ?_) (fun h => ?_)
  · refine draw_ok hs (by omega) fun m s hs q1 q2 => ?_
    simp
    exact fin m s hs q1 (by omega)
  · exact fin n s hs h2 (by omega)
end Lw

namespace Lw
open PySem PySem.Spec PyProof.Rows L2 Sim SX
theorem wNr_eq {s : Sl} {A : Prop} (h : isRef s = false) : wNr (some s) A = A := by cases s <;> first | rfl | cases h
def rs (o : Option Sl) (e : En) (v : Nat) : En := match o with
  | some s => e.set v s
  | none => e
@[simp] theorem rs_some {s : Sl} {e : En} {v : Nat} : rs (some s) e v = e.set v s := rfl
@[simp] theorem rest_s {a e : En} {v : Nat} {vs : List Nat} : restE a e (v :: vs) = rs a[v]? (restE a e vs) v := by
  show (match a[v]? with | some s => (restE a e vs).set v s | none => restE a e vs) = _
  cases a[v]? <;> rfl
/-! ### pool -/
def vr (back : Int) (plain : Str) (m : Nat) : Str := if back = 1 then cutS plain none (some 19) ++ S [m] else S [m] ++ cutS plain none (some 19)
theorem cps_app (a b : Str) : (a ++ b).cps.toList = a.cps.toList ++ b.cps.toList := by
  show (a.cps ++ b.cps).toList = _
  simp
theorem cut19 (z : Str) : (cutS z none (some 19)).cps.toList = z.cps.toList.take 19 := by
  have : cutS z none (some 19) = cutS z none (some ((19 : Nat) : Int)) := rfl
  rw [this]
  unfold cutS
  rw [HT.sIx_nat, HT.sIx_none]
  simp [Str.length]
theorem vr_cps (back : Int) (plain : Str) (m : Nat) : (vr back plain m).cps.toList = if back = 1 then plain.cps.toList.take 19 ++ [m] else m :: plain.cps.toList.take 19 := by
  unfold vr
  split
  · rw [cps_app, cut19]
  · rw [cps_app, cut19]; rfl
theorem vr_inj {back : Int} {plain : Str} {m n : Nat} (h : vr back plain m = vr back plain n) : m = n := by
  have e := congrArg (fun z : Str => z.cps.toList) h
  simp only [vr_cps] at e
  split at e
  · simpa using e
  · simpa using e
theorem vr_w {back : Int} {plain : Str} {m : Nat} (hp : IsW plain) (hm : okC m = true) : IsW (vr back plain m) := by
  refine ⟨?_, ?_, ?_⟩
  · rw [vr_cps]; split <;> simp
  · rw [vr_cps]; split <;> (simp; omega)
  · rw [vr_cps]
    intro c hc
    split at hc
    · rcases List.mem_append.mp hc with q | q
      · exact hp.ok c (List.mem_of_mem_take q)
      · rw [List.mem_singleton.mp q]; exact hm
    · rcases List.mem_cons.mp hc with q | q
      · rw [q]; exact hm
      · exact hp.ok c (List.mem_of_mem_take q)
abbrev cMarks : Str := "abcdefghijkl"
theorem marks_eq : cMarks.cps.toList = [97,98,99,100,101,102,103,104,105,106,107,108] := by decide +kernel
theorem marks_ok : ∀ m ∈ [97,98,99,100,101,102,103,104,105,106,107,108], okC m = true := by decide +kernel
theorem few {ws : List Str} {a b c : Str} (hl : ws.length ≤ 2) (ha : a ∈ ws) (hb : b ∈ ws) (hc : c ∈ ws) (h1 : a ≠ b) (h2 : a ≠ c) (h3 : b ≠ c) : False := by
  match ws, hl with
  | [], _ => cases ha
  | [x], _ =>
    rw [List.mem_singleton] at ha hb
    exact h1 (ha.trans hb.symm)
  | [x, y], _ =>
    simp only [List.mem_cons, List.not_mem_nil, or_false] at ha hb hc
    rcases ha with rfl | rfl <;> rcases hb with rfl | rfl <;> rcases hc with rfl | rfl <;> first | exact h1 rfl | exact h2 rfl | exact h3 rfl
theorem len_w {z : Str} (h : IsW z) : z.length ≤ 20 := by have := h.hi; simpa [Str.length] using this
theorem pool_ok {s : D} {c : Int} {E : EF} {Q : R → List Sl → Prop} (hs : DrSt s) (hc0 : 0 ≤ c) (hc : c ≤ 3) (hQ : ∀ (ws : List Str) (s' : D), DrSt s' → ws.Nodup → (∀ w ∈ ws, IsW w) → ws.length = c.toNat → Q (.new (.lst (sL ws))) [.ref s', .d (.int c)]) : wF (fn__law_pool [.ref s, .d (.int c)]) E Q := by
  unfold fn__law_pool
  with_reducible refine wF_mk ?_
  unfold c__law_pool
  (with_reducible refine wS_sq ?_); intro P hP; simp
  apply hP; clear hP P
  (with_reducible refine wS_sq ?_); intro P hP; simp
  refine wC_in (rg (by omega) (by omega)) ?_
  refine wS_fl (fun r e => ∃ (s : D) (ws : List Str) (w3 w4 w5 w6 w7 : Sl), DrSt s ∧ e = [.ref s, .d (.int c), .own (.lst (sL ws)), w3, w4, w5, w6, w7] ∧ ws.Nodup ∧ (∀ w ∈ ws, IsW w) ∧ ws.length + r.length = c.toNat ∧ isRef w3 = false ∧ isRef w4 = false ∧ isRef w5 = false ∧ isRef w6 = false ∧ isRef w7 = false) ⟨s, [], .no, .no, .no, .no, .no, hs, rfl, List.nodup_nil, by simp, by simp [rng], rfl, rfl, rfl, rfl, rfl⟩ ?_ ?_
  · rintro J hJ x xs e ⟨s, ws, w3, w4, w5, w6, w7, hs, rfl, hn, hw, hl, h3, h4, h5, h6, h7⟩
    simp [wNr_eq h3]
    (with_reducible refine wS_sq ?_); intro P hP; simp
    refine word_ok hs fun plain s hs hpl => ?_
    simp [wNr_eq h4]
    apply hP; clear hP P
    (with_reducible refine wS_sq ?_); intro P hP; simp
    refine draw_ok hs (by omega) fun back s hs hb1 hb2 => ?_
    simp [wNr_eq h5]
    apply hP; clear hP P
    (with_reducible refine wS_sq ?_); intro P hP; simp
    simp [wNr_eq h6]
    apply hP; clear hP P
    (with_reducible refine wS_sq ?_); intro P hP; simp
    refine wS_fl (fun r e => ∃ (word : Str) (w7 : Sl) (done : List Nat), e = [.ref s, .d (.int c), .own (.lst (sL ws)), .d x, .d (.str plain), .d (.int back), .d (.str word), w7] ∧ isRef w7 = false ∧ IsW word ∧ done.map oneC ++ r = cMarks.cps.toList.map oneC ∧ (word ∈ ws → ∀ m ∈ done, vr back plain m ∈ ws)) ⟨plain, w7, [], rfl, h7, hpl, rfl, by simp⟩ ?_ ?_
    · rintro J hJ y ys e ⟨word, w7, done, rfl, h7, hwd, hd, hv⟩
      have hy : ∃ m, y = oneC m ∧ m ∈ cMarks.cps.toList ∧ (done ++ [m]).map oneC ++ ys = cMarks.cps.toList.map oneC := by
        have : y ∈ cMarks.cps.toList.map oneC := by rw [← hd]; simp
        obtain ⟨m, hm, rfl⟩ := List.mem_map.mp this
        exact ⟨m, rfl, hm, by rw [← hd]; simp⟩
      obtain ⟨m, rfl, hm, hd2⟩ := hy
      have hmo : okC m = true := marks_ok m (by rw [← marks_eq]; exact hm)
      have hlp := len_w hpl
      have hlc : (cutS plain none (some 19)).length ≤ 20 := by
        have := congrArg List.length (cut19 plain)
        simp at this
        simp [Str.length]
        omega
      simp [wNr_eq h7]
      refine wIf_dec (fun hin => ?_) (fun hin => ?_)
      · have hvw := vr_w (back := back) hpl hmo
        (with_reducible refine wS_sq ?_); intro P hP; simp
        refine wC_in (by simp [lim]; omega) (wC_in (by simp [lim, Str.length] at hlc ⊢; omega) ?_)
        apply hP; clear hP P
        simp
        refine wIf_dec (fun hbk => ?_) (fun hbk => ?_)
        · refine wC_in (by simp [lim]; omega) (wC_in (by simp [lim, Str.length] at hlc ⊢; omega) ?_)
          refine hJ _ _ ⟨vr back plain m, _, done ++ [m], by rw [vr, if_pos hbk], rfl, hvw, hd2, fun hi q hq => ?_⟩
          rcases List.mem_append.mp hq with hq | hq
          · exact hv hin q hq
          · rw [List.mem_singleton.mp hq]; exact hi
        · refine hJ _ _ ⟨vr back plain m, _, done ++ [m], by rw [vr, if_neg hbk], rfl, hvw, hd2, fun hi q hq => ?_⟩
          rcases List.mem_append.mp hq with hq | hq
          · exact hv hin q hq
          · rw [List.mem_singleton.mp hq]; exact hi
      · exact hJ _ _ ⟨word, _, done ++ [m], rfl, rfl, hwd, hd2, fun hi => absurd hi hin⟩
    · rintro e ⟨word, w7, done, rfl, h7, hwd, hd, hv⟩
      apply hP; clear hP P
      simp
      simp at hl
      have hni : word ∉ ws := by
        intro hi
        have v := hv hi
        have hdn : ∀ m ∈ cMarks.cps.toList, m ∈ done := fun m hm => by
          have : oneC m ∈ done.map oneC := by
            rw [List.append_nil] at hd
            rw [hd]; exact List.mem_map.mpr ⟨m, hm, rfl⟩
          obtain ⟨m', h1, h2⟩ := List.mem_map.mp this
          have : m' = m := by simpa [oneC] using h2
          rwa [this] at h1
        rw [marks_eq] at hdn
        exact few (by omega) (v 97 (hdn 97 (by simp))) (v 98 (hdn 98 (by simp))) (v 99 (hdn 99 (by simp))) (fun z => absurd (vr_inj z) (by decide)) (fun z => absurd (vr_inj z) (by decide)) (fun z => absurd (vr_inj z) (by decide))
      refine wC_in (by simp [lim]; omega) ?_
      refine hJ _ _ ⟨s, ws ++ [word], .d x, .d (.str plain), .d (.int back), .d (.str word), w7, hs, by simp, ?_, ?_, by simp; omega, rfl, rfl, rfl, rfl, h7⟩
      · rw [List.nodup_append]
        exact ⟨hn, by simp, fun a ha b hb => by rw [List.mem_singleton.mp hb]; exact fun z => hni (z ▸ ha)⟩
      · intro w hw'
        rcases List.mem_append.mp hw' with q | q
        · exact hw w q
        · rw [List.mem_singleton.mp q]; exact hwd
  · rintro e ⟨s, ws, w3, w4, w5, w6, w7, hs, rfl, hn, hw, hl, h3, h4, h5, h6, h7⟩
    apply hP; clear hP P
    simp
    exact hQ _ _ hs hn hw (by simpa using hl)

/-! ### tables -/
abbrev tupD (p : Str × Int) : D := .tup [.str p.1, .int p.2]
abbrev tabD (ts : List (Str × Int)) : D := .lst (ts.map tupD)
structure TabOk (ts : List (Str × Int)) : Prop where
  nd : (ts.map (·.1)).Nodup
  wd : ∀ p ∈ ts, IsW p.1
  wi : ∀ p ∈ ts, 1 ≤ p.2 ∧ p.2 ≤ 4
  ne : 1 ≤ ts.length
  le : ts.length ≤ 3
theorem tables_ok {s : D} {a b : Int} {E : EF} {Q : R → List Sl → Prop} (hs : DrSt s) (ha1 : 1 ≤ a) (ha : a ≤ 3) (hb1 : 1 ≤ b) (hb : b ≤ 4) (hQ : ∀ (ts : List (Str × Int)) (s' : D), DrSt s' → TabOk ts → Q (.new (tabD ts)) [.ref s', .d (.int a), .d (.int b)]) : wF (fn__law_tables [.ref s, .d (.int a), .d (.int b)]) E Q := by
  unfold fn__law_tables
  with_reducible refine wF_mk ?_
  unfold c__law_tables
  (with_reducible refine wS_sq ?_); intro P hP; simp
  refine draw_ok hs (by omega) fun n s hs h1 h2 => ?_
  simp
  refine pool_ok hs (by omega) (by omega) fun ws s hs hn hw hl => ?_
  simp
  apply hP; clear hP P
  simp
  refine wO_ll (fun r acc e => ∃ (s : D) (done : List (Str × Int)) (rs : List Str), DrSt s ∧ e = [.ref s, .d (.int a), .d (.int b), .d (.lst (sL ws)), .no] ∧ acc = done.map tupD ∧ r = sL rs ∧ done.map (·.1) ++ rs = ws ∧ ∀ p ∈ done, 1 ≤ p.2 ∧ p.2 ≤ 4) ⟨s, [], ws, hs, rfl, rfl, rfl, rfl, by simp⟩ ?_ ?_
  · rintro J hJ x xs acc e ⟨s, done, rs, hs, rfl, rfl, hr, hd, hp⟩
    cases rs with
    | nil => cases hr
    | cons w rs =>
      obtain ⟨rfl, rfl⟩ := List.cons.inj hr
      simp
      refine draw_ok hs (by omega) fun n s hs h1 h2 => ?_
      simp
      refine wC_in (by simp [lim]) ?_
      refine hJ _ _ _ ⟨s, done ++ [(w, 1 + n)], rs, hs, rfl, by simp, rfl, by rw [← hd]; simp, fun p hpp => ?_⟩
      rcases List.mem_append.mp hpp with q | q
      · exact hp p q
      · rw [List.mem_singleton.mp q]; dsimp only; omega
  · rintro acc e ⟨s, done, rs, hs, rfl, rfl, hr, hd, hp⟩
    have hr0 : rs = [] := by
      cases rs with
      | nil => rfl
      | cons w rs => cases hr
    subst hr0
    rw [List.append_nil] at hd
    have hl2 : done.length = (1 + n).toNat := by rw [← hl, ← hd]; simp
    simp
    refine wC_in (by simp [lim]; omega) ?_
    refine hQ done s hs ⟨by rw [hd]; exact hn, fun p hpp => hw _ (by rw [← hd]; exact List.mem_map.mpr ⟨p, hpp, rfl⟩), hp, by omega, by omega⟩
def digs (n : Nat) : Bool := let z : Str := (toString (n : Int) : String); decide (z.cps.toList.length ≤ 3) && (decide (1 ≤ z.cps.toList.length) && z.cps.toList.all okC)
theorem digs_ok : ∀ n < 1000, digs n = true := by decide +kernel
theorem num_w {p : Nat} {n : Int} (hp : okC p = true) (h0 : 0 ≤ n) (h : n < 1000) : IsW (S [p] ++ ((toString n : String) : Str)) := by
  have q := digs_ok n.toNat (by omega)
  have e : ((n.toNat : Nat) : Int) = n := Int.toNat_of_nonneg h0
  unfold digs at q
  rw [e] at q
  simp only [Bool.and_eq_true, decide_eq_true_eq, List.all_eq_true] at q
  obtain ⟨q1, q2, q3⟩ := q
  refine ⟨?_, ?_, ?_⟩
  · rw [cps_app]; simp
  · rw [cps_app]; simp at q1 ⊢; omega
  · rw [cps_app]
    intro c hc
    rcases List.mem_append.mp hc with q | q
    · have : c = p := by simpa using q
      rw [this]; exact hp
    · exact q3 c q
theorem num_l {n : Int} (h0 : 0 ≤ n) (h : n < 1000) : ((toString n : String) : Str).length ≤ 3 := by
  have q := digs_ok n.toNat (by omega)
  have e : ((n.toNat : Nat) : Int) = n := Int.toNat_of_nonneg h0
  unfold digs at q
  rw [e] at q
  simp only [Bool.and_eq_true, decide_eq_true_eq] at q
  have := q.1
  simpa [Str.length] using this
theorem sM : ("M" : Str) = S [77] := by decide +kernel
theorem sAT : ("AT" : Str).cps.toList = [65, 84] := by decide +kernel
theorem two_ok {s : D} {E : EF} {Q : R → List Sl → Prop} (hs : DrSt s) (hQ : ∀ (ts : List (Str × Int)) (s' : D), DrSt s' → TabOk ts → Q (.new (tabD ts)) [.ref s']) : wF (fn__law_two_tables [.ref s]) E Q := by
  unfold fn__law_two_tables
  with_reducible refine wF_mk ?_
  unfold c__law_two_tables
  (with_reducible refine wS_sq ?_); intro P hP; simp
  refine draw_ok hs (by omega) fun n s hs h1 h2 => ?_
  have l1 := num_l h1 (by omega)
  simp
  refine wC_in (log_sm h1 (by omega)) ?_
  refine wC_in (by rw [sM]; simp [lim, Str.length] at l1 ⊢; omega) (wC_in (by simp [lim]) ?_)
  apply hP; clear hP P
  (with_reducible refine wS_sq ?_); intro P hP; simp
  refine draw_ok hs (by omega) fun b s hs g1 g2 => ?_
  simp
  refine wC_in (by decide +kernel) ?_
  have hat : ∃ p, atI ("AT" : Str).cps.toList b = some p ∧ okC p = true ∧ p ≠ 77 := by
    rw [sAT]
    have : b = 0 ∨ b = 1 := by omega
    rcases this with rfl | rfl
    · exact ⟨65, by simp, by decide +kernel, by decide⟩
    · exact ⟨84, by simp, by decide +kernel, by decide⟩
  obtain ⟨p, hp1, hp2, hp3⟩ := hat
  simp [hp1]
  refine draw_ok hs (by omega) fun n2 s hs f1 f2 => ?_
  have l2 := num_l f1 (by omega)
  simp
  refine wC_in (log_sm f1 (by omega)) ?_
  refine wC_in (by simp [lim, Str.length] at l2 ⊢; omega) ?_
  refine draw_ok hs (by omega) fun w s hs k1 k2 => ?_
  simp
  refine wC_in (by simp [lim]) ?_
  apply hP; clear hP P
  simp
  refine wC_in (by simp [lim]) ?_
  refine draw_ok hs (by omega) fun c s hs j1 j2 => ?_
  simp
  rw [cut_toI (by omega)]
  rw [sM]
  have hw1 : IsW (S [77] ++ ((toString n : String) : Str)) := num_w (by decide +kernel) h1 (by omega)
  have hw2 : IsW (S [p] ++ ((toString n2 : String) : Str)) := num_w hp2 f1 (by omega)
  have this : c = 0 ∨ c = 1 := by omega
  rcases this with rfl | rfl
  · exact hQ [(S [77] ++ ((toString n : String) : Str), 2)] s hs ⟨by simp, by simpa using hw1, by simp, by simp, by simp⟩
  · refine hQ [(S [77] ++ ((toString n : String) : Str), 2), (S [p] ++ ((toString n2 : String) : Str), 1 + w)] s hs ⟨?_, ?_, ?_, by simp, by simp⟩
    · have : S [77] ++ ((toString n : String) : Str) ≠ S [p] ++ ((toString n2 : String) : Str) := fun z => by
        have e := congrArg (fun z : Str => z.cps.toList) z
        simp only [cps_app] at e
        simp at e
        exact hp3 e.1.symm
      simpa using this
    · intro q hq
      simp only [List.mem_cons, List.not_mem_nil, or_false] at hq
      rcases hq with rfl | rfl
      · exact hw1
      · exact hw2
    · intro q hq
      simp only [List.mem_cons, List.not_mem_nil, or_false] at hq
      rcases hq with rfl | rfl
      · simp
      · dsimp only; omega
theorem world_ok {s : D} {E : EF} {Q : R → List Sl → Prop} (hs : DrSt s) (hQ : ∀ (ts : List (Str × Int)) (s' : D), DrSt s' → TabOk ts → Q (.new (tabD ts)) [.ref s']) : wF (fn__law_world [.ref s]) E Q := by
  unfold fn__law_world
  with_reducible refine wF_mk ?_
  unfold c__law_world
  (with_reducible refine wS_sq ?_); intro P hP; simp
  refine draw_ok hs (by omega) fun n s hs h1 h2 => ?_
  simp
  refine wIf_dec (fun h => ?_) (fun h => ?_)
  · refine tables_ok hs (by omega) (by omega) (by omega) (by omega) fun ts s hs ht => ?_
    simp
    exact hQ ts s hs ht
  · apply hP; clear hP P
    simp
    refine two_ok hs fun ts s hs ht => ?_
    simp
    exact hQ ts s hs ht
end Lw

namespace Lw
open PySem PySem.Spec PyProof.Rows L2 Sim SX
/-! ### rows -/
abbrev rowD (p : Str × List Int) : D := .tup (.str p.1 :: iL p.2)
structure RowOk (ts : List (Str × Int)) (n : Int) (p : Str × List Int) : Prop where
  tb : (p.1, (p.2.length : Int)) ∈ ts
  vs : ∀ z ∈ p.2, 0 ≤ z ∧ z < n
theorem row_ok {s : D} {ts : List (Str × Int)} {n : Int} {E : EF} {Q : R → List Sl → Prop} (hs : DrSt s) (ht : TabOk ts) (h1 : 1 ≤ n) (h2 : n ≤ 1000) (hQ : ∀ (p : Str × List Int) (s' : D), DrSt s' → RowOk ts n p → Q (.d (rowD p)) [.ref s', .d (tabD ts), .d (.int n)]) : wF (fn__law_row [.ref s, .d (tabD ts), .d (.int n)]) E Q := by
  unfold fn__law_row
  with_reducible refine wF_mk ?_
  unfold c__law_row
  have hle := ht.le
  have hne := ht.ne
  (with_reducible refine wS_sq ?_); intro P hP; simp
  refine draw_ok hs (by omega) fun k s hs k1 k2 => ?_
  have hk : k.toNat < ts.length := by omega
  simp
  rw [atI_pos k1, List.getElem?_map, List.getElem?_eq_getElem hk]
  have hmem := List.getElem_mem hk
  generalize ts[k.toNat] = t at hmem
  obtain ⟨w1, w2⟩ := ht.wi t hmem
  simp
  apply hP; clear hP P
  simp
  refine wC_in (by simp [lim]) (wC_in (rg (by omega) (by omega)) ?_)
  refine wO_ll (fun r acc e => ∃ (s : D) (zs : List Int), DrSt s ∧ e = [.ref s, .d (tabD ts), .d (.int n), .d (tupD t), .no] ∧ acc = iL zs ∧ zs.length + r.length = t.2.toNat ∧ ∀ z ∈ zs, 0 ≤ z ∧ z < n) ⟨s, [], hs, rfl, rfl, by simp [rng], by simp⟩ ?_ ?_
  · rintro J hJ x xs acc e ⟨s, zs, hs, rfl, rfl, hl, hz⟩
    simp
    refine draw_ok hs (by omega) fun k s hs k1 k2 => ?_
    simp
    refine hJ _ _ _ ⟨s, zs ++ [k], hs, by simp, by simp, by simp at hl ⊢; omega, fun z hq => ?_⟩
    rcases List.mem_append.mp hq with q | q
    · exact hz z q
    · rw [List.mem_singleton.mp q]; omega
  · rintro acc e ⟨s, zs, hs, rfl, rfl, hl, hz⟩
    simp at hl
    simp
    refine wC_in (by simp [lim]; omega) (wC_in (by simp [lim]; omega) ?_)
    have e : (zs.length : Int) = t.2 := by omega
    exact hQ (t.1, zs) s hs ⟨by dsimp only; rw [e]; exact hmem, hz⟩
/-! ### sorted -/
structure CmpOk (xs : List D) : Prop where
  nb : ∀ a ∈ xs, nb 5 a = true
  lt : ∀ a ∈ xs, ∀ b ∈ xs, fLt a b = some (.d (.bl (ltB a b)))
theorem CmpOk.sub {xs ys : List D} (h : CmpOk xs) (k : ∀ a ∈ ys, a ∈ xs) : CmpOk ys := ⟨fun a q => h.nb a (k a q), fun a q b r => h.lt a (k a q) b (k b r)⟩
theorem ints_alike : ∀ xs ys : List Int, PySem.W.alikeAll (pys (iL xs)) (pys (iL ys)) = true
  | [], ys => by simp [pys, PySem.W.alikeAll]
  | x :: xs, [] => by simp [pys, PySem.W.alikeAll]
  | x :: xs, y :: ys => by
    simp only [iL, List.map_cons, pys, py, PySem.W.alikeAll, PySem.W.alike, Bool.true_and]
    exact ints_alike xs ys
theorem row_nb (p : Str × List Int) : nb 5 (rowD p) = true := by
  show ((.str p.1 :: iL p.2) : List D).all (nb 4) = true
  simp [List.all_cons, ints_nb]
theorem rows_cmp (ps : List (Str × List Int)) : CmpOk (ps.map rowD) := by
  refine ⟨fun a h => ?_, fun a h b h' => ?_⟩
  · obtain ⟨p, _, rfl⟩ := List.mem_map.mp h
    exact row_nb p
  · obtain ⟨p, _, rfl⟩ := List.mem_map.mp h
    obtain ⟨q, _, rfl⟩ := List.mem_map.mp h'
    refine fLt_nb (row_nb p) (row_nb q) (by omega) ?_ (by simp)
    simp only [py, pys, PySem.W.alike, PySem.W.alikeAll, Bool.true_and]
    exact ints_alike _ _
theorem strs_cmp (ps : List Str) : CmpOk (sL ps) := by
  refine ⟨fun a h => ?_, fun a h b h' => ?_⟩
  · obtain ⟨p, _, rfl⟩ := List.mem_map.mp h
    simp
  · obtain ⟨p, _, rfl⟩ := List.mem_map.mp h
    obtain ⟨q, _, rfl⟩ := List.mem_map.mp h'
    exact fLt_nb (n := 0) (m := 0) rfl rfl (by omega) (by simp [py, PySem.W.alike]) (by simp)
theorem ints_cmp (ps : List Int) : CmpOk (iL ps) := by
  refine ⟨fun a h => ?_, fun a h b h' => ?_⟩
  · obtain ⟨p, _, rfl⟩ := List.mem_map.mp h
    simp
  · obtain ⟨p, _, rfl⟩ := List.mem_map.mp h
    obtain ⟨q, _, rfl⟩ := List.mem_map.mp h'
    exact fLt_nb (n := 0) (m := 0) rfl rfl (by omega) (by simp [py, PySem.W.alike]) (by simp)
theorem sorted_ok {xs : List D} {E : EF} {Q : R → List Sl → Prop} (hc : CmpOk xs) (hl : xs.length ≤ 100000) (hQ : ∀ ys : List D, (∀ x, x ∈ ys ↔ x ∈ xs) → ys.length ≤ xs.length → Q (.new (.lst ys)) [.d (.lst xs)]) : wF (fn__law_sorted [.d (.lst xs)]) E Q := by
  unfold fn__law_sorted
  with_reducible refine wF_mk ?_
  unfold c__law_sorted
  (with_reducible refine wS_sq ?_); intro P hP; simp
  apply hP; clear hP P
  (with_reducible refine wS_sq ?_); intro P hP; simp
  refine wS_fl (fun r e => ∃ (ys done : List D) (w2 w3 w4 : Sl), e = [.d (.lst xs), .own (.lst ys), w2, w3, w4] ∧ isRef w2 = false ∧ isRef w3 = false ∧ isRef w4 = false ∧ done ++ r = xs ∧ (∀ x, x ∈ ys ↔ x ∈ done) ∧ ys.length ≤ done.length) ⟨[], [], .no, .no, .no, rfl, rfl, rfl, rfl, rfl, by simp, by simp⟩ ?_ ?_
  · rintro J hJ x r e ⟨ys, done, w2, w3, w4, rfl, h2, h3, h4, hd, hm, hy⟩
    have hx : x ∈ xs := by rw [← hd]; simp
    have hdl : done.length ≤ xs.length := by rw [← hd]; simp
    have hys : ∀ y ∈ ys, y ∈ xs := fun y q => by rw [← hd]; exact List.mem_append_left _ ((hm y).mp q)
    simp [wNr_eq h2]
    (with_reducible refine wS_sq ?_); intro P hP; simp
    simp [wNr_eq h3]
    apply hP; clear hP P
    (with_reducible refine wS_sq ?_); intro P hP; simp
    refine wC_in (rg (by omega) (by omega)) ?_
    refine wS_fl (fun r e => ∃ (k : Nat) (w4 : Sl), e = [.d (.lst xs), .own (.lst ys), .d x, .d (.int k), w4] ∧ isRef w4 = false ∧ k ≤ ys.length ∧ ∃ j, r = (rng 0 ys.length).drop j) ⟨0, w4, rfl, h4, by omega, 0, by simp⟩ ?_ ?_
    · rintro J hJ y r e ⟨k, w4, rfl, h4, hk, j, hr⟩
      have hj : j < ys.length := by
        apply Classical.byContradiction
        intro hn
        rw [List.drop_eq_nil_of_le (by simp [rng]; omega)] at hr
        cases hr
      have hr2 : (rng 0 ys.length).drop j = .int j :: (rng 0 ys.length).drop (j + 1) := by
        rw [List.drop_eq_getElem_cons (by simp [rng]; omega)]
        simp [rng]
      rw [hr2] at hr
      obtain ⟨rfl, rfl⟩ := List.cons.inj hr
      have hmem : ys[j] ∈ xs := hys _ (List.getElem_mem hj)
      simp [wNr_eq h4]
      rw [Sim.atI_nat, List.getElem?_eq_getElem hj]
      simp [hc.lt _ hmem _ hx]
      refine wIf_in (fun h => ?_) fun h => ?_
      · refine hJ _ _ ⟨j + 1, .d (.int j), by simp, rfl, by omega, j + 1, rfl⟩
      · exact hJ _ _ ⟨k, _, rfl, rfl, hk, j + 1, rfl⟩
    · rintro e ⟨k, w4, rfl, h4, hk, j, hr⟩
      apply hP; clear hP P
      have ins : J r [.d (.lst xs), .own (.lst (ys.take k ++ [x] ++ ys.drop k)), .d x, .d (.int k), w4] := by
        refine hJ _ _ ⟨_, done ++ [x], _, _, _, rfl, rfl, rfl, h4, by rw [← hd]; simp, fun z => ?_, ?_⟩
        · have : ∀ z, z ∈ ys ↔ z ∈ ys.take k ∨ z ∈ ys.drop k := fun z => by
            rw [← List.mem_append, List.take_append_drop]
          simp only [List.mem_append, List.mem_singleton]
          rw [← hm z, this z]
          constructor
          · rintro ((h | h) | h)
            · exact .inl (.inl h)
            · exact .inr h
            · exact .inl (.inr h)
          · rintro ((h | h) | h)
            · exact .inl (.inl h)
            · exact .inr h
            · exact .inl (.inr h)
        · simp; omega
      have lk : k ≤ 100000 := by omega
      have ly : ys.length ≤ 100000 := by omega
      have cc : ∀ A : Prop, A → wC ((List.take k ys).length + [x].length ≤ lim) (wC ((List.take k ys ++ [x]).length + (List.drop k ys).length ≤ lim) A) := fun A a => wC_in (by simp [lim]; omega) (wC_in (by simp [lim]; omega) a)
      have c1 : ∀ A : Prop, A → wC (1 ≤ lim) (wC (min k ys.length + 1 ≤ lim) (wC (min k ys.length + (1 + (ys.length - k)) ≤ lim) A)) := fun A a => wC_in (by simp [lim]) (wC_in (by simp [lim]; omega) (wC_in (by simp [lim]; omega) a))
      simp [cut_to, cut_from]
      refine wIf_in (fun h => ?_) fun h => ?_
      · refine wC_in (by simp [lim]) (wC_in (by simp [lim]; omega) (wC_in (by simp [lim]; omega) ?_))
        simpa using ins
      · have hk2 : k < ys.length := by have := of_decide_eq_false h; omega
        have hmem : ys[k] ∈ xs := hys _ (List.getElem_mem hk2)
        rw [Sim.atI_nat, List.getElem?_eq_getElem hk2]
        simp [fNe_nb (hc.nb _ hmem) (hc.nb _ hx) (by omega)]
        refine wIf_in (fun h => ?_) fun h => ?_
        · refine wC_in (by simp [lim]) (wC_in (by simp [lim]; omega) (wC_in (by simp [lim]; omega) ?_))
          simpa using ins
        · have he : ys[k] = x := (eqB_iff (hc.nb _ hmem) (hc.nb _ hx)).mp (by simpa using h)
          refine hJ _ _ ⟨ys, done ++ [x], _, _, _, rfl, rfl, rfl, h4, by rw [← hd]; simp, fun z => ?_, by simp; omega⟩
          rw [hm z]
          simp only [List.mem_append, List.mem_singleton]
          constructor
          · exact .inl
          · rintro (h | h)
            · exact h
            · rw [h, ← he]; exact (hm _).mp (List.getElem_mem hk2)
  · rintro e ⟨ys, done, w2, w3, w4, rfl, h2, h3, h4, hd, hm, hy⟩
    apply hP; clear hP P
    simp
    rw [List.append_nil] at hd
    subst hd
    exact hQ ys hm hy
end Lw

namespace Lw
open PySem PySem.Spec PyProof.Rows L2 Sim SX
/-! ### close -/
def rI (n : Nat) : List Int := (List.range n).map fun (k : Nat) => (k : Int)
theorem rI_mem {n : Nat} {z : Int} : z ∈ rI n ↔ 0 ≤ z ∧ z < n := by
  simp only [rI, List.mem_map, List.mem_range]
  constructor
  · rintro ⟨k, h, rfl⟩; omega
  · rintro ⟨h1, h2⟩; exact ⟨z.toNat, by omega, by omega⟩
theorem rI_nd {n : Nat} : (rI n).Nodup := by
  exact List.Pairwise.map _ (fun a b h e => h (Int.ofNat.inj e)) List.nodup_range
theorem rI_len {n : Nat} : (rI n).length = n := by simp [rI]
theorem idx_get {zs : List Int} {z : Int} (h : z ∈ zs) : zs[zs.idxOf z]? = some z := by
  have := List.idxOf_lt_length_of_mem h
  rw [List.getElem?_eq_getElem this, List.getElem_idxOf]
theorem nd_idx {zs : List Int} {z : Int} {j : Nat} (hn : zs.Nodup) (h : zs[j]? = some z) : j = zs.idxOf z := by
  obtain ⟨h1, h2⟩ := List.getElem?_eq_some_iff.mp h
  have hm : z ∈ zs := by rw [← h2]; exact List.getElem_mem h1
  have h3 := List.idxOf_lt_length_of_mem hm
  have h4 : zs[zs.idxOf z] = z := List.getElem_idxOf h3
  exact (List.getElem_inj hn).mp (h2.trans h4.symm)
theorem gIndex_nd {zs : List Int} {i : Int} (hn : zs.Nodup) (h : i ∈ zs) : gIndex (.lst (iL zs)) (.int i) = some (.d (.int (zs.idxOf i : Nat))) := by
  obtain ⟨j, e, g⟩ := gIndex_ints h
  rw [e, nd_idx hn g]
def ren (kept : List Int) (p : Str × List Int) : Str × List Int := (p.1, p.2.map fun z => ((kept.idxOf z : Nat) : Int))
def renD (kept : List Int) (d : D) : Option D := match d with
  | .int z => some (.int (kept.idxOf z : Nat))
  | _ => none
theorem renD_map (kept : List Int) : ∀ zs : List Int, (iL zs).filterMap (renD kept) = iL (zs.map fun z => ((kept.idxOf z : Nat) : Int))
  | [] => rfl
  | z :: zs => by
    simp only [iL, List.map_cons]
    rw [List.filterMap_cons]
    simp only [renD]
    exact congrArg _ (renD_map kept zs)
def plainD (ps : List (Str × List Int)) (hd : List Int) (n : Nat) : D := .tup [.lst (ps.map rowD), .tup (iL hd), .int n]
section
variable {ps : List (Str × List Int)} {hd : List Int} {n : Nat} {Q : R → Prop}
@[simp ↓] theorem pl_0 : wSm (fIx (plainD ps hd n) (.int 0)) Q = Q (.d (.lst (ps.map rowD))) := by unfold plainD; simp
@[simp ↓] theorem pl_1 : wSm (fIx (plainD ps hd n) (.int 1)) Q = Q (.d (.tup (iL hd))) := by unfold plainD; simp
@[simp ↓] theorem pl_2 : wSm (fIx (plainD ps hd n) (.int 2)) Q = Q (.d (.int n)) := by unfold plainD; simp
end
structure PlainOk (ts : List (Str × Int)) (cols : Nat) (ps : List (Str × List Int)) (hs : List Int) (n : Nat) : Prop where
  rows : ∀ p ∈ ps, RowOk ts n p
  hv : ∀ z ∈ hs, 0 ≤ z ∧ z < (n : Int)
  all : ∀ v : Int, 0 ≤ v → v < n → v ∈ hs ∨ ∃ p ∈ ps, v ∈ p.2
  le : ps.length ≤ 8
  cl : hs.length = cols
  six : n ≤ 6
theorem rowD_inj {p q : Str × List Int} (h : rowD p = rowD q) : p = q := by
  have h1 : D.str p.1 :: iL p.2 = D.str q.1 :: iL q.2 := D.tup.inj h
  obtain ⟨h2, h3⟩ := List.cons.inj h1
  have e1 : p.1 = q.1 := D.str.inj h2
  have e2 : p.2 = q.2 := by
    have := congrArg (List.filterMap fun d => match d with | D.int z => some z | _ => none) h3
    simpa [iL, List.filterMap_map, Function.comp_def] using this
  exact Prod.ext e1 e2
theorem of_rows : ∀ {ys : List D}, (∀ y ∈ ys, ∃ p : Str × List Int, y = rowD p) → ∃ ps : List (Str × List Int), ys = ps.map rowD
  | [], _ => ⟨[], rfl⟩
  | y :: ys, h => by
    obtain ⟨p, e⟩ := h y (List.mem_cons_self ..)
    obtain ⟨ps, e2⟩ := of_rows fun y hy => h y (List.mem_cons_of_mem _ hy)
    exact ⟨p :: ps, by rw [e, e2]; rfl⟩
theorem map_cons {α β : Type} {f : α → β} {x : β} {xs : List β} {l : List α} (h : x :: xs = l.map f) : ∃ a l', l = a :: l' ∧ x = f a ∧ xs = l'.map f := by
  cases l with
  | nil => cases h
  | cons a l =>
    obtain ⟨h1, h2⟩ := List.cons.inj h
    exact ⟨a, l, rfl, h1, h2⟩
theorem map_nil' {α β : Type} {f : α → β} {l : List α} (h : [] = l.map f) : l = [] := by
  cases l with
  | nil => rfl
  | cons a l => cases h
def vals (rows : List (Str × List Int)) : List Int := (rows.map (·.2)).flatten
theorem vals_app (a b : List (Str × List Int)) : vals (a ++ b) = vals a ++ vals b := by simp [vals]
theorem vals_one (p : Str × List Int) : vals [p] = p.2 := by simp [vals]
theorem vals_mem {rows : List (Str × List Int)} {z : Int} : z ∈ vals rows ↔ ∃ p ∈ rows, z ∈ p.2 := by
  simp only [vals, List.mem_flatten, List.mem_map]
  constructor
  · rintro ⟨l, ⟨p, hp, rfl⟩, hz⟩; exact ⟨p, hp, hz⟩
  · rintro ⟨p, hp, hz⟩; exact ⟨_, ⟨p, hp, rfl⟩, hz⟩
theorem vals_len {ts : List (Str × Int)} (ht : TabOk ts) {n : Int} : ∀ {rows : List (Str × List Int)}, (∀ p ∈ rows, RowOk ts n p) → (vals rows).length ≤ 4 * rows.length
  | [], _ => by simp [vals]
  | p :: rows, h => by
    have h1 := vals_len ht (rows := rows) fun q hq => h q (List.mem_cons_of_mem _ hq)
    have h2 := (ht.wi _ (h p (List.mem_cons_self ..)).tb).2
    have e : vals (p :: rows) = p.2 ++ vals rows := by simp [vals]
    rw [e, List.length_append, List.length_cons]
    dsimp only at h2
    omega
theorem close_ok {ts : List (Str × Int)} {rows : List (Str × List Int)} {head : List Int} {m cols : Nat} {E : EF} {Q : R → List Sl → Prop} (ht : TabOk ts) (hr : ∀ p ∈ rows, RowOk ts m p) (hh : ∀ z ∈ head, 0 ≤ z ∧ z < (m : Int)) (h8 : rows.length ≤ 8) (hc : head.length = cols) (hc2 : cols ≤ 100) (hm : m ≤ 6)
    (hQ : ∀ (ps : List (Str × List Int)) (hd : List Int) (n : Nat), PlainOk ts cols ps hd n → Q (.d (plainD ps hd n)) [.d (.lst (rows.map rowD)), .d (.lst (iL head)), .d (.lst (iL (rI m)))]) : wF (fn__law_close [.d (.lst (rows.map rowD)), .d (.lst (iL head)), .d (.lst (iL (rI m)))]) E Q := by
  unfold fn__law_close
  with_reducible refine wF_mk ?_
  unfold c__law_close
  (with_reducible refine wS_sq ?_); intro P hP; simp
  apply hP; clear hP P
  (with_reducible refine wS_sq ?_); intro P hP; simp
  refine wS_fl (fun r e => ∃ (done rest : List (Str × List Int)) (w4 : Sl), r = rest.map rowD ∧ e = [.d (.lst (rows.map rowD)), .d (.lst (iL head)), .d (.lst (iL (rI m))), .own (.lst (iL (head ++ vals done))), w4, .no, .no, .no] ∧ isRef w4 = false ∧ done ++ rest = rows) ⟨[], rows, .no, rfl, by simp [vals], rfl, rfl⟩ ?_ ?_
  · rintro J hJ x r e ⟨done, rest, w4, hx, rfl, h4, hd⟩
    obtain ⟨p, rest, rfl, rfl, rfl⟩ := map_cons hx
    have hl1 := vals_len ht (rows := done) (n := m) fun q hq => hr q (by rw [← hd]; exact List.mem_append_left _ hq)
    have hl2 := (ht.wi _ (hr p (by rw [← hd]; simp)).tb).2
    have hl3 : done.length ≤ 8 := by rw [← hd] at h8; simp at h8; omega
    dsimp only at hl2
    simp [wNr_eq h4]
    have hj : J (rest.map rowD) [.d (.lst (rows.map rowD)), .d (.lst (iL head)), .d (.lst (iL (rI m))), .own (.lst (iL (head ++ vals (done ++ [p])))), .d (rowD p), .no, .no, .no] := hJ _ _ ⟨done ++ [p], rest, _, rfl, rfl, rfl, by rw [← hd]; simp⟩
    rw [vals_app, vals_one] at hj
    refine wC_in (by simp [lim]; omega) ?_
    simpa using hj
  · rintro e ⟨done, rest, w4, hx, rfl, h4, hd⟩
    obtain rfl := map_nil' hx
    rw [List.append_nil] at hd
    have hd := hd.symm
    subst hd
    have hvl := vals_len ht hr
    apply hP; clear hP P
    generalize hus : head ++ vals rows = us
    (with_reducible refine wS_sq ?_); intro P hP; simp
    apply hP; clear hP P
    (with_reducible refine wS_sq ?_); intro P hP; simp
    refine wS_fl (fun r e => ∃ (dn rest : List Int) (w6 : Sl), r = iL rest ∧ e = [.d (.lst (rows.map rowD)), .d (.lst (iL head)), .d (.lst (iL (rI m))), .own (.lst (iL us)), w4, .own (.lst (iL (dn.filter (· ∈ us)))), w6, .no] ∧ isRef w6 = false ∧ dn ++ rest = rI m) ⟨[], rI m, .no, rfl, by simp, rfl, rfl⟩ ?_ ?_
    · rintro J hJ x r e ⟨dn, rest, w6, hx, rfl, h6, hd⟩
      obtain ⟨z, rest, rfl, rfl, rfl⟩ := map_cons hx
      have hzn : z ∉ dn := by
        have := rI_nd (n := m)
        rw [← hd] at this
        intro hz
        exact (List.nodup_append.mp this).2.2 z hz z (by simp) rfl
      have hdl : dn.length ≤ 6 := by
        have := congrArg List.length hd
        rw [rI_len] at this
        simp at this
        omega
      have hfl : (dn.filter (· ∈ us)).length ≤ dn.length := List.length_filter_le _ _
      simp [wNr_eq h6]
      refine wIf_dec (fun hin => ?_) (fun hin => ?_)
      · have hk : decide (z ∈ dn.filter (· ∈ us)) = false := by simp [hzn]
        have hk2 : ¬ (z ∈ dn ∧ z ∈ us) := fun q => hzn q.1
        refine wIf_in (fun _ => ?_) (fun h => absurd h (by simp [hzn]))
        refine wC_in (by simp [lim]; omega) ?_
        refine hJ _ _ ⟨dn ++ [z], rest, .d (.int z), rfl, ?_, rfl, by rw [← hd]; simp⟩
        simp [List.filter_append, hin]
      · refine hJ _ _ ⟨dn ++ [z], rest, .d (.int z), rfl, ?_, rfl, by rw [← hd]; simp⟩
        simp [List.filter_append, hin]
    · rintro e ⟨dn, rest, w6, hx, rfl, h6, hd⟩
      obtain rfl := map_nil' hx
      rw [List.append_nil] at hd
      subst hd
      apply hP; clear hP P
      have kmem : ∀ z, z ∈ (rI m).filter (· ∈ us) ↔ z ∈ rI m ∧ z ∈ us := fun z => by simp [List.mem_filter]
      have knd : ((rI m).filter (· ∈ us)).Nodup := List.Pairwise.filter _ rI_nd
      have kle : ((rI m).filter (· ∈ us)).length ≤ 6 := by
        have := List.length_filter_le (fun x => decide (x ∈ us)) (rI m)
        rw [rI_len] at this
        omega
      generalize (rI m).filter (· ∈ us) = kept at kmem knd kle
      have kr : ∀ p ∈ rows, ∀ z ∈ p.2, z ∈ kept := fun p hp z hz => (kmem z).mpr ⟨rI_mem.mpr ((hr p hp).vs z hz), by rw [← hus]; exact List.mem_append_right _ (vals_mem.mpr ⟨p, hp, hz⟩)⟩
      have kh : ∀ z ∈ head, z ∈ kept := fun z hz => (kmem z).mpr ⟨rI_mem.mpr (hh z hz), by rw [← hus]; exact List.mem_append_left _ hz⟩
      have ku : ∀ z ∈ kept, z ∈ head ∨ ∃ p ∈ rows, z ∈ p.2 := fun z hz => by
        have := ((kmem z).mp hz).2
        rw [← hus] at this
        exact (List.mem_append.mp this).imp id vals_mem.mp
      (with_reducible refine wS_sq ?_); intro P hP; simp
      apply hP; clear hP P
      (with_reducible refine wS_sq ?_); intro P hP; simp
      refine wS_fl (fun r e => ∃ (dn rest : List (Str × List Int)) (w4 : Sl), r = rest.map rowD ∧ e = [.d (.lst (rows.map rowD)), .d (.lst (iL head)), .d (.lst (iL (rI m))), .own (.lst (iL us)), w4, .own (.lst (iL kept)), w6, .own (.lst (dn.map fun p => rowD (ren kept p)))] ∧ isRef w4 = false ∧ dn ++ rest = rows) ⟨[], rows, w4, rfl, by simp, h4, rfl⟩ ?_ ?_
      · rintro J hJ x r e ⟨dn, rest, w4, hx, rfl, h4, hd⟩
        obtain ⟨p, rest, rfl, rfl, rfl⟩ := map_cons hx
        have hp : p ∈ rows := by rw [← hd]; simp
        have hl2 := (ht.wi _ (hr p hp).tb).2
        dsimp only at hl2
        have hdl : dn.length ≤ 8 := by rw [← hd] at h8; simp at h8; omega
        simp [wNr_eq h4]
        refine wC_in (by simp [lim]) ?_
        refine wO_lcP (renD kept) ?_ ?_
        · intro x hx
          obtain ⟨z, hz, rfl⟩ := List.mem_map.mp hx
          simp
          rw [gIndex_nd knd (kr p hp z hz)]
          simp [renD]
        · rw [renD_map]
          simp
          refine wC_in (by simp [lim]; omega) (wC_in (by simp [lim]; omega) (wC_in (by simp [lim]; omega) ?_))
          refine hJ _ _ ⟨dn ++ [p], rest, .d (rowD p), rfl, ?_, rfl, by rw [← hd]; simp⟩
          simp [ren]
      · rintro e ⟨dn, rest, w4, hx, rfl, h4, hd⟩
        obtain rfl := map_nil' hx
        rw [List.append_nil] at hd
        have hd := hd.symm
        subst hd
        apply hP; clear hP P
        simp
        refine sorted_ok ?_ ?_ fun ys hm hl => ?_
        · have := rows_cmp (rows.map (ren kept))
          rw [List.map_map] at this
          exact this
        · simp; omega
        simp
        refine wO_lcP (renD kept) ?_ ?_
        · intro x hx
          obtain ⟨z, hz, rfl⟩ := List.mem_map.mp hx
          simp
          rw [gIndex_nd knd (kh z hz)]
          simp [renD]
        rw [renD_map]
        simp
        refine wC_in (by simp [lim]; omega) (wC_in (by simp [lim]) ?_)
        obtain ⟨ps, rfl⟩ := of_rows (ys := ys) fun y hy => by
          obtain ⟨p, _, e⟩ := List.mem_map.mp ((hm y).mp hy)
          exact ⟨_, e.symm⟩
        have hmem : ∀ q, q ∈ ps ↔ ∃ p ∈ rows, q = ren kept p := fun q => by
          have := hm (rowD q)
          constructor
          · intro hq
            obtain ⟨p, hp, e⟩ := List.mem_map.mp (this.mp (List.mem_map.mpr ⟨q, hq, rfl⟩))
            exact ⟨p, hp, (rowD_inj e).symm⟩
          · rintro ⟨p, hp, rfl⟩
            obtain ⟨q, hq, e⟩ := List.mem_map.mp (this.mpr (List.mem_map.mpr ⟨p, hp, rfl⟩))
            rw [← rowD_inj e]; exact hq
        have hix : ∀ z ∈ kept, 0 ≤ ((kept.idxOf z : Nat) : Int) ∧ ((kept.idxOf z : Nat) : Int) < kept.length := fun z hz => by
          have := List.idxOf_lt_length_of_mem hz
          omega
        have := hQ ps (head.map fun z => ((kept.idxOf z : Nat) : Int)) kept.length ⟨fun q hq => ?_, fun z hz => ?_, fun v h0 h1 => ?_, by simp at hl; omega, by simp [hc], by omega⟩
        · simpa [plainD] using this
        · obtain ⟨p, hp, rfl⟩ := (hmem q).mp hq
          refine ⟨?_, fun z hz => ?_⟩
          · have := (hr p hp).tb
            simpa [ren] using this
          · obtain ⟨y, hy, rfl⟩ := List.mem_map.mp hz
            exact hix y (kr p hp y hy)
        · obtain ⟨y, hy, rfl⟩ := List.mem_map.mp hz
          exact hix y (kh y hy)
        · have hv : v.toNat < kept.length := by omega
          have hg : kept[v.toNat]? = some kept[v.toNat] := List.getElem?_eq_getElem hv
          have hi := nd_idx knd hg
          have hvv : v = ((kept.idxOf kept[v.toNat] : Nat) : Int) := by omega
          rcases ku _ (List.getElem_mem hv) with h | ⟨p, hp, h⟩
          · left
            exact List.mem_map.mpr ⟨_, h, hvv.symm⟩
          · right
            exact ⟨ren kept p, (hmem _).mpr ⟨p, hp, rfl⟩, List.mem_map.mpr ⟨_, h, hvv.symm⟩⟩
theorem random_ok {s : D} {ts : List (Str × Int)} {c n k : Int} {E : EF} {Q : R → List Sl → Prop} (hs : DrSt s) (ht : TabOk ts) (hc0 : 0 ≤ c) (hc : c ≤ 100) (hn1 : 1 ≤ n) (hn : n ≤ 6) (hk0 : 1 ≤ k) (hk : k ≤ 8)
    (hQ : ∀ (ps : List (Str × List Int)) (hd : List Int) (m : Nat) (s' : D), DrSt s' → PlainOk ts c.toNat ps hd m → Q (.d (plainD ps hd m)) [.ref s', .d (tabD ts), .d (.int c), .d (.int n), .d (.int k)]) : wF (fn__law_random [.ref s, .d (tabD ts), .d (.int c), .d (.int n), .d (.int k)]) E Q := by
  unfold fn__law_random
  with_reducible refine wF_mk ?_
  unfold c__law_random
  (with_reducible refine wS_sq ?_); intro P hP; simp
  refine wC_in (rg (by omega) (by omega)) ?_
  refine wO_ll (fun r acc e => ∃ (s : D) (zs : List Int), DrSt s ∧ e = [.ref s, .d (tabD ts), .d (.int c), .d (.int n), .d (.int k), .no, .no, .no, .no, .no] ∧ acc = iL zs ∧ zs.length + r.length = c.toNat ∧ ∀ z ∈ zs, 0 ≤ z ∧ z < n) ⟨s, [], hs, rfl, rfl, by simp [rng], by simp⟩ ?_ ?_
  · rintro J hJ x xs acc e ⟨s, zs, hs, rfl, rfl, hl, hz⟩
    simp
    refine draw_ok hs (by omega) fun k s hs k1 k2 => ?_
    simp
    refine hJ _ _ _ ⟨s, zs ++ [k], hs, by simp, by simp, by simp at hl ⊢; omega, fun z hq => ?_⟩
    rcases List.mem_append.mp hq with q | q
    · exact hz z q
    · rw [List.mem_singleton.mp q]; omega
  rintro acc e ⟨s, hd, hs, rfl, rfl, hl, hh⟩
  simp at hl
  simp
  refine wC_in (by simp [lim]; omega) ?_
  apply hP; clear hP P
  (with_reducible refine wS_sq ?_); intro P hP; simp
  refine wC_in (rg (by omega) (by omega)) ?_
  refine wO_ll (fun r acc e => ∃ (s : D) (ps : List (Str × List Int)), DrSt s ∧ e = [.ref s, .d (tabD ts), .d (.int c), .d (.int n), .d (.int k), .own (.lst (iL hd)), .no, .no, .no, .no] ∧ acc = ps.map rowD ∧ ps.length + r.length = k.toNat ∧ ∀ p ∈ ps, RowOk ts n p) ⟨s, [], hs, rfl, rfl, by simp [rng], by simp⟩ ?_ ?_
  · rintro J hJ x xs acc e ⟨s, zs, hs, rfl, rfl, hl, hz⟩
    simp
    refine row_ok hs ht hn1 (by omega) fun p s hs hp => ?_
    simp
    refine hJ _ _ _ ⟨s, zs ++ [p], hs, by simp, by simp, by simp at hl ⊢; omega, fun z hq => ?_⟩
    rcases List.mem_append.mp hq with q | q
    · exact hz z q
    · rw [List.mem_singleton.mp q]; exact hp
  rintro acc e ⟨s, ps, hs, rfl, rfl, hl2, hp⟩
  simp at hl2
  simp
  refine wC_in (by simp [lim]; omega) ?_
  apply hP; clear hP P
  simp
  refine wC_in (rg (by omega) (by omega)) ?_
  refine wO_lcP some ?_ ?_
  · intro x hx
    simp
  have hr : (rng 0 n.toNat).filterMap some = iL (rI n.toNat) := by rw [List.filterMap_some, rng_ints]; rfl
  have hnn : ((n.toNat : Nat) : Int) = n := Int.toNat_of_nonneg (by omega)
  have hll : (iL (rI n.toNat)).length = n.toNat := by rw [List.length_map, rI_len]
  rw [hr, hll]
  refine wC_in (by simp [lim]; omega) ?_
  simp
  refine close_ok ht (m := n.toNat) (cols := c.toNat) (by rw [hnn]; exact hp) (by rw [hnn]; exact hh) (by omega) (by omega) (by omega) (by omega) fun ps hd m hpl => ?_
  simp
  exact hQ ps hd m s hs hpl
theorem some_ok {s : D} {ts : List (Str × Int)} {c : Int} {E : EF} {Q : R → List Sl → Prop} (hs : DrSt s) (ht : TabOk ts) (hc0 : 0 ≤ c) (hc : c ≤ 100)
    (hQ : ∀ (ps : List (Str × List Int)) (hd : List Int) (m : Nat) (s' : D), DrSt s' → PlainOk ts c.toNat ps hd m → Q (.d (plainD ps hd m)) [.ref s', .d (tabD ts), .d (.int c), .d (.int 6), .d (.int 8)]) : wF (fn__law_some [.ref s, .d (tabD ts), .d (.int c), .d (.int 6), .d (.int 8)]) E Q := by
  unfold fn__law_some
  with_reducible refine wF_mk ?_
  unfold c__law_some
  simp
  refine draw_ok hs (by omega) fun n s hs k1 k2 => ?_
  simp
  refine draw_ok hs (by omega) fun k s hs l1 l2 => ?_
  simp
  refine random_ok hs ht hc0 hc (by omega) (by omega) (by omega) (by omega) fun ps hd m s hs hp => ?_
  simp
  exact hQ ps hd m s hs hp
end Lw

namespace Lw
open PySem PySem.Spec PyProof.Rows L2 Sim SX
/-! ### ascending -/
theorem ltB_irr (a : D) : ltB a a = false := lex_irrefl _
theorem le_tr {a b c : D} (h1 : ltB b a = false) (h2 : ltB c b = false) : ltB c a = false := by
  cases h : ltB c a with
  | false => rfl
  | true =>
    rcases lex_negTrans _ (PySem.W.keyToks (py b)) _ h with q | q
    · have q : ltB c b = true := q
      rw [q] at h2; cases h2
    · have q : ltB b a = true := q
      rw [q] at h1; cases h1
theorem lt_le {a b : D} (h : ltB a b = true) : ltB b a = false := by
  cases q : ltB b a with
  | false => rfl
  | true =>
    have := lex_trans _ _ _ h q
    have e : ltB a a = true := this
    rw [ltB_irr] at e; cases e
theorem lt_le_lt {a b c : D} (h1 : ltB a b = true) (h2 : ltB c b = false) : ltB a c = true := by
  rcases lex_negTrans _ (PySem.W.keyToks (py c)) _ h1 with q | q
  · exact q
  · have q : ltB c b = true := q
    rw [q] at h2; cases h2
abbrev Srt (l : List D) : Prop := l.Pairwise fun a b => ltB b a = false
theorem merged_ok {xs ys : List D} {E : EF} {Q : R → List Sl → Prop} (hc : CmpOk (xs ++ ys)) (hl : xs.length + ys.length ≤ 100000) (hx : Srt xs) (hy : Srt ys)
    (hQ : ∀ rs : List D, rs.Perm (xs ++ ys) → Srt rs → Q (.new (.lst rs)) [.d (.lst xs), .d (.lst ys)]) : wF (fn_merged [.d (.lst xs), .d (.lst ys)]) E Q := by
  unfold fn_merged
  with_reducible refine wF_mk ?_
  unfold c_merged
  (with_reducible refine wS_sq ?_); intro P hP; simp
  apply hP; clear hP P
  (with_reducible refine wS_sq ?_); intro P hP; simp
  apply hP; clear hP P
  (with_reducible refine wS_sq ?_); intro P hP; simp
  refine wS_fl (fun r e => ∃ (acc done : List D) (p : Nat) (w4 : Sl), e = [.d (.lst xs), .d (.lst ys), .own (.lst acc), .d (.int p), w4] ∧ isRef w4 = false ∧ done ++ r = xs ∧ p ≤ ys.length ∧ acc.Perm (done ++ ys.take p) ∧ Srt acc ∧ ∀ a ∈ acc, ∀ b ∈ r ++ ys.drop p, ltB b a = false) ⟨[], [], 0, .no, rfl, rfl, rfl, by omega, by simp, by simp, by simp⟩ ?_ ?_
  · rintro J hJ x r e ⟨acc, done, p, w4, rfl, h4, hd, hp, hpm, hs, hle⟩
    have hxm : x ∈ xs ++ ys := by rw [← hd]; simp
    have hxs : Srt (x :: r) := by
      have : Srt (done ++ x :: r) := by rw [hd]; exact hx
      exact (List.pairwise_append.mp this).2.1
    have hdl : done.length + 1 ≤ xs.length := by rw [← hd]; simp
    simp [wNr_eq h4]
    (with_reducible refine wS_sq ?_); intro P hP; simp
    refine wS_wh (n := ys.length - p) (fun n e => ∃ (acc : List D) (p : Nat), n = ys.length - p ∧ e = [.d (.lst xs), .d (.lst ys), .own (.lst acc), .d (.int p), .d x] ∧ p ≤ ys.length ∧ acc.Perm (done ++ ys.take p) ∧ Srt acc ∧ ∀ a ∈ acc, ∀ b ∈ (x :: r) ++ ys.drop p, ltB b a = false) ⟨acc, p, rfl, rfl, hp, hpm, hs, hle⟩ ?_
    rintro n J2 hJ2 e ⟨acc, p, rfl, rfl, hp, hpm, hs, hle⟩
    have hal : acc.length ≤ 100000 := by
      have := hpm.length_eq
      simp at this; omega
    have fin : (∀ b ∈ ys.drop p, ltB b x = false) → P [.d (.lst xs), .d (.lst ys), .own (.lst acc), .d (.int p), .d x] := by
      intro hb
      apply hP
      simp
      refine wC_in (by simp [lim]; omega) ?_
      refine hJ _ _ ⟨acc ++ [x], done ++ [x], p, _, rfl, rfl, by rw [← hd]; simp, hp, ?_, ?_, ?_⟩
      · have h1 : (acc ++ [x]).Perm ((done ++ ys.take p) ++ [x]) := hpm.append_right _
        refine h1.trans ?_
        rw [List.append_assoc, List.append_assoc]
        exact List.Perm.append_left _ List.perm_append_comm
      · exact List.pairwise_append.mpr ⟨hs, by simp, fun a ha b hb => by rw [List.mem_singleton.mp hb]; exact hle a ha x (by simp)⟩
      · intro a ha b hb'
        rcases List.mem_append.mp ha with q | q
        · exact hle a q b (by simp at hb' ⊢; exact .inr hb')
        · rw [List.mem_singleton.mp q]
          rcases List.mem_append.mp hb' with q2 | q2
          · exact (List.pairwise_cons.mp hxs).1 b q2
          · exact hb b q2
    simp
    refine wIf_dec (fun hpl => ?_) (fun hpl => ?_)
    · have hym : ys[p] ∈ xs ++ ys := List.mem_append_right _ (List.getElem_mem hpl)
      have hdr : ys.drop p = ys[p] :: ys.drop (p + 1) := List.drop_eq_getElem_cons hpl
      have hys : Srt (ys[p] :: ys.drop (p + 1)) := by
        rw [← hdr]
        exact List.Pairwise.sublist (List.drop_sublist p ys) hy
      rw [Sim.atI_nat, List.getElem?_eq_getElem hpl]
      simp [hc.lt _ hym _ hxm]
      refine wIf_in (fun h => ?_) (fun h => ?_)
      · (with_reducible refine wS_sq ?_); intro P hP; simp
        rw [Sim.atI_nat, List.getElem?_eq_getElem hpl]
        simp
        refine wC_in (by simp [lim]; omega) ?_
        apply hP; clear hP P
        simp
        refine hJ2 (ys.length - (p + 1)) _ (by omega) ⟨acc ++ [ys[p]], p + 1, rfl, by simp, by omega, ?_, ?_, ?_⟩
        · rw [List.take_succ_eq_append_getElem hpl, ← List.append_assoc]
          exact hpm.append_right _
        · exact List.pairwise_append.mpr ⟨hs, by simp, fun a ha b hb => by rw [List.mem_singleton.mp hb]; exact hle a ha _ (List.mem_append_right _ (by rw [hdr]; exact List.mem_cons_self ..))⟩
        · intro a ha b hb
          rcases List.mem_append.mp ha with q | q
          · exact hle a q b ((List.mem_append.mp hb).elim (fun z => List.mem_append_left _ z) fun z => List.mem_append_right _ (by rw [hdr]; exact List.mem_cons_of_mem _ z))
          · rw [List.mem_singleton.mp q]
            rcases List.mem_append.mp hb with q2 | q2
            · rcases List.mem_cons.mp q2 with q3 | q3
              · rw [q3]; exact lt_le h
              · exact le_tr (lt_le h) ((List.pairwise_cons.mp hxs).1 b q3)
            · exact (List.pairwise_cons.mp hys).1 b q2
      · refine fin fun b hb => ?_
        rw [hdr] at hb
        rcases List.mem_cons.mp hb with q | q
        · rw [q]; exact h
        · exact le_tr h ((List.pairwise_cons.mp hys).1 b q)
    · refine fin fun b hb => ?_
      rw [List.drop_eq_nil_of_le (by omega)] at hb
      cases hb
  · rintro e ⟨acc, done, p, w4, rfl, h4, hd, hp, hpm, hs, hle⟩
    rw [List.append_nil] at hd
    have hd := hd.symm
    subst hd
    have hal := hpm.length_eq
    apply hP; clear hP P
    simp [cut_from]
    simp at hal
    refine wC_in (by simp [lim]; omega) ?_
    refine hQ _ ?_ ?_
    · have h1 := hpm.append_right (ys.drop p)
      rw [List.append_assoc, List.take_append_drop] at h1
      exact h1
    · refine List.pairwise_append.mpr ⟨hs, List.Pairwise.sublist (List.drop_sublist p ys) hy, fun a ha b hb => hle a ha b (by simpa using hb)⟩

theorem fitsL (i : Int) (h0 : 0 ≤ i) (h1 : i < 1000000000) : Builtin.Range.rangeFitsLong i = true := by
  unfold Builtin.Range.rangeFitsLong
  simp
  omega
def wJ3 (xs : List D) (Q : Int → Int → Int → Prop) : Prop := match xs with
  | [.int i, .int j, .int c] => Q i j c
  | _ => False
@[simp ↓] theorem wJ3_i {i j c : Int} {Q : Int → Int → Int → Prop} : wJ3 [.int i, .int j, .int c] Q = Q i j c := rfl
def r3 (i j c : Int) : Prop := c ≠ 0 ∧ c.natAbs < 1073741824 ∧ Builtin.Range.small i j c = true ∧ Builtin.Range.rangeSize i j c = ((Builtin.Range.rangeSize i j c).toNat : Int)
def rn (i j c : Int) : Nat := (Builtin.Range.rangeSize i j c).toNat
@[simp ↓] theorem wO_rng3 {ca cb cc : En → Out R} {env : En} {E : EP} {Q : List D → En → Prop} : wO (cRng3 ca cb cc env) E Q = wO (cA [ca, cb, cc] env) E fun xs e => wJ3 xs fun i j c => wC (r3 i j c) (Q (rngC i c (rn i j c)) e) := by
  unfold cRng3
  rw [wO_bind]
  congr 1; funext xs e
  match xs with
  | [] => rw [wO_eq]; rfl
  | [a] => rw [wO_eq]; cases a <;> rfl
  | [a, b] => rw [wO_eq]; cases a <;> cases b <;> rfl
  | [a, b, c] =>
    cases a <;> cases b <;> cases c <;> first | (rw [wO_eq]; rfl) | (dsimp only; rw [wO_ite]; simp only [wO_eq]; rfl)
  | a :: b :: c :: d :: r => rw [wO_eq]; cases a <;> cases b <;> cases c <;> rfl
theorem rgc (j : Int) (h0 : 0 < j) (h1 : j < 1000000) : (2 : Int) ≠ 0 ∧ (2 : Int).natAbs < 1073741824 ∧ Builtin.Range.small 0 j 2 = true ∧ Builtin.Range.rangeSize 0 j 2 = ((Builtin.Range.rangeSize 0 j 2).toNat : Int) := by
  have e : Builtin.Range.rangeSize 0 j 2 = (j - 0 - 1) / 2 + 1 := by
    unfold Builtin.Range.rangeSize
    rw [if_pos (by decide), if_pos h0]
  refine ⟨by decide, by decide, ?_, ?_⟩
  · unfold Builtin.Range.small
    have e2 : 0 ≤ (j - 0 - 1) / 2 + 1 ∧ (j - 0 - 1) / 2 + 1 < 1000000 := by omega
    simp [e, fitsL _ (Int.le_refl 0) (by omega), fitsL j (by omega) (by omega), fitsL 2 (by omega) (by omega), fitsL (j + 1) (by omega) (by omega)]
    exact fitsL _ (by omega) (by omega)
  · rw [e]; omega
theorem rgn (j : Int) (h0 : 0 < j) : (Builtin.Range.rangeSize 0 j 2).toNat = ((j + 1) / 2).toNat := by
  have e : Builtin.Range.rangeSize 0 j 2 = (j - 0 - 1) / 2 + 1 := by
    unfold Builtin.Range.rangeSize
    rw [if_pos (by decide), if_pos h0]
  rw [e]; omega
abbrev lL (rs : List (List D)) : List D := rs.map D.lst
theorem asc_ok {xs : List D} {E : EF} {Q : R → List Sl → Prop} (hc : CmpOk xs) (hl : xs.length ≤ 50000)
    (hQ : ∀ rs : List D, (∀ x, x ∈ rs ↔ x ∈ xs) → rs.length ≤ xs.length → ((∀ a ∈ xs, ∀ b ∈ xs, ltB a b = false → ltB b a = false → a = b) → rs.Pairwise fun a b => ltB a b = true) → Q (.new (.lst rs)) [.d (.lst xs)]) : wF (fn_ascending [.d (.lst xs)]) E Q := by
  unfold fn_ascending
  with_reducible refine wF_mk ?_
  unfold c_ascending
  (with_reducible refine wS_sq ?_); intro P hP; simp
  refine wO_lcP (fun x => some (.lst [x])) ?_ ?_
  · intro x hx
    simp
    exact wC_in (by simp [lim]) trivial
  have e0 : xs.filterMap (fun x => some (D.lst [x])) = lL (xs.map fun x => [x]) := by
    rw [List.filterMap_eq_map']; simp [lL]
  rw [e0]
  simp
  refine wC_in (by simp [lim]; omega) ?_
  apply hP; clear hP P
  (with_reducible refine wS_sq ?_); intro P hP
  refine wS_wh (n := xs.length) (fun n e => ∃ (rs : List (List D)) (w1 w4 : Sl), rs.length ≤ n ∧ e = [.d (.lst xs), w1, .no, .no, w4, .no, .no] ∧ (w1 = .own (.lst (lL rs)) ∨ w1 = .d (.lst (lL rs))) ∧ isRef w4 = false ∧ rs.flatten.Perm xs ∧ rs.length ≤ xs.length ∧ ∀ r ∈ rs, Srt r) ⟨xs.map fun x => [x], _, .no, by simp, rfl, .inl (by simp [lL]), rfl, ?_, by simp, ?_⟩ ?_
  · have : ∀ xs : List D, (xs.map fun x => [x]).flatten = xs := fun xs => by
      induction xs with
      | nil => rfl
      | cons x xs ih => simp [ih]
    rw [this]
  · intro r hr
    obtain ⟨x, _, rfl⟩ := List.mem_map.mp hr
    simp
  · rintro n J hJ e ⟨rs, w1, w4, hn, rfl, h1, h4, hpm, hle, hsr⟩
    have hmem : ∀ r ∈ rs, ∀ x ∈ r, x ∈ xs := fun r hr x hx => hpm.mem_iff.mp (List.mem_flatten.mpr ⟨r, hr, hx⟩)
    have hlen : ∀ r ∈ rs, r.length ≤ xs.length := fun r hr => by
      have h1 := hpm.length_eq
      have h2 := (List.sublist_flatten_of_mem hr).length_le
      omega
    have hcnt : ∀ (js : List (List D)), js.length < rs.length → js.flatten.Perm rs.flatten → (∀ j ∈ js, Srt j) → ∀ w4, isRef w4 = false → J [.d (.lst xs), .d (.lst (lL js)), .no, .no, w4, .no, .no] := fun js hj hp hs w4 h4 => hJ js.length _ (by omega) ⟨js, _, w4, Nat.le_refl _, rfl, .inr rfl, h4, hp.trans hpm, by omega, hs⟩
    rcases h1 with rfl | rfl
    all_goals
      simp
      refine wIf_dec (fun hgt => ?_) (fun hgt => ?_)
      · have hgt : 1 < rs.length := by omega
        (with_reducible refine wS_sq ?_); intro P hP; simp
        refine wC_in (rgc _ (by omega) (by omega)) ?_
        have hrn : rn 0 ((rs.length : Int) - 1) 2 = rs.length / 2 := by
          unfold rn
          rw [rgn _ (by omega)]; omega
        rw [hrn]
        generalize hcc : rs.length / 2 = cnt
        first | (refine wO_ll (fun r acc e => ∃ (js : List (List D)) (k : Nat), e = [.d (.lst xs), .own (.lst (lL rs)), .no, .no, w4, .no, .no] ∧ acc = lL js ∧ js.length = k ∧ k ≤ cnt ∧ r = (rngC 0 2 cnt).drop k ∧ js.flatten.Perm (rs.take (2 * k)).flatten ∧ ∀ j ∈ js, Srt j) ⟨[], 0, rfl, rfl, rfl, by omega, by simp, by simp, by simp⟩ ?_ ?_) | (refine wO_ll (fun r acc e => ∃ (js : List (List D)) (k : Nat), e = [.d (.lst xs), .d (.lst (lL rs)), .no, .no, w4, .no, .no] ∧ acc = lL js ∧ js.length = k ∧ k ≤ cnt ∧ r = (rngC 0 2 cnt).drop k ∧ js.flatten.Perm (rs.take (2 * k)).flatten ∧ ∀ j ∈ js, Srt j) ⟨[], 0, rfl, rfl, rfl, by omega, by simp, by simp, by simp⟩ ?_ ?_)
        · rintro J2 hJ2 x r acc e ⟨js, k, rfl, rfl, hjl, hk, hr, hjp, hjs⟩
          have hk2 : k < cnt := by
            apply Classical.byContradiction
            intro hn
            rw [List.drop_eq_nil_of_le (by simp [rngC]; omega)] at hr
            cases hr
          have hr2 : (rngC 0 2 cnt).drop k = .int ((k : Int) * 2) :: (rngC 0 2 cnt).drop (k + 1) := by
            rw [List.drop_eq_getElem_cons (by simp [rngC]; omega)]
            simp [rngC]
          rw [hr2] at hr
          obtain ⟨rfl, rfl⟩ := List.cons.inj hr
          have b1 : 2 * k < rs.length := by omega
          have b2 : 2 * k + 1 < rs.length := by omega
          have a1 : atI (lL rs) ((k : Int) * 2) = some (.lst rs[2 * k]) := by
            rw [atI_pos (by omega), show ((k : Int) * 2).toNat = 2 * k by omega, List.getElem?_map, List.getElem?_eq_getElem b1]; rfl
          have a2 : atI (lL rs) ((k : Int) * 2 + 1) = some (.lst rs[2 * k + 1]) := by
            rw [atI_pos (by omega), show ((k : Int) * 2 + 1).toNat = 2 * k + 1 by omega, List.getElem?_map, List.getElem?_eq_getElem b2]; rfl
          have m1 : rs[2 * k] ∈ rs := List.getElem_mem b1
          have m2 : rs[2 * k + 1] ∈ rs := List.getElem_mem b2
          simp [a1, a2]
          refine merged_ok (hc.sub fun a ha => ?_) ?_ (hsr _ m1) (hsr _ m2) fun m hm hms => ?_
          · rcases List.mem_append.mp ha with q | q
            · exact hmem _ m1 a q
            · exact hmem _ m2 a q
          · have := hlen _ m1
            have := hlen _ m2
            omega
          simp
          refine hJ2 _ _ _ ⟨js ++ [m], k + 1, rfl, by simp, by simp; omega, by omega, rfl, ?_, ?_⟩
          · have e1 : rs.take (2 * (k + 1)) = rs.take (2 * k) ++ [rs[2 * k], rs[2 * k + 1]] := by
              rw [show 2 * (k + 1) = 2 * k + 1 + 1 by omega, List.take_succ_eq_append_getElem b2, List.take_succ_eq_append_getElem b1, List.append_assoc]
              rfl
            rw [e1, List.flatten_append, List.flatten_append]
            refine List.Perm.append hjp ?_
            simpa using hm
          · intro j hj
            rcases List.mem_append.mp hj with q | q
            · exact hjs j q
            · rw [List.mem_singleton.mp q]; exact hms
        · rintro acc e ⟨js, k, rfl, rfl, hjl, hk, hr, hjp, hjs⟩
          have hk2 : k = cnt := by
            apply Classical.byContradiction
            intro hn
            have := congrArg List.length hr
            simp [rngC] at this
            omega
          simp [wNr_eq h4]
          refine wC_in (by simp [lim]; omega) ?_
          apply hP; clear hP P
          (with_reducible refine wS_sq ?_); intro P hP
          have fin : ∀ js : List (List D), js.length < rs.length → js.flatten.Perm rs.flatten → (∀ j ∈ js, Srt j) → ∀ w1, isRef w1 = false → P [.d (.lst xs), w1, .no, .no, .own (.lst (lL js)), .no, .no] := by
            intro js q1 q2 q3 w1 hw1
            apply hP
            simp [wNr_eq hw1]
            exact hcnt js q1 q2 q3 _ rfl
          simp
          refine wIf_dec (fun hodd => ?_) (fun hodd => ?_)
          · have hb : rs.length - 1 < rs.length := by omega
            have e1 : rs = rs.take (2 * cnt) ++ [rs[rs.length - 1]] := by
              have h3 : rs.length = 2 * cnt + 1 := by
                have : (rs.length : Int).fmod 2 = 1 := hodd
                rw [Int.fmod_eq_emod_of_nonneg _ (by omega)] at this
                omega
              have := List.take_succ_eq_append_getElem (l := rs) (i := 2 * cnt) (by omega)
              rw [← h3, List.take_length] at this
              simp only [h3, Nat.add_sub_cancel]
              exact this
            have a1 : atI (lL rs) (-1) = some (.lst rs[rs.length - 1]) := by
              generalize rs[rs.length - 1] = l at e1
              rw [e1]
              unfold lL
              rw [List.map_append]
              exact atI_neg
            simp [a1]
            refine wC_in (by simp [lim]; omega) ?_
            have := fin (js ++ [rs[rs.length - 1]]) (by
              have := congrArg List.length e1
              simp at this ⊢
              omega) (by
              rw [List.flatten_append]
              have h5 : rs.flatten = (rs.take (2 * cnt)).flatten ++ rs[rs.length - 1] := by
                have := congrArg List.flatten e1
                simpa using this
              rw [h5]
              rw [hk2] at hjp
              simpa using hjp.append_right (rs[rs.length - 1])) (by
              intro j hj
              rcases List.mem_append.mp hj with q | q
              · exact hjs j q
              · rw [List.mem_singleton.mp q]; exact hsr _ (List.getElem_mem hb))
            first | (simpa using this (.own (.lst (lL rs))) rfl) | (simpa using this (.d (.lst (lL rs))) rfl)
          · have e1 : rs.take (2 * cnt) = rs := by
              refine List.take_of_length_le ?_
              have : ¬ (rs.length : Int).fmod 2 = 1 := hodd
              rw [Int.fmod_eq_emod_of_nonneg _ (by omega)] at this
              omega
            rw [hk2, e1] at hjp
            exact fin js (by omega) hjp hjs _ rfl
      · have hgt : rs.length ≤ 1 := by omega
        apply hP; clear hP P
        (with_reducible refine wS_sq ?_); intro P hP; simp
        apply hP; clear hP P
        (with_reducible refine wS_sq ?_); intro P hP
        simp
        have one : ∃ run : List D, (rs = [run] ∨ (rs = [] ∧ run = [])) ∧ Srt run ∧ run.Perm xs := by
          match rs, hgt, hsr, hpm with
          | [], _, _, hpm => exact ⟨[], .inr ⟨rfl, rfl⟩, by simp, by simpa using hpm⟩
          | [r], _, hsr, hpm => exact ⟨r, .inl rfl, hsr r (by simp), by simpa using hpm⟩
        obtain ⟨run, hrun, hsrt, hperm⟩ := one
        have hrl := hperm.length_eq
        refine wS_fl (fun r e => ∃ (acc : List D) (w3 w5 : Sl), e = [.d (.lst xs), .d (.lst (lL rs)), .own (.lst acc), w3, w4, w5, .no] ∧ isRef w3 = false ∧ isRef w5 = false ∧ ((acc = [] ∧ r = lL rs) ∨ (r = [] ∧ (∀ x, x ∈ acc ↔ x ∈ run) ∧ acc.length ≤ run.length ∧ ((∀ a ∈ xs, ∀ b ∈ xs, ltB a b = false → ltB b a = false → a = b) → acc.Pairwise fun a b => ltB a b = true)))) ⟨[], .no, .no, rfl, rfl, rfl, .inl ⟨rfl, rfl⟩⟩ ?_ ?_
        · rintro J2 hJ2 x r e ⟨acc, w3, w5, rfl, h3, h5, ⟨rfl, hr⟩ | ⟨hr, _⟩⟩
          · have hx : x = .lst run ∧ r = [] := by
              rcases hrun with rfl | ⟨rfl, _⟩
              · exact List.cons.inj hr
              · cases hr
            obtain ⟨rfl, rfl⟩ := hx
            simp [wNr_eq h3]
            refine wS_fl (fun r e => ∃ (acc dn : List D) (w5 : Sl), e = [.d (.lst xs), .d (.lst (lL rs)), .own (.lst acc), .d (.lst run), w4, w5, .no] ∧ isRef w5 = false ∧ dn ++ r = run ∧ (∀ x, x ∈ acc ↔ x ∈ dn) ∧ acc.length ≤ dn.length ∧ acc.getLast? = dn.getLast? ∧ ((∀ a ∈ xs, ∀ b ∈ xs, ltB a b = false → ltB b a = false → a = b) → acc.Pairwise fun a b => ltB a b = true)) ⟨[], [], w5, rfl, h5, rfl, by simp, by simp, rfl, fun _ => List.Pairwise.nil⟩ ?_ ?_
            · rintro J3 hJ3 x r e ⟨acc, dn, w5, rfl, h5, hd, hm, hal, hla, han⟩
              have hdl : dn.length + 1 ≤ run.length := by rw [← hd]; simp
              have hx : x ∈ xs := hperm.mem_iff.mp (by rw [← hd]; simp)
              have hsd : Srt (dn ++ x :: r) := by rw [hd]; exact hsrt
              have hax : ∀ a ∈ acc, ltB x a = false := fun a ha => (List.pairwise_append.mp hsd).2.2 a ((hm a).mp ha) x (by simp)
              have add : ((∀ a ∈ xs, ∀ b ∈ xs, ltB a b = false → ltB b a = false → a = b) → (∀ a ∈ acc, ltB a x = true)) → J3 r [.d (.lst xs), .d (.lst (lL rs)), .own (.lst (acc ++ [x])), .d (.lst run), w4, .d x, .no] := fun hlt => by
                refine hJ3 _ _ ⟨acc ++ [x], dn ++ [x], _, rfl, rfl, by rw [← hd]; simp, fun z => ?_, by simp; omega, by simp, fun an => ?_⟩
                · simp only [List.mem_append, hm z]
                · exact List.pairwise_append.mpr ⟨han an, by simp, fun a ha b hb => by rw [List.mem_singleton.mp hb]; exact hlt an a ha⟩
              simp [wNr_eq h5]
              refine wIf_in (fun h => ?_) (fun h => ?_)
              · have h0 : acc = [] := by simpa using h
                subst h0
                refine wC_in (by simp [lim]) ?_
                exact add fun _ a ha => by cases ha
              · have h0 : acc ≠ [] := by simpa using h
                obtain ⟨ini, l, rfl⟩ : ∃ ini l, acc = ini ++ [l] := ⟨_, _, (List.dropLast_concat_getLast h0).symm⟩
                have hlm : l ∈ xs := hperm.mem_iff.mp (by rw [← hd]; exact List.mem_append_left _ ((hm l).mp (by simp)))
                rw [atI_neg]
                simp [fNe_nb (hc.nb _ hlm) (hc.nb _ hx) (by omega)]
                refine wIf_in (fun h => ?_) (fun h => ?_)
                · refine wC_in (by simp [lim] at hal ⊢; omega) ?_
                  have hne : l ≠ x := fun z => by
                    have := (eqB_iff (hc.nb _ hlm) (hc.nb _ hx)).mpr z
                    simp [this] at h
                  have := add fun an a ha => by
                    have hlx : ltB l x = true := by
                      cases q : ltB l x with
                      | true => rfl
                      | false => exact absurd (an l hlm x hx q (hax l (by simp))) hne
                    rcases List.mem_append.mp ha with q | q
                    · have hal : ltB a l = true := (List.pairwise_append.mp (han an)).2.2 a q l (by simp)
                      exact lt_le_lt hal (lt_le hlx)
                    · rw [List.mem_singleton.mp q]; exact hlx
                  simpa using this
                · have he : l = x := (eqB_iff (hc.nb _ hlm) (hc.nb _ hx)).mp (by simpa using h)
                  subst he
                  refine hJ3 _ _ ⟨ini ++ [l], dn ++ [l], _, rfl, rfl, by rw [← hd]; simp, fun z => ?_, by simp at hal ⊢; omega, by simp, han⟩
                  rw [hm z]
                  simp only [List.mem_append, List.mem_singleton]
                  constructor
                  · exact .inl
                  · rintro (h | h)
                    · exact h
                    · rw [h]; exact (hm l).mp (by simp)
            · rintro e ⟨acc, dn, w5, rfl, h5, hd, hm, hal, hla, han⟩
              rw [List.append_nil] at hd
              subst hd
              exact hJ2 _ _ ⟨acc, _, w5, rfl, rfl, h5, .inr ⟨rfl, hm, hal, han⟩⟩
          · cases hr
        · rintro e ⟨acc, w3, w5, rfl, h3, h5, hh⟩
          apply hP; clear hP P
          simp
          rcases hh with ⟨rfl, hr⟩ | ⟨_, hm, hal, han⟩
          · have hr0 : rs = [] := by
              cases rs with
              | nil => rfl
              | cons _ _ => cases hr
            have hrn : run = [] := by
              rcases hrun with rfl | ⟨_, h⟩
              · cases hr0
              · exact h
            subst hrn
            refine hQ [] (fun x => ?_) (by simp) (fun _ => List.Pairwise.nil)
            rw [← hperm.mem_iff]
          · exact hQ acc (fun x => (hm x).trans hperm.mem_iff) (by omega) han
end Lw

namespace Lw
open PySem PySem.Spec PyProof.Rows L2 Sim SX
/-! ### dicts -/
section
variable {α : Type} {ks : List α} {ke : α → Key} {va : α → D} {b : α}
theorem dlook_map (inj : ∀ a ∈ ks, ke a = ke b → a = b) (hb : b ∈ ks) : dlook (ks.map fun a => (ke a, va a)) (ke b) = some (va b) := by
  induction ks with
  | nil => cases hb
  | cons a ks ih =>
    unfold dlook
    rw [List.map_cons, List.find?_cons]
    by_cases h : ke a = ke b
    · have := inj a (List.mem_cons_self ..) h
      subst this
      simp
    · simp only [h, decide_false]
      have hb' : b ∈ ks := by
        rcases List.mem_cons.mp hb with rfl | h'
        · exact absurd rfl h
        · exact h'
      exact ih (fun a ha => inj a (List.mem_cons_of_mem _ ha)) hb'
theorem dlook_iff {kvs : List (Key × D)} {k : Key} : (dlook kvs k).isSome = true ↔ k ∈ kvs.map (fun p => p.1) := by
  induction kvs with
  | nil => simp [dlook]
  | cons p kvs ih =>
    unfold dlook at ih ⊢
    rw [List.find?_cons]
    by_cases h : p.1 = k
    · simp [h]
    · have h' : ¬ k = p.1 := fun z => h z.symm
      simp only [h, decide_false]
      rw [ih, List.map_cons, List.mem_cons]
      exact ⟨.inr, fun q => q.elim (fun z => absurd z h') id⟩
theorem dput_new {kvs : List (Key × D)} {k : Key} {x : D} (h : k ∉ kvs.map (·.1)) : dput kvs k x = kvs ++ [(k, x)] := by
  unfold dput
  rw [if_neg]
  intro z
  obtain ⟨p, hp, e⟩ := List.any_eq_true.mp z
  exact h (List.mem_map.mpr ⟨p, hp, of_decide_eq_true e⟩)
theorem dput_old {kvs : List (Key × D)} {k : Key} {x : D} (h : k ∈ kvs.map (·.1)) : dput kvs k x = kvs.map (fun kv => if kv.1 = k then (kv.1, x) else kv) := by
  unfold dput
  rw [if_pos]
  obtain ⟨p, hp, e⟩ := List.mem_map.mp h
  exact List.any_eq_true.mpr ⟨p, hp, decide_eq_true e⟩
end
/-- a dict of numbers and True -/
abbrev uD (ks : List Int) : List (Key × D) := ks.map fun k => (Sum.inl k, D.bl true)
theorem uD_keys (ks : List Int) (v : Int) : (Sum.inl v : Key) ∈ (uD ks).map (·.1) ↔ v ∈ ks := by
  simp
def addK (ks : List Int) (v : Int) : List Int := if v ∈ ks then ks else ks ++ [v]
theorem uD_put (ks : List Int) (v : Int) : dput (uD ks) (.inl v) (.bl true) = uD (addK ks v) := by
  unfold addK
  by_cases h : v ∈ ks
  · rw [if_pos h, dput_old ((uD_keys ks v).mpr h), uD, List.map_map]
    refine List.map_congr_left fun k _ => ?_
    simp only [Function.comp]
    by_cases e : k = v
    · simp [e]
    · simp [e]
  · rw [if_neg h, dput_new (fun z => h ((uD_keys ks v).mp z))]
    simp [uD]
theorem uD_look (ks : List Int) (v : Int) : (dlook (uD ks) (.inl v)).isSome = decide (v ∈ ks) := by
  rw [Bool.eq_iff_iff, dlook_iff, decide_eq_true_iff]
  simp
theorem addK_mem {ks : List Int} {v z : Int} : z ∈ addK ks v ↔ z ∈ ks ∨ z = v := by
  unfold addK
  split
  · rename_i h
    exact ⟨.inl, fun q => q.elim id fun e => e ▸ h⟩
  · simp
theorem addK_nd {ks : List Int} {v : Int} (h : ks.Nodup) : (addK ks v).Nodup := by
  unfold addK
  split
  · exact h
  · rename_i hn
    rw [List.nodup_append]
    exact ⟨h, by simp, fun a ha b hb => by rw [List.mem_singleton.mp hb]; exact fun z => hn (z ▸ ha)⟩
theorem addK_len {ks : List Int} {v : Int} : (addK ks v).length ≤ ks.length + 1 := by
  unfold addK
  split <;> simp
abbrev addKs (ks : List Int) (zs : List Int) : List Int := zs.foldl addK ks
theorem addKs_mem : ∀ {zs ks : List Int} {z : Int}, z ∈ addKs ks zs ↔ z ∈ ks ∨ z ∈ zs
  | [], ks, z => by simp
  | v :: zs, ks, z => by
    show z ∈ addKs (addK ks v) zs ↔ _
    rw [addKs_mem, addK_mem, List.mem_cons, or_assoc]
theorem addKs_nd : ∀ {zs ks : List Int}, ks.Nodup → (addKs ks zs).Nodup
  | [], ks, h => h
  | v :: zs, ks, h => addKs_nd (zs := zs) (addK_nd h)
theorem addKs_len : ∀ {zs ks : List Int}, (addKs ks zs).length ≤ ks.length + zs.length
  | [], ks => by simp
  | v :: zs, ks => by
    have h1 := addKs_len (zs := zs) (ks := addK ks v)
    have h2 := addK_len (ks := ks) (v := v)
    show (addKs (addK ks v) zs).length ≤ _
    simp only [List.length_cons]
    omega
theorem addKs_app {ks a b : List Int} : addKs ks (a ++ b) = addKs (addKs ks a) b := List.foldl_append ..
theorem nd_len {ks : List Int} {n : Nat} (hn : ks.Nodup) (h : ∀ v, v ∈ ks ↔ 0 ≤ v ∧ v < n) : ks.length = n := by
  have : ks.Perm (rI n) := (List.perm_ext_iff_of_nodup hn rI_nd).mpr fun v => (h v).trans rI_mem.symm
  rw [this.length_eq, rI_len]
/-! ### words, schemas -/
@[simp] theorem look_d {x : D} {e : En} : look (.d x) e = some x := rfl
@[simp] theorem cls_ins {x : Str} {fs : List (Str × D)} : cls? (.ins x fs) = some x := rfl
@[simp] theorem wS_stuck {k : Ks} : wS .stuck k = False := by rw [wS_eq]; rfl
@[simp] theorem fNotIn_sign {c : Nat} {z : Str} : fNotIn (.str ⟨#[c]⟩) (.str z) = some (.d (.bl (!decide (c ∈ z.cps.toList)))) := rfl
theorem is_word_ok {z : Str} {E : EF} {Q : R → List Sl → Prop} (hz : IsW z) (hQ : Q (.d (.bl true)) [.d (.str z)]) : wF (fn_is_word [.d (.str z)]) E Q := by
  unfold fn_is_word
  with_reducible refine wF_mk ?_
  unfold c_is_word
  have h1 := hz.lo
  have h2 := hz.hi
  have hl : z.length = z.cps.toList.length := by simp [Str.length]
  (with_reducible refine wS_sq ?_); intro P hP; simp
  refine wC_in (by simp [lim]; omega) ?_
  refine wIf_dec (fun h => ?_) (fun h => absurd h (by omega))
  refine wIf_in (fun h => absurd h (by simp; omega)) (fun h => ?_)
  apply hP; clear hP P
  (with_reducible refine wS_sq ?_); intro P hP; simp
  refine wS_fl (fun r e => ∃ (w1 : Sl) (cs : List Nat), e = [.d (.str z), w1] ∧ isRef w1 = false ∧ r = cs.map oneC ∧ ∀ c ∈ cs, okC c = true) ⟨.no, z.cps.toList, rfl, rfl, rfl, hz.ok⟩ ?_ ?_
  · rintro J hJ x r e ⟨w1, cs, rfl, hw, hx, hc⟩
    obtain ⟨c, cs, rfl, rfl, rfl⟩ := map_cons hx
    have : c ∈ cWord.cps.toList := by
      have := hc c (List.mem_cons_self ..)
      unfold okC at this
      simpa using this
    simp [wNr_eq hw]
    refine wIf_in (fun h => ?_) (fun h => hJ _ _ ⟨_, cs, rfl, rfl, rfl, fun c hc' => hc c (List.mem_cons_of_mem _ hc')⟩)
    exfalso
    simp at h
    exact h (by simpa using this)
  · rintro e ⟨w1, cs, rfl, hw, hx, hc⟩
    apply hP; clear hP P
    simp
    exact hQ
theorem is_integer_ok {i a b : Int} {E : EF} {Q : R → List Sl → Prop} (h1 : a ≤ i) (h2 : i ≤ b) (hQ : Q (.d (.bl true)) [.d (.int i), .d (.int a), .d (.int b)]) : wF (fn_is_integer [.d (.int i), .d (.int a), .d (.int b)]) E Q := by
  unfold fn_is_integer
  with_reducible refine wF_mk ?_
  unfold c_is_integer
  simp [h1, h2]
  exact hQ
theorem is_natural_ok {i : Int} {E : EF} {Q : R → List Sl → Prop} (h1 : 0 ≤ i) (hQ : Q (.d (.bl true)) [.d (.int i)]) : wF (fn_is_natural [.d (.int i)]) E Q := by
  unfold fn_is_natural
  with_reducible refine wF_mk ?_
  unfold c_is_natural
  simp [h1]
  exact hQ
abbrev kD (ts : List (Str × Int)) : List (Key × D) := ts.map fun p => (Sum.inr p.1, D.int p.2)
theorem kD_keys (ts : List (Str × Int)) (z : Str) : (Sum.inr z : Key) ∈ (kD ts).map (·.1) ↔ z ∈ ts.map (·.1) := by
  simp
theorem kD_look {ts : List (Str × Int)} (h : (ts.map (·.1)).Nodup) {p : Str × Int} (hp : p ∈ ts) : dlook (kD ts) (.inr p.1) = some (.int p.2) := by
  refine dlook_map (ke := fun p : Str × Int => (Sum.inr p.1 : Key)) (va := fun p : Str × Int => D.int p.2) (b := p) (fun a ha e => ?_) hp
  have e : a.1 = p.1 := Sum.inr.inj e
  obtain ⟨i, hi, rfl⟩ := List.getElem_of_mem ha
  obtain ⟨j, hj, rfl⟩ := List.getElem_of_mem hp
  have := (List.getElem_inj (xs := ts.map (·.1)) (i := i) (j := j) (h₀ := by simpa using hi) (h₁ := by simpa using hj) h).mp (by simpa using e)
  subst this; rfl
abbrev schD (ns : List Str) (ts : List (Str × Int)) : D := .ins "Schema" [("names", .tup (sL ns)), ("widths", .dk (kD ts))]
theorem put_n {y : D} : putFd "names" y [] = [(("names" : Str), y)] := rfl
theorem put_w {y z : D} : putFd "widths" z [(("names" : Str), y)] = [(("names" : Str), y), (("widths" : Str), z)] := by
  unfold putFd
  rw [if_neg (by decide +kernel)]; rfl
theorem gList_dk {kvs : List (Key × D)} : gList [.dk kvs] = some (.new (.lst (kvs.map fun p => keyD' p.1))) := rfl
theorem of_strs {zs : List Str} : ∀ {ys : List D}, (∀ y ∈ ys, y ∈ sL zs) → ∃ ns : List Str, ys = sL ns
  | [], _ => ⟨[], rfl⟩
  | y :: ys, h => by
    obtain ⟨p, _, e⟩ := List.mem_map.mp (h y (List.mem_cons_self ..))
    obtain ⟨ps, e2⟩ := of_strs (zs := zs) (ys := ys) fun y hy => h y (List.mem_cons_of_mem _ hy)
    exact ⟨p :: ps, by rw [← e, e2]; rfl⟩
theorem schema_ok {ts : List (Str × Int)} {E : EF} {Q : R → List Sl → Prop} (ht : TabOk ts) (hQ : ∀ ns : List Str, (∀ z, z ∈ ns ↔ z ∈ ts.map (·.1)) → Q (.d .non) [.ref (schD ns ts), .d (tabD ts)]) : wF (fn_Schema_u__init_u_ [.ref (.ins "Schema" []), .d (tabD ts)]) E Q := by
  unfold fn_Schema_u__init_u_
  with_reducible refine wF_mk ?_
  unfold c_Schema_u__init_u_
  have hle := ht.le
  (with_reducible refine wS_sq ?_); intro P hP; simp
  refine wIf_dec (fun h => ?_) (fun h => ?_)
  · omega
  apply hP; clear hP P
  (with_reducible refine wS_sq ?_); intro P hP; simp
  apply hP; clear hP P
  (with_reducible refine wS_sq ?_); intro P hP; simp
  refine wS_fl (fun r e => ∃ (w3 w4 : Sl) (dn rest : List (Str × Int)), e = [.ref (.ins "Schema" []), .d (tabD ts), .own (.dk (kD dn)), w3, w4] ∧ isRef w3 = false ∧ isRef w4 = false ∧ r = rest.map tupD ∧ dn ++ rest = ts) ⟨.no, .no, [], ts, rfl, rfl, rfl, rfl, rfl⟩ ?_ ?_
  · rintro J hJ x r e ⟨w3, w4, dn, rest, rfl, h3, h4, hx, hd⟩
    obtain ⟨p, rest, rfl, rfl, rfl⟩ := map_cons hx
    have hp : p ∈ ts := by rw [← hd]; simp
    have hnw : p.1 ∉ dn.map (·.1) := by
      have := ht.nd
      rw [← hd, List.map_append] at this
      exact fun z => (List.nodup_append.mp this).2.2 _ z p.1 (by simp) rfl
    have hdl : dn.length ≤ 3 := by
      have := congrArg List.length hd
      simp at this; omega
    obtain ⟨i1, i2⟩ := ht.wi p hp
    simp [wNr_eq h3, wNr_eq h4]
    (with_reducible refine wS_sq ?_); intro P hP; simp
    refine is_word_ok (ht.wd p hp) ?_
    simp
    apply hP; clear hP P
    (with_reducible refine wS_sq ?_); intro P hP; simp
    refine is_integer_ok i1 i2 ?_
    simp
    apply hP; clear hP P
    (with_reducible refine wS_sq ?_); intro P hP; simp
    refine wIf_in (fun h => absurd ((kD_keys dn p.1).mp (dlook_iff.mp h)) hnw) (fun _ => ?_)
    apply hP; clear hP P
    simp
    refine wC_in (by simp [lim]; omega) ?_
    rw [dput_new (fun h => absurd ((kD_keys dn p.1).mp h) hnw)]
    exact hJ _ _ ⟨_, _, dn ++ [p], rest, by simp [kD]; exact ⟨rfl, rfl⟩, rfl, rfl, rfl, by rw [← hd]; simp⟩
  · rintro e ⟨w3, w4, dn, rest, rfl, h3, h4, hx, hd⟩
    obtain rfl := map_nil' hx
    rw [List.append_nil] at hd
    subst hd
    apply hP; clear hP P
    (with_reducible refine wS_sq ?_); intro P hP; simp
    simp [gList_dk]
    have e1 : dn.map ((fun p : Key × D => keyD' p.1) ∘ fun p : Str × Int => (Sum.inr p.1, D.int p.2)) = sL (dn.map (·.1)) := by
      rw [sL, List.map_map]; rfl
    rw [e1]
    refine asc_ok (strs_cmp _) (by simp; omega) fun rs hm hl _ => ?_
    obtain ⟨ns, rfl⟩ := of_strs (ys := rs) fun y hy => (hm y).mp hy
    simp [put_n]
    apply hP; clear hP P
    simp
    simp [put_w]
    refine hQ ns fun z => ?_
    have := hm (.str z)
    constructor
    · intro hz
      obtain ⟨y, hy, e⟩ := List.mem_map.mp (this.mp (List.mem_map.mpr ⟨z, hz, rfl⟩))
      cases e; exact hy
    · intro hz
      obtain ⟨y, hy, e⟩ := List.mem_map.mp (this.mpr (List.mem_map.mpr ⟨z, hz, rfl⟩))
      cases e; exact hy
structure SchOk (ts : List (Str × Int)) (S : D) : Prop where
  nd : (ts.map (·.1)).Nodup
  ex : ∃ ns : List Str, S = schD ns ts ∧ ∀ z, z ∈ ns ↔ z ∈ ts.map (·.1)
theorem lk_n {y z : D} : ([(("names" : Str), y), (("widths" : Str), z)]).lookup ("names" : Str) = some y := rfl
theorem lk_w {y z : D} : ([(("names" : Str), y), (("widths" : Str), z)]).lookup ("widths" : Str) = some z := rfl
theorem check_row_ok {ts : List (Str × Int)} {S : D} {n : Int} {p : Str × List Int} {E : EF} {Q : R → List Sl → Prop} (hs : SchOk ts S) (hp : RowOk ts n p) (hQ : Q (.d .non) [.d S, .d (rowD p)]) : wF (fn_check_row [.d S, .d (rowD p)]) E Q := by
  obtain ⟨nd, ns, rfl, hns⟩ := hs
  have hin : p.1 ∈ ns := (hns _).mpr (List.mem_map.mpr ⟨_, hp.tb, rfl⟩)
  unfold fn_check_row
  with_reducible refine wF_mk ?_
  unfold c_check_row
  (with_reducible refine wS_sq ?_); intro P hP; simp
  unfold fn_Schema_u__contains_u_
  with_reducible refine wF_mk ?_
  unfold c_Schema_u__contains_u_
  simp [lk_n, hin]
  apply hP; clear hP P
  (with_reducible refine wS_sq ?_); intro P hP; simp
  unfold fn_Schema_u__getitem_u_
  with_reducible refine wF_mk ?_
  unfold c_Schema_u__getitem_u_
  (with_reducible refine wS_sq ?_); intro P hP; simp
  simp [lk_n, hin]
  apply hP; clear hP P
  simp [lk_w]
  simp [kD_look nd hp.tb]
  apply hP; clear hP P
  simp
  refine wS_fl (fun r e => ∃ (w2 : Sl) (zs : List Int), e = [.d (schD ns ts), .d (rowD p), w2] ∧ isRef w2 = false ∧ r = iL zs ∧ ∀ z ∈ zs, 0 ≤ z) ⟨.no, p.2, rfl, rfl, rfl, fun z hz => (hp.vs z hz).1⟩ ?_ ?_
  · rintro J hJ x r e ⟨w2, zs, rfl, h2, hx, hz⟩
    obtain ⟨z, zs, rfl, rfl, rfl⟩ := map_cons hx
    simp [wNr_eq h2]
    refine is_natural_ok (hz z (by simp)) ?_
    simp
    exact hJ _ _ ⟨_, zs, rfl, rfl, rfl, fun y hy => hz y (List.mem_cons_of_mem _ hy)⟩
  · rintro e ⟨w2, zs, rfl, h2, hx, hz⟩
    exact hQ
end Lw

namespace Lw
open PySem PySem.Spec PyProof.Rows L2 Sim SX
/-! ### patterns -/
abbrev patD (S : D) (rs : List (Str × List Int)) (hd : List Int) (n : Nat) : D := .ins "Pattern" [("schema", S), ("rows", .tup (rs.map rowD)), ("head", .tup (iL hd)), ("size", .int n)]
theorem put_s {y : D} : putFd "schema" y [] = [(("schema" : Str), y)] := rfl
theorem put_r {y z : D} : putFd "rows" z [(("schema" : Str), y)] = [(("schema" : Str), y), ("rows", z)] := by
  unfold putFd
  rw [if_neg (by decide +kernel)]; rfl
theorem put_h {y z a : D} : putFd "head" a [(("schema" : Str), y), ("rows", z)] = [(("schema" : Str), y), ("rows", z), ("head", a)] := by
  unfold putFd
  rw [if_neg (by decide +kernel)]
  unfold putFd
  rw [if_neg (by decide +kernel)]; rfl
theorem put_z {y z a b : D} : putFd "size" b [(("schema" : Str), y), ("rows", z), ("head", a)] = [(("schema" : Str), y), ("rows", z), ("head", a), ("size", b)] := by
  unfold putFd
  rw [if_neg (by decide +kernel)]
  unfold putFd
  rw [if_neg (by decide +kernel)]
  unfold putFd
  rw [if_neg (by decide +kernel)]; rfl
theorem lk_r {y z a b : D} : ([(("schema" : Str), y), ("rows", z), ("head", a), ("size", b)]).lookup ("rows" : Str) = some z := rfl
theorem lk_h {y z a b : D} : ([(("schema" : Str), y), ("rows", z), ("head", a), ("size", b)]).lookup ("head" : Str) = some a := rfl
theorem lk_z {y z a b : D} : ([(("schema" : Str), y), ("rows", z), ("head", a), ("size", b)]).lookup ("size" : Str) = some b := rfl
/-- rows, head and size that fit -/
structure FitOk (ts : List (Str × Int)) (ps : List (Str × List Int)) (hs : List Int) (n : Nat) : Prop where
  rows : ∀ p ∈ ps, RowOk ts n p
  hv : ∀ z ∈ hs, 0 ≤ z ∧ z < (n : Int)
  all : ∀ v : Int, 0 ≤ v → v < n → v ∈ hs ∨ ∃ p ∈ ps, v ∈ p.2
  le : ps.length ≤ 500
  hl : hs.length ≤ 4
  nl : n ≤ 300
theorem PlainOk.fit {ts : List (Str × Int)} {cols : Nat} {ps : List (Str × List Int)} {hs : List Int} {n : Nat} (h : PlainOk ts cols ps hs n) (hc : cols ≤ 4) : FitOk ts ps hs n :=
  ⟨h.rows, h.hv, h.all, by have := h.le; omega, by have := h.cl; omega, by have := h.six; omega⟩
theorem pattern_ok {ts : List (Str × Int)} {S : D} {ps : List (Str × List Int)} {hs : List Int} {n : Nat} {E : EF} {Q : R → List Sl → Prop} (ht : TabOk ts) (hS : SchOk ts S) (hf : FitOk ts ps hs n)
    (hQ : ∀ rs : List (Str × List Int), (∀ p, p ∈ rs ↔ p ∈ ps) → rs.length ≤ ps.length → Q (.d .non) [.ref (patD S rs hs n), .d S, .d (.lst (ps.map rowD)), .d (.tup (iL hs))]) : wF (fn_Pattern_u__init_u_ [.ref (.ins "Pattern" []), .d S, .d (.lst (ps.map rowD)), .d (.tup (iL hs))]) E Q := by
  unfold fn_Pattern_u__init_u_
  with_reducible refine wF_mk ?_
  unfold c_Pattern_u__init_u_
  have h1 := hf.le
  have h2 := hf.hl
  have h3 := hf.nl
  (with_reducible refine wS_sq ?_); intro P hP; simp
  refine wS_fl (fun r e => ∃ (w4 : Sl) (rest : List (Str × List Int)), e = [.ref (.ins "Pattern" []), .d S, .d (.lst (ps.map rowD)), .d (.tup (iL hs)), w4, .no, .no, .no] ∧ isRef w4 = false ∧ r = rest.map rowD ∧ ∀ p ∈ rest, RowOk ts n p) ⟨.no, ps, rfl, rfl, rfl, hf.rows⟩ ?_ ?_
  · rintro J hJ x r e ⟨w4, rest, rfl, h4, hx, hp⟩
    obtain ⟨p, rest, rfl, rfl, rfl⟩ := map_cons hx
    simp [wNr_eq h4]
    refine check_row_ok hS (hp p (by simp)) ?_
    simp
    exact hJ _ _ ⟨_, rest, rfl, rfl, rfl, fun q hq => hp q (List.mem_cons_of_mem _ hq)⟩
  rintro e ⟨w4, rest, rfl, h4, hx, hp⟩
  clear hx hp rest
  apply hP; clear hP P
  (with_reducible refine wS_sq ?_); intro P hP; simp
  refine wS_fl (fun r e => ∃ (w5 : Sl) (zs : List Int), e = [.ref (.ins "Pattern" []), .d S, .d (.lst (ps.map rowD)), .d (.tup (iL hs)), w4, w5, .no, .no] ∧ isRef w5 = false ∧ r = iL zs ∧ ∀ z ∈ zs, 0 ≤ z) ⟨.no, hs, rfl, rfl, rfl, fun z hz => (hf.hv z hz).1⟩ ?_ ?_
  · rintro J hJ x r e ⟨w5, zs, rfl, h5, hx, hz⟩
    obtain ⟨z, zs, rfl, rfl, rfl⟩ := map_cons hx
    simp [wNr_eq h5]
    refine is_natural_ok (hz z (by simp)) ?_
    simp
    exact hJ _ _ ⟨_, zs, rfl, rfl, rfl, fun y hy => hz y (List.mem_cons_of_mem _ hy)⟩
  rintro e ⟨w5, zs, rfl, h5, hx, hz⟩
  clear hx hz zs
  apply hP; clear hP P
  (with_reducible refine wS_sq ?_); intro P hP; simp
  refine wIf_dec (fun h => ?_) (fun h => ?_)
  · omega
  apply hP; clear hP P
  (with_reducible refine wS_sq ?_); intro P hP; simp
  refine asc_ok (rows_cmp ps) (by simp; omega) fun ys hm hl _ => ?_
  obtain ⟨rs, rfl⟩ := of_rows (ys := ys) fun y hy => by
    obtain ⟨p, _, e⟩ := List.mem_map.mp ((hm y).mp hy)
    exact ⟨_, e.symm⟩
  have hmem : ∀ p, p ∈ rs ↔ p ∈ ps := fun q => by
    have := hm (rowD q)
    constructor
    · intro hq
      obtain ⟨p, hp, e⟩ := List.mem_map.mp (this.mp (List.mem_map.mpr ⟨q, hq, rfl⟩))
      rw [← rowD_inj e]; exact hp
    · intro hq
      obtain ⟨p, hp, e⟩ := List.mem_map.mp (this.mpr (List.mem_map.mpr ⟨q, hq, rfl⟩))
      rw [← rowD_inj e]; exact hp
  simp at hl
  simp
  apply hP; clear hP P
  (with_reducible refine wS_sq ?_); intro P hP; simp
  refine wIf_dec (fun h => ?_) (fun h => ?_)
  · omega
  apply hP; clear hP P
  (with_reducible refine wS_sq ?_); intro P hP; simp
  apply hP; clear hP P
  (with_reducible refine wS_sq ?_); intro P hP; simp
  refine wS_fl (fun r e => ∃ (w5 : Sl) (ks : List Int) (zs : List Int), e = [.ref (.ins "Pattern" []), .d S, .d (.lst (ps.map rowD)), .d (.tup (iL hs)), w4, w5, .own (.lst (rs.map rowD)), .own (.dk (uD ks))] ∧ isRef w5 = false ∧ r = iL zs ∧ addKs ks zs = addKs [] hs ∧ ks.length + zs.length ≤ 4) ⟨w5, [], hs, rfl, h5, rfl, rfl, by simp; omega⟩ ?_ ?_
  · rintro J hJ x r e ⟨w5, ks, zs, rfl, h5, hx, hz, hkl⟩
    obtain ⟨z, zs, rfl, rfl, rfl⟩ := map_cons hx
    have := addK_len (ks := ks) (v := z)
    simp at hkl
    simp [wNr_eq h5]
    refine wC_in (by simp [lim]; omega) ?_
    rw [uD_put]
    exact hJ _ _ ⟨_, addK ks z, zs, rfl, rfl, rfl, hz, by omega⟩
  rintro e ⟨w5, ks, zs, rfl, h5, hx, hz, hkl⟩
  obtain rfl := map_nil' hx
  have hz : ks = addKs [] hs := hz
  clear hx hkl
  apply hP; clear hP P
  (with_reducible refine wS_sq ?_); intro P hP; simp
  refine wS_fl (fun r e => ∃ (w4 w5 : Sl) (ks : List Int) (dn rest : List (Str × List Int)), e = [.ref (.ins "Pattern" []), .d S, .d (.lst (ps.map rowD)), .d (.tup (iL hs)), w4, w5, .d (.lst (rs.map rowD)), .own (.dk (uD ks))] ∧ isRef w4 = false ∧ isRef w5 = false ∧ r = rest.map rowD ∧ dn ++ rest = rs ∧ ks = addKs [] (hs ++ vals dn)) ⟨w4, w5, ks, [], rs, rfl, h4, h5, rfl, rfl, by rw [hz]; simp [vals]⟩ ?_ ?_
  · rintro J hJ x r e ⟨w4, w5, ks, dn, rest, rfl, h4, h5, hx, hd, hk⟩
    obtain ⟨p, rest, rfl, rfl, rfl⟩ := map_cons hx
    have hpm : ∀ q ∈ dn ++ p :: rest, RowOk ts n q := fun q hq => hf.rows q ((hmem q).mp (by rw [← hd]; exact hq))
    have hv1 := vals_len ht (rows := dn) (n := n) fun q hq => hpm q (List.mem_append_left _ hq)
    have hv2 := (ht.wi _ (hpm p (by simp)).tb).2
    dsimp only at hv2
    have hdl : dn.length ≤ 500 := by
      have := congrArg List.length hd
      simp at this; omega
    simp [wNr_eq h4]
    refine wS_fl (fun r e => ∃ (w5 : Sl) (ks : List Int) (dz rz : List Int), e = [.ref (.ins "Pattern" []), .d S, .d (.lst (ps.map rowD)), .d (.tup (iL hs)), .d (rowD p), w5, .d (.lst (rs.map rowD)), .own (.dk (uD ks))] ∧ isRef w5 = false ∧ r = iL rz ∧ dz ++ rz = p.2 ∧ ks = addKs [] (hs ++ vals dn ++ dz)) ⟨w5, ks, [], p.2, rfl, h5, rfl, rfl, by rw [hk]; simp⟩ ?_ ?_
    · rintro J hJ x r e ⟨w5, ks, dz, rz, rfl, h5, hx, hd, hk⟩
      obtain ⟨z, rz, rfl, rfl, rfl⟩ := map_cons hx
      have hlk := addKs_len (ks := []) (zs := hs ++ vals dn ++ dz)
      rw [← hk] at hlk
      have hdz : dz.length ≤ p.2.length := by rw [← hd]; simp
      simp at hlk
      simp [wNr_eq h5]
      refine wC_in (by simp [lim]; omega) ?_
      rw [uD_put]
      refine hJ _ _ ⟨_, addK ks z, dz ++ [z], rz, rfl, rfl, rfl, by rw [← hd]; simp, ?_⟩
      rw [← List.append_assoc, addKs_app, ← hk]; rfl
    · rintro e ⟨w5, ks, dz, rz, rfl, h5, hx, hd2, hk⟩
      obtain rfl := map_nil' hx
      rw [List.append_nil] at hd2
      refine hJ _ _ ⟨_, w5, ks, dn ++ [p], rest, rfl, rfl, h5, rfl, by rw [← hd]; simp, ?_⟩
      rw [hk, hd2, vals_app, vals_one, List.append_assoc]
  rintro e ⟨w4, w5, ks, dn, rest, rfl, h4, h5, hx, hd, hk⟩
  obtain rfl := map_nil' hx
  rw [List.append_nil] at hd
  have hd := hd.symm
  subst hd
  clear hx
  have hkm : ∀ v, v ∈ ks ↔ 0 ≤ v ∧ v < n := fun v => by
    rw [hk, addKs_mem]
    simp only [List.not_mem_nil, false_or, List.mem_append, vals_mem]
    constructor
    · rintro (h | ⟨p, hp, h⟩)
      · exact hf.hv v h
      · exact (hf.rows p ((hmem p).mp hp)).vs v h
    · rintro ⟨h1, h2⟩
      rcases hf.all v h1 h2 with h | ⟨p, hp, h⟩
      · exact .inl h
      · exact .inr ⟨p, (hmem p).mpr hp, h⟩
  have hkn : ks.Nodup := by rw [hk]; exact addKs_nd List.nodup_nil
  have hkl : ks.length = n := nd_len hkn hkm
  apply hP; clear hP P
  (with_reducible refine wS_sq ?_); intro P hP; simp
  refine wIf_dec (fun h => ?_) (fun h => ?_)
  · omega
  apply hP; clear hP P
  (with_reducible refine wS_sq ?_); intro P hP; simp
  refine wC_in (rg (by omega) (by omega)) ?_
  rw [hkl, rng_ints]
  refine wS_fl (fun r e => ∃ (w5 : Sl) (zs : List Int), e = [.ref (.ins "Pattern" []), .d S, .d (.lst (ps.map rowD)), .d (.tup (iL hs)), w4, w5, .d (.lst (rs.map rowD)), .own (.dk (uD ks))] ∧ isRef w5 = false ∧ r = iL zs ∧ ∀ z ∈ zs, z ∈ ks) ⟨w5, rI n, rfl, h5, rfl, fun z hz => (hkm z).mpr (rI_mem.mp hz)⟩ ?_ ?_
  · rintro J hJ x r e ⟨w5, zs, rfl, h5, hx, hz⟩
    obtain ⟨z, zs, rfl, rfl, rfl⟩ := map_cons hx
    simp [wNr_eq h5]
    have q : (dlook (uD ks) (.inl z)).isSome = true := by
      rw [uD_look]
      exact decide_eq_true (hz z (List.mem_cons_self ..))
    refine wIf_in (fun h => ?_) (fun _ => ?_)
    · rw [Option.isNone_iff_eq_none] at h
      rw [h] at q
      cases q
    exact hJ _ _ ⟨_, zs, rfl, rfl, rfl, fun y hy => hz y (List.mem_cons_of_mem _ hy)⟩
  rintro e ⟨w5, zs, rfl, h5, hx, hz⟩
  apply hP; clear hP P
  (with_reducible refine wS_sq ?_); intro P hP; simp
  simp [put_s]
  apply hP; clear hP P
  (with_reducible refine wS_sq ?_); intro P hP; simp
  simp [put_r]
  apply hP; clear hP P
  (with_reducible refine wS_sq ?_); intro P hP; simp
  simp [put_h]
  apply hP; clear hP P
  simp
  simp [put_z, hkl]
  exact hQ rs hmem hl
def inn (hs : List Int) (n : Nat) : List Int := (rI n).filter fun z => !decide (z ∈ hs)
theorem inn_mem {hs : List Int} {n : Nat} {z : Int} : z ∈ inn hs n ↔ (0 ≤ z ∧ z < n) ∧ z ∉ hs := by
  unfold inn
  rw [List.mem_filter, rI_mem]
  simp
theorem inn_nd {hs : List Int} {n : Nat} : (inn hs n).Nodup := List.Pairwise.filter _ rI_nd
theorem inn_len {hs : List Int} {n : Nat} : (inn hs n).length ≤ n := by
  have := List.length_filter_le (fun z => !decide (z ∈ hs)) (rI n)
  rwa [rI_len] at this
theorem fm_inn {hs : List Int} : ∀ zs : List Int, (iL zs).filterMap (fun d => match d with | .int z => if z ∈ hs then none else some (D.int z) | _ => none) = iL (zs.filter fun z => !decide (z ∈ hs)) := fun zs => by
  induction zs with
  | nil => rfl
  | cons z zs ih =>
    simp only [iL, List.map_cons]
    rw [List.filterMap_cons, List.filter_cons]
    by_cases h : z ∈ hs
    · simp only [h, if_true, decide_true, Bool.not_true]
      exact ih
    · simp only [h, if_false, decide_false, Bool.not_false, if_true, List.map_cons]
      exact congrArg _ ih
theorem inner_ok {S : D} {rs : List (Str × List Int)} {hs : List Int} {n : Nat} {E : EF} {Q : R → List Sl → Prop} (hn : n ≤ 300) (hQ : Q (.d (.tup (iL (inn hs n)))) [.d (patD S rs hs n)]) : wF (fn_Pattern_inner [.d (patD S rs hs n)]) E Q := by
  unfold fn_Pattern_inner
  with_reducible refine wF_mk ?_
  unfold c_Pattern_inner
  simp [lk_z]
  with_reducible refine wC_in (rg (by omega) (by omega)) ?_
  rw [rng_ints]
  refine wO_lcP (fun d => match d with | .int z => if z ∈ hs then none else some (.int z) | _ => none) ?_ ?_
  · intro x hx
    obtain ⟨z, hz, rfl⟩ := List.mem_map.mp hx
    simp [lk_h]
    refine wIf_in (fun h => ?_) (fun h => ?_)
    · simpa using h
    · simpa using h
  have e2 : iL ((List.range n).map fun (k : Nat) => (k : Int)) = iL (rI n) := rfl
  rw [e2, fm_inn, show (rI n).filter (fun z => !decide (z ∈ hs)) = inn hs n from rfl]
  have hll : (iL (inn hs n)).length ≤ n := by
    rw [List.length_map]
    exact inn_len
  refine wC_in (by simp only [lim]; omega) ?_
  simpa using hQ
/-! ### the law's own -/
theorem law_inner_ok {ps : List (Str × List Int)} {hs : List Int} {n : Nat} {E : EF} {Q : R → List Sl → Prop} (hn : n ≤ 300) (hQ : Q (.new (.lst (iL (inn hs n)))) [.d (plainD ps hs n)]) : wF (fn__law_inner [.d (plainD ps hs n)]) E Q := by
  unfold fn__law_inner
  with_reducible refine wF_mk ?_
  unfold c__law_inner
  simp
  with_reducible refine wC_in (rg (by omega) (by omega)) ?_
  rw [rng_ints]
  refine wO_lcP (fun d => match d with | .int z => if z ∈ hs then none else some (.int z) | _ => none) ?_ ?_
  · intro x hx
    obtain ⟨z, hz, rfl⟩ := List.mem_map.mp hx
    simp
    refine wIf_in (fun h => ?_) (fun h => ?_)
    · simpa using h
    · simpa using h
  have e2 : iL ((List.range n).map fun (k : Nat) => (k : Int)) = iL (rI n) := rfl
  rw [e2, fm_inn, show (rI n).filter (fun z => !decide (z ∈ hs)) = inn hs n from rfl]
  have hll : (iL (inn hs n)).length ≤ n := by
    rw [List.length_map]
    exact inn_len
  refine wC_in (by simp only [lim]; omega) ?_
  simpa using hQ
theorem law_pattern_ok {ts : List (Str × Int)} {S : D} {ps : List (Str × List Int)} {hs : List Int} {n : Nat} {E : EF} {Q : R → List Sl → Prop} (ht : TabOk ts) (hS : SchOk ts S) (hf : FitOk ts ps hs n)
    (hQ : ∀ rs : List (Str × List Int), (∀ p, p ∈ rs ↔ p ∈ ps) → rs.length ≤ ps.length → Q (.new (patD S rs hs n)) [.d S, .d (plainD ps hs n)]) : wF (fn__law_pattern [.d S, .d (plainD ps hs n)]) E Q := by
  unfold fn__law_pattern
  with_reducible refine wF_mk ?_
  unfold c__law_pattern
  simp
  refine pattern_ok ht hS hf fun rs h1 h2 => ?_
  simp
  exact hQ rs h1 h2
/-! pairs -/
abbrev prD (p : Int × Int) : D := .tup [.int p.1, .int p.2]
abbrev pL (ps : List (Int × Int)) : List D := ps.map prD
theorem prD_inj {p q : Int × Int} (h : prD p = prD q) : p = q := by
  have h1 := D.tup.inj h
  simp at h1
  exact Prod.ext h1.1 h1.2
theorem pL_nb {ps : List (Int × Int)} : (pL ps).all (nb 1) = true := by
  rw [List.all_eq_true]
  intro x hx
  obtain ⟨p, _, rfl⟩ := List.mem_map.mp hx
  rfl
theorem inB_pr {ps : List (Int × Int)} {a b : Int} : inB (pL ps) (.tup [.int a, .int b]) = decide ((a, b) ∈ ps) := by
  have h := inB_iff (n := 1) (m := 1) (a := prD (a, b)) rfl (pL_nb (ps := ps))
  rw [Bool.eq_iff_iff, decide_eq_true_iff]
  refine h.trans ?_
  constructor
  · intro q
    obtain ⟨p, hp, e⟩ := List.mem_map.mp q
    rw [← prD_inj e]; exact hp
  · intro q
    exact List.mem_map.mpr ⟨_, q, rfl⟩
@[simp] theorem fNotIn_pr {ps : List (Int × Int)} {a b : Int} : fNotIn (.tup [.int a, .int b]) (.lst (pL ps)) = some (.d (.bl (!decide ((a, b) ∈ ps)))) := by
  rw [fNotIn_lst (n := 1) (m := 1) rfl pL_nb (by omega), inB_pr]
def nearP (P : List (Int × Int)) (v : Int) : List Int := (P.filter fun p => decide (p.1 = v)).map (·.2)
def addP (P : List (Int × Int)) (q : Int × Int) : List (Int × Int) := if q.1 ≠ q.2 ∧ q ∉ P then P ++ [q] else P
def cross (us ws : List Int) : List (Int × Int) := us.flatMap fun a => ws.map fun b => (a, b)
def takenP (P : List (Int × Int)) (v : Int) : List (Int × Int) := (cross (nearP P v) (nearP P v)).foldl addP (P.filter fun p => !decide (p.1 = v) && !decide (p.2 = v))
theorem near_ok {P : List (Int × Int)} {v : Int} {E : EF} {Q : R → List Sl → Prop} (hP : P.length ≤ 1000) (hQ : Q (.new (.lst (iL (nearP P v)))) [.d (.lst (pL P)), .d (.int v)]) : wF (fn__law_near [.d (.lst (pL P)), .d (.int v)]) E Q := by
  unfold fn__law_near
  with_reducible refine wF_mk ?_
  unfold c__law_near
  simp
  refine wO_lcP (fun d => match d with | .tup [.int a, .int b] => if a = v then some (.int b) else none | _ => none) ?_ ?_
  · intro x hx
    obtain ⟨p, hp, rfl⟩ := List.mem_map.mp hx
    simp
    refine wIf_dec (fun h => ?_) (fun h => ?_)
    · simp [h]
    · simp [h]
  have e : ∀ P : List (Int × Int), (pL P).filterMap (fun d => match d with | .tup [.int a, .int b] => if a = v then some (D.int b) else none | _ => none) = iL (nearP P v) := fun P => by
    induction P with
    | nil => rfl
    | cons p P ih =>
      simp only [pL, List.map_cons]
      rw [List.filterMap_cons]
      unfold nearP at ih ⊢
      rw [List.filter_cons]
      by_cases h : p.1 = v
      · simp only [h, if_true, decide_true, List.map_cons]
        exact congrArg _ ih
      · simp only [h, if_false, decide_false, Bool.false_eq_true]
        exact ih
  rw [e]
  have hl : (iL (nearP P v)).length ≤ P.length := by
    rw [List.length_map]
    unfold nearP
    rw [List.length_map]
    exact List.length_filter_le _ _
  refine wC_in (by simp only [lim]; omega) ?_
  simpa using hQ
theorem addP_len {P : List (Int × Int)} {q : Int × Int} : (addP P q).length ≤ P.length + 1 := by
  unfold addP
  split <;> simp
theorem foldP_len : ∀ {qs P : List (Int × Int)}, (qs.foldl addP P).length ≤ P.length + qs.length
  | [], P => by simp
  | q :: qs, P => by
    have h1 := foldP_len (qs := qs) (P := addP P q)
    have h2 := addP_len (P := P) (q := q)
    show ((qs.foldl addP (addP P q))).length ≤ _
    simp only [List.length_cons]
    omega
end Lw

namespace Lw
open PySem PySem.Spec PyProof.Rows L2 Sim SX
/-! ### pairs, plainly -/
theorem sub_len {α : Type} [DecidableEq α] : ∀ {l m : List α}, l.Nodup → (∀ x ∈ l, x ∈ m) → l.length ≤ m.length
  | [], m, _, _ => by simp
  | a :: l, m, hn, hs => by
    obtain ⟨h1, h2⟩ := List.nodup_cons.mp hn
    have ha := hs a (List.mem_cons_self ..)
    have := sub_len (l := l) (m := m.erase a) h2 fun x hx => (List.mem_erase_of_ne (fun e => h1 (by rw [← e]; exact hx))).mpr (hs x (List.mem_cons_of_mem _ hx))
    rw [List.length_erase_of_mem ha] at this
    have hp : 0 < m.length := List.length_pos_of_mem ha
    simp only [List.length_cons]
    omega
theorem near_mem {P : List (Int × Int)} {v z : Int} : z ∈ nearP P v ↔ (v, z) ∈ P := by
  unfold nearP
  simp only [List.mem_map, List.mem_filter, decide_eq_true_iff]
  constructor
  · rintro ⟨⟨a, b⟩, ⟨h1, h2⟩, h3⟩
    dsimp only at h2 h3
    rw [← h2, ← h3]; exact h1
  · intro h
    exact ⟨(v, z), ⟨h, rfl⟩, rfl⟩
theorem near_nd {P : List (Int × Int)} {v : Int} (h : P.Nodup) : (nearP P v).Nodup := by
  unfold nearP
  refine List.pairwise_map.mpr ?_
  refine List.Pairwise.imp_of_mem ?_ (List.Pairwise.filter _ h)
  intro a b ha hb hne e
  have h1 := of_decide_eq_true (List.mem_filter.mp ha).2
  have h2 := of_decide_eq_true (List.mem_filter.mp hb).2
  exact hne (Prod.ext (h1.trans h2.symm) e)
theorem cross_mem {us ws : List Int} {q : Int × Int} : q ∈ cross us ws ↔ q.1 ∈ us ∧ q.2 ∈ ws := by
  unfold cross
  simp only [List.mem_flatMap, List.mem_map]
  constructor
  · rintro ⟨a, ha, b, hb, rfl⟩; exact ⟨ha, hb⟩
  · rintro ⟨h1, h2⟩; exact ⟨q.1, h1, q.2, h2, rfl⟩
theorem cross_len {us ws : List Int} : (cross us ws).length = us.length * ws.length := by
  unfold cross
  induction us with
  | nil => simp
  | cons u us ih => rw [List.flatMap_cons, List.length_append, ih, List.length_map, List.length_cons, Nat.add_mul, Nat.one_mul, Nat.add_comm]
theorem addP_mem {P : List (Int × Int)} {q z : Int × Int} : z ∈ addP P q ↔ z ∈ P ∨ (z = q ∧ q.1 ≠ q.2) := by
  unfold addP
  split
  · rename_i h
    simp only [List.mem_append, List.mem_singleton]
    exact ⟨fun k => k.imp id fun e => ⟨e, h.1⟩, fun k => k.imp id fun e => e.1⟩
  · rename_i h
    constructor
    · exact .inl
    · rintro (k | ⟨rfl, k⟩)
      · exact k
      · exact Classical.byContradiction fun n => h ⟨k, n⟩
theorem addP_nd {P : List (Int × Int)} {q : Int × Int} (h : P.Nodup) : (addP P q).Nodup := by
  unfold addP
  split
  · rename_i k
    rw [List.nodup_append]
    exact ⟨h, by simp, fun a ha b hb => by rw [List.mem_singleton.mp hb]; exact fun z => k.2 (z ▸ ha)⟩
  · exact h
theorem foldP_mem : ∀ {qs P : List (Int × Int)} {z : Int × Int}, z ∈ qs.foldl addP P ↔ z ∈ P ∨ (z ∈ qs ∧ z.1 ≠ z.2)
  | [], P, z => by simp
  | q :: qs, P, z => by
    show z ∈ qs.foldl addP (addP P q) ↔ _
    rw [foldP_mem, addP_mem, List.mem_cons]
    constructor
    · rintro ((h | ⟨rfl, h⟩) | ⟨h1, h2⟩)
      · exact .inl h
      · exact .inr ⟨.inl rfl, h⟩
      · exact .inr ⟨.inr h1, h2⟩
    · rintro (h | ⟨rfl | h1, h2⟩)
      · exact .inl (.inl h)
      · exact .inl (.inr ⟨rfl, h2⟩)
      · exact .inr ⟨h1, h2⟩
theorem foldP_nd : ∀ {qs P : List (Int × Int)}, P.Nodup → (qs.foldl addP P).Nodup
  | [], P, h => h
  | q :: qs, P, h => foldP_nd (qs := qs) (addP_nd h)
theorem taken_mem {P : List (Int × Int)} {v a b : Int} : (a, b) ∈ takenP P v ↔ ((a, b) ∈ P ∧ a ≠ v ∧ b ≠ v) ∨ ((v, a) ∈ P ∧ (v, b) ∈ P ∧ a ≠ b) := by
  unfold takenP
  rw [foldP_mem, cross_mem, near_mem, near_mem, List.mem_filter]
  simp only [Bool.and_eq_true, Bool.not_eq_true', decide_eq_false_iff_not, and_assoc, ne_eq]
structure POk (m : Nat) (P : List (Int × Int)) : Prop where
  nd : P.Nodup
  vs : ∀ a b, (a, b) ∈ P → (0 ≤ a ∧ a < (m : Int)) ∧ (0 ≤ b ∧ b < (m : Int)) ∧ a ≠ b
  sy : ∀ a b, (a, b) ∈ P → (b, a) ∈ P
theorem POk.len {m : Nat} {P : List (Int × Int)} (h : POk m P) : P.length ≤ m * m := by
  have := sub_len (m := cross (rI m) (rI m)) h.nd fun p hp => cross_mem.mpr ⟨rI_mem.mpr (h.vs p.1 p.2 hp).1, rI_mem.mpr (h.vs p.1 p.2 hp).2.1⟩
  rwa [cross_len, rI_len] at this
theorem POk.near {m : Nat} {P : List (Int × Int)} (h : POk m P) (v : Int) : (nearP P v).length ≤ m := by
  have := sub_len (m := rI m) (near_nd (v := v) h.nd) fun z hz => rI_mem.mpr (h.vs _ _ (near_mem.mp hz)).2.1
  rwa [rI_len] at this
theorem POk.taken {m : Nat} {P : List (Int × Int)} (h : POk m P) (v : Int) : POk m (takenP P v) := by
  refine ⟨foldP_nd (List.Pairwise.filter _ h.nd), fun a b hab => ?_, fun a b hab => ?_⟩
  · rcases taken_mem.mp hab with ⟨k, _, _⟩ | ⟨k1, k2, k3⟩
    · exact h.vs a b k
    · exact ⟨(h.vs _ _ k1).2.1, (h.vs _ _ k2).2.1, k3⟩
  · rcases taken_mem.mp hab with ⟨k, k1, k2⟩ | ⟨k1, k2, k3⟩
    · exact taken_mem.mpr (.inl ⟨h.sy a b k, k2, k1⟩)
    · exact taken_mem.mpr (.inr ⟨k2, k1, fun e => k3 e.symm⟩)
theorem sq12 {m : Nat} (h : m ≤ 12) : m * m ≤ 144 := Nat.mul_le_mul h h
theorem taken_ok {m : Nat} {PP : List (Int × Int)} {v : Int} {E : EF} {Q : R → List Sl → Prop} (hK : POk m PP) (hm : m ≤ 12) (hQ : Q (.new (.lst (pL (takenP PP v)))) [.d (.lst (pL PP)), .d (.int v)]) : wF (fn__law_taken [.d (.lst (pL PP)), .d (.int v)]) E Q := by
  have hl := Nat.le_trans hK.len (sq12 hm)
  have hn := hK.near v
  unfold fn__law_taken
  with_reducible refine wF_mk ?_
  unfold c__law_taken
  (with_reducible refine wS_sq ?_); intro P hP; simp
  refine near_ok (by omega) ?_
  simp
  apply hP; clear hP P
  (with_reducible refine wS_sq ?_); intro P hP; simp
  refine wO_lcP (fun d => match d with | .tup [.int a, .int b] => if a ≠ v ∧ b ≠ v then some (.tup [.int a, .int b]) else none | _ => none) ?_ ?_
  · intro x hx
    obtain ⟨p, hp, rfl⟩ := List.mem_map.mp hx
    simp
    refine wIf_in (fun h => ?_) (fun h => ?_)
    · have h' : ¬ p.1 = v := by simpa using h
      refine wIf_in (fun k => ?_) (fun k => ?_)
      · have k' : ¬ p.2 = v := by simpa using k
        simp [h', k']
      · have k' : p.2 = v := by simpa using k
        simp [k']
    · have h' : p.1 = v := by simpa using h
      simp [h']
  have e : ∀ P0 : List (Int × Int), (pL P0).filterMap (fun d => match d with | .tup [.int a, .int b] => if a ≠ v ∧ b ≠ v then some (D.tup [.int a, .int b]) else none | _ => none) = pL (P0.filter fun p => !decide (p.1 = v) && !decide (p.2 = v)) := fun P0 => by
    induction P0 with
    | nil => rfl
    | cons p P0 ih =>
      simp only [pL, List.map_cons]
      rw [List.filterMap_cons, List.filter_cons]
      by_cases h : p.1 ≠ v ∧ p.2 ≠ v
      · simp only [h, if_true, ne_eq, not_false_iff, and_self, decide_false, Bool.not_false, Bool.and_self, List.map_cons]
        exact congrArg _ ih
      · have h2 : (!decide (p.1 = v) && !decide (p.2 = v)) = false := by
          rw [Bool.eq_false_iff]
          intro z
          simp at z
          exact h z
        simp only [h, h2, if_false, Bool.false_eq_true]
        exact ih
  rw [e]
  have hfl : (PP.filter fun p => !decide (p.1 = v) && !decide (p.2 = v)).length ≤ PP.length := List.length_filter_le _ _
  have hTe : takenP PP v = (cross (nearP PP v) (nearP PP v)).foldl addP (PP.filter fun p => !decide (p.1 = v) && !decide (p.2 = v)) := rfl
  rw [hTe] at hQ
  generalize (PP.filter fun p => !decide (p.1 = v) && !decide (p.2 = v)) = F at hQ hfl ⊢
  generalize nearP PP v = us at hQ hn ⊢
  refine wC_in (by simp [lim]; omega) ?_
  simp
  apply hP; clear hP P
  (with_reducible refine wS_sq ?_); intro P hP; simp
  refine wS_fl (fun r e => ∃ (w4 w5 : Sl) (da ra : List Int), e = [.d (.lst (pL PP)), .d (.int v), .d (.lst (iL us)), .own (.lst (pL ((cross da us).foldl addP F))), w4, w5, .no] ∧ isRef w4 = false ∧ isRef w5 = false ∧ r = iL ra ∧ da ++ ra = us) ⟨.no, .no, [], us, rfl, rfl, rfl, rfl, rfl⟩ ?_ ?_
  · rintro J hJ x r e ⟨w4, w5, da, ra, rfl, h4, h5, hx, hd⟩
    obtain ⟨a, ra, rfl, rfl, rfl⟩ := map_cons hx
    have hda : da.length ≤ us.length := by rw [← hd]; simp
    simp [wNr_eq h4]
    refine wS_fl (fun r e => ∃ (w5 : Sl) (db rb : List Int), e = [.d (.lst (pL PP)), .d (.int v), .d (.lst (iL us)), .own (.lst (pL ((cross da us ++ db.map fun b => (a, b)).foldl addP F))), .d (.int a), w5, .no] ∧ isRef w5 = false ∧ r = iL rb ∧ db ++ rb = us) ⟨w5, [], us, by simp, h5, rfl, rfl⟩ ?_ ?_
    · rintro J hJ x r e ⟨w5, db, rb, rfl, h5, hx, hd2⟩
      obtain ⟨b, rb, rfl, rfl, rfl⟩ := map_cons hx
      have hdb : db.length ≤ us.length := by rw [← hd2]; simp
      have hfo := foldP_len (qs := cross da us ++ db.map fun b => (a, b)) (P := F)
      rw [List.length_append, cross_len, List.length_map] at hfo
      have hmul : da.length * us.length ≤ 12 * 12 := Nat.mul_le_mul (by omega) (by omega)
      have hnext : (cross da us ++ (db ++ [b]).map fun b => (a, b)).foldl addP F = addP ((cross da us ++ db.map fun b => (a, b)).foldl addP F) (a, b) := by
        rw [List.map_append, ← List.append_assoc, List.foldl_append]; rfl
      have fin : J (iL rb) [.d (.lst (pL PP)), .d (.int v), .d (.lst (iL us)), .own (.lst (pL (addP ((cross da us ++ db.map fun b => (a, b)).foldl addP F) (a, b)))), .d (.int a), .d (.int b), .no] :=
        hJ _ _ ⟨_, db ++ [b], rb, by rw [hnext], rfl, rfl, by rw [← hd2]; simp⟩
      clear hnext
      generalize (cross da us ++ db.map fun b => (a, b)).foldl addP F = G at fin hfo ⊢
      simp [wNr_eq h5]
      refine wIf_in (fun h => ?_) (fun h => ?_)
      · have h' : ¬ a = b := by simpa using h
        simp [lim]
        refine wIf_in (fun k => ?_) (fun k => ?_)
        · have k' : (a, b) ∉ G := by simpa using k
          refine wC_in (by omega) ?_
          rw [addP, if_pos ⟨h', k'⟩] at fin
          simpa using fin
        · have k' : (a, b) ∈ G := by simpa using k
          rw [addP, if_neg (fun z => z.2 k')] at fin
          simpa using fin
      · have h' : a = b := by simpa using h
        rw [addP, if_neg (fun z => z.1 h')] at fin
        simpa using fin
    · rintro e ⟨w5, db, rb, rfl, h5, hx, hd2⟩
      obtain rfl := map_nil' hx
      rw [List.append_nil] at hd2
      subst hd2
      refine hJ _ _ ⟨.d (.int a), w5, da ++ [a], ra, ?_, rfl, h5, rfl, by rw [← hd]; simp⟩
      have : cross (da ++ [a]) db = cross da db ++ db.map fun b => (a, b) := by simp [cross]
      rw [this]
  · rintro e ⟨w4, w5, da, ra, rfl, h4, h5, hx, hd⟩
    obtain rfl := map_nil' hx
    rw [List.append_nil] at hd
    subst hd
    apply hP; clear hP P
    simp
    simpa using hQ

/-! pairs of a pattern -/
def addH (hs : List Int) (P : List (Int × Int)) (q : Int × Int) : List (Int × Int) := if q.1 ≠ q.2 ∧ q.1 ∉ hs ∧ q.2 ∉ hs ∧ q ∉ P then P ++ [q] else P
def pairsP (ps : List (Str × List Int)) (hs : List Int) : List (Int × Int) := (ps.flatMap fun p => cross p.2 p.2).foldl (addH hs) []
theorem addH_mem {hs : List Int} {P : List (Int × Int)} {q z : Int × Int} : z ∈ addH hs P q ↔ z ∈ P ∨ (z = q ∧ q.1 ≠ q.2 ∧ q.1 ∉ hs ∧ q.2 ∉ hs) := by
  unfold addH
  split
  · rename_i h
    simp only [List.mem_append, List.mem_singleton]
    exact ⟨fun k => k.imp id fun e => ⟨e, h.1, h.2.1, h.2.2.1⟩, fun k => k.imp id fun e => e.1⟩
  · rename_i h
    constructor
    · exact .inl
    · rintro (k | ⟨rfl, k, k1, k2⟩)
      · exact k
      · exact Classical.byContradiction fun n => h ⟨k, k1, k2, n⟩
theorem addH_nd {hs : List Int} {P : List (Int × Int)} {q : Int × Int} (h : P.Nodup) : (addH hs P q).Nodup := by
  unfold addH
  split
  · rename_i k
    rw [List.nodup_append]
    exact ⟨h, by simp, fun a ha b hb => by rw [List.mem_singleton.mp hb]; exact fun z => k.2.2.2 (z ▸ ha)⟩
  · exact h
theorem addH_len {hs : List Int} {P : List (Int × Int)} {q : Int × Int} : (addH hs P q).length ≤ P.length + 1 := by
  unfold addH
  split <;> simp
theorem foldH_mem {hs : List Int} : ∀ {qs P : List (Int × Int)} {z : Int × Int}, z ∈ qs.foldl (addH hs) P ↔ z ∈ P ∨ (z ∈ qs ∧ z.1 ≠ z.2 ∧ z.1 ∉ hs ∧ z.2 ∉ hs)
  | [], P, z => by simp
  | q :: qs, P, z => by
    show z ∈ qs.foldl (addH hs) (addH hs P q) ↔ _
    rw [foldH_mem, addH_mem, List.mem_cons]
    constructor
    · rintro ((h | ⟨rfl, h⟩) | ⟨h1, h2⟩)
      · exact .inl h
      · exact .inr ⟨.inl rfl, h⟩
      · exact .inr ⟨.inr h1, h2⟩
    · rintro (h | ⟨rfl | h1, h2⟩)
      · exact .inl (.inl h)
      · exact .inl (.inr ⟨rfl, h2⟩)
      · exact .inr ⟨h1, h2⟩
theorem foldH_nd {hs : List Int} : ∀ {qs P : List (Int × Int)}, P.Nodup → (qs.foldl (addH hs) P).Nodup
  | [], P, h => h
  | q :: qs, P, h => foldH_nd (qs := qs) (addH_nd h)
theorem foldH_len {hs : List Int} : ∀ {qs P : List (Int × Int)}, (qs.foldl (addH hs) P).length ≤ P.length + qs.length
  | [], P => by simp
  | q :: qs, P => by
    have h1 := foldH_len (hs := hs) (qs := qs) (P := addH hs P q)
    have h2 := addH_len (hs := hs) (P := P) (q := q)
    show ((qs.foldl (addH hs) (addH hs P q))).length ≤ _
    simp only [List.length_cons]
    omega
theorem pairs_mem {ps : List (Str × List Int)} {hs : List Int} {a b : Int} : (a, b) ∈ pairsP ps hs ↔ (∃ p ∈ ps, a ∈ p.2 ∧ b ∈ p.2) ∧ a ≠ b ∧ a ∉ hs ∧ b ∉ hs := by
  unfold pairsP
  rw [foldH_mem]
  simp only [List.not_mem_nil, false_or, List.mem_flatMap, cross_mem]
theorem pairs_nd {ps : List (Str × List Int)} {hs : List Int} : (pairsP ps hs).Nodup := foldH_nd List.nodup_nil
theorem pairs_POk {ts : List (Str × Int)} {ps : List (Str × List Int)} {hs : List Int} {n : Nat} (hf : FitOk ts ps hs n) : POk n (pairsP ps hs) := by
  refine ⟨pairs_nd, fun a b h => ?_, fun a b h => ?_⟩
  · obtain ⟨⟨p, hp, h1, h2⟩, h3, _⟩ := pairs_mem.mp h
    exact ⟨(hf.rows p hp).vs a h1, (hf.rows p hp).vs b h2, h3⟩
  · obtain ⟨⟨p, hp, h1, h2⟩, h3, h4, h5⟩ := pairs_mem.mp h
    exact pairs_mem.mpr ⟨⟨p, hp, h2, h1⟩, fun e => h3 e.symm, h5, h4⟩
theorem flat_len {ts : List (Str × Int)} (ht : TabOk ts) {n : Int} : ∀ {rows : List (Str × List Int)}, (∀ p ∈ rows, RowOk ts n p) → (rows.flatMap fun p => cross p.2 p.2).length ≤ 16 * rows.length
  | [], _ => by simp
  | p :: rows, h => by
    have h1 := flat_len ht (rows := rows) fun q hq => h q (List.mem_cons_of_mem _ hq)
    have h2 := (ht.wi _ (h p (List.mem_cons_self ..)).tb).2
    dsimp only at h2
    have h3 : p.2.length * p.2.length ≤ 4 * 4 := Nat.mul_le_mul (by omega) (by omega)
    rw [List.flatMap_cons, List.length_append, cross_len, List.length_cons]
    omega
theorem pairs_ok {ts : List (Str × Int)} {ps : List (Str × List Int)} {hs : List Int} {n : Nat} {E : EF} {Q : R → List Sl → Prop} (ht : TabOk ts) (hf : FitOk ts ps hs n) (hQ : Q (.new (.lst (pL (pairsP ps hs)))) [.d (plainD ps hs n)]) : wF (fn__law_pairs [.d (plainD ps hs n)]) E Q := by
  have h8 := hf.le
  unfold fn__law_pairs
  with_reducible refine wF_mk ?_
  unfold c__law_pairs
  (with_reducible refine wS_sq ?_); intro P hP; simp
  apply hP; clear hP P
  (with_reducible refine wS_sq ?_); intro P hP; simp
  refine wS_fl (fun r e => ∃ (w2 w3 w4 : Sl) (dn rest : List (Str × List Int)), e = [.d (plainD ps hs n), .own (.lst (pL (pairsP dn hs))), w2, w3, w4] ∧ isRef w2 = false ∧ isRef w3 = false ∧ isRef w4 = false ∧ r = rest.map rowD ∧ dn ++ rest = ps) ⟨.no, .no, .no, [], ps, rfl, rfl, rfl, rfl, rfl, rfl⟩ ?_ ?_
  · rintro J hJ x r e ⟨w2, w3, w4, dn, rest, rfl, h2, h3, h4, hx, hd⟩
    obtain ⟨p, rest, rfl, rfl, rfl⟩ := map_cons hx
    have hrow : ∀ q ∈ dn ++ p :: rest, RowOk ts n q := fun q hq => hf.rows q (by rw [← hd]; exact hq)
    have hfl := flat_len ht (rows := dn) fun q hq => hrow q (List.mem_append_left _ hq)
    have hw := (ht.wi _ (hrow p (by simp)).tb).2
    dsimp only at hw
    have hdl : dn.length ≤ 500 := by
      have := congrArg List.length hd
      simp at this; omega
    simp [wNr_eq h2]
    refine wS_fl (fun r e => ∃ (w3 w4 : Sl) (da ra : List Int), e = [.d (plainD ps hs n), .own (.lst (pL (((dn.flatMap fun p => cross p.2 p.2) ++ cross da p.2).foldl (addH hs) []))), .d (rowD p), w3, w4] ∧ isRef w3 = false ∧ isRef w4 = false ∧ r = iL ra ∧ da ++ ra = p.2) ⟨w3, w4, [], p.2, by simp [cross, pairsP], h3, h4, rfl, rfl⟩ ?_ ?_
    · rintro J hJ x r e ⟨w3, w4, da, ra, rfl, h3, h4, hx, hd2⟩
      obtain ⟨a, ra, rfl, rfl, rfl⟩ := map_cons hx
      have hda : da.length ≤ p.2.length := by rw [← hd2]; simp
      simp [wNr_eq h3]
      refine wS_fl (fun r e => ∃ (w4 : Sl) (db rb : List Int), e = [.d (plainD ps hs n), .own (.lst (pL (((dn.flatMap fun p => cross p.2 p.2) ++ cross da p.2 ++ db.map fun b => (a, b)).foldl (addH hs) []))), .d (rowD p), .d (.int a), w4] ∧ isRef w4 = false ∧ r = iL rb ∧ db ++ rb = p.2) ⟨w4, [], p.2, by simp, h4, rfl, rfl⟩ ?_ ?_
      · rintro J hJ x r e ⟨w4, db, rb, rfl, h4, hx, hd3⟩
        obtain ⟨b, rb, rfl, rfl, rfl⟩ := map_cons hx
        have hdb : db.length ≤ p.2.length := by rw [← hd3]; simp
        have hfo := foldH_len (hs := hs) (qs := (dn.flatMap fun p => cross p.2 p.2) ++ cross da p.2 ++ db.map fun b => (a, b)) (P := [])
        rw [List.length_append, List.length_append, cross_len, List.length_map] at hfo
        have hmul : da.length * p.2.length ≤ 4 * 4 := Nat.mul_le_mul (by omega) (by omega)
        have hnext : ((dn.flatMap fun p => cross p.2 p.2) ++ cross da p.2 ++ (db ++ [b]).map fun b => (a, b)).foldl (addH hs) [] = addH hs (((dn.flatMap fun p => cross p.2 p.2) ++ cross da p.2 ++ db.map fun b => (a, b)).foldl (addH hs) []) (a, b) := by
          rw [List.map_append, ← List.append_assoc, List.foldl_append]; rfl
        have fin : J (iL rb) [.d (plainD ps hs n), .own (.lst (pL (addH hs (((dn.flatMap fun p => cross p.2 p.2) ++ cross da p.2 ++ db.map fun b => (a, b)).foldl (addH hs) []) (a, b)))), .d (rowD p), .d (.int a), .d (.int b)] :=
          hJ _ _ ⟨_, db ++ [b], rb, by rw [hnext], rfl, rfl, by rw [← hd3]; simp⟩
        clear hnext
        generalize ((dn.flatMap fun p => cross p.2 p.2) ++ cross da p.2 ++ db.map fun b => (a, b)).foldl (addH hs) [] = G at fin hfo ⊢
        simp only [List.length_nil] at hfo
        have no : ¬ (a ≠ b ∧ a ∉ hs ∧ b ∉ hs ∧ (a, b) ∉ G) → J (iL rb) [.d (plainD ps hs n), .own (.lst (pL G)), .d (rowD p), .d (.int a), .d (.int b)] := fun z => by
          rw [addH, if_neg z] at fin
          exact fin
        have yes : (a ≠ b ∧ a ∉ hs ∧ b ∉ hs ∧ (a, b) ∉ G) → J (iL rb) [.d (plainD ps hs n), .own (.lst (pL G ++ [.tup [.int a, .int b]])), .d (rowD p), .d (.int a), .d (.int b)] := fun z => by
          rw [addH, if_pos z] at fin
          simpa using fin
        simp [wNr_eq h4, lim]
        refine wIf_in (fun k1 => ?_) (fun k1 => no fun z => by simp [z.1] at k1)
        have k1 : ¬ a = b := by simpa using k1
        refine wIf_in (fun k2 => ?_) (fun k2 => no fun z => by simp [z.2.1] at k2)
        have k2 : a ∉ hs := by simpa using k2
        refine wIf_in (fun k3 => ?_) (fun k3 => no fun z => by simp [z.2.2.1] at k3)
        have k3 : b ∉ hs := by simpa using k3
        refine wIf_in (fun k4 => ?_) (fun k4 => no fun z => by simp [z.2.2.2] at k4)
        have k4 : (a, b) ∉ G := by simpa using k4
        refine wC_in (by omega) ?_
        exact yes ⟨k1, k2, k3, k4⟩
      · rintro e ⟨w4, db, rb, rfl, h4, hx, hd3⟩
        obtain rfl := map_nil' hx
        rw [List.append_nil] at hd3
        subst hd3
        refine hJ _ _ ⟨.d (.int a), w4, da ++ [a], ra, ?_, rfl, h4, rfl, by rw [← hd2]; simp⟩
        have : cross (da ++ [a]) p.2 = cross da p.2 ++ p.2.map fun b => (a, b) := by simp [cross]
        rw [this, List.append_assoc]
    · rintro e ⟨w3, w4, da, ra, rfl, h3, h4, hx, hd2⟩
      obtain rfl := map_nil' hx
      rw [List.append_nil] at hd2
      subst hd2
      refine hJ _ _ ⟨.d (rowD p), w3, w4, dn ++ [p], rest, ?_, rfl, h3, h4, rfl, by rw [← hd]; simp⟩
      unfold pairsP
      rw [List.flatMap_append]
      simp
  · rintro e ⟨w2, w3, w4, dn, rest, rfl, h2, h3, h4, hx, hd⟩
    obtain rfl := map_nil' hx
    rw [List.append_nil] at hd
    subst hd
    apply hP; clear hP P
    simp
    simpa using hQ
end Lw

namespace Lw
open PySem PySem.Spec PyProof.Rows L2 Sim SX
/-! ### the law's quick order, the law's width LOOPS -/
def best (G : List (Int × Int)) (l : List Int) (b : Int) : Int := l.foldl (fun b v => if (nearP G v).length < (nearP G b).length then v else b) b
def quickP : Nat → List (Int × Int) → List Int → List Int
  | 0, _, _ => []
  | k + 1, G, l => best G l (l.headD 0) :: quickP k (takenP G (best G l (l.headD 0))) (l.filter fun v => !decide (v = best G l (l.headD 0)))
def widthP : List (Int × Int) → List Int → Int → Int
  | _, [], w => w
  | G, v :: r, w => widthP (takenP G v) r (if w < ((nearP G v).length : Int) then ((nearP G v).length : Int) else w)
theorem best_mem (G : List (Int × Int)) : ∀ (l : List Int) (b : Int), best G l b = b ∨ best G l b ∈ l
  | [], b => .inl rfl
  | v :: l, b => by
    show best G l (if (nearP G v).length < (nearP G b).length then v else b) = b ∨ _
    rcases best_mem G l (if (nearP G v).length < (nearP G b).length then v else b) with h | h
    · split at h
      · right
        show best G l (if (nearP G v).length < (nearP G b).length then v else b) ∈ _
        rw [if_pos (by assumption), h]; exact List.mem_cons_self ..
      · left
        rw [if_neg (by assumption)]; exact h
    · right
      exact List.mem_cons_of_mem _ h
theorem best_in (G : List (Int × Int)) {l : List Int} (h : l ≠ []) : best G l (l.headD 0) ∈ l := by
  rcases best_mem G l (l.headD 0) with q | q
  · cases l with
    | nil => exact absurd rfl h
    | cons v l => rw [q]; exact List.mem_cons_self ..
  · exact q
theorem rem_len {l : List Int} {b : Int} (hn : l.Nodup) (hb : b ∈ l) : (l.filter fun v => !decide (v = b)).length + 1 = l.length := by
  induction l with
  | nil => cases hb
  | cons v l ih =>
    obtain ⟨h1, h2⟩ := List.nodup_cons.mp hn
    rw [List.filter_cons]
    by_cases e : v = b
    · have hb' : b ∉ l := e ▸ h1
      have : l.filter (fun v => !decide (v = b)) = l := List.filter_eq_self.mpr fun a ha => by
        have : a ≠ b := fun z => hb' (z ▸ ha)
        simp [this]
      simp [e, this]
    · have hb' : b ∈ l := (List.mem_cons.mp hb).elim (fun z => absurd z.symm e) id
      have := ih h2 hb'
      simp [e]
      omega
theorem fm_ne {b : Int} : ∀ zs : List Int, (iL zs).filterMap (fun d => match d with | .int z => if z = b then none else some (D.int z) | _ => none) = iL (zs.filter fun z => !decide (z = b)) := fun zs => by
  induction zs with
  | nil => rfl
  | cons z zs ih =>
    simp only [iL, List.map_cons]
    rw [List.filterMap_cons, List.filter_cons]
    by_cases h : z = b
    · simp only [h, if_true, decide_true, Bool.not_true]
      exact ih
    · simp only [h, if_false, decide_false, Bool.not_false, if_true, List.map_cons]
      exact congrArg _ ih
def sft (s : Sl) (x : D) : Prop := s = .own x ∨ s = .d x
theorem pairs_ok' {pp : D} {ts : List (Str × Int)} {ps : List (Str × List Int)} {hs : List Int} {n : Nat} {E : EF} {Q : R → List Sl → Prop} (hpp : plainD ps hs n = pp) (ht : TabOk ts) (hf : FitOk ts ps hs n) (hQ : Q (.new (.lst (pL (pairsP ps hs)))) [.d pp]) : wF (fn__law_pairs [.d pp]) E Q := by
  subst hpp
  exact pairs_ok ht hf hQ
theorem law_inner_ok' {pp : D} {ps : List (Str × List Int)} {hs : List Int} {n : Nat} {E : EF} {Q : R → List Sl → Prop} (hpp : plainD ps hs n = pp) (hn : n ≤ 300) (hQ : Q (.new (.lst (iL (inn hs n)))) [.d pp]) : wF (fn__law_inner [.d pp]) E Q := by
  subst hpp
  exact law_inner_ok hn hQ
theorem law_quick_ok {ts : List (Str × Int)} {ps : List (Str × List Int)} {hs : List Int} {n : Nat} {E : EF} {Q : R → List Sl → Prop} (ht : TabOk ts) (hf : FitOk ts ps hs n) (hn : n ≤ 12) (hQ : Q (.new (.lst (iL (quickP (inn hs n).length (pairsP ps hs) (inn hs n))))) [.d (plainD ps hs n)]) : wF (fn__law_quick [.d (plainD ps hs n)]) E Q := by
  generalize hpp : plainD ps hs n = pp at hQ ⊢
  unfold fn__law_quick
  with_reducible refine wF_mk ?_
  unfold c__law_quick
  (with_reducible refine wS_sq ?_); intro P hP; simp
  refine pairs_ok' hpp ht hf ?_
  simp
  apply hP; clear hP P
  (with_reducible refine wS_sq ?_); intro P hP; simp
  refine law_inner_ok' hpp (by omega) ?_
  simp
  apply hP; clear hP P
  (with_reducible refine wS_sq ?_); intro P hP; simp
  apply hP; clear hP P
  have hil := inn_len (hs := hs) (n := n)
  (with_reducible refine wS_sq ?_); intro P hP; simp
  with_reducible refine wC_in (rg (by omega) (by omega)) ?_
  with_reducible refine wS_fl (fun r e => ∃ (w4 w5 w6 : Sl) (G : List (Int × Int)) (l ord : List Int), e = [.d pp, .own (.lst (pL G)), .own (.lst (iL l)), .own (.lst (iL ord)), w4, w5, w6] ∧ isRef w4 = false ∧ isRef w5 = false ∧ isRef w6 = false ∧ POk n G ∧ l.Nodup ∧ l.length = r.length ∧ ord.length + l.length = (inn hs n).length ∧ ord ++ quickP r.length G l = quickP (inn hs n).length (pairsP ps hs) (inn hs n)) ?_ ?_ ?_
  · exact ⟨.no, .no, .no, pairsP ps hs, inn hs n, [], rfl, rfl, rfl, rfl, pairs_POk hf, inn_nd, by simp [rng], by simp, by simp [rng]⟩
  · rintro J hJ x r e ⟨w4, w5, w6, G, l, ord, rfl, h4, h5, h6, hG, hl, hlr, hol, hq⟩
    have hGl := Nat.le_trans hG.len (sq12 hn)
    have hne : l ≠ [] := fun z => by rw [z] at hlr; cases hlr
    obtain ⟨b0, l', hl'⟩ := List.exists_cons_of_ne_nil hne
    have hb0 : l.headD 0 = b0 := by rw [hl']; rfl
    have hat : atI (iL l) 0 = some (.int b0) := by rw [hl']; exact atI_0
    have hbi := best_in G hne
    rw [List.length_cons] at hq
    rw [quickP] at hq
    rw [hb0] at hq hbi
    have hrl := rem_len hl hbi
    have hlil : l.length ≤ n := by omega
    · skip
      simp [wNr_eq h4]
      (with_reducible refine wS_sq ?_); intro P hP; simp
      simp [hat, wNr_eq h5]
      apply hP; clear hP P
      (with_reducible refine wS_sq ?_); intro P hP; simp
      with_reducible refine wS_fl (fun r e => ∃ (w1 w6 : Sl) (b : Int) (rest : List Int), e = [.d pp, w1, .d (.lst (iL l)), .own (.lst (iL ord)), .d x, .d (.int b), w6] ∧ sft w1 (.lst (pL G)) ∧ isRef w6 = false ∧ r = iL rest ∧ best G rest b = best G l b0) ?_ ?_ ?_
      · exact ⟨_, w6, b0, l, rfl, .inl rfl, h6, rfl, rfl⟩
      · rintro J hJ y r e ⟨w1, w6, b, rest, rfl, h1, h6, hx, hb⟩
        obtain ⟨v, rest, rfl, rfl, rfl⟩ := map_cons hx
        have hb : best G rest (if (nearP G v).length < (nearP G b).length then v else b) = best G l b0 := hb
        rcases h1 with rfl | rfl
        all_goals
          simp [wNr_eq h6]
          refine near_ok (by omega) ?_
          simp
          refine near_ok (by omega) ?_
          simp
          refine wIf_dec (fun h => ?_) (fun h => ?_)
          · rw [if_pos (by omega)] at hb
            exact hJ _ _ ⟨_, _, v, rest, rfl, .inr rfl, rfl, rfl, hb⟩
          · rw [if_neg (by omega)] at hb
            exact hJ _ _ ⟨_, _, b, rest, rfl, .inr rfl, rfl, rfl, hb⟩
      rintro e ⟨w1, w6, b, rest, rfl, h1, h6, hx, hb⟩
      obtain rfl := map_nil' hx
      have hb : b = best G l b0 := hb
      rw [← hb] at hq hrl
      apply hP; clear hP P
      (with_reducible refine wS_sq ?_); intro P hP; simp
      refine wC_in (by simp [lim]; omega) ?_
      apply hP; clear hP P
      (with_reducible refine wS_sq ?_); intro P hP
      have fin : P [.d pp, .own (.lst (pL (takenP G b))), .d (.lst (iL l)), .own (.lst (iL ord ++ [.int b])), .d x, .d (.int b), w6] := by
        apply hP
        simp
        refine wO_lcP (fun d => match d with | .int z => if z = b then none else some (.int z) | _ => none) ?_ ?_
        · intro y hy
          obtain ⟨z, hz, rfl⟩ := List.mem_map.mp hy
          simp
          refine wIf_in (fun h => ?_) (fun h => ?_)
          · have h : ¬ z = b := by simpa using h
            simp [h]
          · have h : z = b := by simpa using h
            simp [h]
        rw [fm_ne]
        refine wC_in (by simp [lim]; omega) ?_
        simp
        refine hJ _ _ ⟨.d x, .d (.int b), w6, takenP G b, l.filter fun v => !decide (v = b), ord ++ [b], by simp, rfl, rfl, h6, hG.taken b, List.Pairwise.filter _ hl, ?_, ?_, ?_⟩
        · simp only [List.length_cons] at hlr
          omega
        · simp only [List.length_append, List.length_cons, List.length_nil]
          omega
        · rw [List.append_assoc]; exact hq
      rcases h1 with rfl | rfl
      all_goals
        simp
        refine taken_ok hG hn ?_
        simp
        exact fin
  · rintro e ⟨w4, w5, w6, G, l, ord, rfl, h4, h5, h6, hG, hl, hlr, hol, hq⟩
    apply hP; clear hP P
    have hq : ord ++ [] = _ := hq
    rw [List.append_nil] at hq
    rw [hq]
    simp
    exact hQ
theorem law_width_ok {ts : List (Str × Int)} {ps : List (Str × List Int)} {hs ord : List Int} {n : Nat} {E : EF} {Q : R → List Sl → Prop} (ht : TabOk ts) (hf : FitOk ts ps hs n) (hn : n ≤ 12) (hQ : Q (.d (.int (widthP (pairsP ps hs) ord 0))) [.d (plainD ps hs n), .d (.lst (iL ord))]) : wF (fn__law_width [.d (plainD ps hs n), .d (.lst (iL ord))]) E Q := by
  generalize hpp : plainD ps hs n = pp at hQ ⊢
  unfold fn__law_width
  with_reducible refine wF_mk ?_
  unfold c__law_width
  (with_reducible refine wS_sq ?_); intro P hP; simp
  refine pairs_ok' hpp ht hf ?_
  simp
  apply hP; clear hP P
  (with_reducible refine wS_sq ?_); intro P hP; simp
  apply hP; clear hP P
  (with_reducible refine wS_sq ?_); intro P hP; simp
  with_reducible refine wS_fl (fun r e => ∃ (w4 : Sl) (G : List (Int × Int)) (l : List Int) (w : Int), e = [.d pp, .d (.lst (iL ord)), .own (.lst (pL G)), .d (.int w), w4] ∧ isRef w4 = false ∧ r = iL l ∧ POk n G ∧ widthP G l w = widthP (pairsP ps hs) ord 0) ?_ ?_ ?_
  · exact ⟨.no, pairsP ps hs, ord, 0, rfl, rfl, rfl, pairs_POk hf, rfl⟩
  · rintro J hJ x r e ⟨w4, G, l, w, rfl, h4, hx, hG, hw⟩
    obtain ⟨v, l, rfl, rfl, rfl⟩ := map_cons hx
    have hGl := Nat.le_trans hG.len (sq12 hn)
    rw [widthP] at hw
    · skip
      simp [wNr_eq h4]
      (with_reducible refine wS_sq ?_); intro P hP; simp
      refine near_ok (by omega) ?_
      simp
      refine wIf_dec (fun h => ?_) (fun h => ?_)
      · rw [if_pos h] at hw
        refine near_ok (by omega) ?_
        simp
        apply hP; clear hP P
        simp
        refine taken_ok hG hn ?_
        simp
        exact hJ _ _ ⟨_, takenP G v, l, _, rfl, rfl, rfl, hG.taken v, hw⟩
      · rw [if_neg h] at hw
        apply hP; clear hP P
        simp
        refine taken_ok hG hn ?_
        simp
        exact hJ _ _ ⟨_, takenP G v, l, _, rfl, rfl, rfl, hG.taken v, hw⟩
  · rintro e ⟨w4, G, l, w, rfl, h4, hx, hG, hw⟩
    obtain rfl := map_nil' hx
    have hw : w = _ := hw
    apply hP; clear hP P
    simp
    rw [hw]
    exact hQ
end Lw

namespace Lw
open PySem PySem.Spec PyProof.Rows L2 Sim SX
/-! ### neighbours in a dict LOOPS -/
abbrev nf (ks : List Int) (f : Int → List Int) : List (Key × D) := ks.map fun k => (Sum.inl k, D.lst (iL (f k)))
def upF (f : Int → List Int) (v : Int) (l : List Int) : Int → List Int := fun k => if k = v then l else f k
theorem nf_keys {ks : List Int} {f : Int → List Int} {v : Int} : (Sum.inl v : Key) ∈ (nf ks f).map (·.1) ↔ v ∈ ks := by simp
theorem nf_look {ks : List Int} {f : Int → List Int} {v : Int} (h : v ∈ ks) : dlook (nf ks f) (.inl v) = some (.lst (iL (f v))) :=
  dlook_map (ke := fun k : Int => (Sum.inl k : Key)) (va := fun k => D.lst (iL (f k))) (b := v) (fun a _ e => Sum.inl.inj e) h
theorem nf_is {ks : List Int} {f : Int → List Int} {v : Int} : (dlook (nf ks f) (.inl v)).isSome = decide (v ∈ ks) := by
  rw [Bool.eq_iff_iff, dlook_iff, decide_eq_true_iff]
  simp
theorem nf_put {ks : List Int} {f : Int → List Int} {v : Int} {l : List Int} (h : v ∈ ks) : dput (nf ks f) (.inl v) (.lst (iL l)) = nf ks (upF f v l) := by
  rw [dput_old (nf_keys.mpr h), nf, List.map_map]
  refine List.map_congr_left fun k _ => ?_
  simp only [Function.comp, upF]
  by_cases e : k = v
  · simp [e]
  · simp [e]
theorem nf_new {ks : List Int} {f : Int → List Int} {v : Int} {l : List Int} (h : v ∉ ks) : dput (nf ks f) (.inl v) (.lst (iL l)) = nf (ks ++ [v]) (upF f v l) := by
  rw [dput_new (fun z => h (nf_keys.mp z))]
  unfold nf
  rw [List.map_append]
  congr 1
  · refine List.map_congr_left fun k hk => ?_
    have : k ≠ v := fun z => h (z ▸ hk)
    simp [upF, this]
  · simp [upF]
theorem of_ints : ∀ {zs : List Int} {ys : List D}, (∀ y ∈ ys, y ∈ iL zs) → ∃ ns : List Int, ys = iL ns
  | _, [], _ => ⟨[], rfl⟩
  | zs, y :: ys, h => by
    obtain ⟨p, _, e⟩ := List.mem_map.mp (h y (List.mem_cons_self ..))
    obtain ⟨ps, e2⟩ := of_ints (zs := zs) (ys := ys) fun y hy => h y (List.mem_cons_of_mem _ hy)
    exact ⟨p :: ps, by rw [← e, e2]; rfl⟩
theorem iL_mem {zs : List Int} {z : Int} : (D.int z) ∈ iL zs ↔ z ∈ zs := by
  constructor
  · intro h
    obtain ⟨y, hy, e⟩ := List.mem_map.mp h
    cases e; exact hy
  · exact fun h => List.mem_map.mpr ⟨z, h, rfl⟩
theorem asc_ints {xs : List Int} {E : EF} {Q : R → List Sl → Prop} (hl : xs.length ≤ 50000) (hQ : ∀ rs : List Int, (∀ x, x ∈ rs ↔ x ∈ xs) → rs.Nodup → rs.length ≤ xs.length → Q (.new (.lst (iL rs))) [.d (.lst (iL xs))]) : wF (fn_ascending [.d (.lst (iL xs))]) E Q := by
  refine asc_ok (ints_cmp xs) (by simpa using hl) fun rs hm hll han => ?_
  obtain ⟨ns, rfl⟩ := of_ints (ys := rs) fun y hy => (hm y).mp hy
  refine hQ ns (fun x => iL_mem.symm.trans ((hm _).trans iL_mem)) ?_ (by simpa using hll)
  have hp := han fun a ha b hb h1 h2 => by
    obtain ⟨x, _, rfl⟩ := List.mem_map.mp ha
    obtain ⟨y, _, rfl⟩ := List.mem_map.mp hb
    simp at h1 h2
    have : x = y := by omega
    rw [this]
  have hp2 := List.pairwise_map.mp hp
  refine List.Pairwise.imp (fun {a b} h => ?_) hp2
  simp at h
  omega
structure NOk (ks : List Int) (G : List (Int × Int)) (f : Int → List Int) : Prop where
  nd : ks.Nodup
  ge : ∀ v ∈ ks, 0 ≤ v
  mem : ∀ v ∈ ks, ∀ z, z ∈ f v ↔ (v, z) ∈ G
  fnd : ∀ v ∈ ks, (f v).Nodup
theorem NOk.len {ks : List Int} {G : List (Int × Int)} {f : Int → List Int} (h : NOk ks G f) (hG : G.Nodup) {v : Int} (hv : v ∈ ks) : (f v).length = (nearP G v).length :=
  ((List.perm_ext_iff_of_nodup (h.fnd v hv) (near_nd hG)).mpr fun z => (h.mem v hv z).trans near_mem.symm).length_eq
@[simp] theorem fNotIn_two {a b c : Int} : fNotIn (.int a) (.tup [.int b, .int c]) = some (.d (.bl (!decide (a = b ∨ a = c)))) := by
  have := fNotIn_intt (i := a) (zs := [b, c])
  simpa using this
theorem keys_nf {ks : List Int} {f : Int → List Int} : (nf ks f).map (fun p => keyD p.1) = iL ks := by
  unfold nf iL
  rw [List.map_map]; rfl
theorem nf_len {ks : List Int} {f : Int → List Int} : (nf ks f).length = ks.length := by simp
theorem without_ok {m : Nat} {ks : List Int} {G : List (Int × Int)} {f : Int → List Int} {v : Int} {E : EF} {Q : R → List Sl → Prop} (hN : NOk ks G f) (hG : POk m G) (hm : m ≤ 12) (hk : ks.length ≤ 12) (hv : v ∈ ks)
    (hQ : ∀ f', NOk (ks.filter fun u => !decide (u = v)) (takenP G v) f' → Q (.new (.dk (nf (ks.filter fun u => !decide (u = v)) f'))) [.d (.dk (nf ks f)), .d (.int v)]) : wF (fn_without_value [.d (.dk (nf ks f)), .d (.int v)]) E Q := by
  have hfl : ∀ u ∈ ks, (f u).length ≤ 12 := fun u hu => by
    rw [hN.len hG.nd hu]
    exact Nat.le_trans (hG.near u) hm
  unfold fn_without_value
  with_reducible refine wF_mk ?_
  unfold c_without_value
  generalize hdk : D.dk (nf ks f) = dk at hQ ⊢
  (with_reducible refine wS_sq ?_); intro P hP; simp
  rw [← hdk]
  simp [nf_look hv]
  rw [hdk]
  apply hP; clear hP P
  (with_reducible refine wS_sq ?_); intro P hP; simp
  apply hP; clear hP P
  (with_reducible refine wS_sq ?_); intro P hP; simp
  rw [← hdk]
  simp
  rw [hdk]
  have e0 : ks.map ((fun p : Key × D => keyD p.1) ∘ fun k => (Sum.inl k, D.lst (iL (f k)))) = iL ks := by rw [← keys_nf (f := f), nf, List.map_map]
  rw [e0]
  with_reducible refine wS_fl (fun r e => ∃ (w4 : Sl) (dn rest : List Int) (f' : Int → List Int), e = [.d dk, .d (.int v), .d (.lst (iL (f v))), .own (.dk (nf (dn.filter fun u => !decide (u = v)) f')), w4, .no] ∧ isRef w4 = false ∧ r = iL rest ∧ dn ++ rest = ks ∧ (∀ u ∈ dn, u ≠ v → (∀ z, z ∈ f' u ↔ (u, z) ∈ takenP G v) ∧ (f' u).Nodup)) ?_ ?_ ?_
  · exact ⟨.no, [], ks, fun _ => [], by simp, rfl, rfl, rfl, by simp⟩
  · rintro J hJ x r e ⟨w4, dn, rest, f', rfl, h4, hx, hd, hf⟩
    obtain ⟨o, rest, rfl, rfl, rfl⟩ := map_cons hx
    have ho : o ∈ ks := by rw [← hd]; simp
    have hon : o ∉ dn := fun z => by
      have := hN.nd
      rw [← hd] at this
      exact (List.nodup_append.mp this).2.2 o z o (by simp) rfl
    have hon2 : o ∉ dn.filter fun u => !decide (u = v) := fun z => hon (List.mem_filter.mp z).1
    have hfo := hfl o ho
    have hfv := hfl v hv
    have hdl : (dn.filter fun u => !decide (u = v)).length ≤ 12 := by
      have h1 := List.length_filter_le (fun u => !decide (u = v)) dn
      have h2 := congrArg List.length hd
      simp at h2
      omega
    have add : ∀ l : List Int, o ≠ v → (∀ z, z ∈ l ↔ (o, z) ∈ takenP G v) → l.Nodup → J (iL rest) [.d dk, .d (.int v), .d (.lst (iL (f v))), .own (.dk (dput (nf (dn.filter fun u => !decide (u = v)) f') (.inl o) (.lst (iL l)))), .d (.int o), .no] := fun l hov hl1 hl2 => by
      rw [nf_new hon2]
      refine hJ _ _ ⟨.d (.int o), dn ++ [o], rest, upF f' o l, ?_, rfl, rfl, by rw [← hd]; simp, ?_⟩
      · rw [List.filter_append]
        simp [hov]
      · intro u hu huv
        rcases List.mem_append.mp hu with q | q
        · have : u ≠ o := fun z => hon (z ▸ q)
          simp only [upF, this, if_false]
          exact hf u q huv
        · rw [List.mem_singleton.mp q]
          simp only [upF, if_true]
          exact ⟨hl1, hl2⟩
    simp [wNr_eq h4]
    refine wIf_dec (fun hin => ?_) (fun hin => ?_)
    · have hvo : (v, o) ∈ G := (hN.mem v hv o).mp hin
      have hov : o ≠ v := fun z => (hG.vs _ _ hvo).2.2 z.symm
      rw [← hdk]
      simp [nf_look ho]
      rw [hdk]
      refine wC_in (by simp [lim]; omega) ?_
      rw [← List.map_append]
      refine wO_lcP (fun d => match d with | .int z => if z = v ∨ z = o then none else some (.int z) | _ => none) ?_ ?_
      · intro y hy
        obtain ⟨z, hz, rfl⟩ := List.mem_map.mp hy
        simp
        refine wC_in (by simp [lim]) ?_
        refine wIf_in (fun h => ?_) (fun h => ?_)
        · simpa using h
        · intro q
          simp at h
          exact h q
      have e : ∀ zs : List Int, (iL zs).filterMap (fun d => match d with | .int z => if z = v ∨ z = o then none else some (D.int z) | _ => none) = iL (zs.filter fun z => !decide (z = v ∨ z = o)) := fun zs => by
        induction zs with
        | nil => rfl
        | cons z zs ih =>
          simp only [iL, List.map_cons]
          rw [List.filterMap_cons, List.filter_cons]
          by_cases h : z = v ∨ z = o
          · simp only [h, if_true, decide_true, Bool.not_true]
            exact ih
          · simp only [h, if_false, decide_false, Bool.not_false, if_true, List.map_cons]
            exact congrArg _ ih
      rw [e]
      have hl1 := List.length_filter_le (fun z => !decide (z = v ∨ z = o)) (f o ++ f v)
      have hmm : ∀ z, z ∈ (f o ++ f v).filter (fun z => !decide (z = v ∨ z = o)) ↔ (o, z) ∈ takenP G v := fun z => by
        rw [List.mem_filter, List.mem_append, hN.mem o ho, hN.mem v hv, taken_mem]
        simp only [Bool.not_eq_true', decide_eq_false_iff_not, not_or]
        constructor
        · rintro ⟨h | h, h1, h2⟩
          · exact .inl ⟨h, hov, h1⟩
          · exact .inr ⟨hvo, h, fun e => h2 e.symm⟩
        · rintro (⟨h, _, h1⟩ | ⟨_, h, h1⟩)
          · exact ⟨.inl h, h1, fun e => (hG.vs _ _ h).2.2 e.symm⟩
          · exact ⟨.inr h, fun e => (hG.vs _ _ h).2.2 e.symm, fun e => h1 e.symm⟩
      generalize (f o ++ f v).filter (fun z => !decide (z = v ∨ z = o)) = l at hl1 hmm
      rw [List.length_append] at hl1
      refine wC_in (by simp [lim]; omega) ?_
      simp
      refine asc_ints (by omega) fun rs h1 h2 h3 => ?_
      simp
      refine wC_in (by simp [lim]; omega) ?_
      exact add rs hov (fun z => (h1 z).trans (hmm z)) h2
    · have hvo : (v, o) ∉ G := fun z => hin ((hN.mem v hv o).mpr z)
      refine wIf_in (fun h => ?_) (fun h => ?_)
      · have hov : o ≠ v := by simpa using h
        rw [← hdk]
        simp [nf_look ho]
        rw [hdk]
        refine wC_in (by simp [lim]; omega) ?_
        refine add (f o) hov (fun z => ?_) (hN.fnd o ho)
        rw [hN.mem o ho, taken_mem]
        constructor
        · exact fun h => .inl ⟨h, hov, fun e => hvo (hG.sy _ _ (e ▸ h))⟩
        · rintro (⟨h, _⟩ | ⟨h, _⟩)
          · exact h
          · exact absurd h hvo
      · have hov : o = v := by simpa using h
        refine hJ _ _ ⟨.d (.int o), dn ++ [o], rest, f', ?_, rfl, rfl, by rw [← hd]; simp, ?_⟩
        · rw [List.filter_append]
          simp [hov]
        · intro u hu huv
          rcases List.mem_append.mp hu with q | q
          · exact hf u q huv
          · exact absurd ((List.mem_singleton.mp q).trans hov) huv
  · rintro e ⟨w4, dn, rest, f', rfl, h4, hx, hd, hf⟩
    obtain rfl := map_nil' hx
    rw [List.append_nil] at hd
    subst hd
    apply hP; clear hP P
    simp
    refine hQ f' ⟨List.Pairwise.filter _ hN.nd, fun u hu => hN.ge u (List.mem_filter.mp hu).1, fun u hu => ?_, fun u hu => ?_⟩
    · have := List.mem_filter.mp hu
      exact (hf u this.1 (by simpa using this.2)).1
    · have := List.mem_filter.mp hu
      exact (hf u this.1 (by simpa using this.2)).2
end Lw

namespace Lw
open PySem PySem.Spec PyProof.Rows L2 Sim SX
/-! ### the program's orders LOOPS -/
def neD (b : Int) (d : D) : Option D := match d with
  | .int z => if z = b then none else some (.int z)
  | _ => none
theorem fm_neD {b : Int} : ∀ zs : List Int, (iL zs).filterMap (neD b) = iL (zs.filter fun z => !decide (z = b)) := fun zs => by
  induction zs with
  | nil => rfl
  | cons z zs ih =>
    simp only [iL, List.map_cons]
    rw [List.filterMap_cons, List.filter_cons]
    by_cases h : z = b
    · simp only [neD, h, if_true, decide_true, Bool.not_true]
      exact ih
    · simp only [neD, h, if_false, decide_false, Bool.not_false, if_true, List.map_cons]
      exact congrArg _ ih
theorem fm_in {ks : List Int} : ∀ zs : List Int, (iL zs).filterMap (fun d => match d with | .int z => if z ∈ ks then some (D.int z) else none | _ => none) = iL (zs.filter fun z => decide (z ∈ ks)) := fun zs => by
  induction zs with
  | nil => rfl
  | cons z zs ih =>
    simp only [iL, List.map_cons]
    rw [List.filterMap_cons, List.filter_cons]
    by_cases h : z ∈ ks
    · simp only [h, if_true, decide_true, List.map_cons]
      exact congrArg _ ih
    · simp only [h, if_false, decide_false, Bool.false_eq_true]
      exact ih
theorem neighbours_ok {ts : List (Str × Int)} {S : D} {ps rs : List (Str × List Int)} {hs : List Int} {n : Nat} {E : EF} {Q : R → List Sl → Prop} (ht : TabOk ts) (hf : FitOk ts ps hs n) (hn : n ≤ 12) (hrs : ∀ p, p ∈ rs ↔ p ∈ ps) (hrl : rs.length ≤ ps.length)
    (hQ : ∀ f, NOk (inn hs n) (pairsP ps hs) f → Q (.new (.dk (nf (inn hs n) f))) [.d (patD S rs hs n)]) : wF (fn_neighbour_lists [.d (patD S rs hs n)]) E Q := by
  have h500 := hf.le
  have hil := inn_len (hs := hs) (n := n)
  have hinn : ∀ z, z ∈ inn hs n ↔ (0 ≤ z ∧ z < n) ∧ z ∉ hs := fun z => inn_mem
  have hind : (inn hs n).Nodup := inn_nd
  unfold fn_neighbour_lists
  with_reducible refine wF_mk ?_
  unfold c_neighbour_lists
  generalize hpat : patD S rs hs n = pat at hQ ⊢
  (with_reducible refine wS_sq ?_); intro P hP; simp
  rw [← hpat]
  simp
  refine inner_ok (by omega) ?_
  rw [hpat]
  generalize inn hs n = ks at hQ hil hinn hind ⊢
  simp
  with_reducible refine wO_dl (fun r acc e => ∃ dn rest : List Int, r = iL rest ∧ acc = nf dn (fun _ => []) ∧ e = [.d pat, .no, .no, .no, .no, .no] ∧ dn ++ rest = ks) ?_ ?_ ?_
  · exact ⟨[], ks, rfl, rfl, rfl, rfl⟩
  · rintro J hJ x xs acc e ⟨dn, rest, hx, rfl, rfl, hd⟩
    obtain ⟨v, rest, rfl, rfl, rfl⟩ := map_cons hx
    have hdl : dn.length ≤ 12 := by
      have h2 := congrArg List.length hd
      simp at h2
      omega
    have hv : v ∉ dn := fun z => by
      rw [← hd] at hind
      exact (List.nodup_append.mp hind).2.2 v z v (by simp) rfl
    simp
    refine wC_in (by simp [lim]; omega) ?_
    have e1 : (D.lst []) = D.lst (iL []) := rfl
    rw [e1, nf_new hv]
    refine hJ _ _ _ ⟨dn ++ [v], rest, rfl, ?_, rfl, by rw [← hd]; simp⟩
    refine List.map_congr_left fun k _ => ?_
    simp [upF]
  rintro acc e ⟨dn, rest, hx, rfl, rfl, hd⟩
  obtain rfl := map_nil' hx
  rw [List.append_nil] at hd
  subst hd
  simp
  apply hP; clear hP P
  (with_reducible refine wS_sq ?_); intro P hP; simp
  rw [← hpat]
  simp [lk_r]
  rw [hpat]
  with_reducible refine wS_fl (fun r e => ∃ (w2 w3 w4 : Sl) (dr rr : List (Str × List Int)) (f : Int → List Int), e = [.d pat, .own (.dk (nf dn f)), w2, w3, w4, .no] ∧ isRef w2 = false ∧ isRef w3 = false ∧ isRef w4 = false ∧ r = rr.map rowD ∧ dr ++ rr = rs ∧ (∀ v ∈ dn, (∀ z, z ∈ f v ↔ z ∈ dn ∧ z ≠ v ∧ ∃ p ∈ dr, v ∈ p.2 ∧ z ∈ p.2) ∧ (f v).length ≤ 16 * dr.length)) ?_ ?_ ?_
  · exact ⟨.no, .no, .no, [], rs, fun _ => [], rfl, rfl, rfl, rfl, rfl, rfl, by simp⟩
  · rintro J hJ x r e ⟨w2, w3, w4, dr, rr, f, rfl, h2, h3, h4, hx, hd, hfv⟩
    obtain ⟨p, rr, rfl, rfl, rfl⟩ := map_cons hx
    have hp : p ∈ ps := (hrs p).mp (by rw [← hd]; simp)
    have hw := (ht.wi _ (hf.rows p hp).tb).2
    dsimp only at hw
    have hdl : dr.length ≤ 500 := by
      have h2 := congrArg List.length hd
      simp at h2
      omega
    simp [wNr_eq h2]
    (with_reducible refine wS_sq ?_); intro P hP; simp
    refine wO_lcP (fun d => match d with | .int z => if z ∈ dn then some (.int z) else none | _ => none) ?_ ?_
    · intro y hy
      obtain ⟨z, hz, rfl⟩ := List.mem_map.mp hy
      simp
      rw [nf_is]
      refine wIf_dec (fun h => ?_) (fun h => ?_)
      · simp [h]
      · simp [h]
    rw [fm_in]
    have hfl := List.length_filter_le (fun z => decide (z ∈ dn)) p.2
    have hins : ∀ z, z ∈ p.2.filter (fun z => decide (z ∈ dn)) ↔ z ∈ p.2 ∧ z ∈ dn := fun z => by simp [List.mem_filter]
    generalize p.2.filter (fun z => decide (z ∈ dn)) = ins at hfl hins ⊢
    refine wC_in (by simp [lim]; omega) ?_
    simp [wNr_eq h3]
    apply hP; clear hP P
    simp
    with_reducible refine wS_fl (fun r e => ∃ (w4 : Sl) (dv rv : List Int) (f' : Int → List Int), e = [.d pat, .own (.dk (nf dn f')), .d (rowD p), .d (.lst (iL ins)), w4, .no] ∧ isRef w4 = false ∧ r = iL rv ∧ dv ++ rv = ins ∧ (∀ v ∈ dn, (∀ z, z ∈ f' v ↔ (z ∈ f v ∨ (v ∈ dv ∧ z ∈ ins ∧ z ≠ v))) ∧ (f' v).length ≤ 16 * dr.length + 4 * dv.length)) ?_ ?_ ?_
    · exact ⟨w4, [], ins, f, rfl, h4, rfl, rfl, fun v hv => ⟨fun z => by simp, by have := (hfv v hv).2; simp; omega⟩⟩
    · rintro J hJ y r e ⟨w4, dv, rv, f', rfl, h4, hx, hd2, hf'⟩
      obtain ⟨u, rv, rfl, rfl, rfl⟩ := map_cons hx
      have hu : u ∈ ins := by rw [← hd2]; simp
      have hud : u ∈ dn := ((hins u).mp hu).2
      have hdv : dv.length ≤ 4 := by
        have h2 := congrArg List.length hd2
        simp at h2
        omega
      have hfu := (hf' u hud).2
      simp [wNr_eq h4]
      simp [nf_look hud]
      refine wO_lcP (neD u) ?_ ?_
      · intro y hy
        obtain ⟨z, hz, rfl⟩ := List.mem_map.mp hy
        simp
        refine wIf_in (fun h => ?_) (fun h => ?_)
        · have h : ¬ z = u := by simpa using h
          simp [h, neD]
        · have h : z = u := by simpa using h
          simp [h, neD]
      rw [fm_neD]
      have hfl2 := List.length_filter_le (fun z => !decide (z = u)) ins
      refine wC_in (by simp [lim]; omega) ?_
      simp
      refine wC_in (by simp [lim]; omega) ?_
      have hdl2 : dn.length ≤ 12 := by omega
      refine wC_in (by simp [lim]; omega) ?_
      have e1 : (List.map D.int (f' u) ++ List.map D.int (ins.filter fun z => !decide (z = u))) = iL (f' u ++ ins.filter fun z => !decide (z = u)) := by rw [iL, List.map_append]
      rw [e1, nf_put hud]
      refine hJ _ _ ⟨.d (.int u), dv ++ [u], rv, upF f' u (f' u ++ ins.filter fun z => !decide (z = u)), rfl, rfl, rfl, by rw [← hd2]; simp, fun v hv => ?_⟩
      by_cases hvu : v = u
      · subst hvu
        simp only [upF, if_true]
        refine ⟨fun z => ?_, by rw [List.length_append, List.length_append, List.length_singleton]; omega⟩
        rw [List.mem_append, (hf' v hv).1, List.mem_filter]
        simp only [Bool.not_eq_true', decide_eq_false_iff_not, List.mem_append, List.mem_singleton]
        constructor
        · rintro ((h | ⟨h1, h2, h3⟩) | ⟨h1, h2⟩)
          · exact .inl h
          · exact .inr ⟨.inl h1, h2, h3⟩
          · exact .inr ⟨.inr trivial, h1, h2⟩
        · rintro (h | ⟨_, h2, h3⟩)
          · exact .inl (.inl h)
          · exact .inr ⟨h2, h3⟩
      · simp only [upF, hvu, if_false]
        refine ⟨fun z => ?_, by rw [List.length_append]; have := (hf' v hv).2; omega⟩
        rw [(hf' v hv).1]
        simp only [List.mem_append, List.mem_singleton, hvu, or_false]
    · rintro e ⟨w4, dv, rv, f', rfl, h4, hx, hd2, hf'⟩
      obtain rfl := map_nil' hx
      rw [List.append_nil] at hd2
      subst hd2
      refine hJ _ _ ⟨_, _, w4, dr ++ [p], rr, f', rfl, rfl, rfl, h4, rfl, by rw [← hd]; simp, fun v hv => ⟨fun z => ?_, ?_⟩⟩
      · rw [(hf' v hv).1, (hfv v hv).1, hins, hins]
        constructor
        · rintro (⟨h1, h2, q, hq, h3, h4⟩ | ⟨⟨h1, h2⟩, ⟨h3, h4⟩, h5⟩)
          · exact ⟨h1, h2, q, List.mem_append_left _ hq, h3, h4⟩
          · exact ⟨h4, h5, p, by simp, h1, h3⟩
        · rintro ⟨h1, h2, q, hq, h3, h4⟩
          rcases List.mem_append.mp hq with k | k
          · exact .inl ⟨h1, h2, q, k, h3, h4⟩
          · rw [List.mem_singleton.mp k] at h3 h4
            exact .inr ⟨⟨h3, hv⟩, ⟨h4, h1⟩, h2⟩
      · have := (hf' v hv).2
        rw [List.length_append, List.length_singleton]
        omega
  rintro e ⟨w2, w3, w4, dr, rr, f, rfl, h2, h3, h4, hx, hd, hfv⟩
  obtain rfl := map_nil' hx
  rw [List.append_nil] at hd
  have hd := hd.symm
  subst hd
  apply hP; clear hP P
  simp
  have e0 : dn.map ((fun p : Key × D => keyD p.1) ∘ fun k => (Sum.inl k, D.lst (iL (f k)))) = iL dn := by rw [← keys_nf (f := f), nf, List.map_map]
  rw [e0]
  with_reducible refine wO_dl (fun r acc e => ∃ (dv rv : List Int) (g : Int → List Int), r = iL rv ∧ acc = nf dv g ∧ e = [.d pat, .d (.dk (nf dn f)), w2, w3, .no, .no] ∧ dv ++ rv = dn ∧ (∀ v ∈ dv, (∀ z, z ∈ g v ↔ z ∈ f v) ∧ (g v).Nodup)) ?_ ?_ ?_
  · exact ⟨[], dn, fun _ => [], rfl, rfl, rfl, rfl, by simp⟩
  · rintro J hJ x xs acc e ⟨dv, rv, g, hx, rfl, rfl, hd, hg⟩
    obtain ⟨v, rv, rfl, rfl, rfl⟩ := map_cons hx
    have hvn : v ∈ dn := by rw [← hd]; simp
    have hdl : dv.length ≤ 12 := by
      have h2 := congrArg List.length hd
      simp at h2
      omega
    have hv : v ∉ dv := fun z => by
      rw [← hd] at hind
      exact (List.nodup_append.mp hind).2.2 v z v (by simp) rfl
    have hfl := (hfv v hvn).2
    simp [nf_look hvn]
    refine asc_ints (by omega) fun ys h1 h2 h3 => ?_
    simp
    refine wC_in (by simp [lim]; omega) ?_
    rw [nf_new hv]
    refine hJ _ _ _ ⟨dv ++ [v], rv, upF g v ys, rfl, rfl, rfl, by rw [← hd]; simp, fun u hu => ?_⟩
    rcases List.mem_append.mp hu with q | q
    · have : u ≠ v := fun z => hv (z ▸ q)
      simp only [upF, this, if_false]
      exact hg u q
    · rw [List.mem_singleton.mp q]
      simp only [upF, if_true]
      exact ⟨h1, h2⟩
  rintro acc e ⟨dv, rv, g, hx, rfl, rfl, hd, hg⟩
  obtain rfl := map_nil' hx
  rw [List.append_nil] at hd
  subst hd
  refine hQ g ⟨hind, fun v hv => ((hinn v).mp hv).1.1, fun v hv z => ?_, fun v hv => (hg v hv).2⟩
  rw [(hg v hv).1, (hfv v hv).1, pairs_mem]
  have hvv := (hinn v).mp hv
  constructor
  · rintro ⟨h1, h2, p, hp, h3, h4⟩
    exact ⟨⟨p, (hrs p).mp hp, h3, h4⟩, fun e => h2 e.symm, hvv.2, ((hinn z).mp h1).2⟩
  · rintro ⟨⟨p, hp, h3, h4⟩, h2, _, h5⟩
    exact ⟨(hinn z).mpr ⟨(hf.rows p hp).vs z h4, h5⟩, fun e => h2 e.symm, p, (hrs p).mpr hp, h3, h4⟩
end Lw

namespace Lw
open PySem PySem.Spec PyProof.Rows L2 Sim SX
/-! ### quick_order, order_width LOOPS -/
def bestF (f : Int → List Int) (l : List Int) (b : Int) : Int := l.foldl (fun b v => if (f v).length < (f b).length then v else b) b
theorem bestF_eq {ks : List Int} {G : List (Int × Int)} {f : Int → List Int} (hN : NOk ks G f) (hG : G.Nodup) : ∀ (l : List Int) (b : Int), (∀ v ∈ l, v ∈ ks) → b ∈ ks → bestF f l b = best G l b
  | [], b, _, _ => rfl
  | v :: l, b, h, hb => by
    have hv := h v (List.mem_cons_self ..)
    show bestF f l (if (f v).length < (f b).length then v else b) = best G l (if (nearP G v).length < (nearP G b).length then v else b)
    rw [hN.len hG hv, hN.len hG hb]
    refine bestF_eq hN hG l _ (fun u hu => h u (List.mem_cons_of_mem _ hu)) ?_
    split
    · exact hv
    · exact hb
theorem fewest_ok {ks : List Int} {f : Int → List Int} {E : EF} {Q : R → List Sl → Prop} (hne : ks ≠ []) (hge : ∀ v ∈ ks, 0 ≤ v) (hQ : Q (.d (.int (bestF f ks (ks.headD 0)))) [.d (.dk (nf ks f))]) : wF (fn_fewest_neighbours [.d (.dk (nf ks f))]) E Q := by
  unfold fn_fewest_neighbours
  with_reducible refine wF_mk ?_
  unfold c_fewest_neighbours
  generalize hdk : D.dk (nf ks f) = dk at hQ ⊢
  (with_reducible refine wS_sq ?_); intro P hP; simp
  apply hP; clear hP P
  (with_reducible refine wS_sq ?_); intro P hP; simp
  apply hP; clear hP P
  (with_reducible refine wS_sq ?_); intro P hP; simp
  rw [← hdk]
  simp
  rw [hdk]
  have e0 : ks.map ((fun p : Key × D => keyD p.1) ∘ fun k => (Sum.inl k, D.lst (iL (f k)))) = iL ks := by rw [← keys_nf (f := f), nf, List.map_map]
  rw [e0]
  with_reducible refine wS_fl (fun r e => ∃ (b w : Int) (w3 : Sl) (rest : List Int), e = [.d dk, .d (.int b), .d (.int w), w3] ∧ isRef w3 = false ∧ r = iL rest ∧ (∀ v ∈ rest, v ∈ ks) ∧ ((rest = ks ∧ b = -1) ∨ (b ∈ ks ∧ w = (f b).length ∧ bestF f rest b = bestF f ks (ks.headD 0)))) ?_ ?_ ?_
  · exact ⟨-1, 0, .no, ks, rfl, rfl, rfl, fun _ h => h, .inl ⟨rfl, rfl⟩⟩
  · rintro J hJ x r e ⟨b, w, w3, rest, rfl, h3, hx, hm, hb⟩
    obtain ⟨v, rest, rfl, rfl, rfl⟩ := map_cons hx
    have hv := hm v (List.mem_cons_self ..)
    have hm' : ∀ u ∈ rest, u ∈ ks := fun u hu => hm u (List.mem_cons_of_mem _ hu)
    have hlook := nf_look (f := f) hv
    have set : bestF f rest v = bestF f ks (ks.headD 0) → J (iL rest) [.d dk, .d (.int v), .d (.int (f v).length), .d (.int v)] := fun q =>
      hJ _ _ ⟨v, (f v).length, _, rest, rfl, rfl, rfl, hm', .inr ⟨hv, rfl, q⟩⟩
    simp [wNr_eq h3]
    rcases hb with ⟨hk, rfl⟩ | ⟨hbk, rfl, hbf⟩
    · have q : bestF f rest v = bestF f ks (ks.headD 0) := by
        rw [← hk]
        show bestF f rest v = bestF f rest (if (f v).length < (f v).length then v else v)
        simp
      simp
      (with_reducible refine wS_sq ?_); intro P hP; simp
      apply hP; clear hP P
      rw [← hdk]
      simp [hlook]
      rw [hdk]
      exact set q
    · have hb0 : ¬ b = -1 := by have := hge b hbk; omega
      have hbf : bestF f rest (if (f v).length < (f b).length then v else b) = bestF f ks (ks.headD 0) := hbf
      simp [hb0]
      rw [← hdk]
      simp [hlook]
      rw [hdk]
      refine wIf_dec (fun h => ?_) (fun h => ?_)
      · rw [if_pos h] at hbf
        (with_reducible refine wS_sq ?_); intro P hP; simp
        apply hP; clear hP P
        rw [← hdk]
        simp [hlook]
        rw [hdk]
        exact set hbf
      · rw [if_neg h] at hbf
        exact hJ _ _ ⟨b, _, _, rest, rfl, rfl, rfl, hm', .inr ⟨hbk, rfl, hbf⟩⟩
  · rintro e ⟨b, w, w3, rest, rfl, h3, hx, hm, hb⟩
    obtain rfl := map_nil' hx
    apply hP; clear hP P
    simp
    rcases hb with ⟨hk, _⟩ | ⟨_, _, hbf⟩
    · exact absurd hk.symm hne
    · have hbf : b = bestF f ks (ks.headD 0) := hbf
      rw [hbf]
      exact hQ
theorem quick_order_ok {ts : List (Str × Int)} {S : D} {ps rs : List (Str × List Int)} {hs : List Int} {n : Nat} {E : EF} {Q : R → List Sl → Prop} (ht : TabOk ts) (hf : FitOk ts ps hs n) (hn : n ≤ 12) (hrs : ∀ p, p ∈ rs ↔ p ∈ ps) (hrl : rs.length ≤ ps.length)
    (hQ : Q (.new (.lst (iL (quickP (inn hs n).length (pairsP ps hs) (inn hs n))))) [.d (patD S rs hs n)]) : wF (fn_quick_order [.d (patD S rs hs n)]) E Q := by
  have hil := inn_len (hs := hs) (n := n)
  have hG0 := pairs_POk hf
  unfold fn_quick_order
  with_reducible refine wF_mk ?_
  unfold c_quick_order
  (with_reducible refine wS_sq ?_); intro P hP; simp
  refine neighbours_ok ht hf hn hrs hrl fun f hN => ?_
  generalize pairsP ps hs = G0 at hQ hN hG0
  generalize inn hs n = ks0 at hQ hil hN ⊢
  simp
  apply hP; clear hP P
  (with_reducible refine wS_sq ?_); intro P hP; simp
  apply hP; clear hP P
  (with_reducible refine wS_sq ?_); intro P hP
  refine wS_wh (n := ks0.length) (fun m e => ∃ (ks ord : List Int) (G : List (Int × Int)) (f : Int → List Int) (w3 : Sl), m = ks.length ∧ e = [.d (patD S rs hs n), .own (.dk (nf ks f)), .own (.lst (iL ord)), w3] ∧ isRef w3 = false ∧ NOk ks G f ∧ POk n G ∧ ord.length + ks.length = ks0.length ∧ ord ++ quickP ks.length G ks = quickP ks0.length G0 ks0) ⟨ks0, [], G0, f, .no, rfl, rfl, rfl, hN, hG0, by simp, rfl⟩ ?_
  rintro m J hJ e ⟨ks, ord, G, f, w3, rfl, rfl, h3, hN, hG, hol, hq⟩
  simp
  refine wIf_dec (fun h => ?_) (fun h => ?_)
  · have hne : ks ≠ [] := fun z => by rw [z] at h; simp at h
    have hbi := best_in G hne
    have hhd : ks.headD 0 ∈ ks := by
      cases ks with
      | nil => exact absurd rfl hne
      | cons v l => exact List.mem_cons_self ..
    have hrl2 := rem_len hN.nd hbi
    obtain ⟨k, hk⟩ : ∃ k, ks.length = k + 1 := ⟨ks.length - 1, by omega⟩
    rw [hk, quickP] at hq
    (with_reducible refine wS_sq ?_); intro P hP; simp
    refine fewest_ok hne hN.ge ?_
    rw [bestF_eq hN hG.nd ks _ (fun _ h => h) hhd]
    generalize best G ks (ks.headD 0) = b at hbi hrl2 hq ⊢
    simp [wNr_eq h3]
    apply hP; clear hP P
    (with_reducible refine wS_sq ?_); intro P hP; simp
    refine wC_in (by simp [lim]; omega) ?_
    apply hP; clear hP P
    simp
    refine without_ok hN hG hn (by omega) hbi fun f' hN' => ?_
    simp
    refine hJ (ks.filter fun u => !decide (u = b)).length _ (by omega) ⟨_, ord ++ [b], _, f', .d (.int b), rfl, by simp, rfl, hN', hG.taken b, ?_, ?_⟩
    · rw [List.length_append, List.length_singleton]
      omega
    · rw [List.append_assoc]
      rw [show (ks.filter fun u => !decide (u = b)).length = k by omega]
      exact hq
  · have h0 : ks = [] := by
      cases ks with
      | nil => rfl
      | cons v l => simp at h
    subst h0
    apply hP; clear hP P
    simp
    have hq : ord ++ [] = _ := hq
    rw [List.append_nil] at hq
    rw [hq]
    exact hQ
/-! order_width -/
def reqP : List Int → List Int → Option Int
  | [], [] => none
  | [], l :: _ => some l
  | v :: r, l => if v ∈ l then reqP r (l.filter fun u => !decide (u = v)) else some v
def reqQ (o : Option Int) (E : EF) (Q : R → List Sl → Prop) (p : List Sl) : Prop := match o with
  | none => Q (.d .non) p
  | some z => E "BadOrder" [("value", .int z)] p
theorem require_ok {S : D} {rs : List (Str × List Int)} {hs ord : List Int} {n : Nat} {E : EF} {Q : R → List Sl → Prop} (hn : n ≤ 300) (hQ : reqQ (reqP ord (inn hs n)) E Q [.d (patD S rs hs n), .d (.lst (iL ord))]) : wF (fn_require_order [.d (patD S rs hs n), .d (.lst (iL ord))]) E Q := by
  have hil := inn_len (hs := hs) (n := n)
  unfold fn_require_order
  with_reducible refine wF_mk ?_
  unfold c_require_order
  (with_reducible refine wS_sq ?_); intro P hP; simp
  refine inner_ok (by omega) ?_
  generalize inn hs n = l0 at hQ hil ⊢
  simp
  apply hP; clear hP P
  (with_reducible refine wS_sq ?_); intro P hP; simp
  with_reducible refine wS_fl (fun r e => ∃ (w3 : Sl) (l rest : List Int), e = [.d (patD S rs hs n), .d (.lst (iL ord)), .own (.lst (iL l)), w3, .no] ∧ isRef w3 = false ∧ r = iL rest ∧ l.length ≤ n ∧ reqP rest l = reqP ord l0) ?_ ?_ ?_
  · exact ⟨.no, l0, ord, rfl, rfl, rfl, hil, rfl⟩
  · rintro J hJ x r e ⟨w3, l, rest, rfl, h3, hx, hl, hr⟩
    obtain ⟨v, rest, rfl, rfl, rfl⟩ := map_cons hx
    rw [reqP] at hr
    simp [wNr_eq h3]
    (with_reducible refine wS_sq ?_); intro P hP; simp
    refine wIf_in (fun h => ?_) (fun h => ?_)
    · have h : v ∉ l := by simpa using h
      rw [if_neg h] at hr
      rw [← hr] at hQ
      exact hQ
    · have h : v ∈ l := by simpa using h
      rw [if_pos h] at hr
      apply hP; clear hP P
      simp
      refine wO_lcP (neD v) ?_ ?_
      · intro y hy
        obtain ⟨z, hz, rfl⟩ := List.mem_map.mp hy
        simp
        refine wIf_in (fun h => ?_) (fun h => ?_)
        · have h : ¬ z = v := by simpa using h
          simp [h, neD]
        · have h : z = v := by simpa using h
          simp [h, neD]
      rw [fm_neD]
      have hfl := List.length_filter_le (fun z => !decide (z = v)) l
      refine wC_in (by simp [lim]; omega) ?_
      simp
      exact hJ _ _ ⟨_, l.filter fun z => !decide (z = v), rest, rfl, rfl, rfl, by omega, hr⟩
  · rintro e ⟨w3, l, rest, rfl, h3, hx, hl, hr⟩
    obtain rfl := map_nil' hx
    apply hP; clear hP P
    simp
    cases l with
    | nil =>
      have hr : none = _ := hr
      rw [← hr] at hQ
      simp
      exact hQ
    | cons v l =>
      have hr : some v = _ := hr
      rw [← hr] at hQ
      simp
      exact hQ
def owQ (o : Option Int) (w : Int) (E : EF) (Q : R → List Sl → Prop) (p : List Sl) : Prop := match o with
  | none => Q (.d (.int w)) p
  | some z => E "BadOrder" [("value", .int z)] p
theorem order_width_ok {ts : List (Str × Int)} {S : D} {ps rs : List (Str × List Int)} {hs ord : List Int} {n : Nat} {E : EF} {Q : R → List Sl → Prop} (ht : TabOk ts) (hf : FitOk ts ps hs n) (hn : n ≤ 12) (hrs : ∀ p, p ∈ rs ↔ p ∈ ps) (hrl : rs.length ≤ ps.length)
    (hQ : owQ (reqP ord (inn hs n)) (widthP (pairsP ps hs) ord 0) E Q [.d (patD S rs hs n), .d (.lst (iL ord))]) : wF (fn_order_width [.d (patD S rs hs n), .d (.lst (iL ord))]) E Q := by
  have hil := inn_len (hs := hs) (n := n)
  have hG0 := pairs_POk hf
  unfold fn_order_width
  with_reducible refine wF_mk ?_
  unfold c_order_width
  (with_reducible refine wS_sq ?_); intro P hP; simp
  refine require_ok (by omega) ?_
  cases hreq : reqP ord (inn hs n) with
  | some z =>
    rw [hreq] at hQ
    simp [reqQ]
    exact hQ
  | none =>
    rw [hreq] at hQ
    have hQ : Q _ _ := hQ
    simp [reqQ]
    apply hP; clear hP P
    (with_reducible refine wS_sq ?_); intro P hP; simp
    refine neighbours_ok ht hf hn hrs hrl fun f hN => ?_
    generalize pairsP ps hs = G0 at hQ hN hG0
    generalize inn hs n = ks0 at hreq hil hN ⊢
    simp
    apply hP; clear hP P
    (with_reducible refine wS_sq ?_); intro P hP; simp
    apply hP; clear hP P
    (with_reducible refine wS_sq ?_); intro P hP; simp
    with_reducible refine wS_fl (fun r e => ∃ (ks rest : List Int) (w : Int) (G : List (Int × Int)) (f : Int → List Int) (w4 : Sl), e = [.d (patD S rs hs n), .d (.lst (iL ord)), .own (.dk (nf ks f)), .d (.int w), w4] ∧ isRef w4 = false ∧ r = iL rest ∧ NOk ks G f ∧ POk n G ∧ ks.length ≤ 12 ∧ reqP rest ks = none ∧ widthP G rest w = widthP G0 ord 0) ?_ ?_ ?_
    · exact ⟨ks0, ord, 0, G0, f, .no, rfl, rfl, rfl, hN, hG0, by omega, hreq, rfl⟩
    · rintro J hJ x r e ⟨ks, rest, w, G, f, w4, rfl, h4, hx, hN, hG, hkl, hr, hw⟩
      obtain ⟨v, rest, rfl, rfl, rfl⟩ := map_cons hx
      rw [reqP] at hr
      split at hr
      · rename_i hv
        rw [widthP, ← hN.len hG.nd hv] at hw
        have hfl := List.length_filter_le (fun z => !decide (z = v)) ks
        simp [wNr_eq h4]
        (with_reducible refine wS_sq ?_); intro P hP; simp
        simp [nf_look hv]
        refine wIf_dec (fun h => ?_) (fun h => ?_)
        · rw [if_pos h] at hw
          apply hP; clear hP P
          simp
          refine without_ok hN hG hn hkl hv fun f' hN' => ?_
          simp
          exact hJ _ _ ⟨_, rest, _, _, f', _, rfl, rfl, rfl, hN', hG.taken v, by omega, hr, hw⟩
        · rw [if_neg h] at hw
          apply hP; clear hP P
          simp
          refine without_ok hN hG hn hkl hv fun f' hN' => ?_
          simp
          exact hJ _ _ ⟨_, rest, _, _, f', _, rfl, rfl, rfl, hN', hG.taken v, by omega, hr, hw⟩
      · cases hr
    · rintro e ⟨ks, rest, w, G, f, w4, rfl, h4, hx, hN, hG, hkl, hr, hw⟩
      obtain rfl := map_nil' hx
      have hw : w = _ := hw
      apply hP; clear hP P
      simp
      rw [hw]
      exact hQ
end Lw

namespace Lw
open PySem PySem.Spec PyProof.Rows L2 Sim SX
/-! ### same, refused, shuffled, start LOOPS -/
theorem sameH_int {a b : Int} {E : EF} {Q : R → List Sl → Prop} (hQ : Q (.d (.bl (decide (a = b)))) [.d (.int a), .d (.int b)]) : wF (fnH__law_same [.d (.int a), .d (.int b)]) E Q := by
  unfold fnH__law_same
  with_reducible refine wF_mk ?_
  unfold cH__law_same
  (with_reducible refine wS_sq ?_); intro P hP; simp
  apply hP; clear hP P
  (with_reducible refine wS_sq ?_); intro P hP; simp
  exact hQ
theorem same_int {k : Nat} {a b : Int} {E : EF} {Q : R → List Sl → Prop} (hQ : Q (.d (.bl (decide (a = b)))) [.d (.int a), .d (.int b)]) : wF (f__law_same (k + 1) [.d (.int a), .d (.int b)]) E Q := by
  show wF (mkFn 3 (c__law_same (f__law_same k)) [.d (.int a), .d (.int b)]) E Q
  with_reducible refine wF_mk ?_
  unfold c__law_same
  (with_reducible refine wS_sq ?_); intro P hP; simp
  apply hP; clear hP P
  (with_reducible refine wS_sq ?_); intro P hP; simp
  exact hQ
theorem same_ints {k : Nat} {zs : List Int} {s0 : Sl} {E : EF} {Q : R → List Sl → Prop} (hl : zs.length ≤ 1000) (h0 : s0 = .d (.lst (iL zs)) ∨ s0 = .ref (.lst (iL zs))) (hQ : Q (.d (.bl true)) [s0, .d (.lst (iL zs))]) : wF (f__law_same (k + 2) [s0, .d (.lst (iL zs))]) E Q := by
  show wF (mkFn 3 (c__law_same (f__law_same (k + 1))) [s0, .d (.lst (iL zs))]) E Q
  with_reducible refine wF_mk ?_
  unfold c__law_same
  rcases h0 with rfl | rfl
  · (with_reducible refine wS_sq ?_); intro P hP; simp
    apply hP; clear hP P
    (with_reducible refine wS_sq ?_); intro P hP; simp
    apply hP; clear hP P
    (with_reducible refine wS_sq ?_); intro P hP; simp
    apply hP; clear hP P
    (with_reducible refine wS_sq ?_); intro P hP; simp
    apply hP; clear hP P
    (with_reducible refine wS_sq ?_); intro P hP; simp
    apply hP; clear hP P
    (with_reducible refine wS_sq ?_); intro P hP; simp
    apply hP; clear hP P
    (with_reducible refine wS_sq ?_); intro P hP; simp
    refine wC_in (rg (by omega) (by omega)) ?_
    with_reducible refine wS_fl (fun r e => ∃ (w2 : Sl) (j : Nat), e = [.d (.lst (iL zs)), .d (.lst (iL zs)), w2] ∧ isRef w2 = false ∧ r = (rng 0 zs.length).drop j) ?_ ?_ ?_
    · exact ⟨.no, 0, rfl, rfl, by simp⟩
    · rintro J hJ x r e ⟨w2, j, rfl, h2, hr⟩
      have hj : j < zs.length := by
        apply Classical.byContradiction
        intro hn
        rw [List.drop_eq_nil_of_le (by simp [rng]; omega)] at hr
        cases hr
      have hr2 : (rng 0 zs.length).drop j = .int j :: (rng 0 zs.length).drop (j + 1) := by
        rw [List.drop_eq_getElem_cons (by simp [rng]; omega)]
        simp [rng]
      rw [hr2] at hr
      obtain ⟨rfl, rfl⟩ := List.cons.inj hr
      have ha : atI (iL zs) (j : Int) = some (.int zs[j]) := by
        rw [Sim.atI_nat, List.getElem?_map, List.getElem?_eq_getElem hj]; rfl
      simp [wNr_eq h2, ha]
      refine same_int ?_
      simp
      exact hJ _ _ ⟨_, j + 1, rfl, rfl, rfl⟩
    · rintro e ⟨w2, j, rfl, h2, hr⟩
      apply hP; clear hP P
      simp
      exact hQ
  · (with_reducible refine wS_sq ?_); intro P hP; simp
    apply hP; clear hP P
    (with_reducible refine wS_sq ?_); intro P hP; simp
    apply hP; clear hP P
    (with_reducible refine wS_sq ?_); intro P hP; simp
    apply hP; clear hP P
    (with_reducible refine wS_sq ?_); intro P hP; simp
    apply hP; clear hP P
    (with_reducible refine wS_sq ?_); intro P hP; simp
    apply hP; clear hP P
    (with_reducible refine wS_sq ?_); intro P hP; simp
    apply hP; clear hP P
    (with_reducible refine wS_sq ?_); intro P hP; simp
    refine wC_in (rg (by omega) (by omega)) ?_
    with_reducible refine wS_fl (fun r e => ∃ (w2 : Sl) (j : Nat), e = [.ref (.lst (iL zs)), .d (.lst (iL zs)), w2] ∧ isRef w2 = false ∧ r = (rng 0 zs.length).drop j) ?_ ?_ ?_
    · exact ⟨.no, 0, rfl, rfl, by simp⟩
    · rintro J hJ x r e ⟨w2, j, rfl, h2, hr⟩
      have hj : j < zs.length := by
        apply Classical.byContradiction
        intro hn
        rw [List.drop_eq_nil_of_le (by simp [rng]; omega)] at hr
        cases hr
      have hr2 : (rng 0 zs.length).drop j = .int j :: (rng 0 zs.length).drop (j + 1) := by
        rw [List.drop_eq_getElem_cons (by simp [rng]; omega)]
        simp [rng]
      rw [hr2] at hr
      obtain ⟨rfl, rfl⟩ := List.cons.inj hr
      have ha : atI (iL zs) (j : Int) = some (.int zs[j]) := by
        rw [Sim.atI_nat, List.getElem?_map, List.getElem?_eq_getElem hj]; rfl
      simp [wNr_eq h2, ha]
      refine same_int ?_
      simp
      exact hJ _ _ ⟨_, j + 1, rfl, rfl, rfl⟩
    · rintro e ⟨w2, j, rfl, h2, hr⟩
      apply hP; clear hP P
      simp
      exact hQ
theorem lk_v {y : D} : ([(("value" : Str), y)]).lookup ("value" : Str) = some y := rfl
theorem refused_ok {ts : List (Str × Int)} {S : D} {ps rs : List (Str × List Int)} {hs ord : List Int} {n : Nat} {z : Int} {E : EF} {Q : R → List Sl → Prop} (ht : TabOk ts) (hf : FitOk ts ps hs n) (hn : n ≤ 12) (hrs : ∀ p, p ∈ rs ↔ p ∈ ps) (hrl : rs.length ≤ ps.length) (hz : reqP ord (inn hs n) = some z)
    (hQ : Q (.d (.bl true)) [.d (patD S rs hs n), .d (.lst (iL ord)), .d (.int z)]) : wF (fn__law_refused [.d (patD S rs hs n), .d (.lst (iL ord)), .d (.int z)]) E Q := by
  unfold fn__law_refused
  with_reducible refine wF_mk ?_
  unfold c__law_refused
  (with_reducible refine wS_sq ?_); intro P hP; simp
  refine order_width_ok ht hf hn hrs hrl ?_
  rw [hz]
  simp [owQ, lk_v]
  refine sameH_int ?_
  simp
  exact hQ
theorem shuffled_ok {s : D} {zs : List Int} {E : EF} {Q : R → List Sl → Prop} (hs : DrSt s) (hl : zs.length ≤ 1000) (hQ : ∀ (os : List Int) (s' : D), DrSt s' → os.Perm zs → Q (.new (.lst (iL os))) [.ref s', .d (.lst (iL zs))]) : wF (fn__law_shuffled [.ref s, .d (.lst (iL zs))]) E Q := by
  unfold fn__law_shuffled
  with_reducible refine wF_mk ?_
  unfold c__law_shuffled
  (with_reducible refine wS_sq ?_); intro P hP; simp
  apply hP; clear hP P
  (with_reducible refine wS_sq ?_); intro P hP; simp
  with_reducible refine wS_fl (fun r e => ∃ (s : D) (os dn rest : List Int) (w3 w4 : Sl), DrSt s ∧ e = [.ref s, .d (.lst (iL zs)), .own (.lst (iL os)), w3, w4] ∧ isRef w3 = false ∧ isRef w4 = false ∧ r = iL rest ∧ dn ++ rest = zs ∧ os.Perm dn) ?_ ?_ ?_
  · exact ⟨s, [], [], zs, .no, .no, hs, rfl, rfl, rfl, rfl, rfl, by simp⟩
  · rintro J hJ x r e ⟨s, os, dn, rest, w3, w4, hs, rfl, h3, h4, hx, hd, hp⟩
    obtain ⟨v, rest, rfl, rfl, rfl⟩ := map_cons hx
    have hol : os.length ≤ 1000 := by
      have h1 := hp.length_eq
      have h2 := congrArg List.length hd
      simp at h2
      omega
    simp [wNr_eq h3]
    (with_reducible refine wS_sq ?_); intro P hP; simp
    refine draw_ok hs (by omega) fun k s hs k1 k2 => ?_
    simp [wNr_eq h4]
    apply hP; clear hP P
    simp
    rw [cut_toI k1, cut_fromI k1]
    refine wC_in (by simp [lim]) (wC_in (by simp [lim]; omega) (wC_in (by simp [lim]; omega) ?_))
    have e1 : (iL os).take k.toNat ++ (.int v :: (iL os).drop k.toNat) = iL (os.take k.toNat ++ v :: os.drop k.toNat) := by
      simp only [iL, List.map_append, List.map_cons, List.map_take, List.map_drop]
    have := hJ (iL rest) _ ⟨s, os.take k.toNat ++ v :: os.drop k.toNat, dn ++ [v], rest, .d (.int v), .d (.int k), hs, rfl, rfl, rfl, rfl, by rw [← hd]; simp, ?_⟩
    · rw [← e1] at this
      simpa using this
    · refine List.perm_middle.trans ?_
      rw [List.take_append_drop]
      exact (List.perm_append_comm (l₁ := [v]) (l₂ := os)).trans (hp.append_right [v])
  · rintro e ⟨s, os, dn, rest, w3, w4, hs, rfl, h3, h4, hx, hd, hp⟩
    obtain rfl := map_nil' hx
    rw [List.append_nil] at hd
    subst hd
    apply hP; clear hP P
    simp
    exact hQ os s hs hp
theorem start_ok {zs : List Int} {E : EF} {Q : R → List Sl → Prop} (hl : zs.length ≤ 1000) (hQ : ∀ s, DrSt s → Q (.new s) [.d (.lst (iL zs))]) : wF (fn__law_start [.d (.lst (iL zs))]) E Q := by
  unfold fn__law_start
  with_reducible refine wF_mk ?_
  unfold c__law_start
  simp
  refine wO_lcP some ?_ ?_
  · intro x hx
    obtain ⟨z, hz, rfl⟩ := List.mem_map.mp hx
    simp
  rw [List.filterMap_some]
  refine wC_in (by simp [lim]; omega) ?_
  refine wC_in (by simp [lim]) ?_
  exact hQ _ ⟨zs, 0, 0, 0, 0, rfl, by omega, by omega, by omega, by omega, .inr (by omega)⟩
/-! plainly -/
theorem filter_perm {v : Int} {r l : List Int} (hn : l.Nodup) (h : (v :: r).Perm l) : r.Perm (l.filter fun u => !decide (u = v)) := by
  have hn2 : (v :: r).Nodup := h.nodup_iff.mpr hn
  obtain ⟨h1, h2⟩ := List.nodup_cons.mp hn2
  refine (List.perm_ext_iff_of_nodup h2 (List.Pairwise.filter _ hn)).mpr fun z => ?_
  rw [List.mem_filter, ← h.mem_iff, List.mem_cons]
  simp only [Bool.not_eq_true', decide_eq_false_iff_not]
  constructor
  · exact fun k => ⟨.inr k, fun e => h1 (e ▸ k)⟩
  · rintro ⟨k | k, h3⟩
    · exact absurd k h3
    · exact k
theorem req_app : ∀ {ord l r : List Int}, l.Nodup → ord.Perm l → reqP (ord ++ r) l = reqP r []
  | [], l, r, _, h => by rw [List.nil_perm.mp h]; rfl
  | v :: ord, l, r, hn, h => by
    have hv : v ∈ l := h.mem_iff.mp (List.mem_cons_self ..)
    rw [List.cons_append, reqP, if_pos hv]
    exact req_app (List.Pairwise.filter _ hn) (filter_perm hn h)
theorem req_none {ord l : List Int} (hn : l.Nodup) (h : ord.Perm l) : reqP ord l = none := by
  have := req_app (r := []) hn h
  rw [List.append_nil] at this
  rw [this]; rfl
theorem req_more {ord l : List Int} {z : Int} (hn : l.Nodup) (h : ord.Perm l) : reqP (ord ++ [z]) l = some z := by
  rw [req_app hn h]; rfl
theorem req_less {v : Int} : ∀ {r l : List Int}, l.Nodup → (v :: r).Perm l → reqP r l = some v
  | [], l, hn, h => by
    rw [List.perm_singleton.mp h.symm]; rfl
  | u :: r, l, hn, h => by
    have hu : u ∈ l := h.mem_iff.mp (by simp)
    rw [reqP, if_pos hu]
    exact req_less (List.Pairwise.filter _ hn) (filter_perm hn ((List.Perm.swap v u r).trans h))
theorem quick_perm : ∀ {k : Nat} {G : List (Int × Int)} {l : List Int}, l.Nodup → l.length = k → (quickP k G l).Perm l
  | 0, G, l, _, h => by rw [List.length_eq_zero_iff.mp h]; exact List.Perm.refl _
  | k + 1, G, l, hn, h => by
    have hne : l ≠ [] := fun z => by rw [z] at h; cases h
    have hb := best_in G hne
    rw [quickP]
    generalize best G l (l.headD 0) = b at hb ⊢
    have hl := rem_len hn hb
    have ih := quick_perm (G := takenP G b) (List.Pairwise.filter (fun v => !decide (v = b)) hn) (k := k) (by omega)
    refine (ih.cons b).trans ?_
    refine (List.perm_ext_iff_of_nodup (List.nodup_cons.mpr ⟨by simp, List.Pairwise.filter _ hn⟩) hn).mpr fun z => ?_
    rw [List.mem_cons, List.mem_filter]
    simp only [Bool.not_eq_true', decide_eq_false_iff_not]
    constructor
    · rintro (k | k)
      · rw [k]; exact hb
      · exact k.1
    · intro k
      by_cases e : z = b
      · exact .inl e
      · exact .inr ⟨k, e⟩
/-! the ring -/
def ringP (n : Nat) : List (Str × List Int) := (rI n).map fun k => ("E", [k, (k + 1).fmod n])
theorem ring_quick : ∀ k < 9, quickP (inn [] (k + 4)).length (pairsP (ringP (k + 4)) []) (inn [] (k + 4)) = rI (k + 4) := by decide +kernel
theorem ring_width : ∀ k < 9, widthP (pairsP (ringP (k + 4)) []) (rI (k + 4)) 0 = 2 := by decide +kernel
theorem ring_inn : ∀ k < 9, inn [] (k + 4) = rI (k + 4) := by decide +kernel
theorem E_w : IsW "E" := by
  refine ⟨by decide +kernel, by decide +kernel, ?_⟩
  have : ("E" : Str).cps.toList.all okC = true := by decide +kernel
  exact List.all_eq_true.mp this
theorem ring_tab : TabOk [("E", 2)] := ⟨by simp, by simpa using E_w, by simp, by simp, by simp⟩
theorem ring_fit {n : Nat} (h1 : 1 ≤ n) (h2 : n ≤ 300) : FitOk [("E", 2)] (ringP n) [] n := by
  refine ⟨fun p hp => ?_, by simp, fun v h0 h1 => .inr ⟨("E", [v, (v + 1).fmod n]), List.mem_map.mpr ⟨v, rI_mem.mpr ⟨h0, h1⟩, rfl⟩, by simp⟩, by simp [ringP, rI_len]; omega, by simp, h2⟩
  obtain ⟨k, hk, rfl⟩ := List.mem_map.mp hp
  have := rI_mem.mp hk
  refine ⟨by simp, fun z hz => ?_⟩
  simp only [List.mem_cons, List.not_mem_nil, or_false] at hz
  rcases hz with rfl | rfl
  · exact this
  · exact ⟨Int.fmod_nonneg_of_pos _ (by omega), Int.fmod_lt_of_pos _ (by omega)⟩
end Lw

namespace Lw
open PySem PySem.Spec PyProof.Rows L2 Sim SX
/-! ### the law -/
def ringD (n : Nat) (d : D) : Option D := match d with
  | .int k => some (rowD ("E", [k, (k + 1).fmod n]))
  | _ => none
theorem ringD_map (n : Nat) : ∀ zs : List Int, (iL zs).filterMap (ringD n) = (zs.map fun k => (("E", [k, (k + 1).fmod n]) : Str × List Int)).map rowD
  | [] => rfl
  | z :: zs => by
    simp only [iL, List.map_cons]
    rw [List.filterMap_cons]
    simp only [ringD]
    exact congrArg _ (ringD_map n zs)
theorem law_ok {zs : List Int} {E : EF} {Q : R → List Sl → Prop} (hl : zs.length ≤ 1000) (hQ : Q (.d (.bl true)) [.d (.lst (iL zs))]) : wF (fn_law [.d (.lst (iL zs))]) E Q := by
  unfold fn_law
  with_reducible refine wF_mk ?_
  unfold c_law
  (with_reducible refine wS_sq ?_); intro P hP; simp
  refine start_ok hl fun s hs => ?_
  simp
  apply hP; clear hP P
  (with_reducible refine wS_sq ?_); intro P hP; simp
  refine world_ok hs fun ts s hs ht => ?_
  simp
  apply hP; clear hP P
  (with_reducible refine wS_sq ?_); intro P hP; simp
  refine draw_ok hs (by omega) fun c s hs c1 c2 => ?_
  simp
  apply hP; clear hP P
  (with_reducible refine wS_sq ?_); intro P hP; simp
  refine some_ok hs ht c1 (by omega) fun ps hd n s hs hpl => ?_
  simp
  have hf : FitOk ts ps hd n := hpl.fit (by omega)
  have hn : n ≤ 12 := by have := hpl.six; omega
  have hcl := hpl.cl
  apply hP; clear hP P
  (with_reducible refine wS_sq ?_); intro P hP; simp
  refine schema_ok ht fun ns hns => ?_
  simp
  refine law_pattern_ok ht ⟨ht.nd, ns, rfl, hns⟩ hf fun rs hrs hrl => ?_
  simp
  have hind : (inn hd n).Nodup := inn_nd
  have hil := inn_len (hs := hd) (n := n)
  generalize schD ns ts = S
  apply hP; clear hP P
  (with_reducible refine wS_sq ?_); intro P hP; simp
  refine law_quick_ok ht hf hn ?_
  have hqp := quick_perm (G := pairsP ps hd) hind rfl
  generalize hdue : quickP (inn hd n).length (pairsP ps hd) (inn hd n) = due at hqp ⊢
  have hdl : due.length ≤ 12 := by have := hqp.length_eq; omega
  simp
  apply hP; clear hP P
  (with_reducible refine wS_sq ?_); intro P hP; simp
  refine quick_order_ok ht hf hn hrs hrl ?_
  rw [hdue]
  simp
  apply hP; clear hP P
  (with_reducible refine wS_sq ?_); intro P hP; simp
  refine same_ints (by omega) (.inr rfl) ?_
  simp
  apply hP; clear hP P
  (with_reducible refine wS_sq ?_); intro P hP; simp
  refine wC_in (by simp [lim]; omega) ?_
  apply hP; clear hP P
  (with_reducible refine wS_sq ?_); intro P hP; simp
  refine quick_order_ok ht hf hn hrs hrl ?_
  rw [hdue]
  simp
  refine same_ints (by omega) (.inl rfl) ?_
  simp
  refine order_width_ok ht hf hn hrs hrl ?_
  rw [req_none hind hqp]
  simp [owQ]
  refine law_width_ok ht hf hn ?_
  simp
  refine same_int ?_
  simp
  apply hP; clear hP P
  (with_reducible refine wS_sq ?_); intro P hP; simp
  refine law_inner_ok (by omega) ?_
  simp
  refine shuffled_ok hs (by omega) fun ord s hs hord => ?_
  have hol : ord.length ≤ 12 := by have := hord.length_eq; omega
  simp
  apply hP; clear hP P
  (with_reducible refine wS_sq ?_); intro P hP; simp
  refine order_width_ok ht hf hn hrs hrl ?_
  rw [req_none hind hord]
  simp [owQ]
  refine law_width_ok ht hf hn ?_
  simp
  refine same_int ?_
  simp
  apply hP; clear hP P
  have snoc : ∀ z : Int, iL ord ++ [D.int z] = iL (ord ++ [z]) := fun z => by rw [iL, iL, List.map_append]; rfl
  have more : ∀ z : Int, reqP (ord ++ [z]) (inn hd n) = some z := fun z => req_more hind hord
  (with_reducible refine wS_sq ?_); intro P hP
  have go : P [.d (.lst (iL zs)), .own s, .d (tabD ts), .d (.int c), .d (plainD ps hd n), .d (patD S rs hd n), .d (.lst (iL due)), .own (.lst (iL due ++ [.int 0])), .d (.lst (iL ord)), .no, .no, .no] := by
    apply hP; clear hP P
    (with_reducible refine wS_sq ?_); intro P hP
    have go : P [.d (.lst (iL zs)), .own s, .d (tabD ts), .d (.int c), .d (plainD ps hd n), .d (patD S rs hd n), .d (.lst (iL due)), .own (.lst (iL due ++ [.int 0])), .d (.lst (iL ord)), .no, .no, .no] := by
      apply hP; clear hP P
      (with_reducible refine wS_sq ?_); intro P hP
      have go : P [.d (.lst (iL zs)), .own s, .d (tabD ts), .d (.int c), .d (plainD ps hd n), .d (patD S rs hd n), .d (.lst (iL due)), .own (.lst (iL due ++ [.int 0])), .d (.lst (iL ord)), .no, .no, .no] := by
        apply hP; clear hP P
        (with_reducible refine wS_sq ?_); intro P hP; simp
        refine draw_ok hs (by omega) fun k s hs k1 k2 => ?_
        have hk9 : k.toNat < 9 := by omega
        obtain ⟨j, rfl⟩ : ∃ j : Nat, k = j := ⟨k.toNat, by omega⟩
        have hj : j < 9 := by omega
        have e4 : (4 : Int) + (j : Int) = ((j + 4 : Nat) : Int) := by omega
        simp
        rw [e4]
        have hrf := ring_fit (n := j + 4) (by omega) (by omega)
        have rq := ring_quick j hj
        have rw' := ring_width j hj
        have ri := ring_inn j hj
        have hrl2 : (rI (j + 4)).length = j + 4 := rI_len
        have hm12 : j + 4 ≤ 12 := by omega
        have hm1 : 1 ≤ j + 4 := by omega
        generalize j + 4 = m at hrf rq rw' ri hrl2 hm12 hm1 ⊢
        have hnd2 : (rI m).Nodup := rI_nd
        have e5 : iL ((List.range m).map fun (k : Nat) => (k : Int)) = iL (rI m) := rfl
        generalize rI m = zs2 at rq rw' ri hrl2 hnd2 e5
        apply hP; clear hP P
        (with_reducible refine wS_sq ?_); intro P hP
        have go : ∀ (S2 : D) (rs2 : List (Str × List Int)), (∀ p, p ∈ rs2 ↔ p ∈ ringP m) → rs2.length ≤ (ringP m).length → P [.d (.lst (iL zs)), .own s, .d (tabD ts), .d (.int c), .d (plainD ps hd n), .d (patD S rs hd n), .d (.lst (iL due)), .own (.lst (iL due ++ [.int 0])), .d (.lst (iL ord)), .d (.int m), .own (patD S2 rs2 [] m), .no] := by
          intro S2 rs2 r1 r2
          have k1 : ∀ {E : EF} {Q : R → List Sl → Prop}, Q (.new (.lst (iL zs2))) [.d (patD S2 rs2 [] m)] → wF (fn_quick_order [.d (patD S2 rs2 [] m)]) E Q := fun h => quick_order_ok ring_tab hrf hm12 r1 r2 (by rw [rq]; exact h)
          have k2 : ∀ {E : EF} {Q : R → List Sl → Prop}, Q (.d (.int 2)) [.d (patD S2 rs2 [] m), .d (.lst (iL zs2))] → wF (fn_order_width [.d (patD S2 rs2 [] m), .d (.lst (iL zs2))]) E Q := fun h => order_width_ok ring_tab hrf hm12 r1 r2 (by rw [ri, req_none hnd2 (List.Perm.refl _), rw']; exact h)
          apply hP; clear hP
          generalize patD S2 rs2 [] m = pat2 at k1 k2 ⊢
          clear hrf rq rw' ri
          (with_reducible refine wS_sq ?_); intro P hP; simp
          refine k1 ?_
          simp
          refine wC_in (rg (by omega) (by omega)) ?_
          refine wO_lcP some ?_ ?_
          · intro x hx
            simp
          rw [List.filterMap_some, rng_ints]
          rw [e5]
          refine wC_in (by simp [lim]; omega) ?_
          refine same_ints (by omega) (.inl rfl) ?_
          simp
          refine k1 ?_
          simp
          refine k2 ?_
          simp
          refine same_int ?_
          simp
          apply hP; clear hP P
          simp
          refine wC_in (by simp [lim]) (wC_in (by simp [lim]; omega) ?_)
          rw [snoc]
          refine refused_ok ht hf hn hrs hrl (more n) ?_
          simp
          exact hQ
        simp
        refine wC_in (by simp [lim]) (wC_in (by simp [lim]) ?_)
        refine schema_ok ring_tab fun ns2 hns2 => ?_
        simp
        refine wC_in (rg (by omega) (by omega)) ?_
        refine wO_lcP (ringD m) ?_ ?_
        · intro x hx
          rw [rng_ints] at hx
          obtain ⟨z, hz, rfl⟩ := List.mem_map.mp hx
          simp
          refine wC_in (by omega) (wC_in (by simp [lim]) ?_)
          simp [ringD]
        have e6 : (rng 0 m).filterMap (ringD m) = (ringP m).map rowD := by
          rw [rng_ints]
          exact ringD_map m _
        rw [e6]
        refine wC_in (by simp [lim, ringP, rI_len]; omega) ?_
        refine pattern_ok ring_tab ⟨ring_tab.nd, ns2, rfl, hns2⟩ hrf fun rs2 r1 r2 => ?_
        simp
        exact go _ rs2 r1 r2
      simp
      refine wIf_dec (fun h => ?_) (fun h => ?_)
      · have hz : ∃ z, atI (iL hd) 0 = some (.int z) := by
          cases hd with
          | nil => simp at hcl; omega
          | cons z r => exact ⟨z, atI_0⟩
        obtain ⟨z, ha⟩ := hz
        simp [ha]
        refine wC_in (by simp [lim]) (wC_in (by simp [lim]; omega) ?_)
        rw [snoc]
        refine refused_ok ht hf hn hrs hrl (more z) ?_
        simp
        exact go
      · exact go
    simp
    refine wIf_dec (fun h => ?_) (fun h => ?_)
    · have hz : ∃ z, atI (iL ord) (-1) = some (.int z) := by
        have h0 : ord ≠ [] := fun z => by rw [z] at h; simp at h
        rw [← List.dropLast_concat_getLast h0]
        rw [iL, List.map_append]
        exact ⟨_, atI_neg⟩
      obtain ⟨z, ha⟩ := hz
      simp [ha]
      refine wC_in (by simp [lim]) (wC_in (by simp [lim]; omega) ?_)
      rw [snoc]
      refine refused_ok ht hf hn hrs hrl (more z) ?_
      simp
      exact go
    · exact go
  simp
  refine wIf_dec (fun h => ?_) (fun h => ?_)
  · obtain ⟨v, r, rfl⟩ : ∃ v r, ord = v :: r := by
      cases ord with
      | nil => simp at h
      | cons v r => exact ⟨v, r, rfl⟩
    simp
    refine refused_ok ht hf hn hrs hrl (req_less hind hord) ?_
    simp
    exact go
  · exact go
end Lw

set_option maxHeartbeats 2000000
/-! Sim30: what a law's defs ask of the start, as one look of the head. -/
namespace Sim
open PySem PySem.W PySem.Calls PyProof.Rows He

def obsS (fs : List Fb) (fn : List DefA) (K : Frag) : AlD := (fs.all (fun f => f K) && fn.all (fun d => d.ok K), fn.map fun d => He5.fnA K (d.at_ K))
def valS (fn : List DefA) : AlD := (true, fn.map He5.DefA.val)
def lookS (n : Nat) (fs : List Fb) (fn : List DefA) (g : Addr → Option Obj) : AlD := obsS fs fn (frG g (He5.asA g n))
def hookS (n : Nat) (fs : List Fb) (fn : List DefA) : PySem.W.Hook where
  α := AlD
  obs := fun s => lookS n fs fn s.heap.get?
  val := fun _ => valS fn
  says := fun _ h => ∃ K : Frag, K.In h ∧ obsS fs fn K = valS fn
  of := fun _ _ e => ⟨_, frG_in, e⟩
  keeps := fun _ _ _ ⟨K, a, c⟩ k => ⟨K, a.keeps k, c⟩
theorem lookS_eq {n : Nat} {fs : List Fb} {fn : List DefA} {g : Addr → Option Obj} {s : Shared} (h : ∀ a, g a = s.heap.get? a) : lookS n fs fn g = (hookS n fs fn).obs s := by
  obtain rfl : g = s.heap.get? := funext h
  rfl
theorem tx_of {fs : List Fb} {fn : List DefA} {K : Frag} {mg : Mg} {h : Heap} (a : K.In h) (b : h.Ns mainGlobals mg) (c : obsS fs fn K = valS fn) : Tx fs fn K mg := by
  have c1 := congrArg Prod.fst c
  have c2 := congrArg Prod.snd c
  have c1 : (fs.all (fun f => f K) && fn.all (fun d => d.ok K)) = true := c1
  rw [Bool.and_eq_true] at c1
  exact ⟨c1.1, c1.2, c2, h, a, b⟩
end Sim

set_option maxHeartbeats 2000000
/-! Sim31: from a law's plain meaning to the head's walk. -/
namespace Sim
open PySem PySem.Spec PyProof.Rows L2
theorem walk_law {l : PySem.W.OpenLaw} {m j : Nat} {qv : Program} {ls : List Str} {XP : (Str → Option Value) → Heap → Prop} {YP : World → Heap → Prop} {d : DefRec} {C : World → CXT} {x : Str}
    (h1 : l.most = some m) (h2 : m ≤ sizeLine) (h3 : d.params.defaults = []) (h4 : Room j callerA)
    (F : ∀ (w : World) (mg : Str → Option Value) (fa : Addr) (h : Heap), YP w h → h.Ns mainGlobals mg → mg d.name = some (.ref fa) → ∃ (K : PySem.W.Frag) (fd : FuncData) (sp : Sp), K.In h ∧ (∀ (s : Shared) (u : Value), BindsTo s fd ⟨[u], []⟩ [(x, u)]) ∧
      (∀ (H : Hp) (a : Addr) (zs : List Int), zs.length ≤ m → Only H → SqL K H a (zs.map V.int) → sp [.ref a] H (fun v _ => v = .bl true) fun _ _ _ => False) ∧ ∀ base : Heap, K.In base → base.Ns mainGlobals mg → FnOk l.prog w K mg base (C w) j fa fd [x] sp)
    (h5 : ∀ (w : World) (H : Hp) (s : Shared) (e : Value) (s' : Shared), C w [] H s (fun _ _ _ => False) e s' → False) : PySem.W.WalkO qv ls XP YP l.row.toRowW d [] (fun f vs => PySem.call f vs) := by
  refine Att.attach_call h1 h3 fun w z0 z1 mg mb fa ob pm cd doc a vs zs G Y i1 i2 i3 i4 i5 i6 i7 i8 => ?_
  have q := F w mg fa _ Y G.T.g i4
  obtain ⟨K, fd, sp, kx, bd, hs, hf⟩ := q
  exact law_call kx G.T.g G.T.b G.T.builtins G.T.nolimit i8 i5 i6 (Nat.le_trans i7 h2) h4 hf bd (fun H p r => hs H a zs i7 p r) fun H e s' => h5 w H z1 e s'
/-- no list among the facts -/
def bNoList : Fb := fun K => K.all fun q => match q.2.cls with
  | .type t => !(t == "list")
  | _ => true
theorem lookup_mem {K : PySem.W.Frag} {a : Addr} {o : Obj} (h : K.lookup a = some o) : (a, o) ∈ K := by
  induction K with
  | nil => cases h
  | cons p K ih =>
    obtain ⟨b, u⟩ := p
    rw [List.lookup_cons] at h
    by_cases e : a = b
    · subst e
      rw [beq_self_eq_true] at h
      cases h
      exact List.mem_cons_self ..
    · rw [beq_false_of_ne e] at h
      exact List.mem_cons_of_mem _ (ih h)
theorem no_list {K : PySem.W.Frag} {a : Addr} {o : Obj} (hk : bNoList K = true) (h : K.lookup a = some o) : o.cls ≠ .type "list" := fun e => by
  have := List.all_eq_true.mp hk _ (lookup_mem h)
  dsimp only at this
  rw [e] at this
  simp at this
theorem rep_ints {mg : Mg} {F : Hp} : ∀ zs : List Int, RepL mg F (iL zs) (zs.map V.int)
  | [] => RepL.nil
  | z :: zs => RepL.cons (.inl rfl) (rep_ints zs)
/-- the law's plain meaning, asked at the script -/
theorem sp_law {K : PySem.W.Frag} {mg : Mg} {fn : Fn} {H : Hp} {a : Addr} {zs : List Int} (hk : bNoList K = true) (ho : Only H) (hs : SqL K H a (zs.map V.int)) (h : wF (fn [.d (.lst (iL zs))]) (fun _ _ _ => False) fun r _ => r = .d (.bl true)) :
    spOf mg 1 fn [.ref a] H (fun v _ => v = .bl true) fun _ _ _ => False := by
  have fz : ∃ o, H a = some (.frz o (.lst (zs.map V.int))) := by
    rcases hs with (hs | hs) | ⟨o, its, n, e, c, _⟩
    · rcases ho a with q | ⟨o, xs, q⟩
      · rw [hs] at q; cases q
      · rw [hs] at q; cases q
    · exact hs
    · exact absurd c (no_list hk e)
  obtain ⟨o, fz⟩ := fz
  refine ⟨rfl, fun b => if b = a then some (.lst (zs.map V.int)) else none, [.d (.lst (iL zs))], fun s q => ?_, ⟨fun b u e => ?_, rfl, fun i x e => ?_, fun i s x e m => ?_, fun i j s t b ei ej ms mt _ _ => ?_⟩, ?_⟩
  · rw [List.mem_singleton.mp q]; rfl
  · by_cases hb : b = a
    · rw [if_pos hb] at e
      cases e
      subst hb
      exact .inr ⟨trivial, o, fz⟩
    · rw [if_neg hb] at e; cases e
  · cases i with
    | zero =>
      cases e
      exact ⟨_, rfl, .inr ⟨a, _, rfl, if_pos rfl, zs.map V.int, rfl, rep_ints zs⟩⟩
    | succ i => cases e
  · cases i with
    | zero => cases e; cases m
    | succ i => cases e
  · cases i with
    | zero => cases ei; cases ms
    | succ i => cases ei
  · have h := h.out
    cases ef : fn [.d (.lst (iL zs))] with
    | stuck => rw [ef] at h; exact h
    | err x fs p => rw [ef] at h; exact h.elim
    | ret r p =>
      rw [ef] at h
      have h : r = .d (.bl true) := h
      subst h
      intro F' H' v _ _ rl
      rcases rl with q | ⟨_, _, _, _, q⟩
      · cases q; rfl
      · exact q.elim
theorem tx_app {fs gs : List Fb} {fn : List DefA} {K : PySem.W.Frag} {mg : Mg} (Z : Tx (fs ++ gs) fn K mg) : Tx fs fn K mg ∧ gs.all (fun f => f K) = true := by
  have := Z.fb
  rw [List.all_append, Bool.and_eq_true] at this
  exact ⟨⟨this.1, Z.dk, Z.df, Z.ns⟩, this.2⟩
theorem cx_no {P : Program} {w : World} (H : Hp) (s : Shared) (e : Value) (s' : Shared) (x : L2N.CX P w [] H s (fun _ _ _ => False) e s') : False := by
  obtain ⟨_, _, _, _, _, _, _, _, _, _, _, _, z⟩ := x
  exact z
end Sim

set_option maxHeartbeats 0
namespace Lw
open PySem PySem.Spec PySem.W PyProof.Rows L2 Sim
theorem law_fd {P : Program} {w : World} {K : PySem.W.Frag} {mg : Mg} (Z : Tx fs fnl K mg) : ∃ fd : FuncData, (∀ (s : Shared) (v : Value), BindsTo s fd ⟨[v], []⟩ [("script", v)]) ∧ ∀ base : Heap, FnOk P w K mg base (L2N.CX P w) 8 (He.ga K "law") fd ["script"] (spOf mg 1 fn_law) := by
  obtain ⟨fd, F⟩ := Z.def_ 39 (by rfl)
  have b := FunD.bindsA (ps := ["script"]) F fun _ _ _ _ _ _ us hl => match us, hl with | [_], _ => rfl
  exact ⟨fd, fun s v => b s [v] rfl, fun base => fn_ok F sc_law (by decide) fun cdv A outer s H E hr => sb_law Z hr⟩
theorem law_wF {zs : List Int} (h : zs.length ≤ 63) : wF (fn_law [.d (.lst (iL zs))]) (fun _ _ _ => False) fun r _ => r = .d (.bl true) := law_ok (by omega) rfl
abbrev Rw : PySem.W.OpenRow := PySem.W.OpenLaw.row PySem.Challenge.rw_pinnedbycounts_k93_quick_order
def loose : List PySem.Str := (["_wall", "PinError", "InputError", "TooLarge", "Mismatch", "BadWord", "BadWidth", "DuplicateTable", "UnknownTable", "WrongWidth", "BadValue", "Gap", "BadOrder", "merged", "ascending", "is_integer", "is_natural", "neighbour_lists", "without_value", "require_order"] : List PySem.Str) ++ (["order_width", "fewest_neighbours", "quick_order", "closed_up", "paired_rows", "paired_values", "column_classes", "sum_labels", "relabelled", "summed", "check_row", "require_match", "Pattern", "WORD_CHARACTERS", "MAX_WORD", "is_word", "Schema", "_law_start", "_law_draw", "_law_same"] : List PySem.Str) ++ (["_law_sorted", "_law_close", "_law_word", "_law_pool", "_law_tables", "_law_row", "_law_random", "_law_pattern", "_law_two_tables", "_law_world", "_law_some", "_law_shuffled", "_law_inner", "_law_pairs", "_law_near", "_law_taken", "_law_width", "_law_quick", "_law_refused"] : List PySem.Str)
abbrev hk : PySem.W.Hook := hookS 5 (fs ++ [bNoList, bFa (.glo "law")]) fnl
def ob (s : PySem.W.SharedT) : He.AlD := lookS 5 (fs ++ [bNoList, bFa (.glo "law")]) fnl (HandSHeadRun.getT s)
theorem ob_eq (s : PySem.W.SharedT) : ob s = hk.obs s.abs := lookS_eq (HandSHeadRun.getT_eq s)
theorem run (w : World) : HandSHeadRun.RunEq Rw (PySem.W.view Rw.prog [66]) hk ob 20000 loose w := by
  intro os
  kernel_rfl
end Lw
open PySem PySem.W PySem.Calls PyProof.Rows
theorem PySem.Challenge.cw_pinnedbycounts_k93_quick_order_holds : PySem.Challenge.rw_pinnedbycounts_k93_quick_order.Holds := by
  w_on; o_law
  refine HandSHeadRun.head_any (r := OpenLaw.row PySem.Challenge.rw_pinnedbycounts_k93_quick_order) (q := view (OpenLaw.row PySem.Challenge.rw_pinnedbycounts_k93_quick_order).prog [66]) (H := Lw.hk) (ob := Lw.ob) (M := 20000) (loose := Lw.loose) (d := HandSHeadRun.topDef (OpenLaw.row PySem.Challenge.rw_pinnedbycounts_k93_quick_order).prog 66) (kwd := []) Lw.ob_eq
    (by kernel_rfl) (fun s => by kernel_rfl) Lw.run (by kernel_rfl) (by kernel_rfl) (by kernel_rfl) (by rfl) (by first | assumption | decide +kernel) (by decide +kernel) ⟨rfl, rfl, rfl, rfl, rfl, by decide +kernel⟩ ?hw ?hc
  case hw => w_witness2
  case hc =>
    refine Sim.walk_law (l := PySem.Challenge.rw_pinnedbycounts_k93_quick_order) (m := 63) (j := 8) (x := "script") (C := fun w => L2N.CX (PySem.Challenge.rw_pinnedbycounts_k93_quick_order).prog w) rfl (by decide) (by kernel_rfl) ⟨rfl, by decide, by decide⟩ ?F (fun w H s e s' z => Sim.cx_no H s e s' z)
    intro w mg fa h Y G hmg0
    obtain ⟨K, KX, c⟩ := Y
    have hmg : mg ("law" : PySem.Str) = some (.ref fa) := by
      have e : (HandSHeadRun.topDef (OpenLaw.row PySem.Challenge.rw_pinnedbycounts_k93_quick_order).prog 66).name = ("law" : PySem.Str) := by kernel_rfl
      rw [← e]
      exact hmg0
    obtain ⟨Z, nl⟩ := Sim.tx_app (Sim.tx_of KX G c)
    have nl : Sim.bNoList K = true ∧ Sim.bFa (.glo "law") K = true := by simpa using nl
    obtain ⟨nl, gl⟩ := nl
    have eg : fa = He.ga K "law" := by
      have q := hmg.symm.trans (He.glo_ok KX G gl)
      cases q; rfl
    subst eg
    obtain ⟨fd, hb, hF⟩ := Lw.law_fd (P := (PySem.Challenge.rw_pinnedbycounts_k93_quick_order).prog) (w := w) Z
    exact ⟨K, fd, Sim.spOf mg 1 Lw.fn_law, KX, hb, fun H a zs hl ho hs => Sim.sp_law nl ho hs (Lw.law_wF hl), fun base _ _ => hF base⟩

