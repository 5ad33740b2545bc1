import PyProof.Rows.All
import Wide.All
import OpenK.AllK
import Wide.FinOn
import HandS.ForMost
import HandS.IsInst
import HandS.SortInts
import HandS.Zip
import HandS.SetFor
import PyProof.InstNe
import HandS.ForDict
import KE.GoesEnum
import HandS.Conv
import HandS.TupSets
import PyProof.TupleOfSeq
import HandS.List
import HandS.Style
import HandS.Remove
import PySem.Challenge.RW_corespaces_k18_whole_cores_judged
import HandS.Defaults
set_option Elab.async false
set_option linter.all false
set_option maxRecDepth 100000
set_option maxHeartbeats 4000000
namespace CS
open PySem L2

/-! ## plain data -/
/-- a Python value without addresses -/
inductive D where
  | non
  | bl (b : Bool)
  | int (i : Int)
  | str (s : Str)
  | tup (xs : List D)
  | lst (xs : List D)
  | ins (c : Str) (ns : List Str) (xs : List D)
  | pen
  /-- a built-in class, one of the program's own -/
  | ty (n : String)
  | cls (c : Str)
  deriving Inhabited

/-- the source of draws -/
structure Pen where
  cells : List Int
  at_ : Nat
  digits : Int
  count : Nat
  fold : Int

abbrev Pn := Option Pen

inductive Res (α : Type) where
  | ok (a : α)
  | exc (c : Str) (xs : List D)
  | bad
def Res.bind {α β : Type} : Res α → (α → Res β) → Res β
  | .ok a, f => f a
  | .exc c xs, _ => .exc c xs
  | .bad, _ => .bad

/-- what a name holds: nothing told, a value, an own list (free to change), an own list that is only read meanwhile -/
inductive Slot where
  | un
  | pl (d : D)
  | ow (d : D)
  | ro (d : D)
  deriving Inhabited
abbrev Env' := List Slot

def M (α : Type) := Env' → Pn → Res (α × Env' × Pn)
def M.ret {α : Type} (a : α) : M α := fun e p => .ok (a, e, p)
def M.bind {α β : Type} (m : M α) (k : α → M β) : M β := fun e p => (m e p).bind fun r => k r.1 r.2.1 r.2.2
def M.res {α : Type} (r : Res α) : M α := fun e p => r.bind fun a => .ok (a, e, p)
instance : Bind M := ⟨M.bind⟩

/-! ## how data lies in a heap -/
structure RC where
  K : PySem.W.Frag
  cls : Str → Addr
  /-- the pen, its list of cells -/
  q : Addr
  ca : Addr
  cells : List Int
  /-- the object that an __init__ makes -/
  sf : Addr

mutual
def Rep (R : RC) (F : Hp) : D → V → Prop
  | .non, v => v = .non
  | .bl b, v => v = .bl b
  | .int i, v => v = .int i
  | .str s, v => v = .str s
  | .tup ds, v => ∃ a vs, v = .ref a ∧ SqT R.K F a vs ∧ Reps R F ds vs
  | .lst ds, v => ∃ a vs, v = .ref a ∧ F a = some (.lst vs) ∧ Reps R F ds vs
  | .ins c ns ds, v => ∃ a dx vs, v = .ref a ∧ F a = some (.ins (R.cls c) dx (ns.zip vs)) ∧ vs.length = ns.length ∧ Reps R F ds vs
  | .pen, v => v = .ref R.q
  | .ty n, v => v = .ty n
  | .cls c, v => v = .ref (R.cls c)
def Reps (R : RC) (F : Hp) : List D → List V → Prop
  | [], vs => vs = []
  | d :: ds, vs => ∃ v r, vs = v :: r ∧ Rep R F d v ∧ Reps R F ds r
end

theorem Same.sqt {K : PySem.W.Frag} {F F' : Hp} {a : Addr} {xs : List V} (e : Same F F') (h : SqT K F a xs) : SqT K F' a xs := by
  rcases h with (h | ⟨o, h⟩) | h
  · exact .inl (.inl (e _ _ h))
  · exact .inl (.inr ⟨o, e _ _ h⟩)
  · exact .inr h

mutual
theorem Rep.mono {R : RC} {F F' : Hp} (s : Same F F') : ∀ {d : D} {v : V}, Rep R F d v → Rep R F' d v
  | .non, _, h => by simpa [Rep] using h
  | .bl _, _, h => by simpa [Rep] using h
  | .int _, _, h => by simpa [Rep] using h
  | .str _, _, h => by simpa [Rep] using h
  | .tup ds, v, h => by
    simp only [Rep] at h ⊢
    obtain ⟨a, vs, e, q, r⟩ := h
    exact ⟨a, vs, e, Same.sqt s q, Reps.mono s r⟩
  | .lst ds, v, h => by
    simp only [Rep] at h ⊢
    obtain ⟨a, vs, e, q, r⟩ := h
    exact ⟨a, vs, e, s _ _ q, Reps.mono s r⟩
  | .ins c ns ds, v, h => by
    simp only [Rep] at h ⊢
    obtain ⟨a, dx, vs, e, q, l, r⟩ := h
    exact ⟨a, dx, vs, e, s _ _ q, l, Reps.mono s r⟩
  | .pen, _, h => by simpa [Rep] using h
  | .ty _, _, h => by simpa [Rep] using h
  | .cls _, _, h => by simpa [Rep] using h
theorem Reps.mono {R : RC} {F F' : Hp} (s : Same F F') : ∀ {ds : List D} {vs : List V}, Reps R F ds vs → Reps R F' ds vs
  | [], _, h => by simpa [Reps] using h
  | d :: ds, _, h => by
    simp only [Reps] at h ⊢
    obtain ⟨v, r, e, h1, h2⟩ := h
    exact ⟨v, r, e, Rep.mono s h1, Reps.mono s h2⟩
end
theorem Reps.length {R : RC} {F : Hp} : ∀ {ds : List D} {vs : List V}, Reps R F ds vs → vs.length = ds.length
  | [], vs, h => by simp only [Reps] at h; subst h; rfl
  | d :: ds, vs, h => by
    simp only [Reps] at h
    obtain ⟨v, r, rfl, _, h2⟩ := h
    simp [Reps.length h2]
theorem Reps.get {R : RC} {F : Hp} : ∀ {ds : List D} {vs : List V} {i : Nat} {d : D}, Reps R F ds vs → ds[i]? = some d → ∃ v, vs[i]? = some v ∧ Rep R F d v
  | [], _, _, _, _, h => by simp at h
  | d :: ds, vs, 0, d', h, e => by
    simp only [Reps] at h
    obtain ⟨v, r, rfl, h1, h2⟩ := h
    simp at e; subst e
    exact ⟨v, rfl, h1⟩
  | d :: ds, vs, i + 1, d', h, e => by
    simp only [Reps] at h
    obtain ⟨v, r, rfl, h1, h2⟩ := h
    obtain ⟨w, q1, q2⟩ := Reps.get (i := i) h2 (by simpa using e)
    exact ⟨w, by simpa using q1, q2⟩
theorem Reps.append {R : RC} {F : Hp} : ∀ {ds es : List D} {vs ws : List V}, Reps R F ds vs → Reps R F es ws → Reps R F (ds ++ es) (vs ++ ws)
  | [], es, vs, ws, h, h' => by simp only [Reps] at h; subst h; exact h'
  | d :: ds, es, vs, ws, h, h' => by
    simp only [Reps] at h
    obtain ⟨v, r, rfl, h1, h2⟩ := h
    simp only [List.cons_append, Reps]
    exact ⟨v, r ++ ws, rfl, h1, Reps.append h2 h'⟩
theorem Reps.nil {R : RC} {F : Hp} : Reps R F [] [] := by simp [Reps]
theorem Reps.cons {R : RC} {F : Hp} {d : D} {ds : List D} {v : V} {vs : List V} (h : Rep R F d v) (hs : Reps R F ds vs) : Reps R F (d :: ds) (v :: vs) := by
  simp only [Reps]; exact ⟨v, vs, rfl, h, hs⟩
theorem Reps.one {R : RC} {F : Hp} {d : D} {v : V} (h : Rep R F d v) : Reps R F [d] [v] := .cons h .nil
theorem Reps.set {R : RC} {F : Hp} {d : D} {v : V} (h : Rep R F d v) : ∀ {ds : List D} {vs : List V} (i : Nat), Reps R F ds vs → Reps R F (ds.set i d) (vs.set i v)
  | [], vs, i, h' => by simp only [Reps] at h'; subst h'; simp [Reps]
  | e :: ds, vs, 0, h' => by
    simp only [Reps] at h'
    obtain ⟨w, r, rfl, h1, h2⟩ := h'
    simp only [List.set_cons_zero]; exact .cons h h2
  | e :: ds, vs, i + 1, h' => by
    simp only [Reps] at h'
    obtain ⟨w, r, rfl, h1, h2⟩ := h'
    simp only [List.set_cons_succ]; exact .cons h1 (Reps.set h i h2)
theorem Reps.erase {R : RC} {F : Hp} : ∀ {ds : List D} {vs : List V} (i : Nat), Reps R F ds vs → Reps R F (ds.eraseIdx i) (vs.eraseIdx i)
  | [], vs, i, h' => by simp only [Reps] at h'; subst h'; simp [Reps]
  | e :: ds, vs, 0, h' => by
    simp only [Reps] at h'
    obtain ⟨w, r, rfl, h1, h2⟩ := h'
    simpa using h2
  | e :: ds, vs, i + 1, h' => by
    simp only [Reps] at h'
    obtain ⟨w, r, rfl, h1, h2⟩ := h'
    simp only [List.eraseIdx_cons_succ]; exact .cons h1 (Reps.erase i h2)
theorem Reps.take {R : RC} {F : Hp} : ∀ {ds : List D} {vs : List V} (n : Nat), Reps R F ds vs → Reps R F (ds.take n) (vs.take n)
  | [], vs, n, h' => by simp only [Reps] at h'; subst h'; simp [Reps]
  | e :: ds, vs, 0, h' => by simp [Reps]
  | e :: ds, vs, n + 1, h' => by
    simp only [Reps] at h'
    obtain ⟨w, r, rfl, h1, h2⟩ := h'
    simp only [List.take_succ_cons]; exact .cons h1 (Reps.take n h2)
theorem Reps.drop {R : RC} {F : Hp} : ∀ {ds : List D} {vs : List V} (n : Nat), Reps R F ds vs → Reps R F (ds.drop n) (vs.drop n)
  | [], vs, n, h' => by simp only [Reps] at h'; subst h'; simp [Reps]
  | e :: ds, vs, 0, h' => by simpa using h'
  | e :: ds, vs, n + 1, h' => by
    simp only [Reps] at h'
    obtain ⟨w, r, rfl, h1, h2⟩ := h'
    simp only [List.drop_succ_cons]; exact Reps.drop n h2
theorem Reps.reverse {R : RC} {F : Hp} : ∀ {ds : List D} {vs : List V}, Reps R F ds vs → Reps R F ds.reverse vs.reverse
  | [], vs, h' => by simp only [Reps] at h'; subst h'; simp [Reps]
  | e :: ds, vs, h' => by
    simp only [Reps] at h'
    obtain ⟨w, r, rfl, h1, h2⟩ := h'
    simp only [List.reverse_cons]; exact (Reps.reverse h2).append (.one h1)

/-! ## the state -/
structure Bs where
  F0 : Hp
  H0 : Hp
  pn : Bool

def penK (P : Pen) (ca : Addr) : List (Key × V) :=
  [(.inr "cells", .ref ca), (.inr "at", .int P.at_), (.inr "digits", .int P.digits), (.inr "count", .int P.count), (.inr "fold", .int P.fold)]
def PenRel (R : RC) (F H : Hp) : Pn → Prop
  | none => True
  | some P => F R.q = none ∧ H R.q = some (.dK (penK P R.ca)) ∧ P.cells = R.cells

/-- an own list, an own object that is being made -/
def Own (R : RC) (F H : Hp) (d : D) (a : Addr) : Prop :=
  (∃ ds vs, d = .lst ds ∧ H a = some (.lst vs) ∧ Reps R F ds vs) ∨
  (∃ c ns ds dx vs, a = R.sf ∧ d = .ins c ns ds ∧ H a = some (.ins (R.cls c) dx (ns.zip vs)) ∧ vs.length = ns.length ∧ Reps R F ds vs)
theorem Own.there {R : RC} {F H : Hp} {d : D} {a : Addr} (o : Own R F H d a) : H a ≠ none := by
  rcases o with ⟨ds, vs, _, h, _⟩ | ⟨c, ns, ds, dx, vs, _, _, h, _⟩ <;> rw [h] <;> simp
theorem Own.keep {R : RC} {F F' H H' : Hp} {d : D} {a : Addr} (o : Own R F H d a) (s : Same F F') (h : H' a = H a) : Own R F' H' d a := by
  rcases o with ⟨ds, vs, e, h1, r⟩ | ⟨c, ns, ds, dx, vs, e0, e, h1, l, r⟩
  · exact .inl ⟨ds, vs, e, h.trans h1, r.mono s⟩
  · exact .inr ⟨c, ns, ds, dx, vs, e0, e, h.trans h1, l, r.mono s⟩

def SlotRel (R : RC) (B : Bs) (F H : Hp) : Slot → Option (Option V) → Prop
  | .un, _ => True
  | .pl d, o => ∃ v, o = some (some v) ∧ Rep R F d v
  | .ow d, o => ∃ a, o = some (some (.ref a)) ∧ F a = none ∧ B.H0 a = none ∧ (a ≠ R.q ∨ B.pn = false) ∧ Own R F H d a
  | .ro d, o => ∃ a, o = some (some (.ref a)) ∧ F a = none ∧ (a ≠ R.q ∨ B.pn = false) ∧ Own R F H d a

def Slot.isO : Slot → Bool
  | .ow _ => true
  | .ro _ => true
  | _ => false
/-- the i-th name holds the own list at a -/
def OwnAt (env : Env') (σ : St) (i : Nat) (a : Addr) : Prop := (∃ s, env[i]? = some s ∧ s.isO = true) ∧ σ[i]? = some (some (.ref a))

structure SRel (R : RC) (B : Bs) (env : Env') (p : Pn) (σ : St) (F H : Hp) : Prop where
  fh : Same F H
  f0 : Same B.F0 F
  h0 : ∀ b o, (b ≠ R.q ∨ B.pn = false) → B.H0 b = some o → H b = some o
  fresh : ∀ a, F a ≠ none → B.F0 a ≠ none ∨ B.H0 a = none
  pnb : p.isSome = B.pn
  pen : PenRel R F H p
  cel : B.pn = true → SqL R.K B.F0 R.ca (R.cells.map V.int)
  len : env.length = σ.length
  slots : ∀ (i : Nat) (s : Slot), env[i]? = some s → SlotRel R B F H s σ[i]?
  dis : ∀ (i j : Nat) (a : Addr), i ≠ j → OwnAt env σ i a → OwnAt env σ j a → False

/-- a step that keeps all that was there (but the pen), new things may be frozen -/
structure Ext (R : RC) (F H : Hp) (p : Pn) (F' H' : Hp) (p' : Pn) : Prop where
  ff : Same F F'
  fh : Same F' H'
  hh : ∀ b o, (b ≠ R.q ∨ p = none) → H b = some o → H' b = some o
  fresh : ∀ a, F' a ≠ none → F a ≠ none ∨ H a = none
  pnb : p'.isSome = p.isSome
  pen : PenRel R F' H' p'

theorem isSome_false {α : Type} {o : Option α} (h : o.isSome = false) : o = none := by cases o <;> simp_all
section
variable {R : RC} {B : Bs} {env : Env'} {p p' : Pn} {σ : St} {F F' H H' : Hp}

theorem SRel.pnone (S : SRel R B env p σ F H) : B.pn = false ↔ p = none := by
  rw [← S.pnb]; cases p <;> simp
theorem SRel.hq (S : SRel R B env p σ F H) {a : Addr} (h : H a = none) : B.H0 a = none := by
  cases e : B.H0 a with
  | none => rfl
  | some o =>
    by_cases hb : a ≠ R.q ∨ B.pn = false
    · rw [S.h0 a o hb e] at h; cases h
    · have h1 : a = R.q := Classical.byContradiction fun z => hb (.inl z)
      have h2 : ¬ p = none := fun z => hb (.inr (S.pnone.mpr z))
      cases p with
      | none => exact absurd rfl h2
      | some P =>
        obtain ⟨_, e1, _⟩ := S.pen
        rw [← h1, h] at e1; cases e1
theorem Own.ext {d : D} {a : Addr} (o : Own R F H d a) (e : Ext R F H p F' H' p') (hq : a ≠ R.q ∨ p = none) : Own R F' H' d a := by
  refine o.keep e.ff ?_
  cases z : H a with
  | none => exact absurd z o.there
  | some u => exact e.hh _ _ hq z
theorem SRel.ext (S : SRel R B env p σ F H) (e : Ext R F H p F' H' p') : SRel R B env p' σ F' H' where
  fh := e.fh
  f0 := S.f0.trans e.ff
  h0 := fun b o hb h => e.hh b o (hb.imp id S.pnone.mp) (S.h0 b o hb h)
  fresh := fun a h => by
    rcases e.fresh a h with h1 | h1
    · exact S.fresh a h1
    · exact .inr (S.hq h1)
  pnb := by rw [e.pnb]; exact S.pnb
  pen := e.pen
  cel := S.cel
  len := S.len
  slots := fun i s hi => by
    have := S.slots i s hi
    cases s with
    | un => trivial
    | pl d => obtain ⟨v, h1, h2⟩ := this; exact ⟨v, h1, h2.mono e.ff⟩
    | ow d =>
      obtain ⟨a, h1, h2, h3, h4, h5⟩ := this
      refine ⟨a, h1, ?_, h3, h4, h5.ext e (h4.imp id S.pnone.mp)⟩
      cases z : F' a with
      | none => rfl
      | some o =>
        rcases e.fresh a (by rw [z]; simp) with h | h
        · exact absurd h2 h
        · exact absurd h h5.there
    | ro d =>
      obtain ⟨a, h1, h2, h4, h5⟩ := this
      refine ⟨a, h1, ?_, h4, h5.ext e (h4.imp id S.pnone.mp)⟩
      cases z : F' a with
      | none => rfl
      | some o =>
        rcases e.fresh a (by rw [z]; simp) with h | h
        · exact absurd h2 h
        · exact absurd h h5.there
  dis := S.dis
theorem Ext.refl (S : SRel R B env p σ F H) : Ext R F H p F H p := ⟨Same.refl _, S.fh, fun _ _ _ h => h, fun _ h => .inl h, rfl, S.pen⟩
theorem PenRel.mono (h : PenRel R F H p) (ff : Same F F') (hh : ∀ o, H R.q = some o → H' R.q = some o) (nq : p ≠ none → F' R.q = none) : PenRel R F' H' p := by
  cases p with
  | none => trivial
  | some P =>
    obtain ⟨_, h1, h2⟩ := h
    exact ⟨nq (by simp), hh _ h1, h2⟩
theorem same_upd {o : HO} {a : Addr} (h : F a = none) : Same F (upd F a o) := fun b o e => by rw [upd_ne (ne_of_none e h)]; exact e
theorem same_upd2 {o : HO} {a : Addr} (s : Same F H) : Same (upd F a o) (upd H a o) := fun b o e => by
  by_cases hb : b = a
  · subst hb; rw [upd_same] at e ⊢; exact e
  · rw [upd_ne hb] at e ⊢; exact s _ _ e
/-- a new frozen object -/
theorem SRel.alloc (S : SRel R B env p σ F H) {a : Addr} {o : HO} (hn : H a = none) : Ext R F H p (upd F a o) (upd H a o) p := by
  have fn : F a = none := S.fh.free hn
  refine ⟨same_upd fn, same_upd2 S.fh, fun b o _ e => by rw [upd_ne (ne_of_none e hn)]; exact e, fun b h => ?_, rfl, S.pen.mono (same_upd fn) (fun o e => by rw [upd_ne (ne_of_none e hn)]; exact e) fun hp => ?_⟩
  · by_cases hb : b = a
    · subst hb; exact .inr hn
    · rw [upd_ne hb] at h; exact .inl h
  · cases p with
    | none => exact absurd rfl hp
    | some P =>
      obtain ⟨h1, h2, _⟩ := S.pen
      rw [upd_ne (ne_of_none h2 hn)]; exact h1
/-- a new object that stays unfrozen -/
theorem SRel.allocO (S : SRel R B env p σ F H) {a : Addr} {o : HO} (hn : H a = none) : Ext R F H p F (upd H a o) p := by
  refine ⟨Same.refl _, fun b o e => ?_, fun b o _ e => by rw [upd_ne (ne_of_none e hn)]; exact e, fun b h => .inl h, rfl, S.pen.mono (Same.refl _) (fun o e => by rw [upd_ne (ne_of_none e hn)]; exact e) fun hp => ?_⟩
  · rw [upd_ne (ne_of_none (S.fh _ _ e) hn)]; exact S.fh _ _ e
  · cases p with
    | none => exact absurd rfl hp
    | some P => exact S.pen.1
theorem Ext.trans {F2 H2 : Hp} {p2 : Pn} (S : SRel R B env p σ F H) (a : Ext R F H p F' H' p') (b : Ext R F' H' p' F2 H2 p2) : Ext R F H p F2 H2 p2 where
  ff := a.ff.trans b.ff
  fh := b.fh
  hh := fun c o hc h => b.hh c o (hc.imp id fun e => by
    have := a.pnb
    rw [e] at this
    exact isSome_false this) (a.hh c o hc h)
  fresh := fun c h => by
    rcases b.fresh c h with h1 | h1
    · exact a.fresh c h1
    · have S' := S.ext a
      cases e : H c with
      | none => exact .inr rfl
      | some o =>
        by_cases hc : c ≠ R.q ∨ p = none
        · rw [a.hh c o hc e] at h1; cases h1
        · have e1 : c = R.q := Classical.byContradiction fun z => hc (.inl z)
          have e2 : p ≠ none := fun z => hc (.inr z)
          cases p' with
          | none => exact absurd (isSome_false a.pnb.symm) e2
          | some P =>
            obtain ⟨_, z, _⟩ := a.pen
            rw [← e1, h1] at z; cases z
  pnb := b.pnb.trans a.pnb
  pen := b.pen
end
end CS
namespace CS
open PySem L2

/-! ## readings from plain programs -/
def Cn (R : RC) {α β : Type} (Rl : Hp → α → β → Prop) (m : M α) (Q : β → Hp → Prop) (σ : St) (B : Bs) (env : Env') (p : Pn) (F H : Hp) : Prop :=
  SRel R B env p σ F H ∧ ∃ a env' p', m env p = .ok (a, env', p') ∧ ∀ b F' H', Same F F' → SRel R B env' p' σ F' H' → Rl F' a b → Q b H'
def lM (R : RC) {α β : Type} (Rl : Hp → α → β → Prop) (m : M α) : St → Hp → (β → Hp → Prop) → Prop := fun σ H Q => ∃ B env p F, Cn R Rl m Q σ B env p F H
abbrev REq {α : Type} : Hp → α → α → Prop := fun _ a b => a = b
abbrev lE (R : RC) (m : M D) : TE := lM R (Rep R) m
abbrev lT (R : RC) (m : M Bool) : TT := lM R REq m
abbrev lA (R : RC) (m : M (List D)) : TA := lM R (Reps R) m
abbrev lO (R : RC) (m : M (Option Int)) : TO := lM R REq m

theorem Res.bind_ok {α β : Type} {r : Res α} {f : α → Res β} {b : β} (h : r.bind f = .ok b) : ∃ a, r = .ok a ∧ f a = .ok b := by
  cases r with
  | ok a => exact ⟨a, rfl, h⟩
  | exc c xs => cases h
  | bad => cases h
theorem bind_ok {α β : Type} {m : M α} {k : α → M β} {env : Env'} {p : Pn} {r : β × Env' × Pn} (h : (m >>= k) env p = .ok r) : ∃ a env1 p1, m env p = .ok (a, env1, p1) ∧ k a env1 p1 = .ok r := by
  obtain ⟨⟨a, env1, p1⟩, h1, h2⟩ := Res.bind_ok (show (m env p).bind _ = _ from h)
  exact ⟨a, env1, p1, h1, h2⟩

section
variable {R : RC} {α β γ δ : Type} {Rl : Hp → α → β → Prop} {Rl2 : Hp → γ → δ → Prop} {m : M α} {k : α → M γ} {Q : δ → Hp → Prop} {σ : St} {B : Bs} {env : Env'} {p : Pn} {F H : Hp}
theorem Cn.seq {Q1 : β → Hp → Prop} (h : Cn R Rl2 (m >>= k) Q σ B env p F H)
    (hq : ∀ a b env1 p1 F1 H1, Same F F1 → Rl F1 a b → Cn R Rl2 (k a) Q σ B env1 p1 F1 H1 → Q1 b H1) : Cn R Rl m Q1 σ B env p F H := by
  obtain ⟨S, c, env', p', e, q⟩ := h
  obtain ⟨a, env1, p1, e1, e2⟩ := bind_ok e
  exact ⟨S, a, env1, p1, e1, fun b F1 H1 s1 S1 r1 => hq a b env1 p1 F1 H1 s1 r1 ⟨S1, c, env', p', e2, fun d F' H' s2 => q d F' H' (s1.trans s2)⟩⟩
theorem Cn.lm {m : M γ} (h : Cn R Rl2 m Q σ B env p F H) : lM R Rl2 m σ H Q := ⟨B, env, p, F, h⟩
theorem Cn.sq {Q1 : β → Hp → Prop} (h : Cn R Rl2 (m >>= k) Q σ B env p F H)
    (hq : ∀ a b env1 p1 F1 H1, Same F F1 → Rl F1 a b → Cn R Rl2 (k a) Q σ B env1 p1 F1 H1 → Q1 b H1) : lM R Rl m σ H Q1 := (h.seq hq).lm
/-- the last step: the value is there -/
theorem Cn.res {r : Res γ} (h : Cn R Rl2 (M.res r) Q σ B env p F H) : ∃ a, r = .ok a ∧ ∀ b F' H', Same F F' → SRel R B env p σ F' H' → Rl2 F' a b → Q b H' := by
  obtain ⟨S, c, env', p', e, q⟩ := h
  obtain ⟨a, e1, e2⟩ := Res.bind_ok (show r.bind _ = _ from e)
  cases e2
  exact ⟨c, e1, q⟩
theorem Cn.ret {a : γ} (h : Cn R Rl2 (M.ret a) Q σ B env p F H) : ∀ b F' H', Same F F' → SRel R B env p σ F' H' → Rl2 F' a b → Q b H' := by
  obtain ⟨S, c, env', p', e, q⟩ := h
  cases e
  exact q
theorem Cn.S {m : M γ} (h : Cn R Rl2 m Q σ B env p F H) : SRel R B env p σ F H := h.1
end

section
variable {X : Cx} {e : Expr}
theorem PE.imp {t t' : TE} (h : PE X e t) (w : ∀ σ H Q, t' σ H Q → t σ H Q) : PE X e t' := ⟨fun pins s σ H Q I q => h.run pins s σ H Q I (w _ _ _ q)⟩
theorem PT.imp {t t' : TT} (h : PT X e t) (w : ∀ σ H Q, t' σ H Q → t σ H Q) : PT X e t' := ⟨fun pins s σ H Q I q => h.run pins s σ H Q I (w _ _ _ q)⟩
theorem PW.imp {t t' : TT} (h : PW X e t) (w : ∀ σ H Q, t' σ H Q → t σ H Q) : PW X e t' := ⟨fun wh pins s σ H Q I q => h.run wh pins s σ H Q I (w _ _ _ q)⟩
theorem PA.imp {es : List Expr} {t t' : TA} (h : PA X es t) (w : ∀ σ H Q, t' σ H Q → t σ H Q) : PA X es t' := ⟨fun pos pins s σ H Q I q => h.run pos pins s σ H Q I (w _ _ _ q)⟩
theorem PS.imp {st : Stmt} {t t' : TS} (h : PS X st t) (w : ∀ σ H Q, t' σ H Q → t σ H Q) : PS X st t' := ⟨fun pins s σ H D I q => h.run pins s σ H D I (w _ _ _ q)⟩
theorem PSs.imp {st : List Stmt} {t t' : TS} (h : PSs X st t) (w : ∀ σ H Q, t' σ H Q → t σ H Q) : PSs X st t' := ⟨fun pins s σ H D I q => h.run pins s σ H D I (w _ _ _ q)⟩
theorem PI.imp {tg : Expr} {t t' : TI} (h : PI X tg e t) (w : ∀ σ H Q, t' σ H Q → t σ H Q) : PI X tg e t' := ⟨fun pins s σ H Q I q => h.run pins s σ H Q I (w _ _ _ q)⟩
theorem PG.imp {t t' : TG} (h : PG X e t) (w : ∀ v σ H Q, t' v σ H Q → t v σ H Q) : PG X e t' := ⟨fun pins s σ H v u Q I r q => h.run pins s σ H v u Q I r (w _ _ _ _ q)⟩
theorem PO.imp {e : Option Expr} {t t' : TO} (h : PO X e t) (w : ∀ σ H Q, t' σ H Q → t σ H Q) : PO X e t' := by
  refine ⟨fun pins s σ H Q I q => ?_⟩
  exact h.run pins s σ H Q I (w _ _ _ q)
end

/-! ## names, constants -/
def getPl (env : Env') (i : Nat) : Res D := match env[i]? with
  | some (.pl d) => .ok d
  | _ => .bad
def dVar (i : Nat) : M D := fun env p => (getPl env i).bind fun d => .ok (d, env, p)
theorem getPl_ok {env : Env'} {i : Nat} {d : D} (h : getPl env i = .ok d) : env[i]? = some (.pl d) := by
  unfold getPl at h
  split at h
  · rename_i e; cases h; exact e
  · cases h
section
variable {X : Cx} {R : RC}
theorem de_var {i : Nat} {x : Str} {pos : Pos} (h : PE X (.Name x pos) (tVar i)) : PE X (.Name x pos) (lE R (dVar i)) := by
  refine PE.imp h fun σ H Q ⟨B, env, p, F, S, a, env', p', e, q⟩ => ?_
  obtain ⟨d, e1, e2⟩ := Res.bind_ok (show (getPl env i).bind _ = _ from e)
  cases e2
  obtain ⟨v, h1, h2⟩ := S.slots _ _ (getPl_ok e1)
  exact ⟨v, h1, q v F H (Same.refl _) S h2⟩
theorem de_const {e : Expr} {v : V} {d : D} (h : PE X e (tC v)) (hd : ∀ F, Rep R F d v) : PE X e (lE R (M.ret d)) := by
  refine PE.imp h fun σ H Q ⟨B, env, p, F, c⟩ => ?_
  exact c.ret v F H (Same.refl _) c.S (hd F)
theorem de_int {i : Int} {j pos} : PE X (.Constant (.int i) j pos) (lE R (M.ret (.int i))) := de_const pe_int fun _ => by simp [Rep]
theorem de_bl {b : Bool} {j pos} : PE X (.Constant (.bool b) j pos) (lE R (M.ret (.bl b))) := de_const pe_bl fun _ => by simp [Rep]
theorem de_non {j pos} : PE X (.Constant .none j pos) (lE R (M.ret .non)) := de_const pe_non fun _ => by simp [Rep]
theorem de_str {x : Str} {j pos} : PE X (.Constant (.str x) j pos) (lE R (M.ret (.str x))) := de_const pe_str fun _ => by simp [Rep]
end

/-! ## operators -/
def m2 (f : D → D → Res D) (a b : M D) : M D := a >>= fun x => b >>= fun y => M.res (f x y)
def m1 (f : D → Res D) (a : M D) : M D := a >>= fun x => M.res (f x)
/-- what is to be shown of a value: it may be new -/
def Wn (R : RC) (B : Bs) (env : Env') (p : Pn) (σ : St) (F : Hp) (z : D) (Q : VK) : Prop := ∀ u F' H', Same F F' → SRel R B env p σ F' H' → Rep R F' z u → Q u H'
structure OpD (R : RC) (r : R2) (f : D → D → Res D) : Prop where
  run : ∀ {B : Bs} {env : Env'} {p : Pn} {σ : St} {F H : Hp} {x y z : D} {v w : V} {Q : VK},
  SRel R B env p σ F H → Rep R F x v → Rep R F y w → f x y = .ok z → Wn R B env p σ F z Q → r v w H Q
structure UnD (R : RC) (r : V → Hp → VK → Prop) (f : D → Res D) : Prop where
  run : ∀ {B : Bs} {env : Env'} {p : Pn} {σ : St} {F H : Hp} {x z : D} {v : V} {Q : VK},
  SRel R B env p σ F H → Rep R F x v → f x = .ok z → Wn R B env p σ F z Q → r v H Q
structure CallD (R : RC) (r : List V → Hp → VK → Prop) (f : List D → Res D) : Prop where
  run : ∀ {B : Bs} {env : Env'} {p : Pn} {σ : St} {F H : Hp} {xs : List D} {z : D} {vs : List V} {Q : VK},
  SRel R B env p σ F H → Reps R F xs vs → f xs = .ok z → Wn R B env p σ F z Q → r vs H Q
section
variable {X : Cx} {R : RC} {a b c : Expr} {m n l : M D} {f g : D → D → Res D} {r r' : R2} {pos : Pos}
theorem op2 (hd : OpD R r f) {σ : St} {H : Hp} {Q : VK} (h : lE R (m2 f m n) σ H Q) : tOp r (lE R m) (lE R n) σ H Q := by
  obtain ⟨B, env, p, F, c⟩ := h
  refine c.sq fun x v env1 p1 F1 H1 s1 r1 c1 => c1.sq fun y w env2 p2 F2 H2 s2 r2 c2 => ?_
  obtain ⟨z, e, q⟩ := c2.res
  exact hd.run c2.S (r1.mono s2) r2 e q
theorem de_op {op : Operator} (ho : OpR X (binaryOp op) r) (hd : OpD R r f) (ha : PE X a (lE R m)) (hb : PE X b (lE R n)) : PE X (.BinOp a op b pos) (lE R (m2 f m n)) :=
  PE.imp (pe_op ho ha hb) fun _ _ _ h => op2 hd h
theorem de_cmp {op : CmpOp} (ho : OpR X (compareOp op) r) (hd : OpD R r f) (ha : PE X a (lE R m)) (hb : PE X b (lE R n)) (hm : behindInMarks op b = false) : PE X (.Compare a [op] [b] pos) (lE R (m2 f m n)) :=
  PE.imp (pe_cmpR ho ha hb hm) fun _ _ _ h => op2 hd h
def asB : D → Res Bool
  | .bl b => .ok b
  | _ => .bad
def mB (m : M D) : M Bool := m >>= fun x => M.res (asB x)
theorem asB_ok {d : D} {b : Bool} (h : asB d = .ok b) : d = .bl b := by
  unfold asB at h
  split at h
  · cases h; rfl
  · cases h
theorem tst {te : TE} (w : ∀ {σ H Q}, lE R m σ H Q → te σ H Q) {σ : St} {H : Hp} {Q : Bool → Hp → Prop} (h : lT R (mB m) σ H Q) : te σ H fun x H1 => ∃ c, x = .bl c ∧ Q c H1 := by
  obtain ⟨B, env, p, F, c⟩ := h
  refine w (c.sq fun x v env1 p1 F1 H1 s1 r1 c1 => ?_)
  obtain ⟨z, e, q⟩ := c1.res
  cases asB_ok e
  simp only [Rep] at r1
  exact ⟨z, r1, q z F1 H1 (Same.refl _) c1.S rfl⟩
theorem dt_cmp {op : CmpOp} (ho : OpR X (compareOp op) r) (hd : OpD R r f) (ha : PE X a (lE R m)) (hb : PE X b (lE R n)) (hm : behindInMarks op b = false) : PT X (.Compare a [op] [b] pos) (lT R (mB (m2 f m n))) :=
  PT.imp (pt_cmpR ho ha hb hm) fun _ _ _ h => tst (te := tOp r (lE R m) (lE R n)) (fun h => op2 hd h) h
theorem dt_val {e : Expr} (h : PE X e (lE R m)) (he : ∀ whole, isTrue e X.env whole = (do let v ← whole; standAt e.pos; holding [v] (truthy v)) := by intro _; rfl) : PT X e (lT R (mB m)) :=
  PT.imp (pt_val h he) fun _ _ _ h => tst (te := lE R m) (fun h => h) h
/-- a < b < c -/
def mChain (f g : D → D → Res D) (m n l : M D) : M D := m >>= fun x => n >>= fun y => M.res (f x y) >>= fun z => M.res (asB z) >>= fun k => if k = true then l >>= fun w => M.res (g y w) else M.ret (.bl false)
theorem chain2 (hd : OpD R r f) (hd' : OpD R r' g) {σ : St} {H : Hp} {Q : VK} (h : lE R (mChain f g m n l) σ H Q) : tChain r r' (lE R m) (lE R n) (lE R l) σ H Q := by
  obtain ⟨B, env, p, F, c⟩ := h
  refine c.sq fun x v env1 p1 F1 H1 s1 r1 c1 => c1.sq fun y w env2 p2 F2 H2 s2 r2 c2 => ?_
  obtain ⟨S, z, env', p', e, q⟩ := c2
  obtain ⟨z1, env3, p3, e1, e2⟩ := bind_ok e
  obtain ⟨z1', g1, g1'⟩ := Res.bind_ok (show (f x y).bind _ = _ from e1)
  cases g1'
  obtain ⟨k, env4, p4, e3, e4⟩ := bind_ok e2
  obtain ⟨k', g3, g3'⟩ := Res.bind_ok (show (asB z1).bind _ = _ from e3)
  cases g3'
  cases asB_ok g3
  refine hd.run S (r1.mono s2) r2 g1 fun u F' H' s3 S3 r3 => ⟨k, by simpa [Rep] using r3, ?_⟩
  cases k with
  | true =>
    rw [if_pos rfl] at e4 ⊢
    refine Cn.sq ⟨S3, z, env', p', e4, fun d F' H' s4 => q d F' H' (s3.trans s4)⟩ fun w2 u2 env5 p5 F5 H5 s5 r5 c5 => ?_
    obtain ⟨z5, e5, q5⟩ := c5.res
    exact hd'.run c5.S (r2.mono (s3.trans s5)) r5 e5 q5
  | false =>
    rw [if_neg Bool.false_ne_true] at e4 ⊢
    cases e4
    exact q _ F' H' s3 S3 (by simp [Rep])
theorem de_chain {op op' : CmpOp} (ho : OpR X (compareOp op) r) (ho' : OpR X (compareOp op') r') (hd : OpD R r f) (hd' : OpD R r' g) (ha : PE X a (lE R m)) (hb : PE X b (lE R n)) (hc : PE X c (lE R l))
    (hm : lastMarks [op, op'] [b, c] = false := by with_unfolding_all rfl) : PE X (.Compare a [op, op'] [b, c] pos) (lE R (mChain f g m n l)) :=
  PE.imp (pe_chain ho ho' ha hb hc hm) fun _ _ _ h => chain2 hd hd' h
theorem dt_chain {op op' : CmpOp} (ho : OpR X (compareOp op) r) (ho' : OpR X (compareOp op') r') (hd : OpD R r f) (hd' : OpD R r' g) (ha : PE X a (lE R m)) (hb : PE X b (lE R n)) (hc : PE X c (lE R l))
    (hm : lastMarks [op, op'] [b, c] = false := by with_unfolding_all rfl) : PT X (.Compare a [op, op'] [b, c] pos) (lT R (mB (mChain f g m n l))) :=
  PT.imp (pt_chain ho ho' ha hb hc hm) fun _ _ _ h => tst (te := tChain r r' (lE R m) (lE R n) (lE R l)) (fun h => chain2 hd hd' h) h
end

/-! ## tests -/
def mAnd (a b : M Bool) : M Bool := a >>= fun c => if c = true then b else M.ret false
def mOr (a b : M Bool) : M Bool := a >>= fun c => if c = true then M.ret true else b
def mNot (a : M Bool) : M Bool := a >>= fun c => M.ret (!c)
def mIf (t : M Bool) (a b : M D) : M D := t >>= fun c => if c = true then a else b
def mAndV (a b : M D) : M D := a >>= fun x => M.res (asB x) >>= fun c => if c = true then b else M.ret (.bl false)
def mOrV (a b : M D) : M D := a >>= fun x => M.res (asB x) >>= fun c => if c = true then M.ret (.bl true) else b
def mNotV (a : M D) : M D := a >>= fun x => M.res (asB x) >>= fun c => M.ret (.bl (!c))
section
variable {X : Cx} {R : RC} {a b : Expr} {rest : List Expr} {s t : M Bool} {m n : M D} {pos : Pos}
theorem Cn.bres {r : Res Bool} {k : Bool → M D} {Q : VK} {σ : St} {B : Bs} {env : Env'} {p : Pn} {F H : Hp} (h : Cn R (Rep R) (M.res r >>= k) Q σ B env p F H) : ∃ b, r = .ok b ∧ Cn R (Rep R) (k b) Q σ B env p F H := by
  obtain ⟨S, z, env', p', e, q⟩ := h
  obtain ⟨k1, env1, p1, e1, e2⟩ := bind_ok e
  obtain ⟨k', e3, e3'⟩ := Res.bind_ok (show r.bind _ = _ from e1)
  cases e3'
  exact ⟨k1, e3, S, z, env', p', e2, q⟩
theorem dw_and1 (ha : PT X a (lT R s)) : PW X (.BoolOp .And [a] pos) (lT R s) := pw_and1 ha
theorem dw_or1 (ha : PT X a (lT R s)) : PW X (.BoolOp .Or [a] pos) (lT R s) := pw_or1 ha
theorem dw_and (ha : PT X a (lT R s)) (hb : PW X (.BoolOp .And (b :: rest) pos) (lT R t)) : PW X (.BoolOp .And (a :: b :: rest) pos) (lT R (mAnd s t)) :=
  PW.imp (pw_and ha hb) fun σ H Q ⟨B, env, p, F, c⟩ => c.sq fun x v env1 p1 F1 H1 s1 r1 c1 => by
    cases r1
    cases x with
    | true => exact c1.lm
    | false => exact c1.ret _ F1 H1 (Same.refl _) c1.S rfl
theorem dw_or (ha : PT X a (lT R s)) (hb : PW X (.BoolOp .Or (b :: rest) pos) (lT R t)) : PW X (.BoolOp .Or (a :: b :: rest) pos) (lT R (mOr s t)) :=
  PW.imp (pw_or ha hb) fun σ H Q ⟨B, env, p, F, c⟩ => c.sq fun x v env1 p1 F1 H1 s1 r1 c1 => by
    cases r1
    cases x with
    | false => exact c1.lm
    | true => exact c1.ret _ F1 H1 (Same.refl _) c1.S rfl
theorem dt_bool (h : PW X a (lT R s)) : PT X a (lT R s) := h.pt
theorem dt_not (ha : PT X a (lT R s)) : PT X (.UnaryOp .Not a pos) (lT R (mNot s)) :=
  PT.imp (pt_not ha) fun σ H Q ⟨B, env, p, F, c⟩ => c.sq fun x v env1 p1 F1 H1 s1 r1 c1 => by
    cases r1
    exact c1.ret _ F1 H1 (Same.refl _) c1.S rfl
theorem de_ifExp {c : Expr} (hc : PT X c (lT R s)) (ha : PE X a (lE R m)) (hb : PE X b (lE R n)) : PE X (.IfExp c a b pos) (lE R (mIf s m n)) :=
  PE.imp (pe_ifExp hc ha hb) fun σ H Q ⟨B, env, p, F, c⟩ => c.sq fun x v env1 p1 F1 H1 s1 r1 c1 => by
    cases r1
    cases x with
    | true => exact c1.lm
    | false => exact c1.lm
theorem de_one {op} (h : PE X a (lE R m)) : PE X (.BoolOp op [a] pos) (lE R m) := pe_one h
theorem de_and (ha : PE X a (lE R m)) (hb : PE X (.BoolOp .And (b :: rest) pos) (lE R n)) : PE X (.BoolOp .And (a :: b :: rest) pos) (lE R (mAndV m n)) :=
  PE.imp (pe_and ha hb) fun σ H Q ⟨B, env, p, F, c⟩ => c.sq fun x v env1 p1 F1 H1 s1 r1 c1 => by
    obtain ⟨k, e, c2⟩ := c1.bres
    cases asB_ok e
    simp only [Rep] at r1
    refine ⟨k, r1, ?_⟩
    cases k with
    | true => exact c2.lm
    | false => exact c2.ret _ F1 H1 (Same.refl _) c2.S (by simp [Rep])
theorem de_or (ha : PE X a (lE R m)) (hb : PE X (.BoolOp .Or (b :: rest) pos) (lE R n)) : PE X (.BoolOp .Or (a :: b :: rest) pos) (lE R (mOrV m n)) :=
  PE.imp (pe_or ha hb) fun σ H Q ⟨B, env, p, F, c⟩ => c.sq fun x v env1 p1 F1 H1 s1 r1 c1 => by
    obtain ⟨k, e, c2⟩ := c1.bres
    cases asB_ok e
    simp only [Rep] at r1
    refine ⟨k, r1, ?_⟩
    cases k with
    | false => exact c2.lm
    | true => exact c2.ret _ F1 H1 (Same.refl _) c2.S (by simp [Rep])
theorem de_not (ha : PE X a (lE R m)) : PE X (.UnaryOp .Not a pos) (lE R (mNotV m)) :=
  PE.imp (pe_not ha) fun σ H Q ⟨B, env, p, F, c⟩ => c.sq fun x v env1 p1 F1 H1 s1 r1 c1 => by
    obtain ⟨k, e, c2⟩ := c1.bres
    cases asB_ok e
    simp only [Rep] at r1
    exact ⟨k, r1, c2.ret _ F1 H1 (Same.refl _) c2.S (by simp [Rep])⟩
end

/-! ## arguments, displays -/
def mNil : M (List D) := M.ret []
def mCons (m : M D) (ms : M (List D)) : M (List D) := m >>= fun x => ms >>= fun xs => M.ret (x :: xs)
def mkT (xs : List D) : Res D := if xs.length ≤ sizeLine then .ok (.tup xs) else .bad
def mkL (xs : List D) : Res D := if xs.length ≤ sizeLine then .ok (.lst xs) else .bad
theorem mkT_ok {xs : List D} {z : D} (h : mkT xs = .ok z) : z = .tup xs ∧ xs.length ≤ sizeLine := by
  unfold mkT at h
  split at h
  · rename_i q; cases h; exact ⟨rfl, q⟩
  · cases h
theorem mkL_ok {xs : List D} {z : D} (h : mkL xs = .ok z) : z = .lst xs ∧ xs.length ≤ sizeLine := by
  unfold mkL at h
  split at h
  · rename_i q; cases h; exact ⟨rfl, q⟩
  · cases h
def mTup (ms : M (List D)) : M D := ms >>= fun xs => M.res (mkT xs)
def mLst (ms : M (List D)) : M D := ms >>= fun xs => M.res (mkL xs)
def mCB (f : List D → Res D) (ms : M (List D)) : M D := ms >>= fun xs => M.res (f xs)
section
variable {X : Cx} {R : RC} {e : Expr} {es : List Expr} {m : M D} {ms : M (List D)} {pos : Pos} {B : Bs} {env : Env'} {p : Pn} {σ : St} {F H : Hp}
/-- a new frozen tuple, list -/
theorem Wn.tup {xs : List D} {vs : List V} {Q : VK} (S : SRel R B env p σ F H) (r : Reps R F xs vs) (q : Wn R B env p σ F (.tup xs) Q) : ∀ a, H a = none → Q (.ref a) (upd H a (.tup vs)) := fun a hn => by
  have e := S.alloc (o := .tup vs) hn
  exact q _ _ _ e.ff (S.ext e) (by simp only [Rep]; exact ⟨a, vs, rfl, SqT.of upd_same, r.mono e.ff⟩)
theorem Wn.lst {xs : List D} {vs : List V} {Q : VK} (S : SRel R B env p σ F H) (r : Reps R F xs vs) (q : Wn R B env p σ F (.lst xs) Q) : ∀ a, H a = none → Q (.ref a) (upd H a (.lst vs)) := fun a hn => by
  have e := S.alloc (o := .lst vs) hn
  exact q _ _ _ e.ff (S.ext e) (by simp only [Rep]; exact ⟨a, vs, rfl, upd_same, r.mono e.ff⟩)
theorem Wn.flat {z : D} {u : V} {Q : VK} (S : SRel R B env p σ F H) (q : Wn R B env p σ F z Q) (r : Rep R F z u) : Q u H := q u F H (Same.refl _) S r
theorem da_nil : PA X [] (lA R mNil) := PA.imp pa_nil fun σ H Q ⟨B, env, p, F, c⟩ => c.ret _ F H (Same.refl _) c.S .nil
theorem da_cons (ha : PE X e (lE R m)) (hr : PA X es (lA R ms)) (hs : starEach (e :: es) X.env = (false, eval e X.env) :: starEach es X.env := by rfl) : PA X (e :: es) (lA R (mCons m ms)) :=
  PA.imp (pa_cons ha hr hs) fun σ H Q ⟨B, env, p, F, c⟩ => c.sq fun x v env1 p1 F1 H1 s1 r1 c1 => c1.sq fun xs vs env2 p2 F2 H2 s2 r2 c2 =>
    c2.ret _ F2 H2 (Same.refl _) c2.S (.cons (r1.mono s2) r2)
theorem de_tup {x1} (h : PA X es (lA R ms)) : PE X (.Tuple es x1 pos) (lE R (mTup ms)) :=
  PE.imp (pe_tup h) fun σ H Q ⟨B, env, p, F, c⟩ => c.sq fun xs vs env2 p2 F2 H2 s2 r2 c2 => by
    obtain ⟨z, e, q⟩ := c2.res
    obtain ⟨rfl, hz⟩ := mkT_ok e
    exact ⟨by rw [r2.length]; exact hz, Wn.tup c2.S r2 q⟩
theorem de_lst (h : PA X es (lA R ms)) : PE X (.List es pos) (lE R (mLst ms)) :=
  PE.imp (pe_lst h) fun σ H Q ⟨B, env, p, F, c⟩ => c.sq fun xs vs env2 p2 F2 H2 s2 r2 c2 => by
    obtain ⟨z, e, q⟩ := c2.res
    obtain ⟨rfl, hz⟩ := mkL_ok e
    exact ⟨by rw [r2.length]; exact hz, Wn.lst c2.S r2 q⟩
theorem cb2 {r : List V → Hp → VK → Prop} {f : List D → Res D} (hd : CallD R r f) {σ : St} {H : Hp} {Q : VK} (h : lE R (mCB f ms) σ H Q) : tCB r (lA R ms) σ H Q := by
  obtain ⟨B, env, p, F, c⟩ := h
  refine c.sq fun xs vs env2 p2 F2 H2 s2 r2 c2 => ?_
  obtain ⟨z, e, q⟩ := c2.res
  exact hd.run c2.S r2 e q
theorem de_callB {r : List V → Hp → VK → Prop} {f : List D → Res D} {id : String} {x : Str} {ps : Pos} (hc : CallR X (.builtin id) r) (hd : CallD R r f) (hg : Gl X x) (hm : X.mg x = none) (hv : bootBuiltins x = some (.builtin id)) (ha : PA X (e :: es) (lA R ms)) (hn : x ≠ "__name__" := by decide) (hdb : (x == ("__debug__" : Str)) = false := by decide)
    (he : starEach (e :: es) X.env = (false, eval e X.env) :: starEach es X.env := by rfl) (hpl : (backTo pos (starEach es X.env)).any (·.1) = false := by rfl) : PE X (.Call (.Name x ps) (e :: es) [] pos) (lE R (mCB f ms)) :=
  PE.imp (pe_callB hc hg hm hv ha hn hdb he hpl) fun _ _ _ h => cb2 hd h
theorem de_callTy {r : List V → Hp → VK → Prop} {f : List D → Res D} {T : String} {x : Str} {ps : Pos} (hc : CallR X (.type T) r) (hd : CallD R r f) (hg : Gl X x) (hm : X.mg x = none) (hv : bootBuiltins x = some (.type T)) (ha : PA X (e :: es) (lA R ms)) (hn : x ≠ "__name__" := by decide) (hdb : (x == ("__debug__" : Str)) = false := by decide)
    (he : starEach (e :: es) X.env = (false, eval e X.env) :: starEach es X.env := by rfl) (hpl : (backTo pos (starEach es X.env)).any (·.1) = false := by rfl) : PE X (.Call (.Name x ps) (e :: es) [] pos) (lE R (mCB f ms)) :=
  PE.imp (pe_callTy hc hg hm hv ha hn hdb he hpl) fun _ _ _ h => cb2 hd h
end
end CS
namespace CS
open PySem L2

/-! ## data without objects; ==; in -/
mutual
def D.py : D → PyData
  | .non => .none
  | .bl b => .bool b
  | .int i => .int i
  | .str s => .str s
  | .tup ds => .tuple (D.pys ds)
  | .lst ds => .list (D.pys ds)
  | .ins _ _ _ => .none
  | .pen => .none
  | .ty _ => .none
  | .cls _ => .none
def D.pys : List D → List PyData
  | [] => []
  | d :: ds => D.py d :: D.pys ds
end
mutual
/-- n levels of rows at most, no objects within -/
def D.sh : Nat → D → Bool
  | _, .non => true
  | _, .bl _ => true
  | _, .int _ => true
  | _, .str s => PyData.canLay0 (.str s)
  | 0, .tup _ => false
  | 0, .lst _ => false
  | n + 1, .tup ds => D.shs n ds
  | n + 1, .lst ds => D.shs n ds
  | _, .ins _ _ _ => false
  | _, .pen => false
  | _, .ty _ => false
  | _, .cls _ => false
def D.shs : Nat → List D → Bool
  | _, [] => true
  | n, d :: ds => D.sh n d && D.shs n ds
end
theorem pys_map : ∀ ds : List D, D.pys ds = ds.map D.py
  | [] => by simp [D.pys]
  | d :: ds => by simp [D.pys, pys_map ds]
theorem shs_all (n : Nat) : ∀ ds : List D, D.shs n ds = ds.all (D.sh n)
  | [] => by simp [D.shs]
  | d :: ds => by simp [D.shs, shs_all n ds]
mutual
theorem sh_can : ∀ (n : Nat) (d : D), D.sh n d = true → (D.py d).canLay0 = true ∧ (D.py d).depth ≤ n + 1
  | n, .non, _ => by simp [D.py, PyData.canLay0, PyData.depth]
  | n, .bl _, _ => by simp [D.py, PyData.canLay0, PyData.depth]
  | n, .int _, _ => by simp [D.py, PyData.canLay0, PyData.depth]
  | n, .str s, h => by
    refine ⟨by simpa [D.py, D.sh] using h, by simp [D.py, PyData.depth]⟩
  | 0, .tup _, h => by simp [D.sh] at h
  | 0, .lst _, h => by simp [D.sh] at h
  | n + 1, .tup ds, h => by
    have := shs_can n ds (by simpa [D.sh] using h)
    simp only [D.py, PyData.canLay0, PyData.depth]
    exact ⟨this.1, by omega⟩
  | n + 1, .lst ds, h => by
    have := shs_can n ds (by simpa [D.sh] using h)
    simp only [D.py, PyData.canLay0, PyData.depth]
    exact ⟨this.1, by omega⟩
  | n, .ins _ _ _, h => by simp [D.sh] at h
  | n, .pen, h => by simp [D.sh] at h
  | n, .ty _, h => by simp [D.sh] at h
  | n, .cls _, h => by simp [D.sh] at h
theorem shs_can : ∀ (n : Nat) (ds : List D), D.shs n ds = true → PyData.canLayAll0 (D.pys ds) = true ∧ PyData.depthAll (D.pys ds) ≤ n + 1
  | n, [], _ => by simp [D.pys, PyData.canLayAll0, PyData.depthAll]
  | n, d :: ds, h => by
    simp only [D.shs, Bool.and_eq_true] at h
    have h1 := sh_can n d h.1
    have h2 := shs_can n ds h.2
    simp only [D.pys, PyData.canLayAll0, PyData.depthAll, Bool.and_eq_true]
    exact ⟨⟨h1.1, h2.1⟩, by omega⟩
end
theorem sh_shaped {n : Nat} {d : D} (h : D.sh n d = true) (hn : n ≤ 63) : SeqAt.shaped (D.py d) = true := by
  obtain ⟨h1, h2⟩ := sh_can n d h
  simp only [SeqAt.shaped, h1, Bool.true_and, decide_eq_true_eq]; omega
mutual
theorem Rep.dp {R : RC} {F H : Hp} (s : Same F H) : ∀ (n : Nat) (d : D) (v : V), D.sh n d = true → Rep R F d v → Dp R.K H v (D.py d)
  | n, .non, v, _, h => by simp only [Rep] at h; subst h; exact .non
  | n, .bl _, v, _, h => by simp only [Rep] at h; subst h; exact .bl _
  | n, .int _, v, _, h => by simp only [Rep] at h; subst h; exact .int _
  | n, .str _, v, _, h => by simp only [Rep] at h; subst h; exact .str _
  | 0, .tup _, _, h, _ => by simp [D.sh] at h
  | 0, .lst _, _, h, _ => by simp [D.sh] at h
  | n + 1, .tup ds, v, h, r => by
    simp only [Rep] at r
    obtain ⟨a, vs, rfl, q, r⟩ := r
    exact .tup (Same.sqt s q) (Reps.dp s n ds vs (by simpa [D.sh] using h) r)
  | n + 1, .lst ds, v, h, r => by
    simp only [Rep] at r
    obtain ⟨a, vs, rfl, q, r⟩ := r
    exact .lst (SqL.of (s _ _ q)) (Reps.dp s n ds vs (by simpa [D.sh] using h) r)
  | n, .ins _ _ _, _, h, _ => by simp [D.sh] at h
  | n, .pen, _, h, _ => by simp [D.sh] at h
  | n, .ty _, _, h, _ => by simp [D.sh] at h
  | n, .cls _, _, h, _ => by simp [D.sh] at h
theorem Reps.dp {R : RC} {F H : Hp} (s : Same F H) : ∀ (n : Nat) (ds : List D) (vs : List V), D.shs n ds = true → Reps R F ds vs → DpAll R.K H vs (D.pys ds)
  | n, [], vs, _, h => by simp only [Reps] at h; subst h; exact .nil
  | n, d :: ds, vs, h, r => by
    simp only [D.shs, Bool.and_eq_true] at h
    simp only [Reps] at r
    obtain ⟨v, r', rfl, r1, r2⟩ := r
    exact .cons (Rep.dp s n d v h.1 r1) (Reps.dp s n ds r' h.2 r2)
end
/-- == of data -/
def D.eqv (a b : D) : Bool := PyData.eqv a.py b.py
def eqD (a b : D) : Res D := if (a.sh 40 && b.sh 40) = true then .ok (.bl (a.eqv b)) else .bad
def neD (a b : D) : Res D := if (a.sh 40 && b.sh 40) = true then .ok (.bl (!a.eqv b)) else .bad
section
variable {R : RC}
theorem eq_d : OpD R (rEqD R.K) eqD := ⟨fun {B env p σ F H x y z v w Q} S rx ry h q => by
  unfold eqD at h
  split at h
  · rename_i hs
    rw [Bool.and_eq_true] at hs
    cases h
    exact ⟨x.py, y.py, rx.dp S.fh 40 x v hs.1, ry.dp S.fh 40 y w hs.2, sh_shaped hs.1 (by decide), sh_shaped hs.2 (by decide), Wn.flat S q (by simp [Rep, D.eqv])⟩
  · cases h⟩
theorem ne_d : OpD R (rNeD R.K) neD := ⟨fun {B env p σ F H x y z v w Q} S rx ry h q => by
  unfold neD at h
  split at h
  · rename_i hs
    rw [Bool.and_eq_true] at hs
    cases h
    exact ⟨x.py, y.py, rx.dp S.fh 40 x v hs.1, ry.dp S.fh 40 y w hs.2, sh_shaped hs.1 (by decide), sh_shaped hs.2 (by decide), Wn.flat S q (by simp [Rep, D.eqv])⟩
  · cases h⟩
end
/-- x in a row of data -/
def rInD (K : PySem.W.Frag) (neg : Bool) : R2 := fun x y H Q => ∃ p xs d ds, y = .ref p ∧ (SqL K H p xs ∨ SqT K H p xs) ∧ Dp K H x d ∧ DpAll K H xs ds ∧ SeqAt.shaped d = true ∧ (∀ e ∈ ds, SeqAt.shaped e = true) ∧
  Q (.bl (if neg then !(ds.any fun e => PyData.eqv e d) else ds.any fun e => PyData.eqv e d)) H
open Classical in
noncomputable def eqR (h : Heap) (d : PyData) (u : Value) : Bool := if ∃ e as, e.canLay0 = true ∧ Reads h u e as ∧ PyData.eqv e d = true then true else false
theorem eqR_of {h : Heap} {d e : PyData} {u : Value} {as : List Addr} (r : Reads h u e as) (c : e.canLay0 = true) : eqR h d u = PyData.eqv e d := by
  unfold eqR
  cases q : PyData.eqv e d with
  | true => rw [if_pos ⟨e, as, c, r, q⟩]
  | false =>
    rw [if_neg]
    rintro ⟨e', as', c', r', q'⟩
    rw [SeqAt.Reads.unique _ _ _ _ _ c r r'] at q
    rw [q] at q'; cases q'
theorem any_eqR {h : Heap} {d : PyData} : ∀ {ds : List PyData} {us : List Value} {as : List Addr}, ReadsAll h us ds as → (∀ e ∈ ds, e.canLay0 = true) → us.any (eqR h d) = ds.any fun e => PyData.eqv e d
  | _, _, _, .nil, _ => rfl
  | e :: ds, u :: us, _, .cons r rs, c => by
    rw [List.any_cons, List.any_cons, eqR_of r (c e List.mem_cons_self), any_eqR rs fun e' he => c e' (List.mem_cons_of_mem _ he)]
theorem mem_eqR {h : Heap} {P : PyData → Prop} : ∀ {ds : List PyData} {us : List Value} {as : List Addr}, ReadsAll h us ds as → (∀ e ∈ ds, P e) → ∀ u ∈ us, ∃ e as, Reads h u e as ∧ P e
  | _, _, _, .nil, _, u, hu => by cases hu
  | e :: ds, u :: us, _, .cons r rs, c, u', hu => by
    rcases List.mem_cons.mp hu with rfl | hu
    · exact ⟨e, _, r, c e List.mem_cons_self⟩
    · exact mem_eqR rs (fun e' he => c e' (List.mem_cons_of_mem _ he)) u' hu
section
variable {X : Cx}
theorem in_eqAt {A : Around} {s : Shared} {u v : Value} {d e : PyData} {as bs : List Addr} (hu : A.units + 64 < cLine) (r : Reads s.heap u e as) (r' : Reads s.heap v d bs) (he : SeqAt.shaped e = true) (hd : SeqAt.shaped d = true) : SeqAt.EqAt A s u v (eqR s.heap d u) := by
  rw [eqR_of r (SeqAt.canLay_of_shaped he)]
  exact SeqAt.eqAt_reads _ _ _ _ _ _ _ _ r r' (SeqAt.canLay_of_shaped he) (SeqAt.canLay_of_shaped hd) (SeqAt.room_of_shaped he hu)
theorem op_inD (hu : X.A.units + 65 < cLine) : OpR X (compareOp .In) (rInD X.K false) := by
  intro pins s σ H x y v u Q I rx ry h
  obtain ⟨p, xs, d, ds, rfl, hq, hd, hds, sd, sds, q⟩ := h
  cases ry
  obtain ⟨bs, r'⟩ := Dp.reads I d x v hd rx
  have hu1 : X.A.in1.units + 64 < cLine := by show X.A.units + 1 + 64 < cLine; omega
  rcases hq with hq | hq
  · obtain ⟨its, r, pl, hz⟩ := I.list hq
    obtain ⟨as, ra⟩ := Dp.readsAll I ds xs its hds r
    refine SeqAt.in_listAt (eqR s.heap d) pl.isList (fun w hw => ?_) ⟨.bl _, H, I, rfl, ?_⟩
    · obtain ⟨e, as', r1, he⟩ := mem_eqR ra sds w (by simpa using hw)
      exact in_eqAt hu1 r1 r' he sd
    · rw [show its.toArray.any (eqR s.heap d) = its.any (eqR s.heap d) by simp, any_eqR ra fun e he => SeqAt.canLay_of_shaped (sds e he)]
      exact q
  · obtain ⟨its, r, pl, hz⟩ := I.tuple hq
    obtain ⟨as, ra⟩ := Dp.readsAll I ds xs its hds r
    refine SeqAt.in_tupleAt (eqR s.heap d) pl (fun w hw => ?_) ⟨.bl _, H, I, rfl, ?_⟩
    · obtain ⟨e, as', r1, he⟩ := mem_eqR ra sds w (by simpa using hw)
      exact in_eqAt hu1 r1 r' he sd
    · rw [show its.toArray.any (eqR s.heap d) = its.any (eqR s.heap d) by simp, any_eqR ra fun e he => SeqAt.canLay_of_shaped (sds e he)]
      exact q
theorem op_notInD (hu : X.A.units + 65 < cLine) : OpR X (compareOp .NotIn) (rInD X.K true) := by
  intro pins s σ H x y v u Q I rx ry h
  obtain ⟨p, xs, d, ds, rfl, hq, hd, hds, sd, sds, q⟩ := h
  cases ry
  obtain ⟨bs, r'⟩ := Dp.reads I d x v hd rx
  have hu1 : X.A.in1.units + 64 < cLine := by show X.A.units + 1 + 64 < cLine; omega
  rcases hq with hq | hq
  · obtain ⟨its, r, pl, hz⟩ := I.list hq
    obtain ⟨as, ra⟩ := Dp.readsAll I ds xs its hds r
    refine SeqAt.notIn_listAt (eqR s.heap d) pl.isList (fun w hw => ?_) ⟨.bl _, H, I, rfl, ?_⟩
    · obtain ⟨e, as', r1, he⟩ := mem_eqR ra sds w (by simpa using hw)
      exact in_eqAt hu1 r1 r' he sd
    · rw [show its.toArray.any (eqR s.heap d) = its.any (eqR s.heap d) by simp, any_eqR ra fun e he => SeqAt.canLay_of_shaped (sds e he)]
      exact q
  · obtain ⟨its, r, pl, hz⟩ := I.tuple hq
    obtain ⟨as, ra⟩ := Dp.readsAll I ds xs its hds r
    refine SeqAt.notIn_tupleAt (eqR s.heap d) pl (fun w hw => ?_) ⟨.bl _, H, I, rfl, ?_⟩
    · obtain ⟨e, as', r1, he⟩ := mem_eqR ra sds w (by simpa using hw)
      exact in_eqAt hu1 r1 r' he sd
    · rw [show its.toArray.any (eqR s.heap d) = its.any (eqR s.heap d) by simp, any_eqR ra fun e he => SeqAt.canLay_of_shaped (sds e he)]
      exact q
end
/-- the items of a row -/
def D.row : D → Res (List D)
  | .lst ds => .ok ds
  | .tup ds => .ok ds
  | _ => .bad
def inD (x y : D) : Res D := y.row.bind fun ds => if (x.sh 40 && ds.all (D.sh 40)) = true then .ok (.bl (ds.any fun e => e.eqv x)) else .bad
def notInD (x y : D) : Res D := y.row.bind fun ds => if (x.sh 40 && ds.all (D.sh 40)) = true then .ok (.bl (!(ds.any fun e => e.eqv x))) else .bad
theorem Rep.row {R : RC} {F H : Hp} {d : D} {ds : List D} {v : V} (s : Same F H) (r : Rep R F d v) (h : d.row = .ok ds) : ∃ a vs, v = .ref a ∧ (SqL R.K H a vs ∨ SqT R.K H a vs) ∧ Reps R F ds vs := by
  unfold D.row at h
  split at h
  · cases h
    simp only [Rep] at r
    obtain ⟨a, vs, e, q, r⟩ := r
    exact ⟨a, vs, e, .inl (SqL.of (s _ _ q)), r⟩
  · cases h
    simp only [Rep] at r
    obtain ⟨a, vs, e, q, r⟩ := r
    exact ⟨a, vs, e, .inr (Same.sqt s q), r⟩
  · cases h
section
variable {R : RC}
theorem any_py (x : D) : ∀ ds : List D, ((D.pys ds).any fun e => PyData.eqv e x.py) = ds.any fun e => e.eqv x
  | [] => by simp [D.pys]
  | d :: ds => by simp only [D.pys, List.any_cons, any_py x ds]; rfl
theorem in_aux {neg : Bool} {f : D → D → Res D} (hf : ∀ x y, f x y = y.row.bind fun ds => if (x.sh 40 && ds.all (D.sh 40)) = true then .ok (.bl (if neg then !(ds.any fun e => e.eqv x) else ds.any fun e => e.eqv x)) else .bad) : OpD R (rInD R.K neg) f := ⟨fun {B env p σ F H x y z v w Q} S rx ry h q => by
  rw [hf] at h
  obtain ⟨ds, h1, h2⟩ := Res.bind_ok h
  split at h2
  · rename_i hs
    rw [Bool.and_eq_true] at hs
    obtain ⟨a, vs, e, hq, rs⟩ := ry.row S.fh h1
    cases h2
    refine ⟨a, vs, x.py, D.pys ds, e, hq, rx.dp S.fh 40 x v hs.1, rs.dp S.fh 40 ds vs (by rw [shs_all]; exact hs.2), sh_shaped hs.1 (by decide), fun e' he' => ?_, ?_⟩
    · rw [pys_map] at he'
      obtain ⟨d, hd, rfl⟩ := List.mem_map.mp he'
      exact sh_shaped (List.all_eq_true.mp hs.2 d hd) (by decide)
    · rw [any_py]
      exact Wn.flat S q (by simp [Rep])
  · cases h2⟩
theorem in_d : OpD R (rInD R.K false) inD := in_aux fun _ _ => rfl
theorem notIn_d : OpD R (rInD R.K true) notInD := in_aux fun _ _ => rfl
end
end CS
namespace CS
open PySem L2

/-! ## numbers and rows by operators -/
theorem OpD.or {R : RC} {r r' : R2} {f g : D → D → Res D} {h : D → D → Res D} (hf : OpD R r f) (hg : OpD R r' g) (e : ∀ x y z, h x y = .ok z → f x y = .ok z ∨ g x y = .ok z) :
    OpD R (fun x y H Q => r x y H Q ∨ r' x y H Q) h := ⟨fun S rx ry q w => (e _ _ _ q).imp (fun q => hf.run S rx ry q w) fun q => hg.run S rx ry q w⟩
def addI : D → D → Res D
  | .int a, .int b => .ok (.int (a + b))
  | _, _ => .bad
def addL : D → D → Res D
  | .lst a, .lst b => mkL (a ++ b)
  | _, _ => .bad
def addT : D → D → Res D
  | .tup a, .tup b => if a.isEmpty then .bad else mkT (a ++ b)
  | _, _ => .bad
def addS : D → D → Res D
  | .str a, .str b => if a.length + b.length ≤ sizeLine then .ok (.str (a ++ b)) else .bad
  | _, _ => .bad
def addD : D → D → Res D
  | .int a, .int b => .ok (.int (a + b))
  | .lst a, .lst b => mkL (a ++ b)
  | .tup a, .tup b => if a.isEmpty then .bad else mkT (a ++ b)
  | .str a, .str b => if a.length + b.length ≤ sizeLine then .ok (.str (a ++ b)) else .bad
  | _, _ => .bad
def subD : D → D → Res D
  | .int a, .int b => .ok (.int (a - b))
  | _, _ => .bad
def mulI : D → D → Res D
  | .int a, .int b => if a.natAbs < 2 ^ 64 ∨ b.natAbs < 2 ^ 64 then .ok (.int (a * b)) else .bad
  | _, _ => .bad
def mulL : D → D → Res D
  | .lst a, .int k => if k < 2 ^ 63 ∧ -(2 ^ 63) ≤ k then mkL (List.replicate k.toNat a).flatten else .bad
  | _, _ => .bad
def mulD : D → D → Res D
  | .int a, .int b => if a.natAbs < 2 ^ 64 ∨ b.natAbs < 2 ^ 64 then .ok (.int (a * b)) else .bad
  | .lst a, .int k => if k < 2 ^ 63 ∧ -(2 ^ 63) ≤ k then mkL (List.replicate k.toNat a).flatten else .bad
  | _, _ => .bad
def modD : D → D → Res D
  | .int a, .int b => if b = 0 then .bad else .ok (.int (a.fmod b))
  | _, _ => .bad
def fdivD : D → D → Res D
  | .int a, .int b => if b ≠ 0 ∧ b.natAbs < 1073741824 then .ok (.int (a.fdiv b)) else .bad
  | _, _ => .bad
def cmpI (f : Int → Int → Bool) : D → D → Res D
  | .int a, .int b => .ok (.bl (f a b))
  | _, _ => .bad
def ltD : D → D → Res D := cmpI fun i j => decide (i < j)
def leD : D → D → Res D := cmpI fun i j => decide (i ≤ j)
def gtD : D → D → Res D := cmpI fun i j => decide (j < i)
def geD : D → D → Res D := cmpI fun i j => decide (j ≤ i)
def isN : D → D → Res D
  | .non, .non => .ok (.bl true)
  | _, .non => .ok (.bl false)
  | _, _ => .bad
def notN : D → D → Res D
  | .non, .non => .ok (.bl false)
  | _, .non => .ok (.bl true)
  | _, _ => .bad
def negD : D → Res D
  | .int a => .ok (.int (-a))
  | _ => .bad
theorem Reps.flat {R : RC} {F : Hp} {ds : List D} {vs : List V} (r : Reps R F ds vs) : ∀ k : Nat, Reps R F (List.replicate k ds).flatten (List.replicate k vs).flatten
  | 0 => by simp [Reps]
  | k + 1 => by simp only [List.replicate_succ, List.flatten_cons]; exact r.append (Reps.flat r k)
abbrev rAddI : R2 := rI0 fun i j => .int (i + j)
abbrev rAddS : R2 := fun x y H Q => ∃ i j, x = .str i ∧ y = .str j ∧ i.length + j.length ≤ sizeLine ∧ Q (.str (i ++ j)) H
section
variable {R : RC}
theorem addI_d : OpD R rAddI addI := ⟨fun {B env p σ F H x y z v w Q} S rx ry h q => by
  unfold addI at h
  split at h
  · cases h
    simp only [Rep] at rx ry
    exact ⟨_, _, rx, ry, Wn.flat S q (by simp [Rep])⟩
  · cases h⟩
theorem cmp_d {f : Int → Int → Bool} : OpD R (rI0 fun i j => .bl (f i j)) (cmpI f) := ⟨fun {B env p σ F H x y z v w Q} S rx ry h q => by
  unfold cmpI at h
  split at h
  · cases h
    simp only [Rep] at rx ry
    exact ⟨_, _, rx, ry, Wn.flat S q (by simp [Rep])⟩
  · cases h⟩
theorem sub_d : OpD R (rI0 fun i j => .int (i - j)) subD := ⟨fun {B env p σ F H x y z v w Q} S rx ry h q => by
  unfold subD at h
  split at h
  · cases h
    simp only [Rep] at rx ry
    exact ⟨_, _, rx, ry, Wn.flat S q (by simp [Rep])⟩
  · cases h⟩
theorem lt_d : OpD R (rI0 fun i j => .bl (decide (i < j))) ltD := cmp_d
theorem le_d : OpD R (rI0 fun i j => .bl (decide (i ≤ j))) leD := cmp_d
theorem gt_d : OpD R (rI0 fun i j => .bl (decide (j < i))) gtD := cmp_d
theorem ge_d : OpD R (rI0 fun i j => .bl (decide (j ≤ i))) geD := cmp_d
theorem addL_d : OpD R rCat addL := ⟨fun {B env p σ F H x y z v w Q} S rx ry h q => by
  unfold addL at h
  split at h
  · obtain ⟨rfl, hz⟩ := mkL_ok h
    simp only [Rep] at rx ry
    obtain ⟨a, vs, e, h1, r1⟩ := rx
    obtain ⟨b, ws, e', h2, r2⟩ := ry
    refine ⟨a, b, vs, ws, e, e', S.fh _ _ h1, S.fh _ _ h2, ?_, Wn.lst S (r1.append r2) q⟩
    rw [r1.length, r2.length, ← List.length_append]; exact hz
  · cases h⟩
theorem addT_d : OpD R (rCatT R.K) addT := ⟨fun {B env p σ F H x y z v w Q} S rx ry h q => by
  unfold addT at h
  split at h
  · rename_i da db
    split at h
    · cases h
    · rename_i hne
      obtain ⟨rfl, hz⟩ := mkT_ok h
      have rx' := rx
      simp only [Rep] at rx ry
      obtain ⟨a, vs, e, h1, r1⟩ := rx
      obtain ⟨b, ws, e', h2, r2⟩ := ry
      refine ⟨a, b, vs, ws, e, e', Same.sqt S.fh h1, Same.sqt S.fh h2, ?_, ?_, fun hw => ?_, fun _ => Wn.tup S (r1.append r2) q⟩
      · rintro rfl
        have := r1.length
        cases da with
        | nil => simp at hne
        | cons _ _ => simp at this
      · rw [r1.length, r2.length, ← List.length_append]; exact hz
      · subst hw
        have : db = [] := by
          have := r2.length
          cases db with
          | nil => rfl
          | cons _ _ => simp at this
        subst this
        rw [List.append_nil] at q
        refine Wn.flat S q ?_
        rw [← e]; exact rx'
  · cases h⟩
theorem addS_d : OpD R rAddS addS := ⟨fun {B env p σ F H x y z v w Q} S rx ry h q => by
  unfold addS at h
  split at h
  · split at h
    · rename_i hz
      cases h
      simp only [Rep] at rx ry
      exact ⟨_, _, rx, ry, hz, Wn.flat S q (by simp [Rep])⟩
    · cases h
  · cases h⟩
theorem mulI_d : OpD R (rI CMul fun i j => .int (i * j)) mulI := ⟨fun {B env p σ F H x y z v w Q} S rx ry h q => by
  unfold mulI at h
  split at h
  · split at h
    · rename_i hz
      cases h
      simp only [Rep] at rx ry
      exact ⟨_, _, rx, ry, hz.imp (fun _ => by omega) fun _ => by omega, Wn.flat S q (by simp [Rep])⟩
    · cases h
  · cases h⟩
theorem mulL_d : OpD R rRep mulL := ⟨fun {B env p σ F H x y z v w Q} S rx ry h q => by
  unfold mulL at h
  split at h
  · split at h
    · rename_i k hz
      obtain ⟨rfl, hl⟩ := mkL_ok h
      simp only [Rep] at rx ry
      obtain ⟨a, vs, e, h1, r1⟩ := rx
      refine ⟨a, k, vs, e, ry, S.fh _ _ h1, hz.2, hz.1, ?_, Wn.lst S (r1.flat k.toNat) q⟩
      rw [r1.length]
      simpa [List.length_flatten, List.map_replicate, List.sum_replicate_nat, Nat.mul_comm] using hl
    · cases h
  · cases h⟩
theorem mod_d : OpD R (rI (fun _ j => j ≠ 0) fun i j => .int (i.fmod j)) modD := ⟨fun {B env p σ F H x y z v w Q} S rx ry h q => by
  unfold modD at h
  split at h
  · split at h
    · cases h
    · rename_i hz
      cases h
      simp only [Rep] at rx ry
      exact ⟨_, _, rx, ry, hz, Wn.flat S q (by simp [Rep])⟩
  · cases h⟩
theorem fdiv_d : OpD R (rI CDivN fun i j => .int (i.fdiv j)) fdivD := ⟨fun {B env p σ F H x y z v w Q} S rx ry h q => by
  unfold fdivD at h
  split at h
  · split at h
    · rename_i hz
      cases h
      simp only [Rep] at rx ry
      exact ⟨_, _, rx, ry, hz, Wn.flat S q (by simp [Rep])⟩
    · cases h
  · cases h⟩
theorem Rep.non_iff {F : Hp} {d : D} {v : V} (r : Rep R F d v) : decide (v = .non) = (match d with | .non => true | _ => false) := by
  cases d <;> simp only [Rep] at r
  all_goals first
    | (subst r; rfl)
    | (obtain ⟨a, vs, rfl, _⟩ := r; rfl)
    | (obtain ⟨a, dx, vs, rfl, _⟩ := r; rfl)
theorem isN_d : OpD R (fun x y H Q => y = .non ∧ Q (.bl (decide (x = .non))) H) isN := ⟨fun {B env p σ F H x y z v w Q} S rx ry h q => by
  cases y <;> try (cases x <;> cases h)
  all_goals first
    | (simp only [Rep] at ry; subst ry; refine ⟨rfl, ?_⟩; rw [rx.non_iff]; exact Wn.flat S q (by simp [Rep]))
    | cases h⟩
theorem notN_d : OpD R (fun x y H Q => y = .non ∧ Q (.bl (!decide (x = .non))) H) notN := ⟨fun {B env p σ F H x y z v w Q} S rx ry h q => by
  cases y <;> try (cases x <;> cases h)
  all_goals first
    | (simp only [Rep] at ry; subst ry; refine ⟨rfl, ?_⟩; rw [rx.non_iff]; exact Wn.flat S q (by simp [Rep]))
    | cases h⟩
theorem neg_d : UnD R (rU fun i => .int (-i)) negD := ⟨fun {B env p σ F H x z v Q} S rx h q => by
  unfold negD at h
  split at h
  · cases h
    simp only [Rep] at rx
    exact ⟨_, rx, Wn.flat S q (by simp [Rep])⟩
  · cases h⟩
end
def rAdd4 (K : PySem.W.Frag) : R2 := fun x y H Q => rAddI x y H Q ∨ (rCat x y H Q ∨ (rCatT K x y H Q ∨ rAddS x y H Q))
theorem op_addA {X : Cx} : OpR X (binaryOp .Add) (rAdd4 X.K) := op_add.or (op_cat.or (op_catT.or op_add_str))
theorem add_d {R : RC} : OpD R (rAdd4 R.K) addD := ⟨fun {B env p σ F H x y z v w Q} S rx ry h q => by
  cases x <;> cases y <;> first
    | exact .inl (addI_d.run S rx ry h q)
    | exact .inr (.inl (addL_d.run S rx ry h q))
    | exact .inr (.inr (.inl (addT_d.run S rx ry h q)))
    | exact .inr (.inr (.inr (addS_d.run S rx ry h q)))⟩
def rMul2 : R2 := fun x y H Q => (rI CMul fun i j => .int (i * j)) x y H Q ∨ rRep x y H Q
theorem op_mulA {X : Cx} : OpR X (binaryOp .Mult) rMul2 := op_mul.or op_rep
theorem mul_d {R : RC} : OpD R rMul2 mulD := ⟨fun {B env p σ F H x y z v w Q} S rx ry h q => by
  cases x <;> cases y <;> first
    | exact .inl (mulI_d.run S rx ry h q)
    | exact .inr (mulL_d.run S rx ry h q)⟩

section
variable {X : Cx} {R : RC} {a : Expr} {m : M D} {pos : Pos}
theorem de_un {op : UnaryOp} {r : V → Hp → VK → Prop} {f : D → Res D} (ho : UnR X (unaryOp op) r) (hd : UnD R r f) (ha : PE X a (lE R m)) : PE X (.UnaryOp op a pos) (lE R (m1 f m)) :=
  PE.imp (pe_un ho ha) fun σ H Q ⟨B, env, p, F, c⟩ => c.sq fun x v env1 p1 F1 H1 s1 r1 c1 => by
    obtain ⟨z, e, q⟩ := c1.res
    exact hd.run c1.S r1 e q
end

/-! ## calls of built-in names -/
def toInts : List D → Res (List Int)
  | [] => .ok []
  | .int i :: r => (toInts r).bind fun is => .ok (i :: is)
  | _ :: _ => .bad
def toBls : List D → Res (List Bool)
  | [] => .ok []
  | .bl i :: r => (toBls r).bind fun is => .ok (i :: is)
  | _ :: _ => .bad
theorem toInts_ok : ∀ {ds : List D} {is : List Int}, toInts ds = .ok is → ds = is.map D.int
  | [], _, h => by cases h; rfl
  | .int i :: r, _, h => by
    obtain ⟨js, h1, h2⟩ := Res.bind_ok (show (toInts r).bind _ = _ from h)
    cases h2
    rw [toInts_ok h1]; rfl
  | .non :: _, _, h => by cases h
  | .bl _ :: _, _, h => by cases h
  | .str _ :: _, _, h => by cases h
  | .tup _ :: _, _, h => by cases h
  | .lst _ :: _, _, h => by cases h
  | .ins _ _ _ :: _, _, h => by cases h
  | .pen :: _, _, h => by cases h
  | .ty _ :: _, _, h => by cases h
  | .cls _ :: _, _, h => by cases h
theorem toBls_ok : ∀ {ds : List D} {is : List Bool}, toBls ds = .ok is → ds = is.map D.bl
  | [], _, h => by cases h; rfl
  | .bl i :: r, _, h => by
    obtain ⟨js, h1, h2⟩ := Res.bind_ok (show (toBls r).bind _ = _ from h)
    cases h2
    rw [toBls_ok h1]; rfl
  | .non :: _, _, h => by cases h
  | .int _ :: _, _, h => by cases h
  | .str _ :: _, _, h => by cases h
  | .tup _ :: _, _, h => by cases h
  | .lst _ :: _, _, h => by cases h
  | .ins _ _ _ :: _, _, h => by cases h
  | .pen :: _, _, h => by cases h
  | .ty _ :: _, _, h => by cases h
  | .cls _ :: _, _, h => by cases h
@[simp] theorem toInts_map (is : List Int) : toInts (is.map D.int) = .ok is := by
  induction is with
  | nil => rfl
  | cons i r ih => show (toInts (r.map D.int)).bind _ = _; rw [ih]; rfl
@[simp] theorem toBls_map (is : List Bool) : toBls (is.map D.bl) = .ok is := by
  induction is with
  | nil => rfl
  | cons i r ih => show (toBls (r.map D.bl)).bind _ = _; rw [ih]; rfl
section
variable {R : RC} {F : Hp}
theorem Reps.ints : ∀ {is : List Int} {vs : List V}, Reps R F (is.map D.int) vs → vs = is.map V.int
  | [], _, h => by simpa [Reps] using h
  | i :: r, _, h => by
    simp only [List.map_cons, Reps, Rep] at h
    obtain ⟨v, r', rfl, rfl, h2⟩ := h
    rw [Reps.ints h2]; rfl
theorem Reps.bls : ∀ {is : List Bool} {vs : List V}, Reps R F (is.map D.bl) vs → vs = is.map V.bl
  | [], _, h => by simpa [Reps] using h
  | i :: r, _, h => by
    simp only [List.map_cons, Reps, Rep] at h
    obtain ⟨v, r', rfl, rfl, h2⟩ := h
    rw [Reps.bls h2]; rfl
theorem Reps.of_ints : ∀ (is : List Int), Reps R F (is.map D.int) (is.map V.int)
  | [] => .nil
  | i :: r => .cons (by simp [Rep]) (Reps.of_ints r)
theorem Reps.one1 {d : D} {vs : List V} (h : Reps R F [d] vs) : ∃ v, vs = [v] ∧ Rep R F d v := by
  simp only [Reps] at h
  obtain ⟨v, r, rfl, h1, rfl⟩ := h
  exact ⟨v, rfl, h1⟩
theorem Reps.two2 {d e : D} {vs : List V} (h : Reps R F [d, e] vs) : ∃ v w, vs = [v, w] ∧ Rep R F d v ∧ Rep R F e w := by
  simp only [Reps] at h
  obtain ⟨v, r, rfl, h1, w, r', rfl, h2, rfl⟩ := h
  exact ⟨v, w, rfl, h1, h2⟩
end
/-- len(x) -/
def lenD : List D → Res D
  | [.lst ds] => .ok (.int ds.length)
  | [.tup ds] => .ok (.int ds.length)
  | [.str s] => if s.length ≤ sizeLine then .ok (.int s.length) else .bad
  | _ => .bad
def listD : List D → Res D
  | [.lst ds] => .ok (.lst ds)
  | [.tup ds] => .ok (.lst ds)
  | _ => .bad
def tupleD : List D → Res D
  | [.lst ds] => .ok (.tup ds)
  | [.tup ds] => .ok (.tup ds)
  | _ => .bad
def insI (i : Int) : List Int → List Int
  | [] => [i]
  | j :: r => if i ≤ j then i :: j :: r else j :: insI i r
def sortI : List Int → List Int
  | [] => []
  | i :: r => insI i (sortI r)
def sortedI : List D → Res D
  | [.lst ds] => (toInts ds).bind fun is => .ok (.lst ((sortI is).map D.int))
  | _ => .bad
def sumD : List D → Res D
  | [.lst ds] => (toInts ds).bind fun is => .ok (.int is.sum)
  | _ => .bad
def allD : List D → Res D
  | [.lst ds] => (toBls ds).bind fun is => .ok (.bl (is.all id))
  | _ => .bad
def anyD : List D → Res D
  | [.lst ds] => (toBls ds).bind fun is => .ok (.bl (is.any id))
  | _ => .bad
def max2D : List D → Res D
  | [.int i, .int j] => .ok (.int (if j > i then j else i))
  | _ => .bad
def min2D : List D → Res D
  | [.int i, .int j] => .ok (.int (if j < i then j else i))
  | _ => .bad
def maxL : List Int → Int
  | [] => 0
  | [i] => i
  | i :: r => max i (maxL r)
def minL : List Int → Int
  | [] => 0
  | [i] => i
  | i :: r => min i (minL r)
def max1D : List D → Res D
  | [.lst ds] => (toInts ds).bind fun is => if is.isEmpty then .bad else .ok (.int (maxL is))
  | _ => .bad
def min1D : List D → Res D
  | [.lst ds] => (toInts ds).bind fun is => if is.isEmpty then .bad else .ok (.int (minL is))
  | _ => .bad
def absD : List D → Res D
  | [.int i] => .ok (.int (if i < 0 then -i else i))
  | _ => .bad
def intD : List D → Res D
  | [.int i] => .ok (.int i)
  | _ => .bad
theorem maxL_spec : ∀ {is : List Int}, is ≠ [] → maxL is ∈ is ∧ ∀ j ∈ is, j ≤ maxL is
  | [], h => absurd rfl h
  | [i], _ => by simp [maxL]
  | i :: j :: r, _ => by
    obtain ⟨h1, h2⟩ := maxL_spec (is := j :: r) (by simp)
    show max i (maxL (j :: r)) ∈ _ ∧ ∀ k ∈ i :: j :: r, k ≤ max i (maxL (j :: r))
    refine ⟨?_, fun k hk => ?_⟩
    · rcases Int.le_total i (maxL (j :: r)) with h | h
      · rw [Int.max_eq_right h]; exact List.mem_cons_of_mem _ h1
      · rw [Int.max_eq_left h]; exact List.mem_cons_self
    · rcases List.mem_cons.mp hk with rfl | hk
      · omega
      · have := h2 k hk; omega
theorem minL_spec : ∀ {is : List Int}, is ≠ [] → minL is ∈ is ∧ ∀ j ∈ is, minL is ≤ j
  | [], h => absurd rfl h
  | [i], _ => by simp [minL]
  | i :: j :: r, _ => by
    obtain ⟨h1, h2⟩ := minL_spec (is := j :: r) (by simp)
    show min i (minL (j :: r)) ∈ _ ∧ ∀ k ∈ i :: j :: r, min i (minL (j :: r)) ≤ k
    refine ⟨?_, fun k hk => ?_⟩
    · rcases Int.le_total i (minL (j :: r)) with h | h
      · rw [Int.min_eq_left h]; exact List.mem_cons_self
      · rw [Int.min_eq_right h]; exact List.mem_cons_of_mem _ h1
    · rcases List.mem_cons.mp hk with rfl | hk
      · omega
      · have := h2 k hk; omega
theorem insI_perm (i : Int) : ∀ l : List Int, (insI i l).Perm (i :: l)
  | [] => .refl _
  | j :: r => by
    unfold insI
    split
    · exact .refl _
    · exact ((insI_perm i r).cons j).trans (.swap i j r)
theorem sortI_perm : ∀ l : List Int, (sortI l).Perm l
  | [] => .refl _
  | i :: r => (insI_perm i _).trans ((sortI_perm r).cons i)
theorem insI_sorted {i : Int} : ∀ {l : List Int}, l.Pairwise (· ≤ ·) → (insI i l).Pairwise (· ≤ ·)
  | [], _ => by simp [insI]
  | j :: r, h => by
    unfold insI
    rw [List.pairwise_cons] at h
    split
    · rename_i hij
      refine List.pairwise_cons.mpr ⟨fun k hk => ?_, List.pairwise_cons.mpr h⟩
      rcases List.mem_cons.mp hk with rfl | hk
      · exact hij
      · exact Int.le_trans hij (h.1 k hk)
    · rename_i hij
      refine List.pairwise_cons.mpr ⟨fun k hk => ?_, insI_sorted h.2⟩
      rcases List.mem_cons.mp ((insI_perm i r).mem_iff.mp hk) with rfl | hk
      · omega
      · exact h.1 k hk
theorem sortI_sorted : ∀ l : List Int, (sortI l).Pairwise (· ≤ ·)
  | [] => List.Pairwise.nil
  | i :: r => insI_sorted (sortI_sorted r)
theorem sorted_unique : ∀ {l l' : List Int}, l.Perm l' → l.Pairwise (· ≤ ·) → l'.Pairwise (· ≤ ·) → l = l'
  | [], l', p, _, _ => (List.nil_perm.mp p).symm
  | i :: r, [], p, _, _ => absurd (List.perm_nil.mp p) (by simp)
  | i :: r, j :: r', p, h, h' => by
    rw [List.pairwise_cons] at h h'
    have e : i = j := by
      have h1 : i ∈ j :: r' := p.mem_iff.mp List.mem_cons_self
      have h2 : j ∈ i :: r := p.mem_iff.mpr List.mem_cons_self
      rcases List.mem_cons.mp h1 with e | h1
      · exact e
      · rcases List.mem_cons.mp h2 with e | h2
        · exact e.symm
        · have a := h.1 j h2
          have b := h'.1 i h1
          omega
    subst e
    rw [sorted_unique (List.Perm.cons_inv p) h.2 h'.2]
section
variable {R : RC}
theorem len_d : CallD R (fun xs H Q => ∃ x n, xs = [x] ∧ LenV R.K x H n ∧ Q (.int n) H) lenD := ⟨fun {B env p σ F H xs z vs Q} S r h q => by
  unfold lenD at h
  split at h
  · obtain ⟨v, rfl, r1⟩ := r.one1
    cases h
    simp only [Rep] at r1
    obtain ⟨a, ws, rfl, h1, r1⟩ := r1
    exact ⟨_, _, rfl, .inl ⟨ws, SqL.of (S.fh _ _ h1), r1.length.symm⟩, Wn.flat S q (by simp [Rep])⟩
  · obtain ⟨v, rfl, r1⟩ := r.one1
    cases h
    simp only [Rep] at r1
    obtain ⟨a, ws, rfl, h1, r1⟩ := r1
    exact ⟨_, _, rfl, .inr ⟨ws, Same.sqt S.fh h1, r1.length.symm⟩, Wn.flat S q (by simp [Rep])⟩
  · split at h
    · rename_i hz
      obtain ⟨v, rfl, r1⟩ := r.one1
      cases h
      simp only [Rep] at r1
      exact ⟨_, _, rfl, by rw [r1]; exact ⟨hz, rfl⟩, Wn.flat S q (by simp [Rep])⟩
    · cases h
  · cases h⟩
theorem list_d : CallD R (fun xs H Q => ∃ p ys, xs = [.ref p] ∧ (SqL R.K H p ys ∨ SqT R.K H p ys) ∧ ∀ l, H l = none → Q (.ref l) (upd H l (.lst ys))) listD := ⟨fun {B env p σ F H xs z vs Q} S r h q => by
  unfold listD at h
  split at h
  · obtain ⟨v, rfl, r1⟩ := r.one1
    cases h
    simp only [Rep] at r1
    obtain ⟨a, ws, rfl, h1, r1⟩ := r1
    exact ⟨a, ws, rfl, .inl (SqL.of (S.fh _ _ h1)), Wn.lst S r1 q⟩
  · obtain ⟨v, rfl, r1⟩ := r.one1
    cases h
    simp only [Rep] at r1
    obtain ⟨a, ws, rfl, h1, r1⟩ := r1
    exact ⟨a, ws, rfl, .inr (Same.sqt S.fh h1), Wn.lst S r1 q⟩
  · cases h⟩
theorem tuple_d : CallD R (fun xs H Q => ∃ p ys, xs = [.ref p] ∧ ((SqL R.K H p ys ∧ ∀ l, H l = none → Q (.ref l) (upd H l (.tup ys))) ∨ (SqT R.K H p ys ∧ Q (.ref p) H))) tupleD := ⟨fun {B env p σ F H xs z vs Q} S r h q => by
  unfold tupleD at h
  split at h
  · obtain ⟨v, rfl, r1⟩ := r.one1
    cases h
    simp only [Rep] at r1
    obtain ⟨a, ws, rfl, h1, r1⟩ := r1
    exact ⟨a, ws, rfl, .inl ⟨SqL.of (S.fh _ _ h1), Wn.tup S r1 q⟩⟩
  · obtain ⟨v, rfl, r1⟩ := r.one1
    cases h
    have r2 := r1
    simp only [Rep] at r1
    obtain ⟨a, ws, rfl, h1, r1⟩ := r1
    exact ⟨a, ws, rfl, .inr ⟨Same.sqt S.fh h1, Wn.flat S q r2⟩⟩
  · cases h⟩
theorem sorted_d : CallD R (rSortedI R.K) sortedI := ⟨fun {B env p σ F H xs z vs Q} S r h q => by
  unfold sortedI at h
  split at h
  · obtain ⟨is, h1, h2⟩ := Res.bind_ok h
    cases h2
    cases toInts_ok h1
    obtain ⟨v, rfl, r1⟩ := r.one1
    simp only [Rep] at r1
    obtain ⟨a, ws, rfl, g1, r1⟩ := r1
    cases Reps.ints r1
    refine ⟨a, is, rfl, SqL.of (S.fh _ _ g1), fun ns' l h1 h2 hn => ?_⟩
    have e : ns' = sortI is := sorted_unique (h1.trans (sortI_perm is).symm) h2 (sortI_sorted is)
    subst e
    exact Wn.lst S (Reps.of_ints _) q l hn
  · cases h⟩
theorem sum_d : CallD R (rSum R.K) sumD := ⟨fun {B env p σ F H xs z vs Q} S r h q => by
  unfold sumD at h
  split at h
  · obtain ⟨is, h1, h2⟩ := Res.bind_ok h
    cases h2
    cases toInts_ok h1
    obtain ⟨v, rfl, r1⟩ := r.one1
    simp only [Rep] at r1
    obtain ⟨a, ws, rfl, g1, r1⟩ := r1
    cases Reps.ints r1
    exact ⟨a, is, rfl, SqL.of (S.fh _ _ g1), Wn.flat S q (by simp [Rep])⟩
  · cases h⟩
theorem all_d : CallD R (rAll R.K) allD := ⟨fun {B env p σ F H xs z vs Q} S r h q => by
  unfold allD at h
  split at h
  · obtain ⟨is, h1, h2⟩ := Res.bind_ok h
    cases h2
    cases toBls_ok h1
    obtain ⟨v, rfl, r1⟩ := r.one1
    simp only [Rep] at r1
    obtain ⟨a, ws, rfl, g1, r1⟩ := r1
    cases Reps.bls r1
    exact ⟨a, is, rfl, SqL.of (S.fh _ _ g1), Wn.flat S q (by simp [Rep])⟩
  · cases h⟩
theorem any_d : CallD R (rAny R.K) anyD := ⟨fun {B env p σ F H xs z vs Q} S r h q => by
  unfold anyD at h
  split at h
  · obtain ⟨is, h1, h2⟩ := Res.bind_ok h
    cases h2
    cases toBls_ok h1
    obtain ⟨v, rfl, r1⟩ := r.one1
    simp only [Rep] at r1
    obtain ⟨a, ws, rfl, g1, r1⟩ := r1
    cases Reps.bls r1
    exact ⟨a, is, rfl, SqL.of (S.fh _ _ g1), Wn.flat S q (by simp [Rep])⟩
  · cases h⟩
theorem max2_d : CallD R (fun xs H Q => ∃ i j, xs = [.int i, .int j] ∧ Q (.int (if j > i then j else i)) H) max2D := ⟨fun {B env p σ F H xs z vs Q} S r h q => by
  unfold max2D at h
  split at h
  · cases h
    obtain ⟨v, w, rfl, r1, r2⟩ := r.two2
    simp only [Rep] at r1 r2
    subst r1 r2
    exact ⟨_, _, rfl, Wn.flat S q (by simp [Rep])⟩
  · cases h⟩
theorem min2_d : CallD R (fun xs H Q => ∃ i j, xs = [.int i, .int j] ∧ Q (.int (if j < i then j else i)) H) min2D := ⟨fun {B env p σ F H xs z vs Q} S r h q => by
  unfold min2D at h
  split at h
  · cases h
    obtain ⟨v, w, rfl, r1, r2⟩ := r.two2
    simp only [Rep] at r1 r2
    subst r1 r2
    exact ⟨_, _, rfl, Wn.flat S q (by simp [Rep])⟩
  · cases h⟩
theorem max1_d : CallD R (rMax R.K) max1D := ⟨fun {B env p σ F H xs z vs Q} S r h q => by
  unfold max1D at h
  split at h
  · obtain ⟨is, h1, h2⟩ := Res.bind_ok h
    split at h2
    · cases h2
    · rename_i hne
      cases h2
      cases toInts_ok h1
      obtain ⟨v, rfl, r1⟩ := r.one1
      simp only [Rep] at r1
      obtain ⟨a, ws, rfl, g1, r1⟩ := r1
      cases Reps.ints r1
      have hne' : is ≠ [] := by rintro rfl; simp at hne
      refine ⟨a, is, rfl, SqL.of (S.fh _ _ g1), List.length_pos_iff.mpr hne', fun m h1 h2 => ?_⟩
      obtain ⟨k1, k2⟩ := maxL_spec hne'
      have : m = maxL is := Int.le_antisymm (k2 m h1) (h2 _ k1)
      subst this
      exact Wn.flat S q (by simp [Rep])
  · cases h⟩
theorem min1_d : CallD R (rMin R.K) min1D := ⟨fun {B env p σ F H xs z vs Q} S r h q => by
  unfold min1D at h
  split at h
  · obtain ⟨is, h1, h2⟩ := Res.bind_ok h
    split at h2
    · cases h2
    · rename_i hne
      cases h2
      cases toInts_ok h1
      obtain ⟨v, rfl, r1⟩ := r.one1
      simp only [Rep] at r1
      obtain ⟨a, ws, rfl, g1, r1⟩ := r1
      cases Reps.ints r1
      have hne' : is ≠ [] := by rintro rfl; simp at hne
      refine ⟨a, is, rfl, SqL.of (S.fh _ _ g1), List.length_pos_iff.mpr hne', fun m h1 h2 => ?_⟩
      obtain ⟨k1, k2⟩ := minL_spec hne'
      have : m = minL is := Int.le_antisymm (h2 _ k1) (k2 m h1)
      subst this
      exact Wn.flat S q (by simp [Rep])
  · cases h⟩
theorem abs_d : CallD R (fun xs H Q => ∃ i, xs = [.int i] ∧ Q (.int (if i < 0 then -i else i)) H) absD := ⟨fun {B env p σ F H xs z vs Q} S r h q => by
  unfold absD at h
  split at h
  · cases h
    obtain ⟨v, rfl, r1⟩ := r.one1
    simp only [Rep] at r1
    subst r1
    exact ⟨_, rfl, Wn.flat S q (by simp [Rep])⟩
  · cases h⟩
theorem int_d : CallD R (fun xs H Q => (∃ i, xs = [.int i] ∧ Q (.int i) H) ∨ ∃ k, xs = [.bl k] ∧ Q (.int (if k then 1 else 0)) H) intD := ⟨fun {B env p σ F H xs z vs Q} S r h q => by
  unfold intD at h
  split at h
  · cases h
    obtain ⟨v, rfl, r1⟩ := r.one1
    simp only [Rep] at r1
    subst r1
    exact .inl ⟨_, rfl, Wn.flat S q (by simp [Rep])⟩
  · cases h⟩
end

/-! ## items, slices, attributes -/
def ixD (x y : D) : Res D := match y with
  | .int i => x.row.bind fun ds => match atI ds i with
    | some d => .ok d
    | none => .bad
  | _ => .bad
theorem Reps.at {R : RC} {F : Hp} {ds : List D} {vs : List V} {i : Int} {d : D} (r : Reps R F ds vs) (h : atI ds i = some d) : ∃ v, atI vs i = some v ∧ Rep R F d v := by
  unfold atI at h ⊢
  rw [r.length]
  cases e : ixN ds.length i with
  | none => rw [e] at h; cases h
  | some j =>
    rw [e] at h
    exact r.get (show ds[j]? = some d from h)
abbrev rIx2 (K : PySem.W.Frag) : R2 := fun x y H Q => rIxL K x y H Q ∨ rIxT K x y H Q
theorem ix_two {X : Cx} : IxR X (rIx2 X.K) := ix_list.or ix_tup
section
variable {R : RC}
theorem ix_d : OpD R (rIx2 R.K) ixD := ⟨fun {B env p σ F H x y z v w Q} S rx ry h q => by
  unfold ixD at h
  split at h
  · rename_i i
    obtain ⟨ds, h1, h2⟩ := Res.bind_ok h
    split at h2
    · rename_i d hd
      cases h2
      obtain ⟨a, vs, e, hq, rs⟩ := rx.row S.fh h1
      obtain ⟨u, hu, ru⟩ := rs.at hd
      simp only [Rep] at ry
      rcases hq with hq | hq
      · exact .inl ⟨a, vs, i, u, e, ry, hq, hu, Wn.flat S q ru⟩
      · exact .inr ⟨a, vs, i, u, e, ry, hq, hu, Wn.flat S q ru⟩
    · cases h2
  · cases h⟩
end
section
variable {X : Cx} {R : RC} {a b : Expr} {m n : M D} {pos : Pos}
theorem de_ix (ha : PE X a (lE R m)) (hb : PE X b (lE R n)) (hK : X.K = R.K) (hs : PlainIx b) : PE X (.Subscript a b pos) (lE R (m2 ixD m n)) :=
  PE.imp (pe_ix (ix_two) ha hb hs) fun _ _ _ h => op2 (by rw [hK]; exact ix_d) h
end
end CS
namespace CS
open PySem L2

/-! ## slices -/
def cutL (xs : List D) (lo hi : Option Int) : List D := (xs.drop (HT.sIx xs.length 0 lo)).take (HT.sIx xs.length xs.length hi - HT.sIx xs.length 0 lo)
def sliceD (x : D) (lo hi : Option Int) : Res D := match x with
  | .lst ds => .ok (.lst (cutL ds lo hi))
  | .tup ds => if HT.sIx ds.length 0 lo = 0 ∧ HT.sIx ds.length ds.length hi = ds.length then .bad else .ok (.tup (cutL ds lo hi))
  | _ => .bad
def mNoPart : M (Option Int) := M.ret none
def asI : D → Res Int
  | .int i => .ok i
  | _ => .bad
def mPart (m : M D) : M (Option Int) := m >>= fun x => M.res (asI x) >>= fun i => M.ret (some i)
def mSlice (m : M D) (l h : M (Option Int)) : M D := m >>= fun x => l >>= fun lo => h >>= fun hi => M.res (sliceD x lo hi)
abbrev rSl2 (K : PySem.W.Frag) : V → Option Int → Option Int → Hp → VK → Prop := fun x lo hi H Q => rSlL K x lo hi H Q ∨ rSlT K x lo hi H Q
theorem Reps.cut {R : RC} {F : Hp} {ds : List D} {vs : List V} (r : Reps R F ds vs) (lo hi : Option Int) : Reps R F (cutL ds lo hi) (cutV vs lo hi) := by
  unfold cutL cutV
  rw [r.length]
  exact (r.drop _).take _
section
variable {X : Cx} {R : RC} {e : Expr} {m : M D} {pos : Pos}
theorem asI_ok {d : D} {i : Int} (h : asI d = .ok i) : d = .int i := by
  unfold asI at h
  split at h
  · cases h; rfl
  · cases h
theorem do_none : PO X none (lO R mNoPart) := PO.imp po_none fun σ H Q ⟨B, env, p, F, c⟩ => c.ret _ F H (Same.refl _) c.S rfl
theorem do_some (h : PE X e (lE R m)) : PO X (some e) (lO R (mPart m)) := PO.imp (po_some h) fun σ H Q ⟨B, env, p, F, c⟩ => c.sq fun x v env1 p1 F1 H1 s1 r1 c1 => by
  obtain ⟨S, z, env', p', e, q⟩ := c1
  obtain ⟨k1, env1, p1, e1, e2⟩ := bind_ok e
  obtain ⟨k', g1, g2⟩ := Res.bind_ok (show (asI x).bind _ = _ from e1)
  cases g2
  cases e2
  cases asI_ok g1
  simp only [Rep] at r1
  exact ⟨_, r1, q _ F1 H1 (Same.refl _) S rfl⟩
theorem de_slice {lo hi : Option Expr} {l h : M (Option Int)} {p2 : Pos} (hK : X.K = R.K) (he : PE X e (lE R m)) (hl : PO X lo (lO R l)) (hu : PO X hi (lO R h)) : PE X (.Subscript e (.Slice lo hi none p2) pos) (lE R (mSlice m l h)) :=
  PE.imp (pe_slice (sl_list.or sl_tup) he hl hu) fun σ H Q ⟨B, env, p, F, c⟩ => c.sq fun x v env1 p1 F1 H1 s1 r1 c1 => c1.sq fun lo' lo2 env2 p2 F2 H2 s2 r2 c2 => c2.sq fun hi' hi2 env3 p3 F3 H3 s3 r3 c3 => by
    cases r2
    cases r3
    obtain ⟨z, e, q⟩ := c3.res
    have r1' := r1.mono (s2.trans s3)
    have S := c3.S
    rw [hK]
    cases x <;> try (cases e)
    · rename_i ds
      simp only [sliceD] at e
      split at e
      · cases e
      · rename_i hw
        cases e
        simp only [Rep] at r1'
        obtain ⟨a, vs, rfl, h1, r⟩ := r1'
        refine .inr ⟨a, vs, rfl, Same.sqt S.fh h1, by rw [r.length]; exact hw, Wn.tup S (r.cut _ _) q⟩
    · simp only [Rep] at r1'
      obtain ⟨a, vs, rfl, h1, r⟩ := r1'
      exact .inl ⟨a, vs, rfl, SqL.of (S.fh _ _ h1), Wn.lst S (r.cut _ _) q⟩
end

/-! ## attributes -/
def fldD (cl : List Str) (f : Str) (x : D) : Res D := match x with
  | .ins c ns ds => if c ∈ cl then (match (ns.zip ds).lookup f with
    | some d => .ok d
    | none => .bad) else .bad
  | _ => .bad
/-- what is asked of the classes that have the attribute -/
def FldF (R : RC) (cl : List Str) (f : Str) : Prop := ∀ c ∈ cl, Cls R.K (R.cls c) ∧ NoAttr R.K (R.cls c) f
theorem Reps.look {R : RC} {F : Hp} {f : Str} {d : D} : ∀ {ns : List Str} {ds : List D} {vs : List V}, Reps R F ds vs → (ns.zip ds).lookup f = some d → ∃ v, (ns.zip vs).lookup f = some v ∧ Rep R F d v
  | [], ds, vs, _, h => by simp at h
  | n :: ns, [], vs, _, h => by simp at h
  | n :: ns, e :: ds, vs, r, h => by
    simp only [Reps] at r
    obtain ⟨v, r', rfl, r1, r2⟩ := r
    simp only [List.zip_cons_cons, List.lookup_cons] at h ⊢
    split at h
    · cases h; exact ⟨v, rfl, r1⟩
    · exact Reps.look r2 h
section
variable {X : Cx} {R : RC} {e : Expr} {m : M D} {pos : Pos} {f : Str}
theorem de_fld {cl : List Str} (hK : X.K = R.K) (hF : FldF R cl f) (he : PE X e (lE R m)) (hb : attributeBase e f X.env (eval e X.env) = eval e X.env) : PE X (.Attribute e f pos) (lE R (m1 (fldD cl f) m)) :=
  PE.imp (pe_fld he hb) fun σ H Q ⟨B, env, p, F, c⟩ => c.sq fun x v env1 p1 F1 H1 s1 r1 c1 => by
    obtain ⟨z, e, q⟩ := c1.res
    unfold fldD at e
    split at e
    · rename_i c ns ds
      split at e
      · rename_i hc
        split at e
        · rename_i d hd
          cases e
          simp only [Rep] at r1
          obtain ⟨a, dx, vs, rfl, h1, hl, r⟩ := r1
          obtain ⟨u, hu, ru⟩ := r.look hd
          rw [hK]
          exact ⟨a, R.cls c, dx, _, u, rfl, c1.S.fh _ _ h1, (hF c hc).1, (hF c hc).2, hu, Wn.flat c1.S q ru⟩
        · cases e
      · cases e
    · cases e
end

/-! ## isinstance -/
def D.tn : D → Option String
  | .non => some "NoneType"
  | .bl _ => some "bool"
  | .int _ => some "int"
  | .str _ => some "str"
  | .tup _ => some "tuple"
  | .lst _ => some "list"
  | _ => none
def isB (a b : String) : Bool := a == b || (a == "bool" && b == "int")
def tyNames : List String := ["NoneType", "bool", "int", "str", "tuple", "list"]
def isA (cl : List Str) (x k : D) : Res Bool := match k with
  | .ty n => if n ∈ ["int", "bool", "str", "tuple", "list"] then (match x with
    | .ins c _ _ => if c ∈ cl then .ok false else .bad
    | x => match x.tn with
      | some t => .ok (isB t n)
      | none => .bad) else .bad
  | .cls k => if k ∈ cl then (match x with
    | .ins c _ _ => if c ∈ cl then .ok (decide (c = k)) else .bad
    | x => match x.tn with
      | some t => .ok false
      | none => .bad) else .bad
  | _ => .bad
structure IsF (R : RC) (cl : List Str) : Prop where
  ins : ∀ c ∈ cl, Cls R.K (R.cls c) ∧ PySem.W.findIn R.K (.ref (R.cls c)) "__class__" = some (some (.builtin "object.__class__")) ∧
    PySem.W.specialIn R.K (.builtin "object.__class__") "__get__" = some (some (.builtin "getset_descriptor.__get__")) ∧ PySem.W.takesIn R.K (.builtin "object.__class__") = some true ∧ PySem.W.mroIn R.K (R.cls c) (.type "object") = some true
  kt : ∀ c ∈ cl, ∀ n ∈ tyNames, PySem.W.kitOne R.K (.type n) (.ref (R.cls c)) = some false
  ku : ∀ c ∈ cl, ∀ n ∈ ["int", "bool", "str", "tuple", "list"], PySem.W.kitOne R.K (.ref (R.cls c)) (.type n) = some false
  kc : ∀ c ∈ cl, ∀ k ∈ cl, PySem.W.kitOne R.K (.ref (R.cls c)) (.ref (R.cls k)) = some (decide (c = k))
def isa1 (cl : List Str) : List D → Res D
  | [x, k] => (isA cl x k).bind fun b => .ok (.bl b)
  | _ => .bad
def isaAny (cl : List Str) (x : D) : List D → Res Bool
  | [] => .ok false
  | k :: ks => (isA cl x k).bind fun b => (isaAny cl x ks).bind fun b' => .ok (b || b')
def mIsaT (cl : List Str) (m : M D) (ks : M (List D)) : M D := m >>= fun x => ks >>= fun ks => M.res (if ks.isEmpty = false ∧ ks.length ≤ sizeLine then (isaAny cl x ks).bind fun b => .ok (.bl b) else .bad)
theorem kitB_tab : ∀ a ∈ tyNames, ∀ b ∈ ["int", "bool", "str", "tuple", "list"], kitB a b = some (isB a b) := by decide +kernel
section
variable {R : RC} {F H : Hp}
theorem Rep.tyx {cl : List Str} {x : D} {v : V} (s : Same F H) (IF : IsF R cl) (r : Rep R F x v) :
    (∀ t, x.tn = some t → TyX R.K H v (.type t) ∧ t ∈ tyNames) ∧ (∀ c ns ds, x = .ins c ns ds → c ∈ cl → TyX R.K H v (.ref (R.cls c))) := by
  refine ⟨fun t ht => ?_, fun c ns ds hx hc => ?_⟩
  · cases x <;> simp only [D.tn] at ht <;> (try cases ht) <;> simp only [Rep] at r
    · subst r; exact ⟨.base .non, by simp [tyNames]⟩
    · subst r; exact ⟨.base (.bl _), by simp [tyNames]⟩
    · subst r; exact ⟨.base (.int _), by simp [tyNames]⟩
    · subst r; exact ⟨.base (.str _), by simp [tyNames]⟩
    · obtain ⟨a, vs, rfl, h1, _⟩ := r
      refine ⟨?_, by simp [tyNames]⟩
      rcases Same.sqt s h1 with (h | ⟨o, h⟩) | ⟨o, its, n, hk, hc, _⟩
      · exact .base (.tup h)
      · exact .fTuple h
      · exact .kTuple hk hc
    · obtain ⟨a, vs, rfl, h1, _⟩ := r
      exact ⟨.base (.lst (s _ _ h1)), by simp [tyNames]⟩
  · subst hx
    simp only [Rep] at r
    obtain ⟨a, dx, vs, rfl, h1, _⟩ := r
    obtain ⟨g1, g2, g3, g4, g5⟩ := IF.ins c hc
    exact .base (.ins (s _ _ h1) g1 g2 g3 g4 g5)
/-- the type, the class and the answer -/
theorem isA_ok {cl : List Str} {x k : D} {v w : V} {b : Bool} (s : Same F H) (IF : IsF R cl) (r : Rep R F x v) (rk : Rep R F k w) (h : isA cl x k = .ok b) :
    ∃ t u, ClsV w u ∧ TyX R.K H v t ∧ PySem.W.kitOne R.K t u = some b ∧ ((∃ n, x.tn = some n ∧ t = .type n) ∨ (∃ c ns ds, x = .ins c ns ds ∧ c ∈ cl ∧ t = .ref (R.cls c))) := by
  obtain ⟨T1, T2⟩ := r.tyx s IF
  unfold isA at h
  split at h
  · rename_i n
    split at h
    · rename_i hn
      simp only [Rep] at rk
      subst rk
      split at h
      · rename_i c ns ds
        split at h
        · rename_i hc
          cases h
          exact ⟨_, _, .ty n, T2 c ns ds rfl hc, IF.ku c hc n hn, .inr ⟨c, ns, ds, rfl, hc, rfl⟩⟩
        · cases h
      · split at h
        · rename_i t ht
          cases h
          obtain ⟨h1, h2⟩ := T1 t ht
          exact ⟨_, _, .ty n, h1, kit_ty (kitB_tab t h2 n hn), .inl ⟨t, ht, rfl⟩⟩
        · cases h
    · cases h
  · rename_i k
    split at h
    · rename_i hk
      simp only [Rep] at rk
      subst rk
      split at h
      · rename_i c ns ds
        split at h
        · rename_i hc
          cases h
          exact ⟨_, _, .own _, T2 c ns ds rfl hc, IF.kc c hc k hk, .inr ⟨c, ns, ds, rfl, hc, rfl⟩⟩
        · cases h
      · split at h
        · rename_i t ht
          cases h
          obtain ⟨h1, h2⟩ := T1 t ht
          exact ⟨_, _, .own _, h1, IF.kt k hk t h2, .inl ⟨t, ht, rfl⟩⟩
        · cases h
    · cases h
  · cases h
theorem isa1_d {cl : List Str} (IF : IsF R cl) : CallD R (rIsi R.K) (isa1 cl) := ⟨fun {B env p σ F H xs z vs Q} S r h q => by
  unfold isa1 at h
  split at h
  · rename_i x k
    obtain ⟨b, h1, h2⟩ := Res.bind_ok h
    cases h2
    obtain ⟨v, w, rfl, r1, r2⟩ := r.two2
    obtain ⟨t, u, g1, g2, g3, _⟩ := isA_ok S.fh IF r1 r2 h1
    exact ⟨v, w, t, u, b, rfl, g1, g2, g3, Wn.flat S q (by simp [Rep])⟩
  · cases h⟩
theorem isaAny_ok {cl : List Str} {x : D} {v : V} {t : Value} (s : Same F H) (IF : IsF R cl) (r : Rep R F x v) (ht : (∃ n, x.tn = some n ∧ t = .type n) ∨ (∃ c ns ds, x = .ins c ns ds ∧ c ∈ cl ∧ t = .ref (R.cls c))) :
    ∀ {ks : List D} {ws : List V} {b : Bool}, Reps R F ks ws → isaAny cl x ks = .ok b → ∃ us, Paired ClsV ws us ∧ PySem.W.kitAny R.K t us = some b
  | [], ws, b, rs, h => by
    simp only [Reps] at rs
    subst rs
    cases h
    exact ⟨[], .nil, rfl⟩
  | k :: ks, ws, b, rs, h => by
    simp only [Reps] at rs
    obtain ⟨w, ws', rfl, r1, r2⟩ := rs
    obtain ⟨b1, h1, h2⟩ := Res.bind_ok (show (isA cl x k).bind _ = _ from h)
    obtain ⟨b2, h3, h4⟩ := Res.bind_ok h2
    cases h4
    obtain ⟨t', u, g1, g2, g3, g4⟩ := isA_ok s IF r r1 h1
    have et : t = t' := by
      rcases ht with ⟨n, e1, rfl⟩ | ⟨c, ns, ds, e1, _, rfl⟩
      · rcases g4 with ⟨n', e2, rfl⟩ | ⟨c', ns', ds', e2, _, rfl⟩
        · rw [e1] at e2; cases e2; rfl
        · rw [e2] at e1; cases e1
      · rcases g4 with ⟨n', e2, rfl⟩ | ⟨c', ns', ds', e2, _, rfl⟩
        · rw [e1] at e2; cases e2
        · rw [e1] at e2; cases e2; rfl
    subst et
    obtain ⟨us, hu, hk⟩ := isaAny_ok s IF r ht r2 h3
    cases b1 with
    | true => exact ⟨u :: us, .cons g1 hu, kitAny_cons g3 (fun z => nomatch z) fun _ => rfl⟩
    | false => exact ⟨u :: us, .cons g1 hu, kitAny_cons g3 (fun _ => by simpa using hk) fun z => nomatch z⟩
theorem tn_or {x : D} {cl : List Str} {k : D} {b : Bool} (h : isA cl x k = .ok b) : (∃ n, x.tn = some n) ∨ ∃ c ns ds, x = .ins c ns ds ∧ c ∈ cl := by
  unfold isA at h
  split at h
  · split at h
    · split at h
      · split at h
        · rename_i hc; exact .inr ⟨_, _, _, rfl, hc⟩
        · cases h
      · split at h
        · rename_i ht; exact .inl ⟨_, ht⟩
        · cases h
    · cases h
  · split at h
    · split at h
      · split at h
        · rename_i hc; exact .inr ⟨_, _, _, rfl, hc⟩
        · cases h
      · split at h
        · rename_i ht; exact .inl ⟨_, ht⟩
        · cases h
    · cases h
  · cases h
end
section
variable {X : Cx} {R : RC} {e : Expr} {es : List Expr} {m : M D} {ks : M (List D)} {pos p tpos : Pos}
theorem de_isi1 {cl : List Str} {ms : M (List D)} (hK : X.K = R.K) (IF : IsF R cl) (hg : Gl X "isinstance") (hm : X.mg "isinstance" = none) (ha : PA X (e :: es) (lA R ms))
    (he : starEach (e :: es) X.env = (false, eval e X.env) :: starEach es X.env := by rfl) (hpl : (backTo pos (starEach es X.env)).any (·.1) = false := by rfl) : PE X (.Call (.Name "isinstance" p) (e :: es) [] pos) (lE R (mCB (isa1 cl) ms)) :=
  de_callB call_isi (by rw [hK]; exact isa1_d IF) hg hm (by decide +kernel) ha (by decide) (by decide) he hpl
/-- isinstance(e, (c1, c2, ..)) -/
theorem de_isiT {cl : List Str} {x1} (hK : X.K = R.K) (IF : IsF R cl) (hg : Gl X "isinstance") (hm : X.mg "isinstance" = none) (ha : PE X e (lE R m)) (hk : PA X es (lA R ks))
    (hs : starEach [e, .Tuple es x1 tpos] X.env = (false, eval e X.env) :: starEach [.Tuple es x1 tpos] X.env := by rfl) (hs2 : starEach [.Tuple es x1 tpos] X.env = (false, eval (.Tuple es x1 tpos) X.env) :: starEach [] X.env := by rfl)
    (hpl : (backTo pos (starEach [.Tuple es x1 tpos] X.env)).any (·.1) = false := by rfl) : PE X (.Call (.Name "isinstance" p) [e, .Tuple es x1 tpos] [] pos) (lE R (mIsaT cl m ks)) :=
  PE.imp (pe_callB call_isiT hg hm (by decide +kernel) (pa_cons ha (pa_cons (pe_tup hk) pa_nil hs2) hs) (by decide) (by decide) hs hpl) fun σ H Q ⟨B, env, p, F, c⟩ => c.sq fun x v env1 p1 F1 H1 s1 r1 c1 => c1.sq fun xs vs env2 p2 F2 H2 s2 r2 c2 => by
    obtain ⟨z, e, q⟩ := c2.res
    split at e
    · rename_i hz
      obtain ⟨b, h1, h2⟩ := Res.bind_ok e
      cases h2
      refine ⟨by rw [r2.length]; exact hz.2, fun a hn => ?_⟩
      have ex := c2.S.alloc (o := .tup vs) hn
      have S2 := c2.S.ext ex
      have r1' : Rep R _ x v := (r1.mono s2).mono ex.ff
      have tt : ∃ t, TyX R.K (upd H2 a (.tup vs)) v t ∧ ((∃ n, x.tn = some n ∧ t = .type n) ∨ (∃ c ns ds, x = .ins c ns ds ∧ c ∈ cl ∧ t = .ref (R.cls c))) := by
        obtain ⟨T1, T2⟩ := r1'.tyx S2.fh IF
        cases xs with
        | nil => exact absurd hz.1 (by simp)
        | cons k ks' =>
          obtain ⟨b1, g1, _⟩ := Res.bind_ok (show (isA cl x k).bind _ = _ from h1)
          rcases tn_or g1 with ⟨n, hn⟩ | ⟨c, ns, ds, e, hc⟩
          · exact ⟨_, (T1 n hn).1, .inl ⟨n, hn, rfl⟩⟩
          · exact ⟨_, T2 c ns ds e hc, .inr ⟨c, ns, ds, e, hc, rfl⟩⟩
      obtain ⟨t, ht, hor⟩ := tt
      obtain ⟨us, hu, hk⟩ := isaAny_ok S2.fh IF r1' hor (r2.mono ex.ff) h1
      rw [hK]
      exact ⟨v, a, vs, t, us, b, rfl, upd_same, hu, ht, hk, q _ _ _ ex.ff S2 (by simp [Rep])⟩
    · cases e
end
end CS
namespace CS
open PySem L2

/-! ## steps of the state -/
section
variable {R : RC} {B : Bs} {env : Env'} {p : Pn} {σ : St} {F H : Hp}
theorem OwnAt.lt {i : Nat} {a : Addr} (h : OwnAt env σ i a) : i < env.length := by
  obtain ⟨⟨s, h1, _⟩, _⟩ := h
  exact (List.getElem?_eq_some_iff.mp h1).1
theorem SRel.nq {P : Pen} (S : SRel R B env (some P) σ F H) {a : Addr} (h : a ≠ R.q ∨ B.pn = false) : a ≠ R.q := h.elim id fun z => nomatch S.pnone.mp z
theorem SRel.nqOf (S : SRel R B env p σ F H) {a : Addr} (h : H a = none) : a ≠ R.q ∨ B.pn = false := by
  cases p with
  | none => exact .inr (S.pnone.mpr rfl)
  | some P =>
    obtain ⟨_, h2, _⟩ := S.pen
    exact .inl fun e => by rw [e, h2] at h; cases h
theorem SRel.ownF (S : SRel R B env p σ F H) {i : Nat} {a : Addr} (h : OwnAt env σ i a) : F a = none ∧ (a ≠ R.q ∨ B.pn = false) ∧ H a ≠ none := by
  obtain ⟨⟨s, h1, h2⟩, h3⟩ := h
  have := S.slots i s h1
  cases s with
  | un => cases h2
  | pl d => cases h2
  | ow d =>
    obtain ⟨b, e, g1, _, g2, g3⟩ := this
    rw [h3] at e; cases e
    exact ⟨g1, g2, g3.there⟩
  | ro d =>
    obtain ⟨b, e, g1, g2, g3⟩ := this
    rw [h3] at e; cases e
    exact ⟨g1, g2, g3.there⟩
/-- a name gets a value -/
theorem SRel.set (S : SRel R B env p σ F H) {i : Nat} {d : D} {v : V} (r : Rep R F d v) : SRel R B (env.set i (.pl d)) p (σ.set i (some v)) F H where
  fh := S.fh
  f0 := S.f0
  h0 := S.h0
  fresh := S.fresh
  pnb := S.pnb
  pen := S.pen
  cel := S.cel
  len := by simp [S.len]
  slots := fun j s hj => by
    by_cases e : i = j
    · subst e
      have hl : i < env.length := by have := (List.getElem?_eq_some_iff.mp hj).1; simpa using this
      rw [List.getElem?_set_self hl] at hj
      cases hj
      rw [List.getElem?_set_self (by rw [← S.len]; exact hl)]
      exact ⟨v, rfl, r⟩
    · rw [List.getElem?_set_ne e] at hj ⊢
      exact S.slots j s hj
  dis := fun j k a hjk h1 h2 => by
    have red : ∀ j, OwnAt (env.set i (.pl d)) (σ.set i (some v)) j a → OwnAt env σ j a := fun j h => by
      obtain ⟨⟨s, g1, g2⟩, g3⟩ := h
      by_cases e : i = j
      · subst e
        have hl : i < env.length := by have := (List.getElem?_eq_some_iff.mp g1).1; simpa using this
        rw [List.getElem?_set_self hl] at g1
        cases g1; cases g2
      · rw [List.getElem?_set_ne e] at g1 g3
        exact ⟨⟨s, g1, g2⟩, g3⟩
    exact S.dis j k a hjk (red j h1) (red k h2)
/-- an own list that no name holds -/
structure FreshA (R : RC) (B : Bs) (env : Env') (σ : St) (F H : Hp) (d : D) (a : Addr) : Prop where
  f : F a = none
  b : B.H0 a = none
  q : a ≠ R.q ∨ B.pn = false
  no : ∀ i, ¬ OwnAt env σ i a
  own : Own R F H d a
theorem SRel.setO (S : SRel R B env p σ F H) {i : Nat} {d : D} {a : Addr} (r : FreshA R B env σ F H d a) : SRel R B (env.set i (.ow d)) p (σ.set i (some (.ref a))) F H where
  fh := S.fh
  f0 := S.f0
  h0 := S.h0
  fresh := S.fresh
  pnb := S.pnb
  pen := S.pen
  cel := S.cel
  len := by simp [S.len]
  slots := fun j s hj => by
    by_cases e : i = j
    · subst e
      have hl : i < env.length := by have := (List.getElem?_eq_some_iff.mp hj).1; simpa using this
      rw [List.getElem?_set_self hl] at hj
      cases hj
      rw [List.getElem?_set_self (by rw [← S.len]; exact hl)]
      exact ⟨a, rfl, r.f, r.b, r.q, r.own⟩
    · rw [List.getElem?_set_ne e] at hj ⊢
      exact S.slots j s hj
  dis := fun j k b hjk h1 h2 => by
    have red : ∀ j, i ≠ j → OwnAt (env.set i (.ow d)) (σ.set i (some (.ref a))) j b → OwnAt env σ j b := fun j e h => by
      obtain ⟨⟨s, g1, g2⟩, g3⟩ := h
      rw [List.getElem?_set_ne e] at g1 g3
      exact ⟨⟨s, g1, g2⟩, g3⟩
    have at_i : OwnAt (env.set i (.ow d)) (σ.set i (some (.ref a))) i b → b = a := fun h => by
      have hl : i < env.length := by simpa using h.lt
      obtain ⟨_, g3⟩ := h
      rw [List.getElem?_set_self (by rw [← S.len]; exact hl)] at g3
      cases g3; rfl
    by_cases e : i = j
    · subst e
      have hb := at_i h1
      subst hb
      exact r.no k (red k hjk h2)
    · by_cases e' : i = k
      · subst e'
        have hb := at_i h2
        subst hb
        exact r.no j (red j e h1)
      · exact S.dis j k b hjk (red j e h1) (red k e' h2)
/-- an object that no name holds and nothing frozen is changed -/
theorem SRel.updF (S : SRel R B env p σ F H) {a : Addr} {o : HO} (hf : F a = none) (hb : B.H0 a = none) (hq : a ≠ R.q ∨ B.pn = false) (no : ∀ i, ¬ OwnAt env σ i a) : SRel R B env p σ F (upd H a o) where
  fh := fun b u e => by rw [upd_ne (ne_of_none e hf)]; exact S.fh _ _ e
  f0 := S.f0
  h0 := fun b u c e => by rw [upd_ne (ne_of_none e hb)]; exact S.h0 b u c e
  fresh := S.fresh
  pnb := S.pnb
  pen := by
    have := S.pen
    cases p with
    | none => trivial
    | some P =>
      obtain ⟨h1, h2, h3⟩ := this
      exact ⟨h1, by rw [upd_ne (Ne.symm (S.nq hq))]; exact h2, h3⟩
  cel := S.cel
  len := S.len
  slots := fun i s hi => by
    have := S.slots i s hi
    cases s with
    | un => trivial
    | pl d => exact this
    | ow d =>
      obtain ⟨b, g1, g2, g3, g4, g5⟩ := this
      refine ⟨b, g1, g2, g3, g4, g5.keep (Same.refl _) (upd_ne ?_)⟩
      rintro rfl
      exact no i ⟨⟨_, hi, rfl⟩, g1⟩
    | ro d =>
      obtain ⟨b, g1, g2, g4, g5⟩ := this
      refine ⟨b, g1, g2, g4, g5.keep (Same.refl _) (upd_ne ?_)⟩
      rintro rfl
      exact no i ⟨⟨_, hi, rfl⟩, g1⟩
  dis := S.dis
/-- an own list changes -/
theorem SRel.mut (S : SRel R B env p σ F H) {i : Nat} {d d' : D} {a : Addr} {o : HO} (hi : env[i]? = some (.ow d)) (ha : σ[i]? = some (some (.ref a))) (new : Own R F (upd H a o) d' a) : SRel R B (env.set i (.ow d')) p σ F (upd H a o) := by
  have hw : OwnAt env σ i a := ⟨⟨_, hi, rfl⟩, ha⟩
  obtain ⟨b, g1, g2, g3, g4, g5⟩ := S.slots i _ hi
  rw [ha] at g1; cases g1
  have hl := hw.lt
  refine ⟨fun b u e => by rw [upd_ne (ne_of_none e g2)]; exact S.fh _ _ e, S.f0, fun b u c e => by rw [upd_ne (ne_of_none e g3)]; exact S.h0 b u c e, S.fresh, S.pnb, ?_, S.cel, by simp [S.len], fun j s hj => ?_, fun j k b hjk h1 h2 => ?_⟩
  · have := S.pen
    cases p with
    | none => trivial
    | some P =>
      obtain ⟨h1, h2, h3⟩ := this
      exact ⟨h1, by rw [upd_ne (Ne.symm (S.nq g4))]; exact h2, h3⟩
  · by_cases e : i = j
    · subst e
      rw [List.getElem?_set_self hl] at hj
      cases hj
      exact ⟨a, ha, g2, g3, g4, new⟩
    · rw [List.getElem?_set_ne e] at hj
      have := S.slots j s hj
      cases s with
      | un => trivial
      | pl d => exact this
      | ow d =>
        obtain ⟨b, g1, g2, g3, g4, g5⟩ := this
        refine ⟨b, g1, g2, g3, g4, g5.keep (Same.refl _) (upd_ne ?_)⟩
        rintro rfl
        exact S.dis i j b e hw ⟨⟨_, hj, rfl⟩, g1⟩
      | ro d =>
        obtain ⟨b, g1, g2, g4, g5⟩ := this
        refine ⟨b, g1, g2, g4, g5.keep (Same.refl _) (upd_ne ?_)⟩
        rintro rfl
        exact S.dis i j b e hw ⟨⟨_, hj, rfl⟩, g1⟩
  · have red : ∀ j, OwnAt (env.set i (.ow d')) σ j b → OwnAt env σ j b := fun j h => by
      obtain ⟨⟨s, g1, g2⟩, g3⟩ := h
      by_cases e : i = j
      · subst e; exact ⟨⟨_, hi, rfl⟩, g3⟩
      · rw [List.getElem?_set_ne e] at g1
        exact ⟨⟨s, g1, g2⟩, g3⟩
    exact S.dis j k b hjk (red j h1) (red k h2)
/-- what an own thing is once it is frozen -/
theorem Own.rep {d : D} {a : Addr} (o : Own R F H d a) : ∃ u, H a = some u ∧ Rep R (upd F a u) d (.ref a) ∨ F a ≠ none := by
  by_cases hf : F a = none
  · rcases o with ⟨ds, vs, rfl, h, r⟩ | ⟨c, ns, ds, dx, vs, _, rfl, h, l, r⟩
    · exact ⟨_, .inl ⟨h, by simp only [Rep]; exact ⟨a, vs, rfl, upd_same, r.mono (same_upd hf)⟩⟩⟩
    · exact ⟨_, .inl ⟨h, by simp only [Rep]; exact ⟨a, dx, vs, rfl, upd_same, l, r.mono (same_upd hf)⟩⟩⟩
  · exact ⟨.own a, .inr hf⟩
theorem Own.repF {d : D} {a : Addr} (o : Own R F H d a) (hf : F a = none) : ∃ u, H a = some u ∧ Rep R (upd F a u) d (.ref a) := by
  obtain ⟨u, h | h⟩ := o.rep
  · exact ⟨u, h⟩
  · exact absurd hf h
/-- it is frozen: no name holds it -/
theorem SRel.freeze (S : SRel R B env p σ F H) {a : Addr} {u : HO} (hu : H a = some u) (hf : F a = none) (hb : B.H0 a = none) (hq : a ≠ R.q ∨ B.pn = false) (no : ∀ i, ¬ OwnAt env σ i a) : SRel R B env p σ (upd F a u) H where
  fh := fun b w e => by
    by_cases h : b = a
    · subst h; rw [upd_same] at e; rw [hu]; exact e
    · rw [upd_ne h] at e; exact S.fh _ _ e
  f0 := S.f0.trans (same_upd hf)
  h0 := S.h0
  fresh := fun b e => by
    by_cases h : b = a
    · subst h; exact .inr hb
    · rw [upd_ne h] at e; exact S.fresh b e
  pnb := S.pnb
  pen := S.pen.mono (same_upd hf) (fun _ e => e) fun hp => by
    cases p with
    | none => exact absurd rfl hp
    | some P => rw [upd_ne (Ne.symm (S.nq hq))]; exact S.pen.1
  cel := S.cel
  len := S.len
  slots := fun i s hi => by
    have := S.slots i s hi
    cases s with
    | un => trivial
    | pl d => obtain ⟨v, h1, h2⟩ := this; exact ⟨v, h1, h2.mono (same_upd hf)⟩
    | ow d =>
      obtain ⟨b, g1, g2, g3, g4, g5⟩ := this
      have hne : b ≠ a := by rintro rfl; exact no i ⟨⟨_, hi, rfl⟩, g1⟩
      exact ⟨b, g1, by rw [upd_ne hne]; exact g2, g3, g4, g5.keep (same_upd hf) rfl⟩
    | ro d =>
      obtain ⟨b, g1, g2, g4, g5⟩ := this
      have hne : b ≠ a := by rintro rfl; exact no i ⟨⟨_, hi, rfl⟩, g1⟩
      exact ⟨b, g1, by rw [upd_ne hne]; exact g2, g4, g5.keep (same_upd hf) rfl⟩
  dis := S.dis
/-- a name's own thing is frozen -/
theorem SRel.freezeAt (S : SRel R B env p σ F H) {i : Nat} {d : D} (hi : env[i]? = some (.ow d)) : ∃ F', Same F F' ∧ SRel R B (env.set i (.pl d)) p σ F' H := by
  obtain ⟨a, g1, g2, g3, g4, g5⟩ := S.slots i _ hi
  obtain ⟨u, hu, r⟩ := g5.repF g2
  have hl : i < env.length := (List.getElem?_eq_some_iff.mp hi).1
  have hw : OwnAt env σ i a := ⟨⟨_, hi, rfl⟩, g1⟩
  -- first the name is forgotten, then the thing is frozen
  have S1 : SRel R B (env.set i .un) p σ F H := by
    refine ⟨S.fh, S.f0, S.h0, S.fresh, S.pnb, S.pen, S.cel, by simp [S.len], fun j s hj => ?_, fun j k b hjk h1 h2 => ?_⟩
    · by_cases e : i = j
      · subst e
        rw [List.getElem?_set_self hl] at hj
        cases hj; trivial
      · rw [List.getElem?_set_ne e] at hj
        exact S.slots j s hj
    · have red : ∀ j, OwnAt (env.set i .un) σ j b → OwnAt env σ j b := fun j h => by
        obtain ⟨⟨s, g1, g2⟩, g3⟩ := h
        by_cases e : i = j
        · subst e
          rw [List.getElem?_set_self hl] at g1
          cases g1; cases g2
        · rw [List.getElem?_set_ne e] at g1
          exact ⟨⟨s, g1, g2⟩, g3⟩
      exact S.dis j k b hjk (red j h1) (red k h2)
  have S2 := S1.freeze hu g2 g3 g4 fun j h => by
    obtain ⟨⟨s, k1, k2⟩, k3⟩ := h
    by_cases e : i = j
    · subst e
      rw [List.getElem?_set_self hl] at k1
      cases k1; cases k2
    · rw [List.getElem?_set_ne e] at k1
      exact S.dis i j a e hw ⟨⟨s, k1, k2⟩, k3⟩
  refine ⟨upd F a u, same_upd g2, ?_⟩
  have S3 := S2.set (i := i) r
  rw [List.set_set] at S3
  have e : σ.set i (some (.ref a)) = σ := by
    apply List.ext_getElem?
    intro j
    by_cases h : i = j
    · subst h
      rw [List.getElem?_set_self (by rw [← S.len]; exact hl), g1]
    · rw [List.getElem?_set_ne h]
  rw [e] at S3
  exact S3
end

/-! ## new lists that are still free to change -/
def lF (R : RC) (m : M D) : TE := fun σ H Q => ∃ B env p F, SRel R B env p σ F H ∧ ∃ d env' p', m env p = .ok (d, env', p') ∧ ∀ a F' H', Same F F' → SRel R B env' p' σ F' H' → FreshA R B env' σ F' H' d a → Q (.ref a) H'
section
variable {X : Cx} {R : RC} {e : Expr} {m : M D}
theorem de_of (h : PE X e (lF R m)) : PE X e (lE R m) := PE.imp h fun σ H Q ⟨B, env, p, F, S, d, env', p', e, q⟩ => ⟨B, env, p, F, S, d, env', p', e, fun a F' H' s S' fr => by
  obtain ⟨u, hu, r⟩ := fr.own.repF fr.f
  exact q _ _ _ (s.trans (same_upd fr.f)) (S'.freeze hu fr.f fr.b fr.q fr.no) r⟩
theorem SRel.newO {B : Bs} {env : Env'} {p : Pn} {σ : St} {F H : Hp} (S : SRel R B env p σ F H) {ds : List D} {vs : List V} (r : Reps R F ds vs) {a : Addr} (hn : H a = none) : SRel R B env p σ F (upd H a (.lst vs)) ∧ FreshA R B env σ F (upd H a (.lst vs)) (.lst ds) a := by
  have ex := S.allocO (o := .lst vs) hn
  exact ⟨S.ext ex, S.fh.free hn, S.hq hn, S.nqOf hn, fun i h => (S.ownF h).2.2 hn, .inl ⟨ds, vs, rfl, upd_same, r⟩⟩
end
end CS
namespace CS
open PySem L2
open PyProof.Rows (envOfC)

/-! ## what a def promises -/
abbrev FD := List D → Pn → Res (D × Pn)
def spD (K : PySem.W.Frag) (cls : Str → Addr) (n : Nat) (mf : FD) : Sp := fun vs H Q _ => ∃ (q ca sf : Addr) (cells : List Int) (F : Hp) (p : Pn) (ds : List D), Same F H ∧ (p.isSome = true → SqL K F ca (cells.map V.int)) ∧ PenRel ⟨K, cls, q, ca, cells, sf⟩ F H p ∧ Reps ⟨K, cls, q, ca, cells, sf⟩ F ds vs ∧ ds.length = n ∧
  ∃ d p', mf ds p = .ok (d, p') ∧ ∀ v F' H', Ext ⟨K, cls, q, ca, cells, sf⟩ F H p F' H' p' → Rep ⟨K, cls, q, ca, cells, sf⟩ F' d v → Q v H'
def M.fn (g : Pn → Res (D × Pn)) : M D := fun env p => (g p).bind fun r => .ok (r.1, env, r.2)
def mCall (mf : FD) (dd : List D) (ms : M (List D)) : M D := ms >>= fun ds => M.fn (mf (ds ++ dd))
section
variable {X : Cx} {R : RC} {CX : CXT} {k : Nat} {f C : Addr} {fd : FuncData} {ps : List Str} {dvs : List V} {dv : List Value} {dd : List D} {mf : FD} {x : Str} {p pos : Pos} {e : Expr} {es : List Expr} {ms : M (List D)}
theorem call2 {n : Nat} (hdd : ∀ F, Reps R F dd dvs) (hn : ∀ ds p r, mf ds p = .ok r → ds.length = n) {σ : St} {H : Hp} {Q : VK} (h : lE R (mCall mf dd ms) σ H Q) : tCall (spD R.K R.cls n mf) dvs E0 (lA R ms) σ H Q := by
  obtain ⟨B, env, p, F, c⟩ := h
  refine c.sq fun ds vs env1 p1 F1 H1 s1 r1 c1 => ?_
  obtain ⟨S, z, env', p', e, q⟩ := c1
  obtain ⟨⟨d, p2⟩, e1, e2⟩ := Res.bind_ok (show (mf (ds ++ dd) p1).bind _ = _ from e)
  cases e2
  exact ⟨R.q, R.ca, R.sf, R.cells, F1, p1, ds ++ dd, S.fh, fun hp => Same.seq S.f0 (S.cel (by rw [← S.pnb]; exact hp)), S.pen, r1.append (hdd F1), hn _ _ _ e1, d, p2, e1, fun v F' H' ex r => q v F' H' ex.ff (S.ext ex) r⟩
theorem de_call (hK : X.K = R.K) (F : FnOk X.prog X.w X.K X.mg X.base CX k f fd ps (spD R.K R.cls ps.length mf)) (hn : ∀ ds p r, mf ds p = .ok r → ds.length = ps.length) (hr : Room k X.A) (hg : Gl X x) (hm : X.mg x = some (.ref f)) (hk : PySem.W.keepIn X.K (.ref f) = true) (hb : Binds X.K fd ps dv) (hd : Vals dvs dv) (hdd : ∀ F, Reps R F dd dvs) (hx : Passes CX X E0)
    (ha : PA X (e :: es) (lA R ms)) (hdb : (x == ("__debug__" : Str)) = false := by decide) (he : starEach (e :: es) X.env = (false, eval e X.env) :: starEach es X.env := by rfl) (hpl : (backTo pos (starEach es X.env)).any (·.1) = false := by rfl) :
    PE X (.Call (.Name x p) (e :: es) [] pos) (lE R (mCall mf dd ms)) :=
  PE.imp (pe_call F hr hg hm hk hb hd hx ha hdb he hpl) fun _ _ _ h => call2 hdd hn h
end

/-! ## statements -/
inductive Out where
  | nx (e : Env') (p : Pn)
  | rt (d : D) (p : Pn)
  | bk (e : Env') (p : Pn)
  | ct (e : Env') (p : Pn)
  | exc (c : Str) (xs : List D)
  | bad
abbrev SS := Env' → Pn → Out
def OutOk (R : RC) (B : Bs) (F : Hp) (E : Ends) : Out → Prop
  | .nx env' p' => ∀ σ' F' H', Same F F' → SRel R B env' p' σ' F' H' → E.nx σ' H'
  | .bk env' p' => ∀ σ' F' H', Same F F' → SRel R B env' p' σ' F' H' → E.bk σ' H'
  | .ct env' p' => ∀ σ' F' H', Same F F' → SRel R B env' p' σ' F' H' → E.ct σ' H'
  | .rt d p' => ∀ v env' σ' F' H', Same F F' → SRel R B env' p' σ' F' H' → Rep R F' d v → E.rt v H'
  | _ => False
def lS (R : RC) (s : SS) : TS := fun E σ H => ∃ B env p F, SRel R B env p σ F H ∧ OutOk R B F E (s env p)
theorem OutOk.mono {R : RC} {B : Bs} {F F' : Hp} {E : Ends} {o : Out} (h : OutOk R B F E o) (s : Same F F') : OutOk R B F' E o := by
  cases o with
  | nx e p => exact fun σ' F2 H2 s2 => h σ' F2 H2 (s.trans s2)
  | bk e p => exact fun σ' F2 H2 s2 => h σ' F2 H2 (s.trans s2)
  | ct e p => exact fun σ' F2 H2 s2 => h σ' F2 H2 (s.trans s2)
  | rt d p => exact fun v e σ' F2 H2 s2 => h v e σ' F2 H2 (s.trans s2)
  | exc c xs => exact h
  | bad => exact h
def dNext : SS := fun env p => .nx env p
def Out.then (o : Out) (k : SS) : Out := match o with
  | .nx e p => k e p
  | .rt d p => .rt d p
  | .bk e p => .bk e p
  | .ct e p => .ct e p
  | .exc c xs => .exc c xs
  | .bad => .bad
def dSeq (a b : SS) : SS := fun env p => (a env p).then b
def dOf {α : Type} (m : M α) (k : α → SS) : SS := fun env p => match m env p with
  | .ok (a, e, p) => k a e p
  | .exc c xs => .exc c xs
  | .bad => .bad
def dExpr (m : M D) : SS := dOf m fun _ => dNext
def dSet (i : Nat) (m : M D) : SS := dOf m fun d env p => .nx (env.set i (.pl d)) p
def dSetO (i : Nat) (m : M D) : SS := dOf m fun d env p => .nx (env.set i (.ow d)) p
def dRet (m : M D) : SS := dOf m fun d _ p => .rt d p
def dRetN : SS := fun _ p => .rt .non p
def dIf (t : M Bool) (a b : SS) : SS := dOf t fun c => if c = true then a else b
def dBrk : SS := fun env p => .bk env p
def dCt : SS := fun env p => .ct env p
def dBad : SS := fun _ _ => .bad
/-- own names are given up -/
def frz1 (env : Env') (i : Nat) : Env' := match env[i]? with
  | some (.ow d) => env.set i (.pl d)
  | _ => env
def dFrz (l : List Nat) (s : SS) : SS := fun env p => s (l.foldl frz1 env) p
section
variable {X : Cx} {R : RC} {e : Expr} {m : M D} {st : Stmt} {rest : List Stmt} {s t : SS} {pos : Pos}
theorem of1 {α β : Type} {Rl : Hp → α → β → Prop} {m : M α} {k : α → SS} {te : St → Hp → (β → Hp → Prop) → Prop} (w : ∀ {σ H Q}, lM R Rl m σ H Q → te σ H Q) {E : Ends} {σ : St} {H : Hp} {Qn : β → Hp → Prop} (h : lS R (dOf m k) E σ H)
    (hq : ∀ B a b env p F H, SRel R B env p σ F H → Rl F a b → OutOk R B F E (k a env p) → Qn b H) : te σ H Qn := by
  obtain ⟨B, env, p, F, S, o⟩ := h
  unfold dOf at o
  split at o
  · rename_i a env' p' e
    exact w ⟨B, env, p, F, S, a, env', p', e, fun b F' H' s S' r => hq B a b env' p' F' H' S' r (o.mono s)⟩
  · exact o.elim
  · exact o.elim
theorem dss_nil : PSs X [] (lS R dNext) := PSs.imp pss_nil fun E σ H ⟨B, env, p, F, S, o⟩ => o σ F H (Same.refl _) S
theorem dss_cons (h1 : PS X st (lS R s)) (h2 : PSs X rest (lS R t)) : PSs X (st :: rest) (lS R (dSeq s t)) :=
  PSs.imp (pss_cons h1 h2) fun E σ H ⟨B, env, p, F, S, o⟩ => by
    refine ⟨B, env, p, F, S, ?_⟩
    unfold dSeq at o
    cases h : s env p with
    | nx e' p' => rw [h] at o; exact fun σ' F' H' s S' => ⟨B, e', p', F', S', o.mono s⟩
    | rt d p' => rw [h] at o; exact o
    | bk e' p' => rw [h] at o; exact o
    | ct e' p' => rw [h] at o; exact o
    | exc c xs => rw [h] at o; exact o
    | bad => rw [h] at o; exact o
theorem dss_one (h1 : PS X st (lS R s)) : PSs X [st] (lS R s) := pss_one h1
theorem ds_pass : PS X (.Pass pos) (lS R dNext) := PS.imp ps_pass fun E σ H ⟨B, env, p, F, S, o⟩ => o σ F H (Same.refl _) S
theorem ds_break : PS X (.Break pos) (lS R dBrk) := PS.imp ps_break fun E σ H ⟨B, env, p, F, S, o⟩ => o σ F H (Same.refl _) S
theorem ds_continue : PS X (.Continue pos) (lS R dCt) := PS.imp ps_continue fun E σ H ⟨B, env, p, F, S, o⟩ => o σ F H (Same.refl _) S
theorem ds_never : PS X st (lS R dBad) := PS.imp ps_never fun E σ H ⟨B, env, p, F, S, o⟩ => o
theorem ds_expr (he : PE X e (lE R m)) (hs : swapsWith e none pos.line X.env = pure false := by rfl) : PS X (.Expr e pos) (lS R (dExpr m)) :=
  PS.imp (ps_expr he hs) fun E σ H h => of1 (te := lE R m) (fun h => h) h fun B a b env p F H S r o => o σ F H (Same.refl _) S
theorem ds_ret (he : PE X e (lE R m)) : PS X (.Return (some e) pos) (lS R (dRet m)) :=
  PS.imp (ps_ret he) fun E σ H h => of1 (te := lE R m) (fun h => h) h fun B a b env p F H S r o => o b env σ F H (Same.refl _) S r
theorem ds_retN : PS X (.Return none pos) (lS R dRetN) := PS.imp ps_retN fun E σ H ⟨B, env, p, F, S, o⟩ => o .non env σ F H (Same.refl _) S (by simp [Rep])
theorem ds_if {c : Expr} {a b : List Stmt} {tc : M Bool} (hc : PT X c (lT R tc)) (ha : PSs X a (lS R s)) (hb : PSs X b (lS R t)) : PS X (.If c a b pos) (lS R (dIf tc s t)) :=
  PS.imp (ps_if hc ha hb) fun E σ H h => of1 (te := lT R tc) (fun h => h) h fun B a b env p F H S r o => by
    cases r
    cases a with
    | true => exact ⟨B, env, p, F, S, o⟩
    | false => exact ⟨B, env, p, F, S, o⟩
theorem ds_set {i : Nat} {x : Str} {pos' : Pos} (hN : X.N.Nodup) (hi : X.N[i]? = some x) (hx : Loc X.env.scope x) (he : PE X e (lE R m)) (hs : swapsWith e (some (.Name x pos')) pos.line X.env = pure false := by rfl) (hf : X.fn x = true ∨ X.env.scope.names.lookup x = some .local := by first | exact .inl rfl | exact .inr rfl | assumption) :
    PS X (.Assign [.Name x pos'] e pos) (lS R (dSet i m)) :=
  PS.imp (ps_set hN hi hx he hs hf) fun E σ H h => of1 (te := lE R m) (fun h => h) h fun B a b env p F H S r o => o _ F H (Same.refl _) (S.set r)
theorem ofF {k : D → SS} {E : Ends} {σ : St} {H : Hp} {Qn : V → Hp → Prop} (h : lS R (dOf m k) E σ H)
    (hq : ∀ B d a env p F H, SRel R B env p σ F H → FreshA R B env σ F H d a → OutOk R B F E (k d env p) → Qn (.ref a) H) : lF R m σ H Qn := by
  obtain ⟨B, env, p, F, S, o⟩ := h
  unfold dOf at o
  split at o
  · rename_i d env' p' e
    exact ⟨B, env, p, F, S, d, env', p', e, fun b F' H' s S' r => hq B d b env' p' F' H' S' r (o.mono s)⟩
  · exact o.elim
  · exact o.elim
theorem ds_setO {i : Nat} {x : Str} {pos' : Pos} (hN : X.N.Nodup) (hi : X.N[i]? = some x) (hx : Loc X.env.scope x) (he : PE X e (lF R m)) (hs : swapsWith e (some (.Name x pos')) pos.line X.env = pure false := by rfl) (hf : X.fn x = true ∨ X.env.scope.names.lookup x = some .local := by first | exact .inl rfl | exact .inr rfl | assumption) :
    PS X (.Assign [.Name x pos'] e pos) (lS R (dSetO i m)) :=
  PS.imp (ps_set hN hi hx he hs hf) fun E σ H h => ofF h fun B d a env p F H S r o => o _ F H (Same.refl _) (S.setO r)
theorem frz_ok {B : Bs} {p : Pn} {σ : St} {H : Hp} : ∀ (l : List Nat) {env : Env'} {F : Hp}, SRel R B env p σ F H → ∃ F', Same F F' ∧ SRel R B (l.foldl frz1 env) p σ F' H
  | [], env, F, S => ⟨F, Same.refl _, S⟩
  | i :: l, env, F, S => by
    have h1 : ∃ F1, Same F F1 ∧ SRel R B (frz1 env i) p σ F1 H := by
      unfold frz1
      split
      · rename_i d hd
        exact S.freezeAt hd
      · exact ⟨F, Same.refl _, S⟩
    obtain ⟨F1, s1, S1⟩ := h1
    obtain ⟨F2, s2, S2⟩ := frz_ok l S1
    exact ⟨F2, s1.trans s2, S2⟩
theorem ds_frz (l : List Nat) (h : PS X st (lS R s)) : PS X st (lS R (dFrz l s)) := PS.imp h fun E σ H ⟨B, env, p, F, S, o⟩ => by
  obtain ⟨F', s', S'⟩ := frz_ok l S
  exact ⟨B, _, p, F', S', o.mono s'⟩
end

/-! ## a def from its body -/
/-- a def of the text as it stands behind the top, whatever its defaults are -/
structure FunG (K : PySem.W.Frag) (x qual : Str) (st : Stmt) (f : Addr) (fd : FuncData) : Prop where
  ex : ∃ (oc : Value) (od : Option Addr) (dV kV doc pm : Value) (an : Option Addr) (cdv ct : Value) (osl : Array (Option Value)),
    fd = PySem.W.fnOf x qual (defArgs st) (defBody st) (defScope st) dV kV doc pm an cdv ct ∧ K.lookup f = some ⟨oc, od, .func fd, osl⟩ ∧ PySem.W.codeIn K cdv qual = true
theorem FunG.ok {P : Program} {w : World} {K : PySem.W.Frag} {mg : Str → Option Value} {base : Heap} {x qual : Str} {st : Stmt} {f : Addr} {fd : FuncData} {N ps : List Str} {k : Nat} {sp : Sp} (F : FunG K x qual st f fd) (S : FnScope N ps (defScope st)) (len : ∀ vs H Q E, sp vs H Q E → vs.length = ps.length)
    (hbody : ∀ (cdv : Value) (A : Around) (outer : List Env) (s : Shared) (H : Hp) (vs : List V) (Q : VK) (E : XK), Room k (A.deeper (envOfC qual (defScope st) s.heap.objs.size f cdv)) → sp vs H Q E →
      ∃ t, PSs (cxOf CX0 P w K mg base N qual (defScope st) f cdv A outer s H E).nox (defBody st) t ∧ t { nx := fun _ H' => Q .non H', rt := Q } (L2.start N vs) H) : FnOk P w K mg base CX0 (k + 1) f fd ps sp := by
  obtain ⟨oc, od, dV, kV, doc, pm, an, cdv, ct, osl, rfl, lk, hcd⟩ := F.ex
  refine fn_of lk hcd S len fun A outer s H vs Q E hr hsp => ?_
  obtain ⟨t, h1, h2⟩ := hbody cdv A outer s H vs Q E hr hsp
  exact ⟨t, h1.nox, h2⟩
def fnD (n N : Nat) (body : SS) : FD := fun ds p => if ds.length = n then (match body (ds.map Slot.pl ++ List.replicate (N - n) Slot.un) p with
  | .nx _ p' => .ok (.non, p')
  | .rt d p' => .ok (d, p')
  | .exc c xs => .exc c xs
  | _ => .bad) else .bad
theorem fnD_len {n N : Nat} {body : SS} (ds : List D) (p : Pn) (r : D × Pn) (h : fnD n N body ds p = .ok r) : ds.length = n := by
  unfold fnD at h
  split at h
  · assumption
  · cases h
theorem Reps.start {R : RC} {F : Hp} {ds : List D} {vs : List V} {N : List Str} (r : Reps R F ds vs) (i : Nat) (s : Slot) (h : (ds.map Slot.pl ++ List.replicate (N.length - ds.length) Slot.un)[i]? = some s) (B : Bs) (H : Hp) : SlotRel R B F H s (L2.start N vs)[i]? := by
  by_cases hi : i < ds.length
  · rw [List.getElem?_append_left (by simpa using hi)] at h
    rw [List.getElem?_map] at h
    cases e : ds[i]? with
    | none => rw [e] at h; cases h
    | some d =>
      rw [e] at h
      cases h
      obtain ⟨v, h1, h2⟩ := r.get e
      refine ⟨v, ?_, h2⟩
      unfold L2.start
      rw [List.getElem?_append_left (by rw [List.length_map, r.length]; exact hi), List.getElem?_map, h1]
      rfl
  · rw [List.getElem?_append_right (by simpa using Nat.le_of_not_lt hi)] at h
    have := List.mem_of_getElem? h
    rw [List.eq_of_mem_replicate this]
    trivial
section
variable {P : Program} {w : World} {K : PySem.W.Frag} {cls : Str → Addr} {mg : Str → Option Value} {base : Heap}
theorem fn_okD {x qual : Str} {st : Stmt} {f : Addr} {fd : FuncData} {N ps : List Str} {k : Nat} {body : SS} (F : FunG K x qual st f fd) (Sc : FnScope N ps (defScope st)) (hle : ps.length ≤ N.length)
    (hb : ∀ (cdv : Value) (A : Around) (outer : List Env) (s : Shared) (H : Hp) (E : XK) (q ca sf : Addr) (cells : List Int), Room k (A.deeper (envOfC qual (defScope st) s.heap.objs.size f cdv)) →
      PSs (cxOf CX0 P w K mg base N qual (defScope st) f cdv A outer s H E).nox (defBody st) (lS ⟨K, cls, q, ca, cells, sf⟩ body)) :
    FnOk P w K mg base CX0 (k + 1) f fd ps (spD K cls ps.length (fnD ps.length N.length body)) := by
  refine F.ok Sc (fun vs H Q E h => ?_) (fun cdv A outer s H vs Q E hr h => ?_)
  · obtain ⟨q, ca, sf, cells, F, p, ds, _, _, _, r, hl, _⟩ := h
    rw [r.length]; exact hl
  · obtain ⟨q, ca, sf, cells, F, p, ds, fh, cel, pen, r, hl, d, p', e, hq⟩ := h
    refine ⟨_, hb cdv A outer s H E q ca sf cells hr, ⟨F, H, p.isSome⟩, ds.map Slot.pl ++ List.replicate (N.length - ps.length) Slot.un, p, F, ?_, ?_⟩
    · refine ⟨fh, Same.refl _, fun _ _ _ h => h, fun _ h => .inl h, rfl, pen, cel, ?_, fun i s hi => ?_, fun i j a hij h1 h2 => ?_⟩
      · unfold L2.start
        rw [List.length_append, List.length_append, List.length_map, List.length_map, List.length_replicate, List.length_replicate, r.length, hl]
      · rw [← hl] at hi
        exact r.start i s hi _ _
      · obtain ⟨⟨s, g1, g2⟩, _⟩ := h1
        rcases List.mem_append.mp (List.mem_of_getElem? g1) with hm | hm
        · obtain ⟨d, _, rfl⟩ := List.mem_map.mp hm
          cases g2
        · rw [List.eq_of_mem_replicate hm] at g2
          cases g2
    · have out : ∀ {env' : Env'} {p2 : Pn} {σ' : St} {F' H' : Hp}, Same F F' → SRel ⟨K, cls, q, ca, cells, sf⟩ ⟨F, H, p.isSome⟩ env' p2 σ' F' H' → Ext ⟨K, cls, q, ca, cells, sf⟩ F H p F' H' p2 := fun s' S' =>
        ⟨s', S'.fh, fun b o hb h => S'.h0 b o (hb.imp id fun z => by show p.isSome = false; rw [z]; rfl) h, S'.fresh, S'.pnb, S'.pen⟩
      unfold fnD at e
      rw [if_pos hl] at e
      split at e
      · rename_i env' p2 hbd
        cases e
        rw [hbd]
        exact fun σ' F' H' s' S' => hq .non F' H' (out s' S') (by simp [Rep])
      · rename_i d2 p2 hbd
        cases e
        rw [hbd]
        exact fun v env' σ' F' H' s' S' r' => hq v F' H' (out s' S') r'
      · cases e
      · cases e
end
end CS
namespace CS
open PySem L2
open PyProof.Rows (envOfC)

/-! ## targets -/
abbrev Bd := D → Env' → Res Env'
abbrev Bds := List D → Env' → Res Env'
/-- only the slots ts may be other ones, no name comes to hold an own list -/
structure Tch (ts : List Nat) (env : Env') (σ : St) (env' : Env') (σ' : St) : Prop where
  len : σ'.length = σ.length
  at_ : ∀ j, j ∉ ts → σ'[j]? = σ[j]?
  own : ∀ i a, OwnAt env' σ' i a → OwnAt env σ i a
def lG (R : RC) (ts : List Nat) (b : Bd) : TG := fun v σ H Q => ∃ B env p F d env', SRel R B env p σ F H ∧ Rep R F d v ∧ b d env = .ok env' ∧ ∀ σ', SRel R B env' p σ' F H → Tch ts env σ env' σ' → Q σ' H
def lGs (R : RC) (ts : List Nat) (b : Bds) : TGs := fun vs σ H Q => ∃ B env p F ds env', SRel R B env p σ F H ∧ Reps R F ds vs ∧ b ds env = .ok env' ∧ ∀ σ', SRel R B env' p σ' F H → Tch ts env σ env' σ' → Q σ' H
def bNm (i : Nat) : Bd := fun d env => .ok (env.set i (.pl d))
def bNil : Bds := fun ds env => match ds with
  | [] => .ok env
  | _ => .bad
def bCons (b : Bd) (bs : Bds) : Bds := fun ds env => match ds with
  | d :: r => (b d env).bind (bs r)
  | [] => .bad
def bTup (n : Nat) (bs : Bds) : Bd := fun d env => match d with
  | .tup ds => if ds.length = n then bs ds env else .bad
  | _ => .bad
section
variable {X : Cx} {R : RC} {e : Expr} {es : List Expr} {pos : Pos} {ts us : List Nat} {b : Bd} {bs : Bds}
theorem PGs.imp {t t' : TGs} (h : PGs X es t) (w : ∀ v σ H Q, t' v σ H Q → t v σ H Q) : PGs X es t' := ⟨fun pins s σ H v u Q I r q => h.run pins s σ H v u Q I r (w _ _ _ _ q)⟩
theorem dg_name {i : Nat} {x : Str} (hN : X.N.Nodup) (hi : X.N[i]? = some x) (hx : Loc X.env.scope x) (hf : X.fn x = true ∨ X.env.scope.names.lookup x = some .local := by first | exact .inl rfl | exact .inr rfl | assumption) : PG X (.Name x pos) (lG R [i] (bNm i)) :=
  PG.imp (pg_name hN hi hx hf) fun v σ H Q ⟨B, env, p, F, d, env', S, r, e, q⟩ => by
    cases e
    exact q _ (S.set r) ⟨by simp, fun j hj => by rw [List.getElem?_set_ne]; rintro rfl; exact hj (by simp), fun j a h => by
      obtain ⟨⟨s, g1, g2⟩, g3⟩ := h
      by_cases e : i = j
      · subst e
        have hl : i < env.length := by have := (List.getElem?_eq_some_iff.mp g1).1; simpa using this
        rw [List.getElem?_set_self hl] at g1
        cases g1; cases g2
      · rw [List.getElem?_set_ne e] at g1 g3
        exact ⟨⟨s, g1, g2⟩, g3⟩⟩
theorem dgs_nil : PGs X [] (lGs R [] bNil) := PGs.imp pgs_nil fun vs σ H Q ⟨B, env, p, F, ds, env', S, r, e, q⟩ => by
  cases ds with
  | nil =>
    cases e
    simp only [Reps] at r
    exact ⟨r, q σ S ⟨rfl, fun _ _ => rfl, fun _ _ h => h⟩⟩
  | cons _ _ => cases e
theorem dgs_cons (h1 : PG X e (lG R ts b)) (h2 : PGs X es (lGs R us bs)) (hs : (assignEach (e :: es) X.env).map (·.2) = assign e X.env :: (assignEach es X.env).map (·.2) := by rfl) : PGs X (e :: es) (lGs R (ts ++ us) (bCons b bs)) :=
  PGs.imp (pgs_cons h1 h2 hs) fun vs σ H Q ⟨B, env, p, F, ds, env', S, r, e, q⟩ => by
    cases ds with
    | nil => cases e
    | cons d ds =>
      simp only [Reps] at r
      obtain ⟨v, vr, rfl, r1, r2⟩ := r
      obtain ⟨env1, e1, e2⟩ := Res.bind_ok (show (b d env).bind _ = _ from e)
      refine ⟨v, vr, rfl, B, env, p, F, d, env1, S, r1, e1, fun σ1 S1 k1 => ⟨B, env1, p, F, ds, env', S1, r2, e2, fun σ2 S2 k2 => q σ2 S2 ⟨by rw [k2.1, k1.1], fun j hj => ?_, fun i a h => k1.3 i a (k2.3 i a h)⟩⟩⟩
      rw [List.mem_append, not_or] at hj
      rw [k2.2 j hj.2, k1.2 j hj.1]
theorem dg_tup {k n : Nat} (hK : X.K = R.K) (hc : X.calm = true) (h : PGs X es (lGs R ts bs)) (hn : (assignEach es X.env).length = n := by rfl) (hst : (assignEach es X.env).findIdx? (·.1) = none := by rfl) : PG X (.Tuple es k pos) (lG R ts (bTup n bs)) :=
  PG.imp (pg_tup hc h hn hst) fun v σ H Q ⟨B, env, p, F, d, env', S, r, e, q⟩ => by
    unfold bTup at e
    split at e
    · split at e
      · rename_i ds hl
        simp only [Rep] at r
        obtain ⟨a, vs, rfl, h1, r⟩ := r
        rw [hK]
        exact ⟨a, vs, rfl, Same.sqt S.fh h1, by rw [r.length]; exact hl, B, env, p, F, ds, env', S, r, e, q⟩
      · cases e
    · cases e
end
/-- target = value -/
def dAsg (m : M D) (b : Bd) : SS := dOf m fun d env p => match b d env with
  | .ok e => .nx e p
  | _ => .bad
section
variable {X : Cx} {R : RC} {e tg : Expr} {m : M D} {ts : List Nat} {b : Bd} {pos : Pos}
theorem ds_asg (he : PE X e (lE R m)) (hg : PG X tg (lG R ts b)) (hs : swapsWithSole [tg] e pos.line X.env = pure false := by rfl) (hw : swappedStores [tg] e X.env = pure none := by rfl)
    (h1 : (assignEach [tg] X.env).map (·.2) = [assign tg X.env] := by rfl) : PS X (.Assign [tg] e pos) (lS R (dAsg m b)) :=
  PS.imp (ps_asg he hg hs hw h1) fun E σ H h => of1 (te := lE R m) (fun h => h) h fun B d v env p F H S r o => by
    split at o
    · rename_i env' e
      exact ⟨B, env, p, F, d, env', S, r, e, fun σ' S' _ => o σ' F H (Same.refl _) S'⟩
    · exact o.elim
end

/-! ## what is walked -/
/-- at turn i the walk J yields the i-th of ds -/
structure Yl (R : RC) (J : It) (F : Hp) (ds : List D) : Prop where
  stop : ∀ F2 H2, Same F F2 → Same F2 H2 → J.stop ds.length H2
  item : ∀ (i : Nat) (d : D) F2 H2, Same F F2 → Same F2 H2 → ds[i]? = some d → J.go i H2 ∧ ∀ x H3, J.yld i H2 x H3 →
    (H3 = H2 ∧ Rep R F2 d x) ∨ ∃ a vs es, H2 a = none ∧ H3 = upd H2 a (.tup vs) ∧ x = .ref a ∧ d = .tup es ∧ Reps R F2 es vs
def lI (R : RC) (m : M (List D)) : TI := fun σ H Rr => ∃ B env p F, SRel R B env p σ F H ∧ ∃ ds env' p', m env p = .ok (ds, env', p') ∧ ∀ J F' H', Same F F' → SRel R B env' p' σ F' H' → Yl R J F' ds → Rr J H'
def mRow (m : M D) : M (List D) := m >>= fun d => M.res d.row
def mRange1 (m : M D) : M (List D) := m >>= fun d => M.res ((asI d).bind fun n => if n < 2 ^ 62 ∧ -(2 ^ 62) ≤ n then .ok ((List.range n.toNat).map fun (i : Nat) => D.int i) else .bad)
def mRange2 (m n : M D) : M (List D) := m >>= fun c => n >>= fun d => M.res ((asI c).bind fun a => (asI d).bind fun b => if (a < 2 ^ 62 ∧ -(2 ^ 62) ≤ a) ∧ b < 2 ^ 62 ∧ -(2 ^ 62) ≤ b then .ok ((List.range (b - a).toNat).map fun (i : Nat) => D.int (a + i)) else .bad)
def enumL (i : Nat) : List D → List D
  | [] => []
  | d :: r => .tup [.int i, d] :: enumL (i + 1) r
def mEnum (m : M D) : M (List D) := m >>= fun d => M.res (d.row.bind fun ds => .ok (enumL 0 ds))
def zipL : List D → List D → List D
  | d :: r, e :: s => .tup [d, e] :: zipL r s
  | _, _ => []
def zipR : D → D → Res (List D)
  | .lst a, .lst b => .ok (zipL a b)
  | .tup a, .tup b => .ok (zipL a b)
  | _, _ => .bad
def mZip (m n : M D) : M (List D) := m >>= fun c => n >>= fun d => M.res (zipR c d)
theorem enumL_get : ∀ (ds : List D) (k i : Nat), (enumL k ds)[i]? = (ds[i]?).map fun d => D.tup [.int ((k + i : Nat) : Int), d]
  | [], k, i => by simp [enumL]
  | d :: r, k, 0 => by simp [enumL]
  | d :: r, k, i + 1 => by
    simp only [enumL, List.getElem?_cons_succ, enumL_get r]
    rw [show k + 1 + i = k + (i + 1) by omega]
theorem enumL_length : ∀ (ds : List D) (k : Nat), (enumL k ds).length = ds.length
  | [], k => rfl
  | d :: r, k => by simp [enumL, enumL_length r]
theorem zipL_length : ∀ (a b : List D), (zipL a b).length = min a.length b.length
  | [], b => by simp [zipL]
  | d :: r, [] => by simp [zipL]
  | d :: r, e :: s => by simp [zipL, zipL_length r s]
theorem zipL_get : ∀ (a b : List D) (i : Nat) (d : D), (zipL a b)[i]? = some d → ∃ x y, a[i]? = some x ∧ b[i]? = some y ∧ d = .tup [x, y]
  | [], b, i, d, h => by simp [zipL] at h
  | x :: r, [], i, d, h => by simp [zipL] at h
  | x :: r, y :: s, 0, d, h => by simp [zipL] at h; exact ⟨x, y, rfl, rfl, h.symm⟩
  | x :: r, y :: s, i + 1, d, h => by
    simp only [zipL, List.getElem?_cons_succ] at h
    obtain ⟨x', y', h1, h2, h3⟩ := zipL_get r s i d h
    exact ⟨x', y', by simpa using h1, by simpa using h2, h3⟩
section
variable {X : Cx} {R : RC} {tg e e2 : Expr} {m n : M D} {pos p ps tpos : Pos}
/-- a list or a tuple, as it comes -/
def iSeq (K : PySem.W.Frag) (tl : TE) : TI := fun σ H Rr => tl σ H fun x H1 => ∃ a, x = .ref a ∧ (((∃ xs, SqL K H1 a xs) ∧ Rr (Itl K a) H1) ∨ ((∃ xs, SqT K H1 a xs) ∧ Rr (Itt K a) H1))
theorem pi_seq {l : Expr} {tl : TE} (hl : PE X l tl) : PI X tg l (iSeq X.K tl) := by
  refine ⟨fun pins s σ H Rr I h => ?_⟩
  refine thn (hl.run pins s σ H _ I h) fun v s1 ⟨x, H1, I1, r1, q1⟩ => ?_
  obtain ⟨a, e, q⟩ := q1
  subst e
  cases r1
  rcases q with ⟨⟨xs, hq⟩, q⟩ | ⟨⟨xs, hq⟩, q⟩
  · obtain ⟨its, rv, p, hz⟩ := I1.list hq
    refine wpAny_pyIter_list p.isList ?_
    refine ⟨s1.heap.objs.size, [s1.heap.objs.size], _, _, H1, rfl, I1.kept (t' := s1.toks) fun b o e => Heap.get?_push_of_some _ e, turn_list a _, ⟨_, Heap.get?_push_size _ rfl, rfl, rfl⟩, fun b hb => ?_, q⟩
    have e : b = s1.heap.objs.size := by simpa using hb
    subst e
    exact I1.fpOk (Nat.le_refl _) (I1.hok.fresh (Nat.le_refl _))
  · obtain ⟨its, rv, p, hz⟩ := I1.tuple hq
    refine wpAny_pyIter_tuple (show s1.heap.IsTuple a its.toArray from p) ?_
    refine ⟨s1.heap.objs.size, [s1.heap.objs.size], _, _, H1, rfl, I1.kept (t' := s1.toks) fun b o e => Heap.get?_push_of_some _ e, turn_tuple a _, ⟨_, Heap.get?_push_size _ rfl, rfl, rfl⟩, fun b hb => ?_, q⟩
    have e : b = s1.heap.objs.size := by simpa using hb
    subst e
    exact I1.fpOk (Nat.le_refl _) (I1.hok.fresh (Nat.le_refl _))
theorem Yl.lst {F : Hp} {a : Addr} {ds : List D} {vs : List V} (h : F a = some (.lst vs)) (r : Reps R F ds vs) : Yl R (Itl R.K a) F ds where
  stop := fun F2 H2 s s2 => ⟨vs, SqL.of (s2 _ _ (s _ _ h)), by rw [r.length]; exact Nat.le_refl _⟩
  item := fun i d F2 H2 s s2 hd => by
    obtain ⟨v, hv, rv⟩ := r.get hd
    refine ⟨⟨vs, v, SqL.of (s2 _ _ (s _ _ h)), hv⟩, fun x H3 ⟨e, hy⟩ => .inl ⟨e, ?_⟩⟩
    have := hy vs (SqL.of (s2 _ _ (s _ _ h)))
    rw [hv] at this; cases this
    exact rv.mono s
theorem Yl.tup {F : Hp} {a : Addr} {ds : List D} {vs : List V} (h : SqT R.K F a vs) (r : Reps R F ds vs) : Yl R (Itt R.K a) F ds where
  stop := fun F2 H2 s s2 => ⟨vs, Same.sqt (s.trans s2) h, by rw [r.length]; exact Nat.le_refl _⟩
  item := fun i d F2 H2 s s2 hd => by
    obtain ⟨v, hv, rv⟩ := r.get hd
    refine ⟨⟨vs, v, Same.sqt (s.trans s2) h, hv⟩, fun x H3 ⟨e, hy⟩ => .inl ⟨e, ?_⟩⟩
    have := hy vs (Same.sqt (s.trans s2) h)
    rw [hv] at this; cases this
    exact rv.mono s
theorem di_row (hK : X.K = R.K) (he : PE X e (lE R m)) : PI X tg e (lI R (mRow m)) := PI.imp (pi_seq he) fun σ H Rr ⟨B, env, p, F, S, ds, env', p', e, q⟩ => by
  have c : Cn R (fun F' (ds : List D) (J : It) => Yl R J F' ds) (mRow m) Rr σ B env p F H := ⟨S, ds, env', p', e, q⟩
  refine c.sq fun d v env1 p1 F1 H1 s1 r1 c1 => ?_
  obtain ⟨ds, e, q⟩ := c1.res
  have S := c1.S
  rw [hK]
  unfold D.row at e
  split at e
  · cases e
    simp only [Rep] at r1
    obtain ⟨a, vs, rfl, h, r⟩ := r1
    exact ⟨a, rfl, .inl ⟨⟨vs, SqL.of (S.fh _ _ h)⟩, q _ _ _ (Same.refl _) S (.lst h r)⟩⟩
  · cases e
    simp only [Rep] at r1
    obtain ⟨a, vs, rfl, h, r⟩ := r1
    exact ⟨a, rfl, .inr ⟨⟨vs, Same.sqt S.fh h⟩, q _ _ _ (Same.refl _) S (.tup h r)⟩⟩
  · cases e
theorem Yl.range {F : Hp} (lo : Int) (n : Nat) : Yl R (Itr lo n) F ((List.range n).map fun (i : Nat) => D.int (lo + i)) where
  stop := fun F2 H2 s s2 => by simp [Itr]
  item := fun i d F2 H2 s s2 hd => by
    rw [List.getElem?_map] at hd
    cases e : (List.range n)[i]? with
    | none => rw [e] at hd; cases hd
    | some j =>
      rw [e] at hd
      cases hd
      obtain ⟨h1, h2⟩ := List.getElem?_eq_some_iff.mp e
      rw [List.length_range] at h1
      rw [List.getElem_range] at h2
      subst h2
      exact ⟨h1, fun x H3 ⟨e1, e2⟩ => .inl ⟨e1, by rw [e2]; simp [Rep]⟩⟩
theorem di_range1 (hg : Gl X "range") (hm : X.mg "range" = none) (ha : PE X e (lE R m)) (hs : starEach [e] X.env = [(false, eval e X.env)] := by rfl) : PI X tg (.Call (.Name "range" p) [e] [] pos) (lI R (mRange1 m)) :=
  PI.imp (pi_range1 hg hm (pa_cons ha pa_nil hs) hs) fun σ H Rr ⟨B, env, p, F, S, ds, env', p', e, q⟩ => by
    have c : Cn R (fun F' (ds : List D) (J : It) => Yl R J F' ds) (mRange1 m) Rr σ B env p F H := ⟨S, ds, env', p', e, q⟩
    refine c.sq fun d v env1 p1 F1 H1 s1 r1 c1 => ?_
    obtain ⟨ds, e, q⟩ := c1.res
    obtain ⟨n, e1, e2⟩ := Res.bind_ok e
    cases asI_ok e1
    split at e2
    · rename_i hn
      cases e2
      simp only [Rep] at r1
      subst r1
      refine ⟨n, rfl, hn.2, hn.1, q _ _ _ (Same.refl _) c1.S ?_⟩
      have := Yl.range (R := R) (F := F1) 0 n.toNat
      simpa using this
    · cases e2
theorem di_range2 (hg : Gl X "range") (hm : X.mg "range" = none) (ha : PE X e (lE R m)) (hb : PE X e2 (lE R n)) (hs : starEach [e, e2] X.env = [(false, eval e X.env), (false, eval e2 X.env)] := by rfl) (hs2 : starEach [e2] X.env = [(false, eval e2 X.env)] := by rfl)
    (hs3 : starEach [e, e2] X.env = (false, eval e X.env) :: starEach [e2] X.env := by rfl) : PI X tg (.Call (.Name "range" p) [e, e2] [] pos) (lI R (mRange2 m n)) :=
  PI.imp (pi_range2 hg hm (pa_cons ha (pa_cons hb pa_nil hs2) hs3) hs hs2) fun σ H Rr ⟨B, env, p, F, S, ds, env', p', e, q⟩ => by
    have c : Cn R (fun F' (ds : List D) (J : It) => Yl R J F' ds) (mRange2 m n) Rr σ B env p F H := ⟨S, ds, env', p', e, q⟩
    refine c.sq fun d v env1 p1 F1 H1 s1 r1 c1 => c1.sq fun d2 v2 env2 p2 F2 H2 s2 r2 c2 => ?_
    obtain ⟨ds, e, q⟩ := c2.res
    obtain ⟨a, e1, e2⟩ := Res.bind_ok e
    obtain ⟨b, e3, e4⟩ := Res.bind_ok e2
    cases asI_ok e1
    cases asI_ok e3
    split at e4
    · rename_i hn
      cases e4
      simp only [Rep] at r1 r2
      subst r1 r2
      exact ⟨a, b, rfl, ⟨hn.1.2, hn.1.1, hn.2.2, hn.2.1⟩, q _ _ _ (Same.refl _) c2.S (Yl.range a (b - a).toNat)⟩
    · cases e4
theorem di_zip {elts : List Expr} {kk : Nat} (hK : X.K = R.K) (hg : Gl X "zip") (hm : X.mg "zip" = none) (ha : PE X e (lE R m)) (hb : PE X e2 (lE R n)) (hs : starEach [e, e2] X.env = (false, eval e X.env) :: starEach [e2] X.env := by rfl) (hs2 : starEach [e2] X.env = (false, eval e2 X.env) :: starEach [] X.env := by rfl)
    (hpl : (backTo pos (starEach [e2] X.env)).any (·.1) = false := by rfl) : PI X (.Tuple elts kk tpos) (.Call (.Name "zip" p) [e, e2] [] pos) (lI R (mZip m n)) :=
  PI.imp (RZ.pi_zipA hg hm (pa_cons ha (pa_cons hb pa_nil hs2) hs) hs hpl) fun σ H Rr ⟨B, env, p, F, S, ds, env', p', e, q⟩ => by
    have c : Cn R (fun F' (ds : List D) (J : It) => Yl R J F' ds) (mZip m n) Rr σ B env p F H := ⟨S, ds, env', p', e, q⟩
    refine c.sq fun d v env1 p1 F1 H1 s1 r1 c1 => c1.sq fun d2 v2 env2 p2 F2 H2 s2 r2 c2 => ?_
    obtain ⟨ds, e, q⟩ := c2.res
    have S := c2.S
    have r1 := r1.mono s2
    rw [hK]
    unfold zipR at e
    split at e
    · rename_i xs ys
      cases e
      simp only [Rep] at r1 r2
      obtain ⟨a, vs, rfl, h, r⟩ := r1
      obtain ⟨b, ws, rfl, h', r'⟩ := r2
      refine ⟨a, b, vs, ws, rfl, .inl ⟨SqL.of (S.fh _ _ h), SqL.of (S.fh _ _ h'), q _ _ _ (Same.refl _) S ⟨fun F3 H3 s s3 => ?_, fun i d F3 H3 s s3 hd => ?_⟩⟩⟩
      · refine ⟨vs, ws, SqL.of (s3 _ _ (s _ _ h)), SqL.of (s3 _ _ (s _ _ h')), ?_⟩
        rw [r.length, r'.length, zipL_length]; omega
      · obtain ⟨x, y, hx, hy, rfl⟩ := zipL_get _ _ _ _ hd
        obtain ⟨u, hu, ru⟩ := r.get hx
        obtain ⟨w, hw, rw'⟩ := r'.get hy
        refine ⟨⟨vs, ws, u, w, SqL.of (s3 _ _ (s _ _ h)), SqL.of (s3 _ _ (s _ _ h')), hu, hw⟩, fun z H4 ⟨T, x1, y1, e1, e2, e3, k1, k2⟩ => .inr ?_⟩
        have g1 := k1 vs (SqL.of (s3 _ _ (s _ _ h)))
        have g2 := k2 ws (SqL.of (s3 _ _ (s _ _ h')))
        rw [hu] at g1; cases g1
        rw [hw] at g2; cases g2
        exact ⟨T, _, _, e2, e3, e1, rfl, .cons (ru.mono s) (.one (rw'.mono s))⟩
    · rename_i xs ys
      cases e
      simp only [Rep] at r1 r2
      obtain ⟨a, vs, rfl, h, r⟩ := r1
      obtain ⟨b, ws, rfl, h', r'⟩ := r2
      refine ⟨a, b, vs, ws, rfl, .inr ⟨Same.sqt S.fh h, Same.sqt S.fh h', q _ _ _ (Same.refl _) S ⟨fun F3 H3 s s3 => ?_, fun i d F3 H3 s s3 hd => ?_⟩⟩⟩
      · refine ⟨vs, ws, Same.sqt (s.trans s3) h, Same.sqt (s.trans s3) h', ?_⟩
        rw [r.length, r'.length, zipL_length]; omega
      · obtain ⟨x, y, hx, hy, rfl⟩ := zipL_get _ _ _ _ hd
        obtain ⟨u, hu, ru⟩ := r.get hx
        obtain ⟨w, hw, rw'⟩ := r'.get hy
        refine ⟨⟨vs, ws, u, w, Same.sqt (s.trans s3) h, Same.sqt (s.trans s3) h', hu, hw⟩, fun z H4 ⟨T, x1, y1, e1, e2, e3, k1, k2⟩ => .inr ?_⟩
        have g1 := k1 vs (Same.sqt (s.trans s3) h)
        have g2 := k2 ws (Same.sqt (s.trans s3) h')
        rw [hu] at g1; cases g1
        rw [hw] at g2; cases g2
        exact ⟨T, _, _, e2, e3, e1, rfl, .cons (ru.mono s) (.one (rw'.mono s))⟩
    · cases e
end

/-! ## for -/
def dForL (b : Bd) (body : SS) : List D → SS
  | [] => dNext
  | d :: r => fun env p => match b d env with
    | .ok env1 => match body env1 p with
      | .nx e p => dForL b body r e p
      | .ct e p => dForL b body r e p
      | .bk e p => .nx e p
      | .rt d p => .rt d p
      | .exc c xs => .exc c xs
      | .bad => .bad
    | _ => .bad
def dFor (src : M (List D)) (b : Bd) (body : SS) : SS := dOf src fun ds => dForL b body ds
section
variable {X : Cx} {R : RC} {tg iter : Expr} {src : M (List D)} {ts : List Nat} {b : Bd} {body : SS} {bd : List Stmt} {pos : Pos}
theorem ds_for (hp : PassesOwn (model X.prog X.w) X.A X.env X.xe) (hc : X.calm = true) (hi : PI X tg iter (lI R src)) (hg : PG X tg (lG R ts b)) (hb : PSs X bd (lS R body)) (hs : ∀ x, foldedSetIterable iter X.env x = pure x := by intro _; rfl) : PS X (.For tg iter bd [] pos) (lS R (dFor src b body)) := by
  refine PS.imp (ps_for hp hc hi hg hb hs) fun E σ H ⟨B, env, p, F, S, o⟩ => ?_
  unfold dFor dOf at o
  split at o
  · rename_i ds env' p' e
    refine ⟨B, env, p, F, S, ds, env', p', e, fun J F1 H1 s1 S1 Y => ?_⟩
    have o1 := o.mono s1
    refine ⟨fun i m σ H => m = ds.length - i ∧ i ≤ ds.length ∧ ∃ env p F, Same F1 F ∧ SRel R B env p σ F H ∧ OutOk R B F E (dForL b body (ds.drop i) env p), ⟨ds.length, by simp, Nat.zero_le _, env', p', F1, Same.refl _, S1, o1⟩, ?_⟩
    rintro i m σ2 H2 ⟨rfl, hi, env2, p2, F2, s2, S2, o2⟩
    by_cases hlt : i < ds.length
    · have hd : ds[i]? = some ds[i] := List.getElem?_eq_getElem hlt
      obtain ⟨go, yl⟩ := Y.item i ds[i] F2 H2 s2 S2.fh hd
      refine .inr ⟨go, fun σ' H' => ∃ env p F, Same F1 F ∧ SRel R B env p σ' F H' ∧ OutOk R B F E (dForL b body (ds.drop (i + 1)) env p), fun σ' H' h => ⟨ds.length - (i + 1), by omega, rfl, hlt, h⟩, fun x H3 hy => ?_⟩
      rw [List.drop_eq_getElem_cons hlt] at o2
      unfold dForL at o2
      split at o2
      · rename_i env3 hb3
        have go2 : ∀ F3, Same F2 F3 → SRel R B env2 p2 σ2 F3 H3 → Rep R F3 ds[i] x → lG R ts b x σ2 H3 fun σ2 H2 => lS R body { E with nx := fun σ' H' => ∃ env p F, Same F1 F ∧ SRel R B env p σ' F H' ∧ OutOk R B F E (dForL b body (ds.drop (i + 1)) env p), ct := fun σ' H' => ∃ env p F, Same F1 F ∧ SRel R B env p σ' F H' ∧ OutOk R B F E (dForL b body (ds.drop (i + 1)) env p), bk := E.nx } σ2 H2 := fun F3 s3 S3 r3 => by
          refine ⟨B, env2, p2, F3, ds[i], env3, S3, r3, hb3, fun σ4 S4 _ => ⟨B, env3, p2, F3, S4, ?_⟩⟩
          have o3 := o2.mono s3
          have s13 := s2.trans s3
          cases hbody : body env3 p2 with
          | nx e p => rw [hbody] at o3; exact fun σ' F' H' s' S' => ⟨e, p, F', s13.trans s', S', OutOk.mono o3 s'⟩
          | ct e p => rw [hbody] at o3; exact fun σ' F' H' s' S' => ⟨e, p, F', s13.trans s', S', OutOk.mono o3 s'⟩
          | bk e p => rw [hbody] at o3; exact o3
          | rt d p => rw [hbody] at o3; exact o3
          | exc c xs => rw [hbody] at o3; exact o3
          | bad => rw [hbody] at o3; exact o3
        rcases yl x H3 hy with ⟨rfl, r⟩ | ⟨a, vs, es, hn, rfl, rfl, ed, r⟩
        · exact go2 F2 (Same.refl _) S2 r
        · have ex := S2.alloc (o := .tup vs) hn
          exact go2 _ ex.ff (S2.ext ex) (by rw [ed]; simp only [Rep]; exact ⟨a, vs, rfl, SqT.of upd_same, r.mono ex.ff⟩)
      · exact o2.elim
    · have e : i = ds.length := by omega
      subst e
      rw [List.drop_length] at o2
      exact .inl ⟨Y.stop F2 H2 s2 S2.fh, o2 σ2 F2 H2 (Same.refl _) S2⟩
  · exact o.elim
  · exact o.elim
end
end CS
namespace CS
open PySem L2
open PyProof.Rows (envOfC)

/-! ## list comprehensions -/
def Slot.rd : Slot → Slot
  | .ow d => .ro d
  | s => s
def wipeE (env : Env') : List Nat → Env'
  | [] => env
  | v :: vs => (wipeE env vs).set v .un
def compL (b : Bd) (t : M Bool) (e : M D) (env : Env') : List D → Pn → Res (List D × Pn)
  | [], p => .ok ([], p)
  | x :: r, p => (b x env).bind fun env1 => (t env1 p).bind fun c => if c.1 = true then (e c.2.1 c.2.2).bind fun y => (compL b t e env r y.2.2).bind fun z => .ok (y.1 :: z.1, z.2) else compL b t e env r c.2.2
def mComp (src : M (List D)) (vs : List Nat) (b : Bd) (t : M Bool) (e : M D) : M D := src >>= fun ds => fun env p => (compL b t e (wipeE (env.map Slot.rd) vs) ds p).bind fun z => if z.1.length ≤ sizeLine then .ok (.lst z.1, env, z.2) else .bad
abbrev mYes : M Bool := M.ret true

theorem wipeE_length (env : Env') : ∀ vs : List Nat, (wipeE env vs).length = env.length
  | [] => rfl
  | v :: vs => by unfold wipeE; rw [List.length_set, wipeE_length env vs]
theorem wipe_get (σ : St) (j : Nat) : ∀ vs : List Nat, (wipe σ vs)[j]? = if j ∈ vs ∧ j < σ.length then some none else σ[j]?
  | [] => by simp [wipe]
  | v :: vs => by
    unfold wipe
    by_cases h : v = j
    · subst h
      by_cases hl : v < σ.length
      · rw [List.getElem?_set_self (by rw [wipe_length]; exact hl)]
        simp [hl]
      · rw [List.getElem?_eq_none (by rw [List.length_set, wipe_length]; omega)]
        have h2 : σ[v]? = none := List.getElem?_eq_none (by omega)
        simp [hl, h2]
    · rw [List.getElem?_set_ne h, wipe_get σ j vs]
      have h' : j ≠ v := fun e => h e.symm
      simp [h']
theorem wipeE_get {env : Env'} {j : Nat} {s : Slot} : ∀ {vs : List Nat}, (wipeE env vs)[j]? = some s → (j ∈ vs ∧ s = .un) ∨ (j ∉ vs ∧ env[j]? = some s)
  | [], h => .inr ⟨by simp, h⟩
  | v :: vs, h => by
    unfold wipeE at h
    by_cases e : v = j
    · subst e
      have hl : v < (wipeE env vs).length := by have := (List.getElem?_eq_some_iff.mp h).1; simpa using this
      rw [List.getElem?_set_self hl] at h
      cases h
      exact .inl ⟨by simp, rfl⟩
    · rw [List.getElem?_set_ne e] at h
      rcases wipeE_get h with ⟨h1, h2⟩ | ⟨h1, h2⟩
      · exact .inl ⟨List.mem_cons_of_mem _ h1, h2⟩
      · exact .inr ⟨by simp only [List.mem_cons, not_or]; exact ⟨fun q => e q.symm, h1⟩, h2⟩
section
variable {R : RC} {B : Bs} {env : Env'} {p : Pn} {σ : St} {F H : Hp}
/-- within a comprehension: all that was there is only read -/
theorem SRel.inner (S : SRel R B env p σ F H) (vs : List Nat) : SRel R ⟨F, H, B.pn⟩ (wipeE (env.map Slot.rd) vs) p (wipe σ vs) F H where
  fh := S.fh
  f0 := Same.refl _
  h0 := fun _ _ _ h => h
  fresh := fun _ h => .inl h
  pnb := S.pnb
  pen := S.pen
  cel := fun h => Same.seq S.f0 (S.cel h)
  len := by rw [wipeE_length, List.length_map, wipe_length]; exact S.len
  slots := fun i s hi => by
    rcases wipeE_get hi with ⟨_, rfl⟩ | ⟨h1, h2⟩
    · trivial
    · rw [wipe_get, if_neg (fun z => h1 z.1)]
      rw [List.getElem?_map] at h2
      cases e : env[i]? with
      | none => rw [e] at h2; cases h2
      | some s' =>
        rw [e] at h2
        cases h2
        have := S.slots i s' e
        cases s' with
        | un => trivial
        | pl d => exact this
        | ow d => obtain ⟨a, g1, g2, g3, g4, g5⟩ := this; exact ⟨a, g1, g2, g4, g5⟩
        | ro d => exact this
  dis := fun i j a hij h1 h2 => by
    have red : ∀ j, OwnAt (wipeE (env.map Slot.rd) vs) (wipe σ vs) j a → OwnAt env σ j a := fun j h => by
      obtain ⟨⟨s, g1, g2⟩, g3⟩ := h
      rcases wipeE_get g1 with ⟨_, rfl⟩ | ⟨h1, h2⟩
      · cases g2
      · rw [wipe_get, if_neg (fun z => h1 z.1)] at g3
        rw [List.getElem?_map] at h2
        cases e : env[j]? with
        | none => rw [e] at h2; cases h2
        | some s' =>
          rw [e] at h2
          cases h2
          refine ⟨⟨s', e, ?_⟩, g3⟩
          cases s' <;> first | rfl | cases g2
    exact S.dis i j a hij (red i h1) (red j h2)
/-- what was done within, seen from outside -/
theorem SRel.outer (S : SRel R B env p σ F H) {envi : Env'} {pi : Pn} {σi : St} {Fi Hi : Hp} (T : SRel R ⟨F, H, B.pn⟩ envi pi σi Fi Hi) : Ext R F H p Fi Hi pi :=
  ⟨T.f0, T.fh, fun b o hb h => T.h0 b o (hb.imp id fun e => S.pnone.mpr e) h, T.fresh, by rw [T.pnb, S.pnb], T.pen⟩
end

/-- all but L is kept -/
structure ExtL (R : RC) (L : Addr) (F H : Hp) (p : Pn) (F' H' : Hp) (p' : Pn) : Prop where
  ff : Same F F'
  fh : Same F' H'
  hh : ∀ b o, b ≠ L → (b ≠ R.q ∨ p = none) → H b = some o → H' b = some o
  fresh : ∀ a, F' a ≠ none → F a ≠ none ∨ H a = none
  pnb : p'.isSome = p.isSome
  pen : PenRel R F' H' p'
section
variable {R : RC} {B : Bs} {env : Env'} {p p' p2 : Pn} {σ : St} {F H F' H' F2 H2 : Hp} {L : Addr}
theorem Ext.toL (e : Ext R F H p F' H' p') : ExtL R L F H p F' H' p' := ⟨e.ff, e.fh, fun b o _ hb h => e.hh b o hb h, e.fresh, e.pnb, e.pen⟩
theorem Own.keepH {d : D} {a : Addr} (o : Own R F H d a) (s : Same F F') (h : ∀ u, H a = some u → H' a = some u) : Own R F' H' d a := by
  refine o.keep s ?_
  cases z : H a with
  | none => exact absurd z o.there
  | some u => exact h u z
theorem SRel.extL {d : D} (S : SRel R B env p σ F H) (fr : FreshA R B env σ F H d L) (e : ExtL R L F H p F' H' p') : SRel R B env p' σ F' H' where
  fh := e.fh
  f0 := S.f0.trans e.ff
  h0 := fun b o hb h => e.hh b o (by rintro rfl; rw [fr.b] at h; cases h) (hb.imp id S.pnone.mp) (S.h0 b o hb h)
  fresh := fun a h => by
    rcases e.fresh a h with h1 | h1
    · exact S.fresh a h1
    · exact .inr (S.hq h1)
  pnb := by rw [e.pnb]; exact S.pnb
  pen := e.pen
  cel := S.cel
  len := S.len
  slots := fun i s hi => by
    have := S.slots i s hi
    have nof : ∀ a, F a = none → H a ≠ none → F' a = none := fun a h1 h2 => by
      cases z : F' a with
      | none => rfl
      | some o =>
        rcases e.fresh a (by rw [z]; simp) with h | h
        · exact absurd h1 h
        · exact absurd h h2
    cases s with
    | un => trivial
    | pl d => obtain ⟨v, h1, h2⟩ := this; exact ⟨v, h1, h2.mono e.ff⟩
    | ow d =>
      obtain ⟨a, h1, h2, h3, h4, h5⟩ := this
      have hne : a ≠ L := by rintro rfl; exact fr.no i ⟨⟨_, hi, rfl⟩, h1⟩
      exact ⟨a, h1, nof a h2 h5.there, h3, h4, h5.keepH e.ff fun u h => e.hh a u hne (h4.imp id S.pnone.mp) h⟩
    | ro d =>
      obtain ⟨a, h1, h2, h4, h5⟩ := this
      have hne : a ≠ L := by rintro rfl; exact fr.no i ⟨⟨_, hi, rfl⟩, h1⟩
      exact ⟨a, h1, nof a h2 h5.there, h4, h5.keepH e.ff fun u h => e.hh a u hne (h4.imp id S.pnone.mp) h⟩
  dis := S.dis
/-- from within (all but L kept) to outside -/
theorem SRel.outerL (S : SRel R B env p σ F H) {envi : Env'} {pi : Pn} {σi : St} {Fi Hi : Hp} (T : SRel R ⟨F, fun a => if a = L then none else H a, B.pn⟩ envi pi σi Fi Hi) (hF : Fi L = none) : ExtL R L F H p Fi Hi pi :=
  ⟨T.f0, T.fh, fun b o hL hb h => T.h0 b o (hb.imp id fun e => S.pnone.mpr e) (by show (if b = L then none else H b) = some o; rw [if_neg hL]; exact h), fun a h => by
    rcases T.fresh a h with h1 | h1
    · exact .inl h1
    · by_cases hL : a = L
      · subst hL
        exact absurd hF h
      · refine .inr ?_
        have h1 : (if a = L then none else H a) = none := h1
        rw [if_neg hL] at h1; exact h1, by rw [T.pnb, S.pnb], T.pen⟩
theorem ExtL.trans {d : D} (S : SRel R B env p σ F H) (fr : FreshA R B env σ F H d L) (a : ExtL R L F H p F' H' p') (b : ExtL R L F' H' p' F2 H2 p2) (hF : F2 L = none) : ExtL R L F H p F2 H2 p2 where
  ff := a.ff.trans b.ff
  fh := b.fh
  hh := fun c o hL hc h => b.hh c o hL (hc.imp id fun e => by
    have := a.pnb
    rw [e] at this
    exact isSome_false this) (a.hh c o hL hc h)
  fresh := fun c h => by
    rcases b.fresh c h with h1 | h1
    · exact a.fresh c h1
    · cases e : H c with
      | none => exact .inr rfl
      | some o =>
        by_cases hL : c = L
        · subst hL; exact absurd hF h
        · by_cases hc : c ≠ R.q ∨ p = none
          · rw [a.hh c o hL hc e] at h1; cases h1
          · have e1 : c = R.q := Classical.byContradiction fun z => hc (.inl z)
            have e2 : p ≠ none := fun z => hc (.inr z)
            cases p' with
            | none => exact absurd (isSome_false a.pnb.symm) e2
            | some P =>
              obtain ⟨_, z, _⟩ := a.pen
              rw [← e1, h1] at z; cases z
  pnb := b.pnb.trans a.pnb
  pen := b.pen
end
section
variable {R : RC} {src : M (List D)} {ts : List Nat} {b : Bd} {t : M Bool} {m : M D} {B : Bs} {env : Env'} {p p2 : Pn} {σ : St} {F H : Hp} {L : Addr}
/-- the slots of a block's own names are forgotten again -/
theorem Tch.wipe {vs : List Nat} (hts : ts.all (vs.contains ·) = true) {σ' : St} {e1 e2 : Env'} (k : Tch ts e1 (L2.wipe σ vs) e2 σ') : L2.wipe σ' vs = L2.wipe σ vs := by
  have hl : σ'.length = σ.length := by rw [k.1, wipe_length]
  apply List.ext_getElem?
  intro j
  rw [wipe_get, wipe_get, hl]
  by_cases hj : j ∈ vs
  · by_cases hjl : j < σ.length
    · rw [if_pos ⟨hj, hjl⟩, if_pos ⟨hj, hjl⟩]
    · rw [if_neg (fun z => hjl z.2), if_neg (fun z => hjl z.2), List.getElem?_eq_none (by omega), List.getElem?_eq_none (by omega)]
  · rw [if_neg (fun z => hj z.1), if_neg (fun z => hj z.1)]
    rw [k.2 j fun hm => hj (by simpa using List.all_eq_true.mp hts j hm), wipe_get, if_neg (fun z => hj z.1)]
/-- one item of a clause: the list at L may grow by it -/
theorem elem_step {vs : List Nat} (hts : ts.all (vs.contains ·) = true) (S : SRel R B env p σ F H) {acc : List D} {vacc : List V} (fr : FreshA R B env σ F H (.lst acc) L) (hL : H L = some (.lst vacc)) (rr : Reps R F acc vacc)
    {d : D} {x : V} {env4 env5 : Env'} {p5 : Pn} {c : Bool} (rx : Rep R F d x) (e1 : b d (wipeE (env.map Slot.rd) vs) = .ok env4) (e2 : t env4 p = .ok (c, env5, p5)) {Nx : Hp → Prop}
    (h0 : c = false → ∀ F' H', ExtL R L F H p F' H' p5 → F' L = none → H' L = some (.lst vacc) → Nx H')
    (h1 : c = true → ∃ y env7 p7, m env5 p5 = .ok (y, env7, p7) ∧ vacc.length < sizeLine ∧ ∀ v F' H', ExtL R L F H p F' H' p7 → F' L = none → H' L = some (.lst (vacc ++ [v])) → Rep R F' y v → Nx H') :
    lG R ts b x (L2.wipe σ vs) H fun σ2 H2 => L2.wipe σ2 vs = L2.wipe σ vs ∧ lT R t σ2 H2 fun c H3 =>
      if c = true then lE R m σ2 H3 fun y H4 => ∃ acc, H4 L = some (.lst acc) ∧ acc.length < sizeLine ∧ Nx (upd H4 L (.lst (acc ++ [y]))) else Nx H3 := by
  refine ⟨⟨F, H, B.pn⟩, _, p, F, d, env4, S.inner vs, rx, e1, fun σ5 S5 k5 => ⟨k5.wipe hts, ⟨F, H, B.pn⟩, env4, p, F, S5, c, env5, p5, e2, fun c' F6 H6 s6 S6 ec' => ?_⟩⟩
  cases ec'
  have noF : ∀ {Fn Hn : Hp} {pn : Pn}, Ext R F H p Fn Hn pn → Fn L = none := fun {Fn Hn pn} ex => by
    cases z : Fn L with
    | none => rfl
    | some o =>
      rcases ex.fresh L (by rw [z]; simp) with h | h
      · exact absurd fr.f h
      · rw [hL] at h; cases h
  cases c with
  | true =>
    rw [if_pos rfl]
    obtain ⟨y, env7, p7, e9, hz, k⟩ := h1 rfl
    refine ⟨_, env5, p5, F6, S6, y, env7, p7, e9, fun v F7 H7 s7 S7 r7 => ?_⟩
    have ex := S.outer S7
    have hL7 : H7 L = some (.lst vacc) := ex.hh _ _ (fr.q.imp id S.pnone.mp) hL
    have hF7 := noF ex
    refine ⟨vacc, hL7, hz, k v F7 _ ⟨ex.ff, fun b o e => ?_, fun b o hb hq h => ?_, ex.fresh, ex.pnb, ?_⟩ hF7 upd_same r7⟩
    · rw [upd_ne (ne_of_none e hF7)]; exact ex.fh _ _ e
    · rw [upd_ne hb]; exact ex.hh b o hq h
    · have := ex.pen
      cases p7 with
      | none => trivial
      | some P =>
        obtain ⟨g1, g2, g3⟩ := this
        have hq : L ≠ R.q := (S.ext ex).nq fr.q
        exact ⟨g1, by rw [upd_ne (Ne.symm hq)]; exact g2, g3⟩
  | false =>
    rw [if_neg Bool.false_ne_true]
    have ex := S.outer S6
    exact h0 rfl F6 H6 ex.toL (noF ex) (ex.hh _ _ (fr.q.imp id S.pnone.mp) hL)
theorem FreshA.next {acc acc' : List D} {vacc' : List V} {F' H' : Hp} (fr : FreshA R B env σ F H (.lst acc) L) (hF : F' L = none) (hL : H' L = some (.lst vacc')) (rr : Reps R F' acc' vacc') : FreshA R B env σ F' H' (.lst acc') L :=
  ⟨hF, fr.b, fr.q, fr.no, .inl ⟨acc', vacc', rfl, hL, rr⟩⟩
/-- one clause, from its source on -/
theorem acc_loop {vs : List Nat} (hts : ts.all (vs.contains ·) = true) {J : It} {ds zs acc0 : List D} {vacc0 : List V} (S : SRel R B env p σ F H) (Y : Yl R J F ds) (fr : FreshA R B env σ F H (.lst acc0) L) (hL : H L = some (.lst vacc0)) (rr : Reps R F acc0 vacc0)
    (ec : compL b t m (wipeE (env.map Slot.rd) vs) ds p = .ok (zs, p2)) (hz : (acc0 ++ zs).length ≤ sizeLine) {Qd : Hp → Prop}
    (hq : ∀ vacc F' H', Same F F' → SRel R B env p2 σ F' H' → FreshA R B env σ F' H' (.lst (acc0 ++ zs)) L → H' L = some (.lst vacc) → Reps R F' (acc0 ++ zs) vacc → Qd H') :
    ∃ W : Nat → Nat → Hp → Prop, (∃ m, W 0 m H) ∧ ∀ i k H, W i k H → (J.stop i H ∧ Qd H) ∨ (J.go i H ∧ ∃ Nx : Hp → Prop, (∀ H', Nx H' → ∃ k', k' < k ∧ W (i + 1) k' H') ∧ ∀ x H', J.yld i H x H' →
      lG R ts b x (L2.wipe σ vs) H' fun σ2 H2 => L2.wipe σ2 vs = L2.wipe σ vs ∧ lT R t σ2 H2 fun c H3 =>
        if c = true then lE R m σ2 H3 fun y H4 => ∃ acc, H4 L = some (.lst acc) ∧ acc.length < sizeLine ∧ Nx (upd H4 L (.lst (acc ++ [y]))) else Nx H3) := by
  refine ⟨fun i n H => n = ds.length - i ∧ i ≤ ds.length ∧ ∃ (p3 : Pn) (F3 : Hp) (acc rest : List D) (vacc : List V), Same F F3 ∧ SRel R B env p3 σ F3 H ∧ FreshA R B env σ F3 H (.lst acc) L ∧ H L = some (.lst vacc) ∧ Reps R F3 acc vacc ∧
      compL b t m (wipeE (env.map Slot.rd) vs) (ds.drop i) p3 = .ok (rest, p2) ∧ acc ++ rest = acc0 ++ zs, ⟨ds.length, by simp, Nat.zero_le _, p, F, acc0, zs, vacc0, Same.refl _, S, fr, hL, rr, ec, rfl⟩, ?_⟩
  rintro i n H3 ⟨rfl, hi, p3, F3, acc, rest, vacc, s3, S3, fr3, hL3, rr3, ec3, ez⟩
  by_cases hlt : i < ds.length
  · have hd : ds[i]? = some ds[i] := List.getElem?_eq_getElem hlt
    obtain ⟨go, yl⟩ := Y.item i ds[i] F3 H3 s3 S3.fh hd
    rw [List.drop_eq_getElem_cons hlt] at ec3
    unfold compL at ec3
    obtain ⟨env4, e5, e6⟩ := Res.bind_ok ec3
    obtain ⟨⟨c, env5, p5⟩, e7, e8⟩ := Res.bind_ok e6
    refine .inr ⟨go, fun H => ∃ (p3 : Pn) (F3 : Hp) (acc rest : List D) (vacc : List V), Same F F3 ∧ SRel R B env p3 σ F3 H ∧ FreshA R B env σ F3 H (.lst acc) L ∧ H L = some (.lst vacc) ∧ Reps R F3 acc vacc ∧
      compL b t m (wipeE (env.map Slot.rd) vs) (ds.drop (i + 1)) p3 = .ok (rest, p2) ∧ acc ++ rest = acc0 ++ zs, fun H' h => ⟨ds.length - (i + 1), by omega, rfl, hlt, h⟩, fun x H4 hy => ?_⟩
    have step : ∀ F4, Ext R F3 H3 p3 F4 H4 p3 → Rep R F4 ds[i] x → _ := fun F4 ex4 r4 => by
      have S4 := S3.ext ex4
      have hF4 : F4 L = none := by
        cases z : F4 L with
        | none => rfl
        | some o =>
          rcases ex4.fresh L (by rw [z]; simp) with h | h
          · exact absurd fr3.f h
          · rw [hL3] at h; cases h
      have hL4 : H4 L = some (.lst vacc) := ex4.hh _ _ (fr3.q.imp id S3.pnone.mp) hL3
      have rr4 := rr3.mono ex4.ff
      have fr4 := fr3.next hF4 hL4 rr4
      exact elem_step (m := m) hts S4 fr4 hL4 rr4 r4 e5 e7 (Nx := fun H => ∃ (p3 : Pn) (F3 : Hp) (acc rest : List D) (vacc : List V), Same F F3 ∧ SRel R B env p3 σ F3 H ∧ FreshA R B env σ F3 H (.lst acc) L ∧ H L = some (.lst vacc) ∧ Reps R F3 acc vacc ∧
          compL b t m (wipeE (env.map Slot.rd) vs) (ds.drop (i + 1)) p3 = .ok (rest, p2) ∧ acc ++ rest = acc0 ++ zs)
        (fun hc F' H' ex hF hLn => by
          subst hc
          rw [if_neg Bool.false_ne_true] at e8
          exact ⟨p5, F', acc, rest, vacc, (s3.trans ex4.ff).trans ex.ff, S4.extL fr4 ex, fr4.next hF hLn (rr4.mono ex.ff), hLn, rr4.mono ex.ff, e8, ez⟩)
        (fun hc => by
          subst hc
          rw [if_pos rfl] at e8
          obtain ⟨⟨y, env7, p7⟩, e9, e10⟩ := Res.bind_ok e8
          obtain ⟨⟨zs', p8⟩, e11, e12⟩ := Res.bind_ok e10
          cases e12
          refine ⟨y, env7, p7, e9, ?_, fun v F' H' ex hF hLn r7 => ?_⟩
          · rw [rr3.length]
            have : (acc ++ y :: zs').length ≤ sizeLine := by rw [ez]; exact hz
            simp only [List.length_append, List.length_cons] at this
            omega
          · have rr' := (rr4.mono ex.ff).append (.one r7)
            exact ⟨p7, F', acc ++ [y], zs', vacc ++ [v], (s3.trans ex4.ff).trans ex.ff, S4.extL fr4 ex, fr4.next hF hLn rr', hLn, rr', e11, by simpa using ez⟩)
    rcases yl x H4 hy with ⟨rfl, r⟩ | ⟨a, ws, es, hn, rfl, rfl, ed, r⟩
    · exact step F3 (Ext.refl S3) r
    · have ex := S3.alloc (o := .tup ws) hn
      exact step _ ex (by rw [ed]; simp only [Rep]; exact ⟨a, ws, rfl, SqT.of upd_same, r.mono ex.ff⟩)
  · have ei : i = ds.length := by omega
    subst ei
    rw [List.drop_length] at ec3
    cases ec3
    rw [List.append_nil] at ez
    subst ez
    exact .inl ⟨Y.stop F3 H3 s3 S3.fh, hq vacc F3 H3 s3 S3 fr3 hL3 rr3⟩
theorem comp2 {vs : List Nat} (hts : ts.all (vs.contains ·) = true) {Q : VK} (h : lF R (mComp src vs b t m) σ H Q) : tLc (lI R src) (lG R ts b) (lT R t) (lE R m) vs σ H Q := by
  obtain ⟨B, env, p, F, S, d, env', p', e, q⟩ := h
  obtain ⟨ds, env1, p1, e1, e2⟩ := bind_ok (show (src >>= _) env p = _ from e)
  obtain ⟨⟨zs, p2⟩, e3, e4⟩ := Res.bind_ok e2
  split at e4
  · rename_i hz
    cases e4
    refine ⟨B, env, p, F, S, ds, env', p1, e1, fun J F1 H1 s1 S1 Y L hD => ?_⟩
    have hz : zs.length ≤ sizeLine := hz
    obtain ⟨g1, g2⟩ := S1.newO (ds := []) (vs := []) .nil hD
    exact acc_loop hts g1 Y g2 upd_same .nil e3 (by simpa using hz) fun vacc F' H' s' S' fr' hL' rr' => q L F' H' (s1.trans s') S' fr'
  · cases e4
end

/-! ## two clauses -/
def comp2L (b : Bd) (t : M Bool) (src1 : M (List D)) (vs1 : List Nat) (b1 : Bd) (t1 : M Bool) (e : M D) (env : Env') : List D → Pn → Res (List D × Pn)
  | [], p => .ok ([], p)
  | x :: r, p => (b x env).bind fun env1 => (t env1 p).bind fun c => if c.1 = true then (src1 c.2.1 c.2.2).bind fun ds => (compL b1 t1 e (wipeE (env1.map Slot.rd) vs1) ds.1 ds.2.2).bind fun ys => (comp2L b t src1 vs1 b1 t1 e env r ys.2).bind fun z => .ok (ys.1 ++ z.1, z.2)
    else comp2L b t src1 vs1 b1 t1 e env r c.2.2
def mComp2 (src : M (List D)) (vs : List Nat) (b : Bd) (t : M Bool) (src1 : M (List D)) (vs1 : List Nat) (b1 : Bd) (t1 : M Bool) (e : M D) : M D := src >>= fun ds => fun env p => (comp2L b t src1 vs1 b1 t1 e (wipeE (env.map Slot.rd) vs) ds p).bind fun z => if z.1.length ≤ sizeLine then .ok (.lst z.1, env, z.2) else .bad
section
variable {R : RC} {src src1 : M (List D)} {ts ts1 : List Nat} {b b1 : Bd} {t t1 : M Bool} {m : M D} {B : Bs} {env : Env'} {p p2 : Pn} {σ : St} {F H : Hp} {L : Addr}
theorem comp22 {vs vs1 : List Nat} (hts : ts.all (vs.contains ·) = true) (hts1 : ts1.all (vs1.contains ·) = true) {Q : VK} (h : lF R (mComp2 src vs b t src1 vs1 b1 t1 m) σ H Q) :
    tLc2 (lI R src) (lG R ts b) (lT R t) (lI R src1) (lG R ts1 b1) (lT R t1) (lE R m) vs vs1 σ H Q := by
  obtain ⟨B, env, p, F, S, d, env', p', e, q⟩ := h
  obtain ⟨ds, env1, p1, e1, e2⟩ := bind_ok (show (src >>= _) env p = _ from e)
  obtain ⟨⟨zs, p2⟩, e3, e4⟩ := Res.bind_ok e2
  split at e4
  · rename_i hz
    cases e4
    refine ⟨B, env, p, F, S, ds, env', p1, e1, fun J F1 H1 s1 S1 Y L hD => ?_⟩
    have hz : zs.length ≤ sizeLine := hz
    obtain ⟨g1, g2⟩ := S1.newO (ds := []) (vs := []) .nil hD
    refine ⟨fun i n H => n = ds.length - i ∧ i ≤ ds.length ∧ ∃ (p3 : Pn) (F3 : Hp) (acc rest : List D) (vacc : List V), Same F1 F3 ∧ SRel R B env' p3 σ F3 H ∧ FreshA R B env' σ F3 H (.lst acc) L ∧ H L = some (.lst vacc) ∧ Reps R F3 acc vacc ∧
      comp2L b t src1 vs1 b1 t1 m (wipeE (env'.map Slot.rd) vs) (ds.drop i) p3 = .ok (rest, p2) ∧ acc ++ rest = zs, ⟨ds.length, by simp, Nat.zero_le _, p1, F1, [], zs, [], Same.refl _, g1, g2, upd_same, .nil, e3, rfl⟩, ?_⟩
    rintro i n H3 ⟨rfl, hi, p3, F3, acc, rest, vacc, s3, S3, fr3, hL3, rr3, ec3, ez⟩
    by_cases hlt : i < ds.length
    · have hd : ds[i]? = some ds[i] := List.getElem?_eq_getElem hlt
      obtain ⟨go, yl⟩ := Y.item i ds[i] F3 H3 s3 S3.fh hd
      rw [List.drop_eq_getElem_cons hlt] at ec3
      unfold comp2L at ec3
      obtain ⟨env4, e5, e6⟩ := Res.bind_ok ec3
      obtain ⟨⟨c, env5, p5⟩, e7, e8⟩ := Res.bind_ok e6
      refine .inr ⟨go, fun H => ∃ (p3 : Pn) (F3 : Hp) (acc rest : List D) (vacc : List V), Same F1 F3 ∧ SRel R B env' p3 σ F3 H ∧ FreshA R B env' σ F3 H (.lst acc) L ∧ H L = some (.lst vacc) ∧ Reps R F3 acc vacc ∧
        comp2L b t src1 vs1 b1 t1 m (wipeE (env'.map Slot.rd) vs) (ds.drop (i + 1)) p3 = .ok (rest, p2) ∧ acc ++ rest = zs, fun H' h => ⟨ds.length - (i + 1), by omega, rfl, hlt, h⟩, fun x H4 hy => ?_⟩
      have step : ∀ F4, Ext R F3 H3 p3 F4 H4 p3 → Rep R F4 ds[i] x → lG R ts b x (L2.wipe σ vs) H4 fun σ2 H2 => L2.wipe σ2 vs = L2.wipe σ vs ∧ lT R t σ2 H2 fun c H3 => if c = true then lI R src1 σ2 H3 fun J1 H4 => ∃ W1 : Nat → Nat → Hp → Prop, (∃ m, W1 0 m H4) ∧ ∀ j k H, W1 j k H →
            (J1.stop j H ∧ ∃ (p3 : Pn) (F3 : Hp) (acc rest : List D) (vacc : List V), Same F1 F3 ∧ SRel R B env' p3 σ F3 H ∧ FreshA R B env' σ F3 H (.lst acc) L ∧ H L = some (.lst vacc) ∧ Reps R F3 acc vacc ∧
              comp2L b t src1 vs1 b1 t1 m (wipeE (env'.map Slot.rd) vs) (ds.drop (i + 1)) p3 = .ok (rest, p2) ∧ acc ++ rest = zs) ∨ (J1.go j H ∧ ∃ Nx1 : Hp → Prop, (∀ H', Nx1 H' → ∃ k', k' < k ∧ W1 (j + 1) k' H') ∧ ∀ x H', J1.yld j H x H' → lG R ts1 b1 x (L2.wipe σ2 vs1) H' fun σ3 H5 => L2.wipe σ3 vs1 = L2.wipe σ2 vs1 ∧ lT R t1 σ3 H5 fun b H6 =>
              if b = true then lE R m σ3 H6 fun y H7 => ∃ acc, H7 L = some (.lst acc) ∧ acc.length < sizeLine ∧ Nx1 (upd H7 L (.lst (acc ++ [y]))) else Nx1 H6)
          else ∃ (p3 : Pn) (F3 : Hp) (acc rest : List D) (vacc : List V), Same F1 F3 ∧ SRel R B env' p3 σ F3 H3 ∧ FreshA R B env' σ F3 H3 (.lst acc) L ∧ H3 L = some (.lst vacc) ∧ Reps R F3 acc vacc ∧
              comp2L b t src1 vs1 b1 t1 m (wipeE (env'.map Slot.rd) vs) (ds.drop (i + 1)) p3 = .ok (rest, p2) ∧ acc ++ rest = zs := fun F4 ex4 r4 => by
        have S4 := S3.ext ex4
        have noF : ∀ {Fn Hn : Hp} {pn : Pn}, Ext R F3 H3 p3 Fn Hn pn → Fn L = none := fun {Fn Hn pn} ex => by
          cases z : Fn L with
          | none => rfl
          | some o =>
            rcases ex.fresh L (by rw [z]; simp) with h | h
            · exact absurd fr3.f h
            · rw [hL3] at h; cases h
        have hL4 : H4 L = some (.lst vacc) := ex4.hh _ _ (fr3.q.imp id S3.pnone.mp) hL3
        refine ⟨⟨F4, H4, B.pn⟩, _, p3, F4, ds[i], env4, S4.inner vs, r4, e5, fun σ5 S5 k5 => ⟨k5.wipe hts, ⟨F4, H4, B.pn⟩, env4, p3, F4, S5, c, env5, p5, e7, fun c' F6 H6 s6 S6 ec' => ?_⟩⟩
        cases ec'
        have ex6 := ex4.trans S3 (S4.outer S6)
        have S6o := S3.ext ex6
        have hF6 := noF ex6
        have hL6 : H6 L = some (.lst vacc) := ex6.hh _ _ (fr3.q.imp id S3.pnone.mp) hL3
        have rr6 := rr3.mono ex6.ff
        have fr6 := fr3.next hF6 hL6 rr6
        cases c with
        | false =>
          rw [if_neg Bool.false_ne_true] at e8 ⊢
          exact ⟨p5, F6, acc, rest, vacc, s3.trans ex6.ff, S6o, fr6, hL6, rr6, e8, ez⟩
        | true =>
          rw [if_pos rfl] at e8 ⊢
          obtain ⟨⟨ds1, env7, p7⟩, e9, e10⟩ := Res.bind_ok e8
          obtain ⟨⟨ys, p8⟩, e11, e12⟩ := Res.bind_ok e10
          obtain ⟨⟨zs', p9⟩, e13, e14⟩ := Res.bind_ok e12
          cases e14
          refine ⟨_, env5, p5, F6, S6, ds1, env7, p7, e9, fun J1 F7 H7 s7 S7 Y1 => ?_⟩
          have ex7 := ex4.trans S3 (S4.outer S7)
          have S7o := S3.ext ex7
          have hF7 := noF ex7
          have hL7 : H7 L = some (.lst vacc) := ex7.hh _ _ (fr3.q.imp id S3.pnone.mp) hL3
          have rr7 := rr3.mono ex7.ff
          have fr7 := fr3.next hF7 hL7 rr7
          -- the inner clause's own base: all but L is kept
          have S5' := S5.ext (S4.outer S7 |> fun e => (⟨e.ff, e.fh, e.hh, e.fresh, e.pnb, e.pen⟩ : Ext R F4 H4 p3 F7 H7 p7))
          have T : SRel R ⟨F7, fun a => if a = L then none else H7 a, B.pn⟩ env4 p7 σ5 F7 H7 := by
            refine ⟨S7.fh, Same.refl _, fun b o hb h => ?_, fun a h => .inl h, S7o.pnb, S7.pen, fun h => Same.seq S7o.f0 (S7o.cel h), S5'.len, fun i s hi => ?_, S5'.dis⟩
            · have h : (if b = L then none else H7 b) = some o := h
              by_cases hbL : b = L
              · rw [if_pos hbL] at h; cases h
              · rw [if_neg hbL] at h; exact h
            · have h5 := S5.slots i s hi
              have h7 := S5'.slots i s hi
              cases s with
              | un => trivial
              | pl d => exact h7
              | ow d =>
                obtain ⟨a, k1, k2, k3, k4, k5⟩ := h5
                exact absurd k3 k5.there
              | ro d => exact h7
          have noL : ∀ i, ¬ OwnAt env4 σ5 i L := fun i h => by
            have h1 := k5.own i L h
            obtain ⟨⟨s, g1, g2⟩, g3⟩ := h1
            rcases wipeE_get g1 with ⟨_, rfl⟩ | ⟨hm, h2⟩
            · cases g2
            · rw [wipe_get, if_neg (fun z => hm z.1)] at g3
              rw [List.getElem?_map] at h2
              cases e : env'[i]? with
              | none => rw [e] at h2; cases h2
              | some s' =>
                rw [e] at h2
                cases h2
                refine fr3.no i ⟨⟨s', e, ?_⟩, g3⟩
                cases s' <;> first | rfl | cases g2
          have frT : FreshA R ⟨F7, fun a => if a = L then none else H7 a, B.pn⟩ env4 σ5 F7 H7 (.lst acc) L :=
            ⟨hF7, if_pos rfl, fr3.q, noL, .inl ⟨acc, vacc, rfl, hL7, rr7⟩⟩
          have hzz : (acc ++ ys).length ≤ sizeLine := by
            have : (acc ++ (ys ++ zs')).length ≤ sizeLine := by rw [ez]; exact hz
            simp only [List.length_append] at this ⊢
            omega
          refine acc_loop hts1 T Y1 frT hL7 rr7 e11 hzz fun vacc' F' H' s' S' fr' hL' rr' => ?_
          have exL := S7o.outerL S' fr'.f
          have S8 := S7o.extL fr7 exL
          exact ⟨p8, F', acc ++ ys, zs', vacc', (s3.trans ex7.ff).trans s', S8, fr7.next fr'.f hL' rr', hL', rr', e13, by rw [List.append_assoc]; exact ez⟩
      rcases yl x H4 hy with ⟨rfl, r⟩ | ⟨a, ws, es, hn, rfl, rfl, ed, r⟩
      · exact step F3 (Ext.refl S3) r
      · have ex := S3.alloc (o := .tup ws) hn
        exact step _ ex (by rw [ed]; simp only [Rep]; exact ⟨a, ws, rfl, SqT.of upd_same, r.mono ex.ff⟩)
    · have ei : i = ds.length := by omega
      subst ei
      rw [List.drop_length] at ec3
      cases ec3
      rw [List.append_nil] at ez
      subst ez
      exact .inl ⟨Y.stop F3 H3 s3 S3.fh, q L F3 H3 (s1.trans s3) S3 fr3⟩
  · cases e4
end
end CS
namespace CS
open PySem L2
open PyProof.Rows (envOfC)

/-! ## comprehensions as rules -/
section
variable {X : Cx} {R : RC} {elt tg iter tg1 iter1 : Expr} {ifs ifs1 : List Expr} {scope : Scope} {own : List (Str × Nat)} {src src1 : M (List D)} {ts ts1 vs1 : List Nat} {b b1 : Bd} {t t1 : M Bool} {m : M D} {pos spos py : Pos}
theorem PTs.imp {t t' : TT} (h : PTs X ifs t) (w : ∀ σ H Q, t' σ H Q → t σ H Q) : PTs X ifs t' := ⟨fun pins s σ H Q I q => h.run pins s σ H Q I (w _ _ _ q)⟩
theorem dts_nil : PTs X [] (lT R mYes) := PTs.imp pts_nil fun σ H Q ⟨B, env, p, F, c⟩ => c.ret _ F H (Same.refl _) c.S rfl
theorem dts_one {c : Expr} (h : PT X c (lT R t)) : PTs X [c] (lT R t) := pts_one h
theorem df_lc (hc : X.calm = true) (hN : X.N.Nodup) (hi : PI X tg iter (lI R src)) (ok : BlkOk X.N X.env.scope scope own) (hts : ts.all ((own.map (·.2)).contains ·) = true)
    (hg : ∀ (s : Shared) (H : Hp) (C : Addr) (cl : List (Str × Addr)) (fp : List Addr), PG (X.blk s H scope (compEnvC scope cl C X.env) fp) tg (lG R ts b)) (ht : ∀ (s : Shared) (H : Hp) (C : Addr) (cl : List (Str × Addr)) (fp : List Addr), PTs (X.blk s H scope (compEnvC scope cl C X.env) fp) ifs (lT R t))
    (he : ∀ (s : Shared) (H : Hp) (C : Addr) (cl : List (Str × Addr)) (fp : List Addr), PE (X.blk s H scope (compEnvC scope cl C X.env) fp) elt (lE R m)) (hs : ∀ x, foldedSetIterable iter X.env x = pure x := by intro _; rfl) :
    PE X (.ListComp elt [⟨tg, iter, ifs, 0⟩] scope pos) (lF R (mComp src (own.map (·.2)) b t m)) :=
  PE.imp (pe_lc hc hN hi ok hg ht he hs) fun _ _ _ h => comp2 hts h
theorem df_lc2 (hc : X.calm = true) (hN : X.N.Nodup) (hi : PI X tg iter (lI R src)) (ok : BlkOk X.N X.env.scope scope own) (hts : ts.all ((own.map (·.2)).contains ·) = true) (hts1 : ts1.all (vs1.contains ·) = true) (hv : ∀ i ∈ vs1, i ∈ own.map (·.2))
    (hg : ∀ (s : Shared) (H : Hp) (C : Addr) (cl : List (Str × Addr)) (fp : List Addr), PG (X.blk s H scope (compEnvC scope cl C X.env) fp) tg (lG R ts b)) (ht : ∀ (s : Shared) (H : Hp) (C : Addr) (cl : List (Str × Addr)) (fp : List Addr), PTs (X.blk s H scope (compEnvC scope cl C X.env) fp) ifs (lT R t))
    (hi1 : ∀ (s : Shared) (H : Hp) (C : Addr) (cl : List (Str × Addr)) (fp : List Addr), PI (X.blk s H scope (compEnvC scope cl C X.env) fp) tg1 iter1 (lI R src1))
    (hg1 : ∀ (s : Shared) (H : Hp) (C : Addr) (cl : List (Str × Addr)) (fp : List Addr), PG (X.blk s H scope (compEnvC scope cl C X.env) fp) tg1 (lG R ts1 b1)) (ht1 : ∀ (s : Shared) (H : Hp) (C : Addr) (cl : List (Str × Addr)) (fp : List Addr), PTs (X.blk s H scope (compEnvC scope cl C X.env) fp) ifs1 (lT R t1))
    (he : ∀ (s : Shared) (H : Hp) (C : Addr) (cl : List (Str × Addr)) (fp : List Addr), PE (X.blk s H scope (compEnvC scope cl C X.env) fp) elt (lE R m)) (hs : ∀ x, foldedSetIterable iter X.env x = pure x := by intro _; rfl) (hs1 : ∀ env x, foldedSetIterable iter1 env x = pure x := by intro _ _; rfl) :
    PE X (.ListComp elt [⟨tg, iter, ifs, 0⟩, ⟨tg1, iter1, ifs1, 0⟩] scope pos) (lF R (mComp2 src (own.map (·.2)) b t src1 vs1 b1 t1 m)) :=
  PE.imp (pe_lc2 hc hN hi ok hv hg ht hi1 hg1 ht1 he hs hs1) fun _ _ _ h => comp22 hts hts1 h
theorem asgF {i : Nat} {te : TE} (w : ∀ {σ H Q}, lF R m σ H Q → te σ H Q) {E : Ends} {σ : St} {H : Hp} (h : lS R (dSet i m) E σ H) : tAsg te (gName i) E σ H :=
  w (ofF h fun B d a env p F H S fr o => by
    obtain ⟨u, hu, r⟩ := fr.own.repF fr.f
    exact o _ _ H (same_upd fr.f) ((S.freeze hu fr.f fr.b fr.q fr.no).set r))
theorem asgO {i : Nat} {te : TE} (w : ∀ {σ H Q}, lF R m σ H Q → te σ H Q) {E : Ends} {σ : St} {H : Hp} (h : lS R (dSetO i m) E σ H) : tAsg te (gName i) E σ H :=
  w (ofF h fun B d a env p F H S fr o => o _ F H (Same.refl _) (S.setO fr))
theorem ds_setLc {i : Nat} {y : Str} (hc : X.calm = true) (hN : X.N.Nodup) (hy : X.N[i]? = some y) (hyl : X.env.scope.names.lookup y = some .local)
    (hsw : swapsWith (.ListComp elt [⟨tg, iter, ifs, 0⟩] scope pos) (some (.Name y py)) spos.line X.env = pure true) (hi : PI X tg iter (lI R src)) (ok : BlkOk X.N X.env.scope scope own) (hts : ts.all ((own.map (·.2)).contains ·) = true)
    (hg : ∀ (s : Shared) (H : Hp) (C : Addr) (cl : List (Str × Addr)) (fp : List Addr), PG (X.blk s H scope (compEnvC scope cl C X.env) fp) tg (lG R ts b)) (ht : ∀ (s : Shared) (H : Hp) (C : Addr) (cl : List (Str × Addr)) (fp : List Addr), PTs (X.blk s H scope (compEnvC scope cl C X.env) fp) ifs (lT R t))
    (he : ∀ (s : Shared) (H : Hp) (C : Addr) (cl : List (Str × Addr)) (fp : List Addr), PE (X.blk s H scope (compEnvC scope cl C X.env) fp) elt (lE R m)) (hs : ∀ x, foldedSetIterable iter X.env x = pure x := by intro _; rfl) :
    PS X (.Assign [.Name y py] (.ListComp elt [⟨tg, iter, ifs, 0⟩] scope pos) spos) (lS R (dSet i (mComp src (own.map (·.2)) b t m))) :=
  PS.imp (ps_setLc hc hN hy hyl hsw hi ok hg ht he hs) fun _ _ _ h => asgF (fun h => comp2 hts h) h
theorem ds_setLcO {i : Nat} {y : Str} (hc : X.calm = true) (hN : X.N.Nodup) (hy : X.N[i]? = some y) (hyl : X.env.scope.names.lookup y = some .local)
    (hsw : swapsWith (.ListComp elt [⟨tg, iter, ifs, 0⟩] scope pos) (some (.Name y py)) spos.line X.env = pure true) (hi : PI X tg iter (lI R src)) (ok : BlkOk X.N X.env.scope scope own) (hts : ts.all ((own.map (·.2)).contains ·) = true)
    (hg : ∀ (s : Shared) (H : Hp) (C : Addr) (cl : List (Str × Addr)) (fp : List Addr), PG (X.blk s H scope (compEnvC scope cl C X.env) fp) tg (lG R ts b)) (ht : ∀ (s : Shared) (H : Hp) (C : Addr) (cl : List (Str × Addr)) (fp : List Addr), PTs (X.blk s H scope (compEnvC scope cl C X.env) fp) ifs (lT R t))
    (he : ∀ (s : Shared) (H : Hp) (C : Addr) (cl : List (Str × Addr)) (fp : List Addr), PE (X.blk s H scope (compEnvC scope cl C X.env) fp) elt (lE R m)) (hs : ∀ x, foldedSetIterable iter X.env x = pure x := by intro _; rfl) :
    PS X (.Assign [.Name y py] (.ListComp elt [⟨tg, iter, ifs, 0⟩] scope pos) spos) (lS R (dSetO i (mComp src (own.map (·.2)) b t m))) :=
  PS.imp (ps_setLc hc hN hy hyl hsw hi ok hg ht he hs) fun _ _ _ h => asgO (fun h => comp2 hts h) h
theorem ds_setLc2 {i : Nat} {y : Str} (hc : X.calm = true) (hN : X.N.Nodup) (hy : X.N[i]? = some y) (hyl : X.env.scope.names.lookup y = some .local)
    (hsw : swapsWith (.ListComp elt [⟨tg, iter, ifs, 0⟩, ⟨tg1, iter1, ifs1, 0⟩] scope pos) (some (.Name y py)) spos.line X.env = pure true) (hi : PI X tg iter (lI R src)) (ok : BlkOk X.N X.env.scope scope own) (hts : ts.all ((own.map (·.2)).contains ·) = true) (hts1 : ts1.all (vs1.contains ·) = true) (hv : ∀ i ∈ vs1, i ∈ own.map (·.2))
    (hg : ∀ (s : Shared) (H : Hp) (C : Addr) (cl : List (Str × Addr)) (fp : List Addr), PG (X.blk s H scope (compEnvC scope cl C X.env) fp) tg (lG R ts b)) (ht : ∀ (s : Shared) (H : Hp) (C : Addr) (cl : List (Str × Addr)) (fp : List Addr), PTs (X.blk s H scope (compEnvC scope cl C X.env) fp) ifs (lT R t))
    (hi1 : ∀ (s : Shared) (H : Hp) (C : Addr) (cl : List (Str × Addr)) (fp : List Addr), PI (X.blk s H scope (compEnvC scope cl C X.env) fp) tg1 iter1 (lI R src1))
    (hg1 : ∀ (s : Shared) (H : Hp) (C : Addr) (cl : List (Str × Addr)) (fp : List Addr), PG (X.blk s H scope (compEnvC scope cl C X.env) fp) tg1 (lG R ts1 b1)) (ht1 : ∀ (s : Shared) (H : Hp) (C : Addr) (cl : List (Str × Addr)) (fp : List Addr), PTs (X.blk s H scope (compEnvC scope cl C X.env) fp) ifs1 (lT R t1))
    (he : ∀ (s : Shared) (H : Hp) (C : Addr) (cl : List (Str × Addr)) (fp : List Addr), PE (X.blk s H scope (compEnvC scope cl C X.env) fp) elt (lE R m)) (hs : ∀ x, foldedSetIterable iter X.env x = pure x := by intro _; rfl) (hs1 : ∀ env x, foldedSetIterable iter1 env x = pure x := by intro _ _; rfl) :
    PS X (.Assign [.Name y py] (.ListComp elt [⟨tg, iter, ifs, 0⟩, ⟨tg1, iter1, ifs1, 0⟩] scope pos) spos) (lS R (dSet i (mComp2 src (own.map (·.2)) b t src1 vs1 b1 t1 m))) :=
  PS.imp (ps_setLc2 hc hN hy hyl hsw hi ok hv hg ht hi1 hg1 ht1 he hs hs1) fun _ _ _ h => asgF (fun h => comp22 hts hts1 h) h
/-- a list display that stays free to change -/
theorem df_lst {es : List Expr} {ms : M (List D)} (h : PA X es (lA R ms)) : PE X (.List es pos) (lF R (mLst ms)) :=
  PE.imp (pe_lst h) fun σ H Q ⟨B, env, p, F, S, d, env', p', e, q⟩ => by
    obtain ⟨ds, env1, p1, e1, e2⟩ := bind_ok (show (ms >>= _) env p = _ from e)
    obtain ⟨z, e3, e4⟩ := Res.bind_ok (show (mkL ds).bind _ = _ from e2)
    cases e4
    obtain ⟨rfl, hz⟩ := mkL_ok e3
    refine ⟨B, env, p, F, S, ds, env', p', e1, fun vs F' H' s S' r => ⟨by rw [r.length]; exact hz, fun a hn => ?_⟩⟩
    obtain ⟨g1, g2⟩ := S'.newO r hn
    exact q a F' _ s g1 g2
end

/-! ## own lists: read and changed -/
def getO (env : Env') (i : Nat) : Res (List D) := match env[i]? with
  | some (.ow (.lst ds)) => .ok ds
  | some (.ro (.lst ds)) => .ok ds
  | _ => .bad
def getW (env : Env') (i : Nat) : Res (List D) := match env[i]? with
  | some (.ow (.lst ds)) => .ok ds
  | _ => .bad
/-- the name holds an own list -/
def mChk (i : Nat) : M Unit := fun env p => (getO env i).bind fun _ => .ok ((), env, p)
def mGetO (i : Nat) : M (List D) := fun env p => (getO env i).bind fun ds => .ok (ds, env, p)
def mGetW (i : Nat) : M (List D) := fun env p => (getW env i).bind fun ds => .ok (ds, env, p)
def mPut (i : Nat) (ds : List D) : M Unit := fun env p => .ok ((), env.set i (.ow (.lst ds)), p)
/-- x[k], x an own list -/
def mIxO (i : Nat) (m : M D) : M D := mChk i >>= fun _ => m >>= fun k => mGetO i >>= fun ds => M.res (ixD (.lst ds) k)
/-- x.pop(), x.pop(k) -/
def lastD (ds : List D) : Res D := match ds[ds.length - 1]? with
  | some d => .ok d
  | none => .bad
def mPop (i : Nat) : M D := mGetW i >>= fun ds => M.res (lastD ds) >>= fun d => mPut i ds.dropLast >>= fun _ => M.ret d
def atD (ds : List D) (k : D) : Res (D × Nat) := (asI k).bind fun k => if 0 ≤ k ∧ k < 2 ^ 63 then (match ds[k.toNat]? with
  | some d => .ok (d, k.toNat)
  | none => .bad) else .bad
def mPopAt (i : Nat) (m : M D) : M D := mChk i >>= fun _ => m >>= fun k => mGetW i >>= fun ds => M.res (atD ds k) >>= fun r => mPut i (ds.eraseIdx r.2) >>= fun _ => M.ret r.1
/-- x.append(e) -/
def mAppend (i : Nat) (m : M D) : M D := mChk i >>= fun _ => m >>= fun d => mGetW i >>= fun ds => M.res (if ds.length < sizeLine then .ok () else .bad) >>= fun _ => mPut i (ds ++ [d]) >>= fun _ => M.ret .non
/-- x[k] = e -/
def putAt (ds : List D) (k d : D) : Res (List D) := (asI k).bind fun j => match ixN ds.length j with
    | some n => .ok (ds.set n d)
    | none => .bad
def dSetItem (i : Nat) (m k : M D) : SS := dOf (m >>= fun d => mChk i >>= fun _ => k >>= fun j => mGetW i >>= fun ds => M.res (putAt ds j d) >>= fun ds' => mPut i ds') fun _ => dNext
section
variable {X : Cx} {R : RC} {B : Bs} {env : Env'} {p : Pn} {σ : St} {F H : Hp}
theorem getO_ok {i : Nat} {ds : List D} (h : getO env i = .ok ds) (S : SRel R B env p σ F H) : ∃ a vs, σ[i]? = some (some (.ref a)) ∧ H a = some (.lst vs) ∧ Reps R F ds vs := by
  unfold getO at h
  split at h
  · rename_i e
    cases h
    obtain ⟨a, h1, _, _, _, o⟩ := S.slots i _ e
    rcases o with ⟨ds', vs, e, h2, r⟩ | ⟨_, _, _, _, _, _, e, _⟩
    · cases e; exact ⟨a, vs, h1, h2, r⟩
    · cases e
  · rename_i e
    cases h
    obtain ⟨a, h1, _, _, o⟩ := S.slots i _ e
    rcases o with ⟨ds', vs, e, h2, r⟩ | ⟨_, _, _, _, _, _, e, _⟩
    · cases e; exact ⟨a, vs, h1, h2, r⟩
    · cases e
  · cases h
theorem getW_ok {i : Nat} {ds : List D} (h : getW env i = .ok ds) (S : SRel R B env p σ F H) : env[i]? = some (.ow (.lst ds)) ∧ ∃ a vs, σ[i]? = some (some (.ref a)) ∧ H a = some (.lst vs) ∧ Reps R F ds vs := by
  unfold getW at h
  split at h
  · rename_i e
    cases h
    obtain ⟨a, h1, _, _, _, o⟩ := S.slots i _ e
    rcases o with ⟨ds', vs, e', h2, r⟩ | ⟨_, _, _, _, _, _, e, _⟩
    · cases e'; exact ⟨e, a, vs, h1, h2, r⟩
    · cases e
  · cases h
end

section
variable {R : RC} {B : Bs} {env : Env'} {p : Pn} {σ : St} {F H : Hp} {γ δ : Type} {Rl2 : Hp → γ → δ → Prop} {Q : δ → Hp → Prop} {i : Nat}
theorem Cn.chk {k : Unit → M γ} (c : Cn R Rl2 (mChk i >>= k) Q σ B env p F H) : (∃ a, σ[i]? = some (some (.ref a)) ∧ (∃ vs, H a = some (.lst vs))) ∧ Cn R Rl2 (k ()) Q σ B env p F H := by
  obtain ⟨S, z, env', p', e, q⟩ := c
  obtain ⟨u, env1, p1, e1, e2⟩ := bind_ok e
  obtain ⟨ds, e3, e4⟩ := Res.bind_ok (show (getO env i).bind _ = _ from e1)
  cases e4
  obtain ⟨a, vs, h1, h2, _⟩ := getO_ok e3 S
  exact ⟨⟨a, h1, vs, h2⟩, S, z, env', p', e2, q⟩
theorem Cn.getO {k : List D → M γ} (c : Cn R Rl2 (mGetO i >>= k) Q σ B env p F H) : ∃ ds a vs, σ[i]? = some (some (.ref a)) ∧ H a = some (.lst vs) ∧ Reps R F ds vs ∧ Cn R Rl2 (k ds) Q σ B env p F H := by
  obtain ⟨S, z, env', p', e, q⟩ := c
  obtain ⟨ds, env1, p1, e1, e2⟩ := bind_ok e
  obtain ⟨ds', e3, e4⟩ := Res.bind_ok (show (CS.getO env i).bind _ = _ from e1)
  cases e4
  obtain ⟨a, vs, h1, h2, h3⟩ := getO_ok e3 S
  exact ⟨ds, a, vs, h1, h2, h3, S, z, env', p', e2, q⟩
theorem Cn.getW {k : List D → M γ} (c : Cn R Rl2 (mGetW i >>= k) Q σ B env p F H) : ∃ ds a vs, env[i]? = some (.ow (.lst ds)) ∧ σ[i]? = some (some (.ref a)) ∧ H a = some (.lst vs) ∧ Reps R F ds vs ∧ Cn R Rl2 (k ds) Q σ B env p F H := by
  obtain ⟨S, z, env', p', e, q⟩ := c
  obtain ⟨ds, env1, p1, e1, e2⟩ := bind_ok e
  obtain ⟨ds', e3, e4⟩ := Res.bind_ok (show (CS.getW env i).bind _ = _ from e1)
  cases e4
  obtain ⟨h0, a, vs, h1, h2, h3⟩ := getW_ok e3 S
  exact ⟨ds, a, vs, h0, h1, h2, h3, S, z, env', p', e2, q⟩
theorem Cn.rs {α : Type} {r : Res α} {k : α → M γ} (c : Cn R Rl2 (M.res r >>= k) Q σ B env p F H) : ∃ a, r = .ok a ∧ Cn R Rl2 (k a) Q σ B env p F H := by
  obtain ⟨S, z, env', p', e, q⟩ := c
  obtain ⟨a, env1, p1, e1, e2⟩ := bind_ok e
  obtain ⟨a', e3, e4⟩ := Res.bind_ok (show r.bind _ = _ from e1)
  cases e4
  exact ⟨a, e3, S, z, env', p', e2, q⟩
theorem Cn.put {ds ds0 : List D} {a : Addr} {vs : List V} {k : Unit → M γ} (c : Cn R Rl2 (mPut i ds >>= k) Q σ B env p F H) (hi : env[i]? = some (.ow (.lst ds0))) (ha : σ[i]? = some (some (.ref a))) (r : Reps R F ds vs) :
    Cn R Rl2 (k ()) Q σ B (env.set i (.ow (.lst ds))) p F (upd H a (.lst vs)) := by
  obtain ⟨S, z, env', p', e, q⟩ := c
  obtain ⟨u, env1, p1, e1, e2⟩ := bind_ok e
  cases e1
  exact ⟨S.mut hi ha (.inl ⟨ds, vs, rfl, upd_same, r⟩), z, env', p', e2, q⟩
end
section
variable {X : Cx} {R : RC} {i : Nat} {x : Str} {e e2 : Expr} {m k : M D} {pos px apos tpos : Pos}
theorem de_ixO (hv : PE X (.Name x px) (tVar i)) (he : PE X e (lE R m)) (hs : PlainIx e) : PE X (.Subscript (.Name x px) e pos) (lE R (mIxO i m)) :=
  PE.imp (pe_ix ix_list hv he hs) fun σ H Q ⟨B, env, p, F, c⟩ => by
    obtain ⟨⟨a, ha, _⟩, c1⟩ := c.chk
    refine ⟨.ref a, ha, c1.sq fun d v env1 p1 F1 H1 s1 r1 c2 => ?_⟩
    obtain ⟨ds, a', vs, ha', hH, r, c3⟩ := c2.getO
    rw [ha] at ha'; cases ha'
    obtain ⟨z, e, q⟩ := c3.res
    unfold ixD at e
    split at e
    · rename_i j
      obtain ⟨ds', g1, g2⟩ := Res.bind_ok e
      cases g1
      split at g2
      · rename_i d' hd
        cases g2
        obtain ⟨u, hu, ru⟩ := r.at hd
        simp only [Rep] at r1
        exact ⟨a, vs, j, u, rfl, r1, SqL.of hH, hu, q u F1 H1 (Same.refl _) c3.S ru⟩
      · cases g2
    · cases e
theorem de_pop (hv : PE X (.Name x px) (tVar i)) (hbase : attributeBase (.Name x px) "pop" X.env (eval (.Name x px) X.env) = eval (.Name x px) X.env := by rfl) (hline : (apos.endLine == pos.line) = true := by rfl) : PE X (.Call (.Attribute (.Name x px) "pop" apos) [] [] pos) (lE R (mPop i)) :=
  PE.imp (pe_bm0 PySem.F.plainAttrs_list PySem.F.slot_list_pop PySem.F.type_list_pop mt_pop hv hbase hline) fun σ H Q ⟨B, env, p, F, c⟩ => by
    obtain ⟨ds, a, vs, hi, ha, hH, r, c1⟩ := c.getW
    obtain ⟨d, e, c2⟩ := c1.rs
    unfold lastD at e
    split at e
    · rename_i d' hd
      cases e
      obtain ⟨v, hv', rv⟩ := r.get hd
      refine ⟨.ref a, ha, .inl ⟨rfl, vs, SqL.of hH⟩, a, vs, v, rfl, rfl, hH, by rw [r.length]; exact hv', ?_⟩
      have r' : Reps R F ds.dropLast vs.dropLast := by
        rw [List.dropLast_eq_take, List.dropLast_eq_take, r.length]
        exact r.take _
      exact (c2.put hi ha r').ret v F _ (Same.refl _) (c2.put hi ha r').S rv
    · cases e
theorem de_popAt (hv : PE X (.Name x px) (tVar i)) (he : PE X e (lE R m)) (hbase : attributeBase (.Name x px) "pop" X.env (eval (.Name x px) X.env) = eval (.Name x px) X.env := by rfl)
    (hfew : ((backTo pos (starEach [e] X.env)).all (fun x => !x.1) && (backToKw pos (keywordEach [] X.env)).all (fun x => x.1.isSome) && decide (([e] : List Expr).length + ([] : List Keyword).length + (if ([] : List Keyword).isEmpty then 0 else 1) < 30)) = true := by rfl)
    (hline : (apos.endLine == pos.line) = true := by rfl) (hs : starEach [e] X.env = (false, eval e X.env) :: starEach [] X.env := by rfl) (hplain : (backTo pos (starEach [] X.env)).any (·.1) = false := by rfl) : PE X (.Call (.Attribute (.Name x px) "pop" apos) [e] [] pos) (lE R (mPopAt i m)) :=
  PE.imp (pe_bm PySem.F.plainAttrs_list PySem.F.slot_list_pop PySem.F.type_list_pop mt_popAt hv (pa_cons he pa_nil hs) hbase hfew hline hs hplain) fun σ H Q ⟨B, env, p, F, c⟩ => by
    obtain ⟨⟨a, ha, vs0, hH0⟩, c0⟩ := c.chk
    refine ⟨.ref a, ha, .inl ⟨rfl, vs0, SqL.of hH0⟩, c0.sq fun kd v env1 p1 F1 H1 s1 r1 c2 => ?_⟩
    obtain ⟨ds, a', vs, hi, ha', hH, r, c3⟩ := c2.getW
    rw [ha] at ha'; cases ha'
    obtain ⟨⟨d, n⟩, e, c4⟩ := c3.rs
    unfold atD at e
    obtain ⟨j, g1, g2⟩ := Res.bind_ok e
    cases asI_ok g1
    split at g2
    · rename_i hj
      split at g2
      · rename_i d' hd
        cases g2
        obtain ⟨u, hu, ru⟩ := r.get hd
        simp only [Rep] at r1
        subst r1
        refine ⟨a, vs, j, j.toNat, u, rfl, rfl, hH, by omega, hj.2, ?_, hu, ?_⟩
        · have h1 : j.toNat < vs.length := (List.getElem?_eq_some_iff.mp hu).1
          have h2 : ixN vs.length j = some j.toNat := by
            unfold ixN
            rw [if_pos hj.1, if_pos (by omega)]
          exact (ixN_seq h2).1
        · have r' := r.erase j.toNat
          exact (c4.put hi ha r').ret u F1 _ (Same.refl _) (c4.put hi ha r').S ru
      · cases g2
    · cases g2
theorem de_append (hv : PE X (.Name x px) (tVar i)) (he : PE X e (lE R m)) (hbase : attributeBase (.Name x px) "append" X.env (eval (.Name x px) X.env) = eval (.Name x px) X.env := by rfl)
    (hfew : ((backTo pos (starEach [e] X.env)).all (fun x => !x.1) && (backToKw pos (keywordEach [] X.env)).all (fun x => x.1.isSome) && decide (([e] : List Expr).length + ([] : List Keyword).length + (if ([] : List Keyword).isEmpty then 0 else 1) < 30)) = true := by rfl)
    (hline : (apos.endLine == pos.line) = true := by rfl) (hs : starEach [e] X.env = (false, eval e X.env) :: starEach [] X.env := by rfl) (hplain : (backTo pos (starEach [] X.env)).any (·.1) = false := by rfl) : PE X (.Call (.Attribute (.Name x px) "append" apos) [e] [] pos) (lE R (mAppend i m)) :=
  PE.imp (pe_bm PySem.F.plainAttrs_list PySem.F.slot_list_append PySem.F.type_list_append mt_append hv (pa_cons he pa_nil hs) hbase hfew hline hs hplain) fun σ H Q ⟨B, env, p, F, c⟩ => by
    obtain ⟨⟨a, ha, vs0, hH0⟩, c0⟩ := c.chk
    refine ⟨.ref a, ha, .inl ⟨rfl, vs0, SqL.of hH0⟩, c0.sq fun d v env1 p1 F1 H1 s1 r1 c2 => ?_⟩
    obtain ⟨ds, a', vs, hi, ha', hH, r, c3⟩ := c2.getW
    rw [ha] at ha'; cases ha'
    obtain ⟨_, e, c4⟩ := c3.rs
    split at e
    · rename_i hz
      have r' := r.append (.one r1)
      exact ⟨a, vs, v, rfl, rfl, hH, by rw [r.length]; exact hz, (c4.put hi ha r').ret _ F1 _ (Same.refl _) (c4.put hi ha r').S (by simp [Rep])⟩
    · cases e
theorem ds_setItem (hv : PE X (.Name x px) (tVar i)) (he : PE X e (lE R m)) (hk : PE X e2 (lE R k)) (hs : swapsWithSole [.Subscript (.Name x px) e2 tpos] e pos.line X.env = pure false := by rfl) (hw : swappedStores [.Subscript (.Name x px) e2 tpos] e X.env = pure none := by rfl)
    (h1 : (assignEach [.Subscript (.Name x px) e2 tpos] X.env).map (·.2) = [assign (.Subscript (.Name x px) e2 tpos) X.env] := by rfl)
    (ha : ∀ v, assign (.Subscript (.Name x px) e2 tpos) X.env v = (do
      let ov ← holding [v] (eval (.Name x px) X.env)
      let iv ← holding [v, ov] (eval e2 X.env)
      standAt tpos
      holding [v, ov, iv] (setItem ov iv v)
      release [v, ov, iv] []) := by intro _; rfl) : PS X (.Assign [.Subscript (.Name x px) e2 tpos] e pos) (lS R (dSetItem i m k)) :=
  PS.imp (ps_asg he (pg_sub hv hk set_list ha) hs hw h1) fun E σ H ⟨B, env, p, F, S, o⟩ => by
    unfold dSetItem dOf at o
    split at o
    · rename_i u env' p' e
      have c : Cn R (fun _ (_ : Unit) (_ : Unit) => True) (m >>= fun d => mChk i >>= fun _ => k >>= fun j => mGetW i >>= fun ds => M.res (putAt ds j d) >>= fun ds' => mPut i ds') (fun _ H => E.nx σ H) σ B env p F H :=
        ⟨S, u, env', p', e, fun _ F' H' s S' _ => o σ F' H' s S'⟩
      refine c.sq fun d v env1 p1 F1 H1 s1 r1 c1 => ?_
      obtain ⟨⟨a, ha, vs0, hH0⟩, c2⟩ := c1.chk
      refine ⟨.ref a, ha, c2.sq fun j w env2 p2 F2 H2 s2 r2 c3 => ?_⟩
      obtain ⟨ds, a', vs, hi, ha', hH, r, c4⟩ := c3.getW
      rw [ha] at ha'; cases ha'
      obtain ⟨ds', e', c5⟩ := c4.rs
      obtain ⟨jj, g1, g2⟩ := Res.bind_ok e'
      cases asI_ok g1
      split at g2
      · rename_i n hn
        cases g2
        simp only [Rep] at r2
        have r' := (r.set (r1.mono s2) n)
        refine ⟨a, vs, jj, n, rfl, r2, hH, by rw [r.length]; exact hn, ?_⟩
        obtain ⟨S5, z, env6, p6, e6, q6⟩ := c5
        cases e6
        exact q6 () F2 _ (Same.refl _) (S5.mut hi ha (.inl ⟨_, _, rfl, upd_same, r'⟩)) trivial
      · cases g2
    · exact o.elim
    · exact o.elim
end

/-! ## while -/
def dWhN (c : M Bool) (body : SS) : Nat → SS
  | 0 => dBad
  | n + 1 => dOf c fun k => if k = true then fun env p => match body env p with
    | .nx e p => dWhN c body n e p
    | .ct e p => dWhN c body n e p
    | .bk e p => .nx e p
    | .rt d p => .rt d p
    | .exc c xs => .exc c xs
    | .bad => .bad
    else dNext
open Classical in
/-- the loop's end, if it comes to one -/
noncomputable def dWhile (c : M Bool) (body : SS) : SS := fun env p => if h : ∃ n, dWhN c body n env p ≠ .bad then dWhN c body h.choose env p else .bad
theorem dWhN_mono {c : M Bool} {body : SS} : ∀ (n m : Nat) (env : Env') (p : Pn), n ≤ m → dWhN c body n env p ≠ .bad → dWhN c body m env p = dWhN c body n env p
  | 0, m, env, p, _, h => absurd rfl h
  | n + 1, 0, env, p, hle, _ => absurd hle (by omega)
  | n + 1, m + 1, env, p, hle, h => by
    unfold dWhN dOf at h ⊢
    cases e : c env p with
    | ok r =>
      obtain ⟨k, e1, p1⟩ := r
      rw [e] at h
      cases k with
      | false => rfl
      | true =>
        simp only [if_true] at h ⊢
        cases e2 : body e1 p1 with
        | nx e3 p3 => rw [e2] at h; exact dWhN_mono n m e3 p3 (by omega) h
        | ct e3 p3 => rw [e2] at h; exact dWhN_mono n m e3 p3 (by omega) h
        | bk e3 p3 => rfl
        | rt d p3 => rfl
        | exc c xs => rfl
        | bad => rfl
    | exc c xs => rfl
    | bad => rfl
theorem dWhile_eq {c : M Bool} {body : SS} {env : Env'} {p : Pn} {n : Nat} {o : Out} (h : dWhN c body n env p = o) (ho : o ≠ .bad) : dWhile c body env p = o := by
  have hex : ∃ n, dWhN c body n env p ≠ .bad := ⟨n, by rw [h]; exact ho⟩
  unfold dWhile
  rw [dif_pos hex]
  have h1 := hex.choose_spec
  rcases Nat.le_total n hex.choose with hle | hle
  · rw [dWhN_mono n _ env p hle (by rw [h]; exact ho), h]
  · rw [← dWhN_mono _ n env p hle h1, h]
section
variable {X : Cx} {R : RC} {c : Expr} {bd : List Stmt} {tc : M Bool} {body : SS} {pos : Pos}
theorem ds_while (hp : PassesOwn (model X.prog X.w) X.A X.env X.xe) (hc : PT X c (lT R tc)) (hb : PSs X bd (lS R body)) : PS X (.While c bd [] pos) (lS R (dWhile tc body)) := by
  refine PS.imp (ps_while hp hc hb) fun E σ H ⟨B, env, p, F, S, o⟩ => ?_
  have hex : ∃ n, OutOk R B F E (dWhN tc body n env p) := by
    unfold dWhile at o
    split at o
    · exact ⟨_, o⟩
    · exact o.elim
  obtain ⟨n, o⟩ := hex
  refine ⟨fun m σ H => ∃ env p F1, Same F F1 ∧ SRel R B env p σ F1 H ∧ OutOk R B F1 E (dWhN tc body m env p), ⟨n, env, p, F, Same.refl _, S, o⟩, ?_⟩
  rintro m σ2 H2 ⟨env2, p2, F2, s2, S2, o2⟩
  cases m with
  | zero => exact o2.elim
  | succ m =>
    unfold dWhN dOf at o2
    split at o2
    · rename_i k env3 p3 e
      refine ⟨B, env2, p2, F2, S2, k, env3, p3, e, fun k' F3 H3 s3 S3 ek => ?_⟩
      cases ek
      have o3 := o2.mono s3
      cases k with
      | true =>
        rw [if_pos rfl]
        simp only [if_true] at o3
        have s23 := s2.trans s3
        refine ⟨fun σ' H' => ∃ env p F1, Same F F1 ∧ SRel R B env p σ' F1 H' ∧ OutOk R B F1 E (dWhN tc body m env p), fun σ' H' h => ⟨m, by omega, h⟩, B, env3, p3, F3, S3, ?_⟩
        cases hbody : body env3 p3 with
        | nx e p => rw [hbody] at o3; exact fun σ' F' H' s' S' => ⟨e, p, F', s23.trans s', S', OutOk.mono o3 s'⟩
        | ct e p => rw [hbody] at o3; exact fun σ' F' H' s' S' => ⟨e, p, F', s23.trans s', S', OutOk.mono o3 s'⟩
        | bk e p => rw [hbody] at o3; exact o3
        | rt d p => rw [hbody] at o3; exact o3
        | exc c xs => rw [hbody] at o3; exact o3
        | bad => rw [hbody] at o3; exact o3
      | false =>
        rw [if_neg Bool.false_ne_true]
        simp only [Bool.false_eq_true, if_false] at o3
        exact o3 σ2 F3 H3 (Same.refl _) S3
    · exact o2.elim
    · exact o2.elim
end
end CS
namespace CS
open PySem L2
open PyProof.Rows (envOfC)

/-! ## own lists read as values, where what comes of it is flat -/
def Slot.fz : Slot → Slot
  | .ow d => .pl d
  | .ro d => .pl d
  | s => s
def D.flat : D → Bool
  | .non => true
  | .bl _ => true
  | .int _ => true
  | .str _ => true
  | _ => false
def mBorT (m : M Bool) : M Bool := fun env p => (m (env.map Slot.fz) p).bind fun r => .ok (r.1, env, r.2.2)
def mBor (m : M D) : M D := fun env p => (m (env.map Slot.fz) p).bind fun r => if r.1.flat = true then .ok (r.1, env, r.2.2) else .bad
section
variable {R : RC} {B : Bs} {env : Env'} {p : Pn} {σ : St} {F H : Hp}
open Classical in
theorem SRel.borrow (S : SRel R B env p σ F H) : ∃ F1, Same F F1 ∧ SRel R ⟨F1, H, B.pn⟩ (env.map Slot.fz) p σ F1 H := by
  have sm : Same F (fun a => if ∃ i, OwnAt env σ i a then H a else F a) := fun a o e => by
    show (if ∃ i, OwnAt env σ i a then H a else F a) = some o
    rw [if_neg]
    · exact e
    · rintro ⟨i, h⟩
      rw [(S.ownF h).1] at e; cases e
  refine ⟨_, sm, ⟨fun a o e => ?_, Same.refl _, fun _ _ _ h => h, fun _ h => .inl h, S.pnb, ?_, fun h => Same.seq (S.f0.trans sm) (S.cel h), by rw [List.length_map]; exact S.len, fun i s hi => ?_, fun i j a _ h _ => ?_⟩⟩
  · have e : (if ∃ i, OwnAt env σ i a then H a else F a) = some o := e
    split at e
    · exact e
    · exact S.fh _ _ e
  · have := S.pen
    cases p with
    | none => trivial
    | some P =>
      obtain ⟨h1, h2, h3⟩ := this
      refine ⟨?_, h2, h3⟩
      show (if ∃ i, OwnAt env σ i R.q then H R.q else F R.q) = none
      rw [if_neg]
      · exact h1
      · rintro ⟨i, h⟩
        exact S.nq (S.ownF h).2.1 rfl
  · rw [List.getElem?_map] at hi
    cases e : env[i]? with
    | none => rw [e] at hi; cases hi
    | some s' =>
      rw [e] at hi
      cases hi
      have h := S.slots i s' e
      have own : ∀ d a, s'.isO = true → σ[i]? = some (some (.ref a)) → Own R F H d a → Rep R (fun a => if ∃ i, OwnAt env σ i a then H a else F a) d (.ref a) := fun d a ho ha o => by
        have ea : (if ∃ i, OwnAt env σ i a then H a else F a) = H a := if_pos ⟨i, ⟨s', e, ho⟩, ha⟩
        rcases o with ⟨ds, vs, rfl, h1, r⟩ | ⟨c, ns, ds, dx, vs, _, rfl, h1, l, r⟩
        · simp only [Rep]
          exact ⟨a, vs, rfl, by rw [ea]; exact h1, r.mono sm⟩
        · simp only [Rep]
          exact ⟨a, dx, vs, rfl, by rw [ea]; exact h1, l, r.mono sm⟩
      cases s' with
      | un => trivial
      | pl d => obtain ⟨v, h1, h2⟩ := h; exact ⟨v, h1, h2.mono sm⟩
      | ow d => obtain ⟨a, h1, _, _, _, o⟩ := h; exact ⟨_, h1, own d a rfl h1 o⟩
      | ro d => obtain ⟨a, h1, _, _, o⟩ := h; exact ⟨_, h1, own d a rfl h1 o⟩
  · obtain ⟨⟨s, h1, h2⟩, _⟩ := h
    rw [List.getElem?_map] at h1
    cases e : env[i]? with
    | none => rw [e] at h1; cases h1
    | some s' =>
      rw [e] at h1
      cases h1
      cases s' <;> cases h2
/-- back: what was frozen meanwhile is forgotten -/
theorem SRel.unborrow (S : SRel R B env p σ F H) {F1 F' H' : Hp} {env' : Env'} {p' : Pn} {σ' : St} (s : Same F F1) (T : SRel R ⟨F1, H, B.pn⟩ env' p' σ' F' H') : SRel R B env p' σ F H' := by
  have sF : Same F F' := s.trans T.f0
  refine S.ext ⟨Same.refl _, sF.trans T.fh, fun b o hb h => T.h0 b o (hb.imp id fun e => S.pnone.mpr e) h, fun a h => .inl h, by rw [T.pnb, S.pnb], ?_⟩
  have := T.pen
  cases p' with
  | none => trivial
  | some P =>
    obtain ⟨h1, h2, h3⟩ := this
    exact ⟨sF.free h1, h2, h3⟩
theorem Rep.flat {d : D} {v : V} {F' : Hp} (h : Rep R F d v) (hf : d.flat = true) : Rep R F' d v := by
  cases d <;> first | (simpa [Rep] using h; done) | cases hf
end
section
variable {X : Cx} {R : RC} {e : Expr} {m : M D} {t : M Bool} {pos : Pos}
theorem dt_bor (h : PT X e (lT R t)) : PT X e (lT R (mBorT t)) := PT.imp h fun σ H Q ⟨B, env, p, F, S, b, env', p', e, q⟩ => by
  obtain ⟨F1, s1, S1⟩ := S.borrow
  obtain ⟨⟨b', env2, p2⟩, e1, e2⟩ := Res.bind_ok (show (t (env.map Slot.fz) p).bind _ = _ from e)
  cases e2
  exact ⟨_, _, p, F1, S1, b', env2, p2, e1, fun b' F' H' s S' eb => q b' F H' (Same.refl _) (S.unborrow s1 S') eb⟩
theorem de_bor (h : PE X e (lE R m)) : PE X e (lE R (mBor m)) := PE.imp h fun σ H Q ⟨B, env, p, F, S, d, env', p', e, q⟩ => by
  obtain ⟨F1, s1, S1⟩ := S.borrow
  obtain ⟨⟨d', env2, p2⟩, e1, e2⟩ := Res.bind_ok (show (m (env.map Slot.fz) p).bind _ = _ from e)
  split at e2
  · rename_i hf
    cases e2
    exact ⟨_, _, p, F1, S1, d', env2, p2, e1, fun v F' H' s S' r => q v F H' (Same.refl _) (S.unborrow s1 S') (r.flat hf)⟩
  · cases e2
end

/-! ## x += e; a, b = e1, e2 -/
def dAug (i : Nat) (f : D → D → Res D) (m : M D) : SS := dOf (dVar i >>= fun x => m >>= fun y => M.res (f x y)) fun d env p => .nx (env.set i (.pl d)) p
section
variable {X : Cx} {R : RC} {i : Nat} {x : Str} {e : Expr} {m : M D} {pos pos' : Pos}
theorem ip_of {op : Operator} {f : Int → Int → Int} {g : D → D → Res D} (hp : PIp X op (ipI f)) (hg : ∀ x y z, g x y = .ok z → ∃ a b, x = .int a ∧ y = .int b ∧ z = .int (f a b)) (hN : X.N.Nodup) (hi : X.N[i]? = some x) (hx : Loc X.env.scope x) (he : PE X e (lE R m)) (hf : X.fn x = true ∨ X.env.scope.names.lookup x = some .local) :
    PS X (.AugAssign (.Name x pos') op e pos) (lS R (dAug i g m)) :=
  PS.imp (ps_aug hN hi hx he hp hf) fun E σ H ⟨B, env, p, F, S, o⟩ => by
    unfold dAug dOf at o
    split at o
    · rename_i d env' p' e
      have c : Cn R (Rep R) (dVar i >>= fun x => m >>= fun y => M.res (g x y)) (fun v H => E.nx (σ.set i (some v)) H) σ B env p F H := ⟨S, d, env', p', e, fun v F' H' s S' r => o _ F' H' s (S'.set r)⟩
      obtain ⟨S, z, env2, p2, e2, q⟩ := c
      obtain ⟨x, env1, p1, e1, e3⟩ := bind_ok e2
      obtain ⟨x', g1, g2⟩ := Res.bind_ok (show (getPl env i).bind _ = _ from e1)
      cases g2
      obtain ⟨v, h1, h2⟩ := S.slots _ _ (getPl_ok g1)
      refine ⟨v, h1, Cn.sq (Rl2 := Rep R) (k := fun y => M.res (g x y)) ⟨S, z, env2, p2, e3, q⟩ fun y w env3 p3 F3 H3 s3 r3 c3 => ?_⟩
      obtain ⟨z', e4, q'⟩ := c3.res
      obtain ⟨a, b, rfl, rfl, rfl⟩ := hg _ _ _ e4
      simp only [Rep] at h2 r3
      exact ⟨a, b, h2, r3, q' _ F3 H3 (Same.refl _) c3.S (by simp [Rep])⟩
    · exact o.elim
    · exact o.elim
theorem ds_augAdd (hN : X.N.Nodup) (hi : X.N[i]? = some x) (hx : Loc X.env.scope x) (he : PE X e (lE R m)) (hf : X.fn x = true ∨ X.env.scope.names.lookup x = some .local := by first | exact .inl rfl | exact .inr rfl | assumption) : PS X (.AugAssign (.Name x pos') .Add e pos) (lS R (dAug i addI m)) :=
  ip_of ip_add (fun x y z h => by unfold addI at h; split at h; cases h; exact ⟨_, _, rfl, rfl, rfl⟩; cases h) hN hi hx he hf
theorem ds_augSub (hN : X.N.Nodup) (hi : X.N[i]? = some x) (hx : Loc X.env.scope x) (he : PE X e (lE R m)) (hf : X.fn x = true ∨ X.env.scope.names.lookup x = some .local := by first | exact .inl rfl | exact .inr rfl | assumption) : PS X (.AugAssign (.Name x pos') .Sub e pos) (lS R (dAug i subD m)) :=
  ip_of ip_sub (fun x y z h => by unfold subD at h; split at h; cases h; exact ⟨_, _, rfl, rfl, rfl⟩; cases h) hN hi hx he hf
end
/-- a, b = e1, e2 with local names -/
def dPar (i j : Nat) (m n : M D) : SS := dOf (m >>= fun x => n >>= fun y => M.ret (x, y)) fun z env p => .nx ((env.set i (.pl z.1)).set j (.pl z.2)) p
/-- .. the first an own list, both own lists -/
def mRd (n : M D) : M D := fun env p => (n (env.map Slot.rd) p).bind fun r => .ok (r.1, env, r.2.2)
def dParO (i j : Nat) (m n : M D) : SS := dOf (m >>= fun x => mRd n >>= fun y => M.ret (x, y)) fun z env p => .nx ((env.set i (.ow z.1)).set j (.pl z.2)) p
def dParOO (i j : Nat) (m n : M D) : SS := dOf (m >>= fun x => mRd n >>= fun y => M.ret (x, y)) fun z env p => .nx ((env.set i (.ow z.1)).set j (.ow z.2)) p
section
variable {R : RC} {B : Bs} {env : Env'} {p : Pn} {σ : St} {F H : Hp}
/-- a floating own list stays beside what is done within -/
theorem FreshA.stay {d : D} {a : Addr} (S : SRel R B env p σ F H) (fr : FreshA R B env σ F H d a) {F' H' : Hp} {p' : Pn} (e : Ext R F H p F' H' p') : FreshA R B env σ F' H' d a := by
  refine ⟨?_, fr.b, fr.q, fr.no, fr.own.ext e (fr.q.imp id S.pnone.mp)⟩
  cases z : F' a with
  | none => rfl
  | some o =>
    rcases e.fresh a (by rw [z]; simp) with h | h
    · exact absurd fr.f h
    · exact absurd h fr.own.there
end
section
variable {X : Cx} {R : RC} {i j : Nat} {x y : Str} {a b : Expr} {m n : M D} {px py pt pos pt2 : Pos} {kt k2 : Nat}
theorem ds_par (hc : X.calm = true) (hN : X.N.Nodup) (hi : X.N[i]? = some x) (hj : X.N[j]? = some y) (hij : i ≠ j) (hx : X.env.scope.names.lookup x = some .local) (hy : X.env.scope.names.lookup y = some .local) (ha : PE X a (lE R m)) (hb : PE X b (lE R n))
    (hw : swappedStores [.Tuple [.Name x px, .Name y py] kt pt] (.Tuple [a, b] k2 pt2) X.env = pure (some [x, y])) (hs : swapsWithSole [.Tuple [.Name x px, .Name y py] kt pt] (.Tuple [a, b] k2 pt2) pos.line X.env = pure false := by rfl)
    (h1 : starEach [a, b] X.env = (false, eval a X.env) :: starEach [b] X.env := by rfl) (h2 : starEach [b] X.env = (false, eval b X.env) :: starEach [] X.env := by rfl) :
    PS X (.Assign [.Tuple [.Name x px, .Name y py] kt pt] (.Tuple [a, b] k2 pt2) pos) (lS R (dPar i j m n)) :=
  PS.imp (ps_par hc hN hi hj hij hx hy (pa_cons ha (pa_cons hb pa_nil h2) h1) hw hs) fun E σ H ⟨B, env, p, F, S, o⟩ => by
    unfold dPar dOf at o
    split at o
    · rename_i z env' p' e
      have c : Cn R (fun F' (z : D × D) (v : V × V) => Rep R F' z.1 v.1 ∧ Rep R F' z.2 v.2) (m >>= fun x => n >>= fun y => M.ret (x, y)) (fun v H => E.nx ((σ.set i (some v.1)).set j (some v.2)) H) σ B env p F H :=
        ⟨S, z, env', p', e, fun v F' H' s S' r => o _ F' H' s ((S'.set r.1).set r.2)⟩
      exact c.sq fun d v env1 p1 F1 H1 s1 r1 c1 => c1.sq fun d2 v2 env2 p2 F2 H2 s2 r2 c2 => ⟨v, v2, rfl, c2.ret (v, v2) F2 H2 (Same.refl _) c2.S ⟨r1.mono s2, r2⟩⟩
    · exact o.elim
    · exact o.elim
theorem ds_parO (hc : X.calm = true) (hN : X.N.Nodup) (hi : X.N[i]? = some x) (hj : X.N[j]? = some y) (hij : i ≠ j) (hx : X.env.scope.names.lookup x = some .local) (hy : X.env.scope.names.lookup y = some .local) (ha : PE X a (lF R m)) (hb : PE X b (lE R n))
    (hw : swappedStores [.Tuple [.Name x px, .Name y py] kt pt] (.Tuple [a, b] k2 pt2) X.env = pure (some [x, y])) (hs : swapsWithSole [.Tuple [.Name x px, .Name y py] kt pt] (.Tuple [a, b] k2 pt2) pos.line X.env = pure false := by rfl)
    (h1 : starEach [a, b] X.env = (false, eval a X.env) :: starEach [b] X.env := by rfl) (h2 : starEach [b] X.env = (false, eval b X.env) :: starEach [] X.env := by rfl) :
    PS X (.Assign [.Tuple [.Name x px, .Name y py] kt pt] (.Tuple [a, b] k2 pt2) pos) (lS R (dParO i j m n)) :=
  PS.imp (ps_par hc hN hi hj hij hx hy (pa_cons ha (pa_cons hb pa_nil h2) h1) hw hs) fun E σ H ⟨B, env, p, F, S, o⟩ => by
    unfold dParO dOf at o
    split at o
    · rename_i z env' p' e
      obtain ⟨d1, env1, p1, e1, e2⟩ := bind_ok e
      obtain ⟨d2, env2, p2, e3, e4⟩ := bind_ok e2
      cases e4
      obtain ⟨⟨d2', env3, p3⟩, e5, e6⟩ := Res.bind_ok (show (n (env1.map Slot.rd) p1).bind _ = _ from e3)
      cases e6
      refine ⟨B, env, p, F, S, d1, env', p1, e1, fun u F1 H1 s1 S1 fr => ?_⟩
      have Si := S1.inner []
      refine ⟨_, _, p1, F1, Si, d2', env3, p3, e5, fun v F2 H2 s2 S2 r2 => ⟨.ref u, v, rfl, ?_⟩⟩
      have ex := S1.outer S2
      have S3 := S1.ext ex
      exact o _ F2 H2 (s1.trans s2) ((S3.setO (fr.stay S1 ex)).set r2)
    · exact o.elim
    · exact o.elim
theorem ds_parOO (hc : X.calm = true) (hN : X.N.Nodup) (hi : X.N[i]? = some x) (hj : X.N[j]? = some y) (hij : i ≠ j) (hx : X.env.scope.names.lookup x = some .local) (hy : X.env.scope.names.lookup y = some .local) (ha : PE X a (lF R m)) (hb : PE X b (lF R n))
    (hw : swappedStores [.Tuple [.Name x px, .Name y py] kt pt] (.Tuple [a, b] k2 pt2) X.env = pure (some [x, y])) (hs : swapsWithSole [.Tuple [.Name x px, .Name y py] kt pt] (.Tuple [a, b] k2 pt2) pos.line X.env = pure false := by rfl)
    (h1 : starEach [a, b] X.env = (false, eval a X.env) :: starEach [b] X.env := by rfl) (h2 : starEach [b] X.env = (false, eval b X.env) :: starEach [] X.env := by rfl) :
    PS X (.Assign [.Tuple [.Name x px, .Name y py] kt pt] (.Tuple [a, b] k2 pt2) pos) (lS R (dParOO i j m n)) :=
  PS.imp (ps_par hc hN hi hj hij hx hy (pa_cons ha (pa_cons hb pa_nil h2) h1) hw hs) fun E σ H ⟨B, env, p, F, S, o⟩ => by
    unfold dParOO dOf at o
    split at o
    · rename_i z env' p' e
      obtain ⟨d1, env1, p1, e1, e2⟩ := bind_ok e
      obtain ⟨d2, env2, p2, e3, e4⟩ := bind_ok e2
      cases e4
      obtain ⟨⟨d2', env3, p3⟩, e5, e6⟩ := Res.bind_ok (show (n (env1.map Slot.rd) p1).bind _ = _ from e3)
      cases e6
      refine ⟨B, env, p, F, S, d1, env', p1, e1, fun u F1 H1 s1 S1 fr => ?_⟩
      have Si := S1.inner []
      refine ⟨_, _, p1, F1, Si, d2', env3, p3, e5, fun w F2 H2 s2 S2 fr2 => ⟨.ref u, .ref w, rfl, ?_⟩⟩
      have ex := S1.outer S2
      have S3 := S1.ext ex
      have fr1 := fr.stay S1 ex
      have S4 := S3.setO (i := i) fr1
      have hwn : H1 w = none := fr2.b
      have hwu : w ≠ u := by rintro rfl; exact fr.own.there hwn
      have fr2' : FreshA R B (env'.set i (.ow d1)) (σ.set i (some (.ref u))) F2 H2 d2' w := by
        refine ⟨fr2.f, S1.hq hwn, fr2.q, fun k h => ?_, fr2.own⟩
        obtain ⟨⟨s, g1, g2⟩, g3⟩ := h
        by_cases e : i = k
        · subst e
          have hl : i < env'.length := by have := (List.getElem?_eq_some_iff.mp g1).1; simpa using this
          rw [List.getElem?_set_self (by rw [← S1.len]; exact hl)] at g3
          cases g3
          exact hwu rfl
        · rw [List.getElem?_set_ne e] at g1 g3
          exact (S1.ownF ⟨⟨s, g1, g2⟩, g3⟩).2.2 hwn
      exact o _ F2 H2 (s1.trans s2) (S4.setO fr2')
    · exact o.elim
    · exact o.elim
end
end CS
namespace CSN
open PySem PySem.W Builtin
section
variable {prog : Program} {w : World} {A : Around} {E : Value → Shared → Prop} {s : Shared} {K : Frag} {x C f : Addr} {ox : Obj} {od : Option Obj} {name : Str} {b : Value}
theorem ifBound_B {M : Model} {id : String} {args : List Value} {Q : Option Value → Shared → Prop} (X : K.In s.heap) (I : InstAt s.heap x ox C od) (hs : findIn K (.ref C) name = some (some (.builtin id))) (S : Slot "object" name id)
    (h : wpAny M A (call (.builtin id) (.ref x :: args)) (fun v => Q (some v)) E s) : wpAny M A (callSpecialIfBound? (.ref x) name args) Q E s := by
  simp only [callSpecialIfBound?, bindSpecialIfBound?]
  refine wpAny_holding (wpAny_bind (wpAny_bind (wpAny_bind (I.type.here ((looks_findIn X hs).here ?_)))))
  simp only [S.bind]
  refine wpAny_bind (wpAny_askSetting (wpAny_ite ?_))
  have fin : wpAny M A (call (.builtin id) ([.ref x] ++ args) >>= fun v => pure (some v)) Q E s := wpAny_bind (wpAny_mono h (fun v s' h' => wpAny_pure h') fun _ _ h' => h')
  split
  · exact wpAny_bind (wpAny_pure (wpAny_pure fin))
  · exact wpAny_tryCatch (wpAny_bind (wpAny_pure (wpAny_pure fin)))
theorem check_K {M : Model} {id owner n : String} {rest : List Value} {Q : Unit → Shared → Prop} (hk : builtinKind id = some .slot) (hsp : splitId id = some (owner, n)) (ha : argsOk id ⟨.ref x :: rest, []⟩) (X : K.In s.heap) (I : InstAt s.heap x ox C od)
    (hm : mroIn K C (.type owner) = some true) (hq : Q () s) : wpAny M A (checkBuiltinCall id ⟨.ref x :: rest, []⟩) Q E s := by
  simp only [checkBuiltinCall, hk, hsp]
  refine wpAny_bind ?_
  unfold isInstance
  refine wpAny_bind (I.type.here ((looks_mroIn X hm).here ?_))
  cases hsig : Manifest.signature? id with
  | none => exact wpAny_pure hq
  | some sig =>
    simp only [argsOk, hsig] at ha
    have h2 : Bind.checkArgs id sig ⟨.ref x :: rest, []⟩ = pure () := ha
    show wpAny M A (Bind.checkArgs id sig ⟨.ref x :: rest, []⟩) Q E _
    rw [h2]
    exact wpAny_pure hq
/-- a != b where the class has its own ==, and no own != -/
theorem tryNe_K {Q : Value → Shared → Prop} (hu : A.units + 1 < cLine) (X : K.In s.heap) (I : InstAt s.heap x ox C od) (hne : findIn K (.ref C) "__ne__" = some (some (.builtin "object.__ne__"))) (hm : mroIn K C (.type "object") = some true)
    (hs : findIn K (.ref C) "__eq__" = some (some (.ref f))) (hf : isFn K (.ref f) = true) (h : wpAny (model prog w) A.in1 (call (.ref f) [.ref x, b]) (fun v s' => ∃ k, v = .bool k ∧ Q (.bool (!k)) s') E s) :
    wpAny (model prog w) A (tryCompare (.ref x) "__ne__" b) (fun r s' => ∃ v, r = some v ∧ Q v s') E s := by
  unfold tryCompare
  refine wpAny_bind (ifBound_B X I hne F.cmp_object.ne (wpAny_call (codeAny_call_builtin F.cmp_object.ne.plain F.cmpEntry_ne (check_K F.cmpKind_ne F.cmpSplit_ne (F.cmpArgs_ne _ _) X I hm ?_))))
  unfold Builtin.«object.__ne__»
  repeat (first
    | with_reducible refine wpAny_cRoomFor (show A.in1.units < cLine from hu) ?_
    | (refine wpAny_bind (m := callSpecialIfBound? (.ref x) (Str.ofString "__eq__") [b])
        (ifBound_K X I hs hf (wpAny_mono h (fun r s' hr => by
          obtain ⟨k, rfl, hq⟩ := hr
          repeat (first | exact ⟨_, rfl, hq⟩ | exact wpAny_pure hq | exact wpAny_truthy_bool hq | (refine wpAny_bind (m := truthy (.bool _)) (wpAny_truthy_bool ?_)) | wp_step)) fun _ _ e => e)))
    | wp_step)
theorem cmp_ne_K {L : Addr} {h₀ : Heap} {m : Str → Option Value} {tb : Value} {Q : Value → Shared → Prop} (hu : A.units + 1 < cLine) (F : PyProof.Rows.Fr h₀ L s.heap m) (X₀ : K.In h₀) (I : InstAt s.heap x ox C od) (hb : Looks (model prog w) s.heap (typeOf b) tb) (hn : notFirst K C tb = true)
    (hne : findIn K (.ref C) "__ne__" = some (some (.builtin "object.__ne__"))) (hm : mroIn K C (.type "object") = some true) (hs : findIn K (.ref C) "__eq__" = some (some (.ref f))) (hf : isFn K (.ref f) = true)
    (h : wpAny (model prog w) A.in1 (call (.ref f) [.ref x, b]) (fun v s' => ∃ k, v = .bool k ∧ Q (.bool (!k)) s') E s) : wpAny (model prog w) A (richCompare .NotEq (.ref x) b) Q E s := by
  have X := X₀.keeps F.keep
  have one := tryNe_K (Q := Q) hu X I hne hm hs hf h
  unfold richCompare
  simp only [oneThing_ref]
  refine wpAny_holding (wpAny_bind (wpAny_cRoomFor (Nat.lt_of_succ_lt hu) ?_))
  refine wpAny_bind (I.type.here (wpAny_bind (hb.here ?_)))
  split
  · rename_i q
    have e : subIn K tb (.ref C) = some false := by
      rcases Bool.or_eq_true_iff.mp hn with e | e
      · rw [beq_iff_eq.mp e] at q; simp at q
      · exact beq_iff_eq.mp e
    refine wpAny_bind ((looks_subIn X e).here ?_)
    simp only [Bool.false_eq_true, if_false]
    refine wpAny_bind (wpAny_mono one (fun r s' z => ?_) fun _ _ e => e)
    obtain ⟨v, rfl, hq⟩ := z
    exact wpAny_pure hq
  · refine wpAny_bind (wpAny_pure ?_)
    simp only [Bool.false_eq_true, if_false]
    refine wpAny_bind (wpAny_mono one (fun r s' z => ?_) fun _ _ e => e)
    obtain ⟨v, rfl, hq⟩ := z
    exact wpAny_pure hq
end
end CSN

namespace CS
open PySem L2
open PyProof.Rows (envOfC)

/-! ## == and != by a class's own __eq__ -/
structure EqF (K : PySem.W.Frag) (C f : Addr) : Prop where
  eq : PySem.W.findIn K (.ref C) "__eq__" = some (some (.ref f))
  fn : PySem.W.isFn K (.ref f) = true
  ne : PySem.W.findIn K (.ref C) "__ne__" = some (some (.builtin "object.__ne__"))
  ob : PySem.W.mroIn K C (.type "object") = some true
def rEqO (C : Addr) (sp : Sp) (neg : Bool) : R2 := fun x y H Q => ∃ a b dx dy fs gs, x = .ref a ∧ y = .ref b ∧ H a = some (.ins C dx fs) ∧ H b = some (.ins C dy gs) ∧ sp [x, y] H (fun v H' => ∃ k, v = .bl k ∧ Q (.bl (if neg then !k else k)) H') E0
section
variable {X : Cx} {CX : CXT} {C f : Addr} {fd : FuncData} {ps : List Str} {sp : Sp} {n : Nat}
theorem run_in {A : Around} {pins : List (Addr × Obj)} {σ : St} {H : Hp} {s : Shared} {Q : VK} {E : XK} {us : List Value} {vs : List V} (F : FnOk X.prog X.w X.K X.mg X.base CX n f fd ps sp) (hr : Room n A) (hfr : A.frames = X.A.frames) (hb : Binds X.K fd ps []) (hx : Passes CX X E)
    (I : Inv X pins σ H s) (r : Vals vs us) (h : sp vs H Q E) : wpAny (model X.prog X.w) A (call (.ref f) us) (EP X pins σ Q) X.xe s := by
  have hl : us.length = ps.length := by rw [← r.length]; exact F.len _ _ _ _ h
  have e0 : Env0 X.prog X.w X.K X.mg X.base A X.stack s H := by
    have e := I.env0
    exact ⟨by rw [hfr]; exact e.frames, e.mod, e.bs, e.bsz, e.funs, e.frf, e.hok, e.bare⟩
  refine wpAny_call (codeAny_mono (F.run A X.stack s H ⟨us, []⟩ us vs Q E hr e0 (by
    have := hb s us I.kIn (by simpa using hl)
    simpa using this) r h) fun r s' hq => ?_)
  cases r with
  | error e => exact hx pins σ H s e s' I hq
  | ok fl =>
    cases fl with
    | ret u => exact I.after hq
    | next => exact False.elim hq
    | brk => exact False.elim hq
    | cont => exact False.elim hq
theorem op_eqO (G : EqF X.K C f) (F : FnOk X.prog X.w X.K X.mg X.base CX n f fd ps sp) (hr : Room n X.A) (hb : Binds X.K fd ps []) (hx : Passes CX X E0) : OpR X (compareOp .Eq) (rEqO C sp false) := by
  intro pins s σ H x y v u Q I rx ry h
  obtain ⟨a, b, dx, dy, fs, gs, rfl, rfl, ha, hb', q⟩ := h
  cases rx
  cases ry
  obtain ⟨mA, J, _⟩ := ins_get I.hok ha
  obtain ⟨mB, J', _⟩ := ins_get I.hok hb'
  obtain ⟨od, J, _⟩ := J.look
  obtain ⟨od', J', _⟩ := J'.look
  obtain ⟨m, hF⟩ := I.fr
  refine PySem.W.cmp_K (op := .Eq) (tb := .ref C) hr.units0 hF I.ok.mod.kin J J'.type (by simp [PySem.W.notFirst]) G.eq G.fn ?_
  refine wpAny_mono (run_in (vs := [V.ref a, V.ref b]) F hr rfl hb hx I (.cons rfl (.cons rfl .nil)) q) (fun v s' z => ?_) fun _ _ x => x
  obtain ⟨z, H', I', rz, k, rfl, q'⟩ := z
  cases rz
  exact ⟨.bl k, H', I', rfl, q'⟩
theorem op_neO (G : EqF X.K C f) (F : FnOk X.prog X.w X.K X.mg X.base CX n f fd ps sp) (hr : Room (n + 1) X.A) (hb : Binds X.K fd ps []) (hx : Passes CX X E0) : OpR X (compareOp .NotEq) (rEqO C sp true) := by
  intro pins s σ H x y v u Q I rx ry h
  obtain ⟨a, b, dx, dy, fs, gs, rfl, rfl, ha, hb', q⟩ := h
  cases rx
  cases ry
  obtain ⟨mA, J, _⟩ := ins_get I.hok ha
  obtain ⟨mB, J', _⟩ := ins_get I.hok hb'
  obtain ⟨od, J, _⟩ := J.look
  obtain ⟨od', J', _⟩ := J'.look
  obtain ⟨m, hF⟩ := I.fr
  refine CSN.cmp_ne_K (tb := .ref C) (by have := hr.units; omega) hF I.ok.mod.kin J J'.type (by simp [PySem.W.notFirst]) G.ne G.ob G.eq G.fn ?_
  refine wpAny_mono (run_in (vs := [V.ref a, V.ref b]) F hr.in1 rfl hb hx I (.cons rfl (.cons rfl .nil)) q) (fun v s' z => ?_) fun _ _ x => x
  obtain ⟨z, H', I', rz, k, rfl, q'⟩ := z
  cases rz
  exact ⟨k, rfl, .bl (!k), H', I', rfl, q'⟩
end
/-- an operator that may call -/
structure OpM (R : RC) (r : R2) (f : D → D → M D) : Prop where
  run : ∀ {B : Bs} {env : Env'} {p : Pn} {σ : St} {F H : Hp} {x y : D} {v w : V} {Q : VK}, Cn R (Rep R) (f x y) Q σ B env p F H → Rep R F x v → Rep R F y w → r v w H Q
def m2M (f : D → D → M D) (a b : M D) : M D := a >>= fun x => b >>= fun y => f x y
section
variable {X : Cx} {R : RC} {a b : Expr} {m n : M D} {f : D → D → M D} {r : R2} {pos : Pos}
theorem op2M (hd : OpM R r f) {σ : St} {H : Hp} {Q : VK} (h : lE R (m2M f m n) σ H Q) : tOp r (lE R m) (lE R n) σ H Q := by
  obtain ⟨B, env, p, F, c⟩ := h
  exact c.sq fun x v env1 p1 F1 H1 s1 r1 c1 => c1.sq fun y w env2 p2 F2 H2 s2 r2 c2 => hd.run c2 (r1.mono s2) r2
theorem de_cmpM {op : CmpOp} (ho : OpR X (compareOp op) r) (hd : OpM R r f) (ha : PE X a (lE R m)) (hb : PE X b (lE R n)) (hm : behindInMarks op b = false) : PE X (.Compare a [op] [b] pos) (lE R (m2M f m n)) :=
  PE.imp (pe_cmpR ho ha hb hm) fun _ _ _ h => op2M hd h
theorem dt_cmpM {op : CmpOp} (ho : OpR X (compareOp op) r) (hd : OpM R r f) (ha : PE X a (lE R m)) (hb : PE X b (lE R n)) (hm : behindInMarks op b = false) : PT X (.Compare a [op] [b] pos) (lT R (mB (m2M f m n))) :=
  PT.imp (pt_cmpR ho ha hb hm) fun _ _ _ h => tst (te := tOp r (lE R m) (lE R n)) (fun h => op2M hd h) h
end
/-- of two objects of one class by its __eq__ (mf), of data item by item -/
def eqM (neg : Bool) (c : Str) (mf : FD) (x y : D) : M D := match x, y with
  | .ins c1 ns xs, .ins c2 ms ys => if c1 = c ∧ c2 = c then M.fn (mf [.ins c1 ns xs, .ins c2 ms ys]) >>= fun r => M.res (asB r) >>= fun k => M.ret (.bl (if neg then !k else k)) else M.res .bad
  | x, y => M.res (if neg then neD x y else eqD x y)
theorem eqM_d {R : RC} {neg : Bool} {c : Str} {mf : FD} (hn : ∀ ds p r, mf ds p = .ok r → ds.length = 2) : OpM R (fun x y H Q => (if neg then rNeD R.K else rEqD R.K) x y H Q ∨ rEqO (R.cls c) (spD R.K R.cls 2 mf) neg x y H Q) (eqM neg c mf) := ⟨fun {B env p σ F H x y v w Q} cn rx ry => by
  unfold eqM at cn
  split at cn
  · rename_i c1 ns xs c2 ms ys
    split at cn
    · rename_i hc
      obtain ⟨rfl, rfl⟩ := hc
      obtain ⟨S, z, env', p', e, q⟩ := cn
      obtain ⟨d, env1, p1, e1, e2⟩ := bind_ok e
      obtain ⟨⟨d', p2⟩, e3, e4⟩ := Res.bind_ok (show (mf _ p).bind _ = _ from e1)
      cases e4
      obtain ⟨k, env2, p3, e5, e6⟩ := bind_ok e2
      obtain ⟨k', e7, e8⟩ := Res.bind_ok (show (asB d').bind _ = _ from e5)
      cases e8
      cases e6
      cases asB_ok e7
      have rx' := rx
      have ry' := ry
      simp only [Rep] at rx ry
      obtain ⟨a, dx, vs, rfl, h1, l1, r1⟩ := rx
      obtain ⟨b, dy, ws, rfl, h2, l2, r2⟩ := ry
      refine .inr ⟨a, b, dx, dy, _, _, rfl, rfl, S.fh _ _ h1, S.fh _ _ h2, R.q, R.ca, R.sf, R.cells, F, p, _, S.fh, fun hp => Same.seq S.f0 (S.cel (by rw [← S.pnb]; exact hp)), S.pen, .cons rx' (.one ry'), rfl, _, _, e3, fun u F' H' ex ru => ?_⟩
      have ru : Rep R F' (.bl k) u := ru
      simp only [Rep] at ru
      exact ⟨k, ru, q _ F' H' ex.ff (S.ext ex) (by simp [Rep])⟩
    · obtain ⟨z, e, _⟩ := cn.res
      cases e
  · obtain ⟨z, e, q⟩ := cn.res
    left
    cases neg with
    | true => exact ne_d.run cn.S rx ry e q
    | false => exact eq_d.run cn.S rx ry e q⟩
end CS
namespace CS
open PySem L2
open PyProof.Rows (envOfC)

/-! ## __init__ -/
def getI (env : Env') (i : Nat) : Res (Str × List Str × List D) := match env[i]? with
  | some (.ow (.ins c ns ds)) => .ok (c, ns, ds)
  | some (.ro (.ins c ns ds)) => .ok (c, ns, ds)
  | _ => .bad
def getIW (env : Env') (i : Nat) : Res (Str × List Str × List D) := match env[i]? with
  | some (.ow (.ins c ns ds)) => .ok (c, ns, ds)
  | _ => .bad
/-- self.f, self being made -/
def mFldO (i : Nat) (cl : List Str) (f : Str) : M D := fun env p => (getI env i).bind fun r => (fldD cl f (.ins r.1 r.2.1 r.2.2)).bind fun d => .ok (d, env, p)
/-- self.f = e -/
def dFldS (i : Nat) (cl : List Str) (f : Str) (m : M D) : SS := dOf m fun d env p => match getIW env i with
  | .ok (c, ns, ds) => if c ∈ cl ∧ f ∉ ns ∧ ns.length < 1000 ∧ ds.length = ns.length then .nx (env.set i (.ow (.ins c (ns ++ [f]) (ds ++ [d])))) p else .bad
  | _ => .bad
theorem putF_new {f : Str} {y : V} : ∀ {ns : List Str} {vs : List V}, f ∉ ns → vs.length = ns.length → putF f y (ns.zip vs) = (ns ++ [f]).zip (vs ++ [y])
  | [], [], _, _ => rfl
  | [], v :: vs, _, h => by simp at h
  | n :: ns, [], _, h => by simp at h
  | n :: ns, v :: vs, hf, h => by
    have h1 : ¬ n = f := fun e => hf (by rw [e]; exact List.mem_cons_self)
    show (if n = f then (n, y) :: ns.zip vs else (n, v) :: putF f y (ns.zip vs)) = _
    rw [if_neg h1, putF_new (fun z => hf (List.mem_cons_of_mem _ z)) (by simpa using h)]
    rfl
section
variable {X : Cx} {R : RC} {B : Bs} {env : Env'} {p : Pn} {σ : St} {F H : Hp}
theorem getI_ok {i : Nat} {c : Str} {ns : List Str} {ds : List D} (h : getI env i = .ok (c, ns, ds)) (S : SRel R B env p σ F H) : ∃ a dx vs, σ[i]? = some (some (.ref a)) ∧ H a = some (.ins (R.cls c) dx (ns.zip vs)) ∧ vs.length = ns.length ∧ Reps R F ds vs := by
  unfold getI at h
  split at h
  · rename_i e
    cases h
    obtain ⟨a, h1, _, _, _, o⟩ := S.slots i _ e
    rcases o with ⟨ds', vs, e, _⟩ | ⟨_, _, _, dx, vs, _, e, h2, l, r⟩
    · cases e
    · cases e; exact ⟨a, dx, vs, h1, h2, l, r⟩
  · rename_i e
    cases h
    obtain ⟨a, h1, _, _, o⟩ := S.slots i _ e
    rcases o with ⟨ds', vs, e, _⟩ | ⟨_, _, _, dx, vs, _, e, h2, l, r⟩
    · cases e
    · cases e; exact ⟨a, dx, vs, h1, h2, l, r⟩
  · cases h
end
section
variable {X : Cx} {R : RC} {i : Nat} {x : Str} {e : Expr} {m : M D} {f : Str} {pos px pos' : Pos}
theorem de_fldO {cl : List Str} (hK : X.K = R.K) (hF : FldF R cl f) (hv : PE X (.Name x px) (tVar i)) (hb : attributeBase (.Name x px) f X.env (eval (.Name x px) X.env) = eval (.Name x px) X.env) : PE X (.Attribute (.Name x px) f pos) (lE R (mFldO i cl f)) :=
  PE.imp (pe_fld hv hb) fun σ H Q ⟨B, env, p, F, S, d, env', p', e, q⟩ => by
    obtain ⟨⟨c, ns, ds⟩, e1, e2⟩ := Res.bind_ok (show (getI env i).bind _ = _ from e)
    obtain ⟨d', e3, e4⟩ := Res.bind_ok e2
    cases e4
    obtain ⟨a, dx, vs, h1, h2, l, r⟩ := getI_ok e1 S
    unfold fldD at e3
    simp only at e3
    split at e3
    · rename_i hc
      split at e3
      · rename_i d'' hd
        cases e3
        obtain ⟨u, hu, ru⟩ := r.look hd
        rw [hK]
        exact ⟨.ref a, h1, a, R.cls c, dx, _, u, rfl, h2, (hF c hc).1, (hF c hc).2, hu, q u F H (Same.refl _) S ru⟩
      · cases e3
    · cases e3
theorem ds_fldS {cl : List Str} (hK : X.K = R.K) (hF : FldF R cl f) (hv : PE X (.Name x px) (tVar i)) (he : PE X e (lE R m)) (hs : swapsWith e (some (.Attribute (.Name x px) f pos')) pos.line X.env = pure false) : PS X (.Assign [.Attribute (.Name x px) f pos'] e pos) (lS R (dFldS i cl f m)) :=
  PS.imp (ps_fld hv he hs) fun E σ H h => of1 (te := lE R m) (fun h => h) h fun B d v env p F H S r o => by
    split at o
    · rename_i c ns ds hg
      split at o
      · rename_i hc
        have hi : env[i]? = some (.ow (.ins c ns ds)) := by
          unfold getIW at hg
          split at hg
          · rename_i e; cases hg; exact e
          · cases hg
        obtain ⟨a, h1, h2, h3, h4, own⟩ := S.slots i _ hi
        rcases own with ⟨ds', vs, e, _⟩ | ⟨_, _, _, dx, vs, hsf, e, hH, l, rs⟩
        · cases e
        · cases e
          have hz : (ns.zip vs).length < 1000 := by rw [List.length_zip]; omega
          refine ⟨.ref a, h1, a, R.cls c, dx, _, rfl, hH, by rw [hK]; exact (hF c hc.1).1, by rw [hK]; exact (hF c hc.1).2, hz, ?_⟩
          rw [putF_new hc.2.1 l]
          refine o σ F _ (Same.refl _) (S.mut hi h1 (.inr ⟨c, ns ++ [f], ds ++ [d], dx, vs ++ [v], hsf, rfl, upd_same, by simp [l], rs.append (.one r)⟩))
      · exact o.elim
    · exact o.elim
end
def spI (K : PySem.W.Frag) (cls : Str → Addr) (c : Str) (n : Nat) (mf : FD) : Sp := fun vs H Q _ => ∃ (q ca : Addr) (cells : List Int) (F : Hp) (p : Pn) (ds : List D) (vs' : List V) (x dx : Addr), vs = .ref x :: vs' ∧ H x = some (.ins (cls c) dx []) ∧ F x = none ∧ (x ≠ q ∨ p = none) ∧ Same F H ∧
  (p.isSome = true → SqL K F ca (cells.map V.int)) ∧ PenRel ⟨K, cls, q, ca, cells, x⟩ F H p ∧ Reps ⟨K, cls, q, ca, cells, x⟩ F ds vs' ∧ ds.length = n ∧
  ∃ d p', mf ds p = .ok (d, p') ∧ ∀ F' H', Same F F' → Same F' H' → (∀ b o, (b ≠ q ∨ p = none) → b ≠ x → H b = some o → H' b = some o) → (∀ a, F' a ≠ none → F a ≠ none ∨ (a ≠ x ∧ H a = none)) → p'.isSome = p.isSome → PenRel ⟨K, cls, q, ca, cells, x⟩ F' H' p' → F' x = none →
    Own ⟨K, cls, q, ca, cells, x⟩ F' H' d x → Q .non H'
def ownIns (env : Env') : Res D := match env[(0 : Nat)]? with
  | some (.ow (.ins c ns xs)) => .ok (.ins c ns xs)
  | _ => .bad
def initD (c : Str) (n N : Nat) (body : SS) : FD := fun ds p => if ds.length = n then (match body (Slot.ow (.ins c [] []) :: ds.map Slot.pl ++ List.replicate (N - (n + 1)) Slot.un) p with
  | .nx env p' => (ownIns env).bind fun d => .ok (d, p')
  | .exc c xs => .exc c xs
  | _ => .bad) else .bad
theorem initD_len {c : Str} {n N : Nat} {body : SS} (ds : List D) (p : Pn) (r : D × Pn) (h : initD c n N body ds p = .ok r) : ds.length = n := by
  unfold initD at h
  split at h
  · assumption
  · cases h
section
variable {P : Program} {w : World} {K : PySem.W.Frag} {cls : Str → Addr} {mg : Str → Option Value} {base : Heap}
theorem fn_okI {x qual c : Str} {st : Stmt} {f : Addr} {fd : FuncData} {N ps : List Str} {k n : Nat} {body : SS} (F : FunG K x qual st f fd) (Sc : FnScope N ps (defScope st)) (hps : ps.length = n + 1) (hle : ps.length ≤ N.length)
    (hb : ∀ (cdv : Value) (A : Around) (outer : List Env) (s : Shared) (H : Hp) (E : XK) (q ca sf : Addr) (cells : List Int), Room k (A.deeper (envOfC qual (defScope st) s.heap.objs.size f cdv)) →
      PSs (cxOf CX0 P w K mg base N qual (defScope st) f cdv A outer s H E).nox (defBody st) (lS ⟨K, cls, q, ca, cells, sf⟩ body)) :
    FnOk P w K mg base CX0 (k + 1) f fd ps (spI K cls c n (initD c n N.length body)) := by
  refine F.ok Sc (fun vs H Q E h => ?_) (fun cdv A outer s H vs Q E hr h => ?_)
  · obtain ⟨q, ca, cells, F, p, ds, vs', x, dx, rfl, _, _, _, _, _, _, r, hl, _⟩ := h
    rw [List.length_cons, r.length, hl, hps]
  · obtain ⟨q, ca, cells, F, p, ds, vs', x, dx, rfl, hx, hFx, hxq, fh, cel, pen, r, hl, d, p', e, hq⟩ := h
    have lenN : n + 1 ≤ N.length := by omega
    refine ⟨_, hb cdv A outer s H E q ca x cells hr, ⟨F, fun a => if a = x then none else H a, p.isSome⟩, Slot.ow (.ins c [] []) :: ds.map Slot.pl ++ List.replicate (N.length - (n + 1)) Slot.un, p, F, ?_, ?_⟩
    · refine ⟨fh, Same.refl _, fun b o _ h => ?_, fun _ h => .inl h, rfl, pen, cel, ?_, fun i s hi => ?_, fun i j a hij h1 h2 => ?_⟩
      · have h : (if b = x then none else H b) = some o := h
        split at h
        · cases h
        · exact h
      · unfold L2.start
        simp only [List.length_append, List.length_cons, List.length_map, List.length_replicate]
        rw [r.length, hl]
      · cases i with
        | zero =>
          cases hi
          refine ⟨x, rfl, hFx, if_pos rfl, hxq.imp id fun e => by show p.isSome = false; rw [e]; rfl, .inr ⟨c, [], [], dx, [], rfl, rfl, hx, rfl, .nil⟩⟩
        | succ i =>
          have h2 : (L2.start N (V.ref x :: vs'))[i + 1]? = (L2.start (N.drop 1) vs')[i]? := by
            unfold L2.start
            have hl1 : (N.drop 1).length = N.length - 1 := by simp
            rw [hl1]
            show (some (V.ref x) :: vs'.map some ++ _)[i + 1]? = _
            rw [List.cons_append, List.getElem?_cons_succ, List.length_cons]
            rw [show N.length - (vs'.length + 1) = N.length - 1 - vs'.length by omega]
          rw [h2]
          refine r.start i s ?_ _ _
          rw [List.cons_append, List.getElem?_cons_succ] at hi
          rw [List.length_drop, hl, show N.length - 1 - n = N.length - (n + 1) by omega]
          exact hi
      · have only : ∀ i, OwnAt (Slot.ow (.ins c [] []) :: ds.map Slot.pl ++ List.replicate (N.length - (n + 1)) Slot.un) (L2.start N (V.ref x :: vs')) i a → i = 0 := fun i h => by
          cases i with
          | zero => rfl
          | succ i =>
            obtain ⟨⟨s, g1, g2⟩, _⟩ := h
            rw [List.cons_append, List.getElem?_cons_succ] at g1
            rcases List.mem_append.mp (List.mem_of_getElem? g1) with hm | hm
            · obtain ⟨d, _, rfl⟩ := List.mem_map.mp hm
              cases g2
            · rw [List.eq_of_mem_replicate hm] at g2
              cases g2
        exact hij ((only i h1).trans (only j h2).symm)
    · unfold initD at e
      rw [if_pos hl] at e
      split at e
      · rename_i env' p2 hbd
        obtain ⟨d2, he0, e2⟩ := Res.bind_ok e
        cases e2
        unfold ownIns at he0
        split at he0
        · rename_i c' ns xs he
          cases he0
          rw [hbd]
          intro σ' F' H' s' S'
          obtain ⟨a, g1, g2, g3, g4, g5⟩ := S'.slots 0 _ he
          have ha : a = x := by
            rcases g5 with ⟨_, _, e, _⟩ | ⟨_, _, _, _, _, e, _⟩
            · cases e
            · exact e
          subst ha
          refine hq F' H' s' S'.fh (fun b o hb' hbx h => S'.h0 b o (hb'.imp id fun z => by show p.isSome = false; rw [z]; rfl) (by show (if b = a then none else H b) = some o; rw [if_neg hbx]; exact h)) (fun b h => ?_) S'.pnb S'.pen g2 g5
          rcases S'.fresh b h with h1 | h1
          · exact .inl h1
          · have h1 : (if b = a then none else H b) = none := h1
            by_cases hb : b = a
            · subst hb; exact absurd g2 h
            · rw [if_neg hb] at h1
              exact .inr ⟨hb, h1⟩
        · cases he0
      · cases e
      · cases e
end
section
variable {X : Cx} {R : RC} {CX : CXT} {k n : Nat} {f : Addr} {fd : FuncData} {ps : List Str} {dvs : List V} {dv : List Value} {dd : List D} {mf : FD} {x c : Str} {p pos : Pos} {e : Expr} {es : List Expr} {ms : M (List D)}
mutual
theorem Rep.sf {K : PySem.W.Frag} {cls : Str → Addr} {q ca : Addr} {cells : List Int} {s t : Addr} {F : Hp} : ∀ {d : D} {v : V}, Rep ⟨K, cls, q, ca, cells, s⟩ F d v → Rep ⟨K, cls, q, ca, cells, t⟩ F d v
  | .non, _, h => by simpa [Rep] using h
  | .bl _, _, h => by simpa [Rep] using h
  | .int _, _, h => by simpa [Rep] using h
  | .str _, _, h => by simpa [Rep] using h
  | .tup ds, v, h => by
    simp only [Rep] at h ⊢
    obtain ⟨a, vs, e, q, r⟩ := h
    exact ⟨a, vs, e, q, Reps.sf r⟩
  | .lst ds, v, h => by
    simp only [Rep] at h ⊢
    obtain ⟨a, vs, e, q, r⟩ := h
    exact ⟨a, vs, e, q, Reps.sf r⟩
  | .ins c ns ds, v, h => by
    simp only [Rep] at h ⊢
    obtain ⟨a, dx, vs, e, q, l, r⟩ := h
    exact ⟨a, dx, vs, e, q, l, Reps.sf r⟩
  | .pen, _, h => by simpa [Rep] using h
  | .ty _, _, h => by simpa [Rep] using h
  | .cls _, _, h => by simpa [Rep] using h
theorem Reps.sf {K : PySem.W.Frag} {cls : Str → Addr} {q ca : Addr} {cells : List Int} {s t : Addr} {F : Hp} : ∀ {ds : List D} {vs : List V}, Reps ⟨K, cls, q, ca, cells, s⟩ F ds vs → Reps ⟨K, cls, q, ca, cells, t⟩ F ds vs
  | [], _, h => by simpa [Reps] using h
  | d :: ds, _, h => by
    simp only [Reps] at h ⊢
    obtain ⟨v, r, e, h1, h2⟩ := h
    exact ⟨v, r, e, Rep.sf h1, Reps.sf h2⟩
end
theorem make2 (hdd : ∀ F, Reps R F dd dvs) (hn : ∀ ds p r, mf ds p = .ok r → ds.length = n) {σ : St} {H : Hp} {Q : VK} (h : lE R (mCall mf dd ms) σ H Q) : tMake (R.cls c) (spI R.K R.cls c n mf) dvs E0 (lA R ms) σ H Q := by
  obtain ⟨B, env, p, F, cn⟩ := h
  refine cn.sq fun ds vs env1 p1 F1 H1 s1 r1 c1 => ?_
  obtain ⟨S, z, env', p', e, q⟩ := c1
  obtain ⟨⟨d, p2⟩, e1, e2⟩ := Res.bind_ok (show (mf (ds ++ dd) p1).bind _ = _ from e)
  cases e2
  intro x dx hx hdx hne
  -- the heap with the new object
  have ex1 := S.allocO (o := .own x) hdx
  have S1 := S.ext ex1
  have hx1 : (upd H1 dx (.own x)) x = none := by rw [upd_ne hne.symm]; exact hx
  have ex2 := S1.allocO (o := .ins (R.cls c) dx []) hx1
  have S2 := S1.ext ex2
  have hFx : F1 x = none := S.fh.free hx
  refine ⟨R.q, R.ca, R.cells, F1, p1, ds ++ dd, vs ++ dvs, x, dx, rfl, upd_same, hFx, (S.nqOf hx).imp id S.pnone.mp, S2.fh, fun hp => Same.seq S.f0 (S.cel (by rw [← S.pnb]; exact hp)), S2.pen, (r1.append (hdd F1)).sf, hn _ _ _ e1, d, p2, e1, fun F' H' ff fh hh fr pnb pen hF'x own => ?_⟩
  refine ⟨rfl, ?_⟩
  obtain ⟨u, hu, ru⟩ := own.repF hF'x
  -- from the heap before the object was there
  have ex : Ext R F1 H1 p1 (upd F' x u) H' p2 := by
    refine ⟨ff.trans (same_upd hF'x), fun b o h => ?_, fun b o hb h => ?_, fun a h => ?_, pnb, ?_⟩
    · by_cases hbx : b = x
      · subst hbx; rw [upd_same] at h; rw [hu]; exact h
      · rw [upd_ne hbx] at h; exact fh _ _ h
    · have hbx : b ≠ x := ne_of_none h hx
      have hbd : b ≠ dx := ne_of_none h hdx
      exact hh b o hb hbx (by rw [upd_ne hbx, upd_ne hbd]; exact h)
    · by_cases hax : a = x
      · subst hax; exact .inr hx
      · rw [upd_ne hax] at h
        rcases fr a h with h1 | ⟨_, h1⟩
        · exact .inl h1
        · rw [upd_ne hax] at h1
          by_cases had : a = dx
          · subst had; exact .inr hdx
          · rw [upd_ne had] at h1; exact .inr h1
    · cases p2 with
      | none => trivial
      | some P =>
        obtain ⟨g1, g2, g3⟩ := pen
        refine ⟨?_, g2, g3⟩
        have hxq : x ≠ R.q := by
          have hp : p1.isSome = true := pnb.symm
          cases p1 with
          | none => cases hp
          | some P1 => exact S.nq (S.nqOf hx)
        rw [upd_ne (Ne.symm hxq)]; exact g1
  exact q (.ref x) _ H' ex.ff (S.ext ex) ru.sf
theorem de_make (hK : X.K = R.K) {C : Addr} (hC : C = R.cls c) (M : Mk X.K C f) (F : FnOk X.prog X.w X.K X.mg X.base CX k f fd ps (spI R.K R.cls c n mf)) (hn : ∀ ds p r, mf ds p = .ok r → ds.length = n) (hr : Room (k + 1) X.A) (hg : Gl X x) (hm : X.mg x = some (.ref C)) (hb : Binds X.K fd ps dv) (hd : Vals dvs dv) (hdd : ∀ F, Reps R F dd dvs) (hx : Passes CX X E0)
    (ha : PA X (e :: es) (lA R ms)) (hdb : (x == ("__debug__" : Str)) = false := by decide) (he : starEach (e :: es) X.env = (false, eval e X.env) :: starEach es X.env := by rfl) (hpl : (backTo pos (starEach es X.env)).any (·.1) = false := by rfl) :
    PE X (.Call (.Name x p) (e :: es) [] pos) (lE R (mCall mf dd ms)) := by
  subst hC
  exact PE.imp (pe_make M F hr hg hm hb hd hx ha hdb he hpl) fun _ _ _ h => make2 hdd hn h
end
end CS
namespace CS
open PySem L2
open PyProof.Rows (envOfC)

/-! ## names of the module and of the built-ins as values -/
section
variable {X : Cx} {R : RC} {x : Str} {pos : Pos}
theorem de_ty {n : String} (hg : Gl X x) (hm : X.mg x = none) (hv : bootBuiltins x = some (.type n)) (hn : x ≠ "__name__" := by decide) (hd : (x == ("__debug__" : Str)) = false := by decide) : PE X (.Name x pos) (lE R (M.ret (.ty n))) :=
  de_const (v := .ty n) (pe_bltn hg hm hv rfl hn hd) fun _ => by simp [Rep]
theorem de_cls {c : Str} {C : Addr} (hC : C = R.cls c) (hg : Gl X x) (hm : X.mg x = some (.ref C)) (hd : (x == ("__debug__" : Str)) = false := by decide) : PE X (.Name x pos) (lE R (M.ret (.cls c))) :=
  de_const (v := .ref C) (pe_glob hg hm rfl hd) fun _ => by simp [Rep, hC]
theorem de_gint {i : Int} {t : Tok} (hg : Gl X x) (hm : X.mg x = some (.int i t)) (hd : (x == ("__debug__" : Str)) = false := by decide) : PE X (.Name x pos) (lE R (M.ret (.int i))) :=
  de_const (v := .int i) (pe_glob hg hm ⟨t, rfl⟩ hd) fun _ => by simp [Rep]
end

/-! ## built-in calls that make a list which stays free to change -/
structure CallL (R : RC) (r : List V → Hp → VK → Prop) (f : List D → Res D) : Prop where
  run : ∀ {B : Bs} {env : Env'} {p : Pn} {σ : St} {F H : Hp} {xs : List D} {z : D} {vs : List V} {Q : VK}, SRel R B env p σ F H → Reps R F xs vs → f xs = .ok z → (∀ ds ws, z = .lst ds → Reps R F ds ws → ∀ a, H a = none → Q (.ref a) (upd H a (.lst ws))) → r vs H Q
structure OpL (R : RC) (r : R2) (f : D → D → Res D) : Prop where
  run : ∀ {B : Bs} {env : Env'} {p : Pn} {σ : St} {F H : Hp} {x y z : D} {v w : V} {Q : VK}, SRel R B env p σ F H → Rep R F x v → Rep R F y w → f x y = .ok z → (∀ ds ws, z = .lst ds → Reps R F ds ws → ∀ a, H a = none → Q (.ref a) (upd H a (.lst ws))) → r v w H Q
section
variable {R : RC}
theorem list_l : CallL R (fun xs H Q => ∃ p ys, xs = [.ref p] ∧ (SqL R.K H p ys ∨ SqT R.K H p ys) ∧ ∀ l, H l = none → Q (.ref l) (upd H l (.lst ys))) listD := ⟨fun {B env p σ F H xs z vs Q} S r h q => by
  unfold listD at h
  split at h
  · obtain ⟨v, rfl, r1⟩ := r.one1
    cases h
    simp only [Rep] at r1
    obtain ⟨a, ws, rfl, h1, r1⟩ := r1
    exact ⟨a, ws, rfl, .inl (SqL.of (S.fh _ _ h1)), q _ _ rfl r1⟩
  · obtain ⟨v, rfl, r1⟩ := r.one1
    cases h
    simp only [Rep] at r1
    obtain ⟨a, ws, rfl, h1, r1⟩ := r1
    exact ⟨a, ws, rfl, .inr (Same.sqt S.fh h1), q _ _ rfl r1⟩
  · cases h⟩
theorem sorted_l : CallL R (rSortedI R.K) sortedI := ⟨fun {B env p σ F H xs z vs Q} S r h q => by
  unfold sortedI at h
  split at h
  · obtain ⟨is, h1, h2⟩ := Res.bind_ok h
    cases h2
    cases toInts_ok h1
    obtain ⟨v, rfl, r1⟩ := r.one1
    simp only [Rep] at r1
    obtain ⟨a, ws, rfl, g1, r1⟩ := r1
    cases Reps.ints r1
    refine ⟨a, is, rfl, SqL.of (S.fh _ _ g1), fun ns' l h1 h2 hn => ?_⟩
    have e : ns' = sortI is := sorted_unique (h1.trans (sortI_perm is).symm) h2 (sortI_sorted is)
    subst e
    exact q _ _ rfl (Reps.of_ints _) l hn
  · cases h⟩
theorem mulL_l : OpL R rRep mulL := ⟨fun {B env p σ F H x y z v w Q} S rx ry h q => by
  unfold mulL at h
  split at h
  · split at h
    · rename_i k hz
      obtain ⟨rfl, hl⟩ := mkL_ok h
      simp only [Rep] at rx ry
      obtain ⟨a, vs, e, h1, r1⟩ := rx
      refine ⟨a, k, vs, e, ry, S.fh _ _ h1, hz.2, hz.1, ?_, q _ _ rfl (r1.flat k.toNat)⟩
      rw [r1.length]
      simpa [List.length_flatten, List.map_replicate, List.sum_replicate_nat, Nat.mul_comm] using hl
    · cases h
  · cases h⟩
theorem addL_l : OpL R rCat addL := ⟨fun {B env p σ F H x y z v w Q} S rx ry h q => by
  unfold addL at h
  split at h
  · obtain ⟨rfl, hz⟩ := mkL_ok h
    simp only [Rep] at rx ry
    obtain ⟨a, vs, e, h1, r1⟩ := rx
    obtain ⟨b, ws, e', h2, r2⟩ := ry
    refine ⟨a, b, vs, ws, e, e', S.fh _ _ h1, S.fh _ _ h2, ?_, q _ _ rfl (r1.append r2)⟩
    rw [r1.length, r2.length, ← List.length_append]; exact hz
  · cases h⟩
end
section
variable {X : Cx} {R : RC} {e a b : Expr} {es : List Expr} {m n : M D} {ms : M (List D)} {pos ps : Pos}
theorem cbL {r : List V → Hp → VK → Prop} {f : List D → Res D} (hd : CallL R r f) {σ : St} {H : Hp} {Q : VK} (h : lF R (mCB f ms) σ H Q) : tCB r (lA R ms) σ H Q := by
  obtain ⟨B, env, p, F, S, d, env', p', e, q⟩ := h
  obtain ⟨ds, env1, p1, e1, e2⟩ := bind_ok (show (ms >>= _) env p = _ from e)
  obtain ⟨z, e3, e4⟩ := Res.bind_ok (show (f ds).bind _ = _ from e2)
  cases e4
  refine ⟨B, env, p, F, S, ds, env', p', e1, fun vs F' H' s S' r => hd.run S' r e3 fun zs ws hz rz a hn => ?_⟩
  subst hz
  obtain ⟨g1, g2⟩ := S'.newO rz hn
  exact q a F' _ s g1 g2
theorem opL2 {r : R2} {f : D → D → Res D} (hd : OpL R r f) {σ : St} {H : Hp} {Q : VK} (h : lF R (m2 f m n) σ H Q) : tOp r (lE R m) (lE R n) σ H Q := by
  obtain ⟨B, env, p, F, S, d, env', p', e, q⟩ := h
  obtain ⟨x, env1, p1, e1, e2⟩ := bind_ok (show (m >>= _) env p = _ from e)
  obtain ⟨y, env2, p2, e3, e4⟩ := bind_ok e2
  obtain ⟨z, e5, e6⟩ := Res.bind_ok (show (f x y).bind _ = _ from e4)
  cases e6
  refine ⟨B, env, p, F, S, x, env1, p1, e1, fun v F1 H1 s1 S1 r1 => ⟨B, env1, p1, F1, S1, y, env', p', e3, fun w F2 H2 s2 S2 r2 => hd.run S2 (r1.mono s2) r2 e5 fun zs ws hz rz a hn => ?_⟩⟩
  subst hz
  obtain ⟨g1, g2⟩ := S2.newO rz hn
  exact q a F2 _ (s1.trans s2) g1 g2
theorem df_callB {r : List V → Hp → VK → Prop} {f : List D → Res D} {id : String} {x : Str} (hc : CallR X (.builtin id) r) (hd : CallL R r f) (hg : Gl X x) (hm : X.mg x = none) (hv : bootBuiltins x = some (.builtin id)) (ha : PA X (e :: es) (lA R ms)) (hn : x ≠ "__name__" := by decide) (hdb : (x == ("__debug__" : Str)) = false := by decide)
    (he : starEach (e :: es) X.env = (false, eval e X.env) :: starEach es X.env := by rfl) (hpl : (backTo pos (starEach es X.env)).any (·.1) = false := by rfl) : PE X (.Call (.Name x ps) (e :: es) [] pos) (lF R (mCB f ms)) :=
  PE.imp (pe_callB hc hg hm hv ha hn hdb he hpl) fun _ _ _ h => cbL hd h
theorem df_callTy {r : List V → Hp → VK → Prop} {f : List D → Res D} {T : String} {x : Str} (hc : CallR X (.type T) r) (hd : CallL R r f) (hg : Gl X x) (hm : X.mg x = none) (hv : bootBuiltins x = some (.type T)) (ha : PA X (e :: es) (lA R ms)) (hn : x ≠ "__name__" := by decide) (hdb : (x == ("__debug__" : Str)) = false := by decide)
    (he : starEach (e :: es) X.env = (false, eval e X.env) :: starEach es X.env := by rfl) (hpl : (backTo pos (starEach es X.env)).any (·.1) = false := by rfl) : PE X (.Call (.Name x ps) (e :: es) [] pos) (lF R (mCB f ms)) :=
  PE.imp (pe_callTy hc hg hm hv ha hn hdb he hpl) fun _ _ _ h => cbL hd h
theorem df_op {op : Operator} {r : R2} {f : D → D → Res D} (ho : OpR X (binaryOp op) r) (hd : OpL R r f) (ha : PE X a (lE R m)) (hb : PE X b (lE R n)) : PE X (.BinOp a op b pos) (lF R (m2 f m n)) :=
  PE.imp (pe_op ho ha hb) fun _ _ _ h => opL2 hd h
/-- x.remove(e), ints -/
def mRemove (i : Nat) (m : M D) : M D := mChk i >>= fun _ => m >>= fun k => mGetW i >>= fun ds => M.res ((asI k).bind fun k => (toInts ds).bind fun is => if k ∈ is then .ok (is.erase k) else .bad) >>= fun is => mPut i (is.map D.int) >>= fun _ => M.ret .non
end
end CS
namespace CS
open PySem L2
open PyProof.Rows (envOfC)

/-! ## the source of draws -/
def Pen.read (P : Pen) : Pen :=
  if P.digits = 0 ∧ P.at_ < P.cells.length then
    (if 10 ^ 18 ≤ P.cells.getD P.at_ 0 then { P with at_ := P.at_ + 1, digits := P.cells.getD P.at_ 0 - 10 ^ 18 }
    else { P with at_ := P.at_ + 1, fold := (P.fold * 69069 + P.cells.getD P.at_ 0).fmod 2147483587 })
  else P
def Pen.tell (P : Pen) (m : Int) : Int × Pen :=
  if 0 < P.digits then (P.digits.fmod m, { P with digits := P.digits.fdiv m })
  else ((((((P.fold + (P.count : Int) * 7907 + 37) ^ 17).fmod 2305843009213693951).fdiv 128).fmod m), P)
def Pen.step (P : Pen) (m : Int) : Int × Pen := (Pen.read { P with count := P.count + 1 }).tell m
def drawF : FD := fun ds p => match ds, p with
  | [.pen, .int m], some P => if 0 < m ∧ m < 1073741824 ∧ 0 ≤ P.fold ∧ P.fold < 2147483648 ∧ P.count < 2 ^ 50 then .ok (.int (P.step m).1, some (P.step m).2) else .bad
  | _, _ => .bad
structure Pen.Ok (P : Pen) (n : Nat) : Prop where
  f0 : 0 ≤ P.fold
  f1 : P.fold < 2147483648
  c : P.count ≤ n
theorem Pen.read_ok {P : Pen} {n : Nat} (h : P.Ok n) : P.read.Ok n ∧ P.read.count = P.count ∧ P.read.cells = P.cells := by
  unfold Pen.read
  split
  · split
    · exact ⟨⟨h.f0, h.f1, h.c⟩, rfl, rfl⟩
    · refine ⟨⟨?_, ?_, h.c⟩, rfl, rfl⟩
      · show 0 ≤ Int.fmod _ _
        exact Int.fmod_nonneg_of_pos _ (by decide)
      · show Int.fmod _ _ < _
        have := Int.fmod_lt_of_pos (P.fold * 69069 + P.cells.getD P.at_ 0) (show (0 : Int) < 2147483587 by decide)
        omega
  · exact ⟨h, rfl, rfl⟩
theorem Pen.tell_ok {P : Pen} {n : Nat} {m : Int} (h : P.Ok n) (hm : 0 < m) : (P.tell m).2.Ok n ∧ 0 ≤ (P.tell m).1 ∧ (P.tell m).1 < m := by
  unfold Pen.tell
  split
  · exact ⟨⟨h.f0, h.f1, h.c⟩, Int.fmod_nonneg_of_pos _ hm, Int.fmod_lt_of_pos _ hm⟩
  · exact ⟨h, Int.fmod_nonneg_of_pos _ hm, Int.fmod_lt_of_pos _ hm⟩
/-- a draw: some number below, the pen goes on -/
theorem draw_ok {P : Pen} {n : Nat} {m : Int} (h : P.Ok n) (hm : 0 < m) (h1 : m < 1073741824) (hn : n < 2 ^ 50) :
    ∃ r P', drawF [.pen, .int m] (some P) = .ok (.int r, some P') ∧ 0 ≤ r ∧ r < m ∧ P'.Ok (n + 1) := by
  have h2 : Pen.Ok { P with count := P.count + 1 } (n + 1) := ⟨h.f0, h.f1, Nat.succ_le_succ h.c⟩
  have h3 := (Pen.read_ok h2).1
  have h4 := Pen.tell_ok h3 hm
  refine ⟨_, _, if_pos ⟨hm, h1, h.f0, h.f1, Nat.lt_of_le_of_lt h.c hn⟩, h4.2.1, h4.2.2, h4.1⟩
theorem drawF_len (ds : List D) (p : Pn) (r : D × Pn) (h : drawF ds p = .ok r) : ds.length = ["pen", "many"].length := by
  unfold drawF at h
  split at h
  · rfl
  · cases h
theorem drawF_inv {ds : List D} {p : Pn} {d : D} {p' : Pn} (h : drawF ds p = .ok (d, p')) : ∃ m P, ds = [.pen, .int m] ∧ p = some P ∧ 0 < m ∧ m < 1073741824 ∧ 0 ≤ P.fold ∧ P.fold < 2147483648 ∧ P.count < 2 ^ 50 ∧ d = .int (P.step m).1 ∧ p' = some (P.step m).2 := by
  unfold drawF at h
  split at h
  · split at h
    · rename_i m P hc
      cases h
      exact ⟨m, P, rfl, rfl, hc.1, hc.2.1, hc.2.2.1, hc.2.2.2.1, hc.2.2.2.2, rfl, rfl⟩
    · cases h
  · cases h
section
variable {P : Pen} {ca : Addr}
theorem pk_count : valV (penK P ca) (.inr "count") = some (.int P.count) := rfl
theorem pk_digits : valV (penK P ca) (.inr "digits") = some (.int P.digits) := rfl
theorem pk_at : valV (penK P ca) (.inr "at") = some (.int P.at_) := rfl
theorem pk_cells : valV (penK P ca) (.inr "cells") = some (.ref ca) := rfl
theorem pk_fold : valV (penK P ca) (.inr "fold") = some (.int P.fold) := rfl
theorem pp_count {n : Nat} : putK (penK P ca) (.inr "count") (.int n) = penK { P with count := n } ca := rfl
theorem pp_at {n : Nat} : putK (penK P ca) (.inr "at") (.int n) = penK { P with at_ := n } ca := rfl
theorem pp_digits {z : Int} : putK (penK P ca) (.inr "digits") (.int z) = penK { P with digits := z } ca := rfl
theorem pp_fold {z : Int} : putK (penK P ca) (.inr "fold") (.int z) = penK { P with fold := z } ca := rfl
end
end CS
namespace CSW
open PySem PySem.Spec PySem.W L2
open PyProof.Rows (boot_enumerate)
/-! ## enumerate of a tuple -/
def Itet (K : PySem.W.Frag) (a : Addr) : It :=
  ⟨fun i H => ∃ (xs : List V) (x : V), SqT K H a xs ∧ xs[i]? = some x, fun i H v H' => ∃ T x, v = .ref T ∧ H T = none ∧ H' = upd H T (.tup [.int (i : Nat), x]) ∧ ∀ xs, SqT K H a xs → xs[i]? = some x, fun i H => ∃ xs : List V, SqT K H a xs ∧ xs.length ≤ i⟩
theorem turn_enumT {P : Program} {w : World} {K : PySem.W.Frag} {elts : List Expr} {kk : Nat} {tpos : Pos} (a e it : Addr) :
    Turn P w K (.Tuple elts kk tpos) (Itet K a) [e, it] e (fun i h => (∃ old, IsEnum h e it ((i : Nat) : Int) old) ∧ h.IsTupleIter it a i ∧ e ≠ it ∧ a ≠ it ∧ a ≠ e) where
  mem := by simp
  obj := fun i h st b hb => by
    obtain ⟨⟨old, he⟩, ⟨o, ho, hc, hd⟩, _⟩ := st
    have e' : b = e ∨ b = it := by simpa using hb
    rcases e' with z | z
    · rw [z]; exact ⟨_, he, fun v q => nomatch q⟩
    · rw [z]; exact ⟨o, ho, fun v q => by rw [hd] at q; cases q⟩
  keep := fun i h h' st k => let ⟨⟨old, he⟩, hi, hne⟩ := st; ⟨⟨old, k e (by simp) _ he⟩, hi.at fun o q => k it (by simp) o q, hne⟩
  item := by
    intro X hP hw hK hc i pins s σ H E I hf st hg
    subst hP hw hK
    obtain ⟨⟨old, he⟩, hit, hne, hai, hae⟩ := st
    obtain ⟨xs, x, hq, hx⟩ := hg
    obtain ⟨its, rv, p, hz⟩ := I.tuple hq
    have p' : s.heap.IsTuple a its.toArray := p
    obtain ⟨u, hu, ru⟩ := rv.get hx
    have hel : e < s.heap.objs.size := Heap.lt_size he
    have hil : it < s.heap.objs.size := by obtain ⟨_, q, _⟩ := hit; exact Heap.lt_size q
    have hlt : i < its.toArray.size := by
      have := (List.getElem?_eq_some_iff.mp hu).1
      simpa using this
    refine wpAny_pyNext_enum_itemD (Draws.tuple (A := X.A.in1) (I.ok.hd hc) it a hai its.toArray) he ⟨hit, p'⟩ hlt hne (by simp [hne, hae.symm]) fun u' h' tk hu' ho hit' hT hsz hk => ?_
    obtain rfl : u' = u := by
      have : its.toArray[i]? = some u := by simpa using hu
      rw [this] at hu'; exact (Option.some.inj hu').symm
    refine ⟨_, rfl, wpAny_letOwnedTupleGo_enum (s := { s with heap := h', toks := tk + 1 }) ho fun h'' he' sb => ?_⟩
    have hT2 : h''.get? s.heap.objs.size = some { cls := .type "tuple", data := .seq #[.int i tk, u'] } := (sb.2 _ (Nat.ne_of_gt hel)).trans hT
    have new : ObjOk X.prog X.w (upd H s.heap.objs.size (.tup [.int (i : Nat), x])) h'' s.heap.objs.size (.tup [.int (i : Nat), x]) :=
      ⟨by show 2 ≤ sizeLine; decide, [.int i tk, u'], .cons ⟨_, rfl⟩ (.cons ru .nil), ⟨_, hT2, rfl, _, rfl⟩⟩
    have I1 : Inv X pins σ (upd H s.heap.objs.size (.tup [.int (i : Nat), x])) { s with heap := h'', toks := tk + 1 } :=
      I.turnedNew (ch := [e, it]) (fun b ob hb q => (sb.2 b (fun z => hb (by simp [z]))).trans (hk b ob (fun z => hb (by simp [z])) (fun z => hb (by simp [z])) q)) hf (Nat.le_refl _) new
    refine ⟨.ref s.heap.objs.size, _, I1, rfl, ⟨_, x, rfl, I.hok.fresh (Nat.le_refl _), rfl, fun ys hy => by rw [I.tuple_inj hy hq]; exact hx⟩, ⟨⟨u', ?_⟩, hit'.1.at fun o q => (sb.2 it (Ne.symm hne)).trans q, hne, hai, hae⟩, fun b hb => ?_⟩
    · have e1 : ((i + 1 : Nat) : Int) = (i : Int) + 1 := by omega
      rw [e1]; exact he'
    · have hb' : b < s.heap.objs.size := by
        have e' : b = e ∨ b = it := by simpa using hb
        rcases e' with z | z
        · rw [z]; exact hel
        · rw [z]; exact hil
      rw [upd_ne (Nat.ne_of_lt hb')]
      exact (hf b hb).1
  done := by
    intro X hP hw hK hc i pins s σ H E I hf st hg
    subst hP hw hK
    obtain ⟨⟨old, he⟩, hit, hne, hai, hae⟩ := st
    obtain ⟨xs, hq, hx⟩ := hg
    obtain ⟨its, rv, p, hz⟩ := I.tuple hq
    have p' : s.heap.IsTuple a its.toArray := p
    obtain ⟨f0, f1, f2, f3, f4, f5⟩ := hf it (by simp)
    have hl := rv.length
    unfold pyNext
    have hT : s.TypeIs (.ref e) "enumerate" := ⟨_, he, rfl⟩
    refine wpAny_bind (wpAny_attempt (wpAny_callSpecial?_slot (name := Str.ofString "__next__") hT F.slot_enumerate_next
      (wpAny_call_entry F.slot_enumerate_next hT F.entry_enumerate_next ?_ (F.args_enumerate_next_1 _))))
    show wpAny _ _ (field (.ref e) 2 >>= _) _ _ _
    refine wpAny_bind (wpAny_field he rfl (x := .ref it) rfl ?_)
    refine wpAny_bind (wpAny_nextOf_tuple_end (A := X.A.in1) (I.ok.hd hc) hit p' (by simp; omega) fun h' x eb hx' => ?_)
    obtain ⟨o, ho, hc'⟩ := hx'
    refine wpAny_bind (wpAny_isInstance (T := "StopIteration") (b := true) ⟨o, ho, hc'⟩ isSubtype_stop ?_)
    exact wpAny_pure ⟨rfl, I.turned (t' := s.toks) (fun b o hb q => eb b o hb q) f0 f1 f3 f4 f5⟩
  self := fun A i s Q E st h => let ⟨⟨_, he⟩, _⟩ := st; wpAny_pyIter_enum he h
end CSW
namespace CSW
open PySem PySem.Spec PySem.W L2
open Sem (wp)
open PyProof.Rows (boot_enumerate)
theorem meets_enumerate_newB1 {v : Value} {o : Obj} {H : Heap → Prop} (B : Begins v o H) :
    Meets (Builtin.«enumerate.__new__» ⟨[.type "enumerate", v], []⟩) (fun _ R s => H s.heap ∧
      R (.ok (.ret (.ref (s.heap.push o).objs.size))) { s with heap := (s.heap.push o).push { cls := .type "enumerate", data := .fields #[.none, .bool false, .ref s.heap.objs.size, rawInt 0, .none, .none] } }) :=
  .of_wp fun prog w A R s h => by
    obtain ⟨hp, g, d, tk, os⟩ := s; obtain ⟨h1, h⟩ := h
    have hsub := sub_enumerate
    have q1 : ∀ {A' : Around} {E : Value → Shared → Prop} {Q : Value → Shared → Prop}, Q (.ref hp.objs.size) ⟨hp.push o, g, d, tk, os⟩ → wpAny (model prog w) A' (pyIter v) Q E ⟨hp, g, d, tk, os⟩ :=
      fun q => B.iter prog w _ _ ⟨hp, g, d, tk, os⟩ _ h1 q
    wp_walk using q1
    refine wpAny_stack_any fun st => wpAny_pure ?_
    split
    · rename_i c _ _ _ _ _
      cases (c == Value.type "enumerate")
      · wp_walk using q1
        exact ⟨_, rfl, h⟩
      · wp_walk using q1
        exact ⟨_, rfl, h⟩
    · wp_walk using q1
      exact ⟨_, rfl, h⟩
theorem call_enumerate_B {prog : Program} {w : World} {A : Around} {E : Value → Shared → Prop} {s : Shared} {v : Value} {o : Obj} {H : Heap → Prop} {Q : Value → Shared → Prop} (B : Begins v o H) (h1 : H s.heap)
    (h : ∀ h', IsEnum h' (s.heap.objs.size + 1) s.heap.objs.size 0 .none → h'.get? s.heap.objs.size = some o → h'.objs.size = s.heap.objs.size + 2 →
      (∀ b o, s.heap.get? b = some o → h'.get? b = some o) → Q (.ref (s.heap.objs.size + 1)) { s with heap := h' }) :
    wpAny (model prog w) A (call (.type "enumerate") [v]) Q E s := by
  refine callType_new F.called_enumerate (by decide) (F.typeCall_enumerate_1 _) (F.newCall_enumerate_1 _) (fun obj => F.args_object_init_2 obj _) F.entry_enumerate_new
    (meets_enumerate_newB1 B) ⟨h1, ?_⟩
  have hz : (s.heap.push o).objs.size = s.heap.objs.size + 1 := Heap.size_push ..
  show _ ∧ _
  rw [hz]
  have he : IsEnum ((s.heap.push o).push { cls := .type "enumerate", data := .fields #[.none, .bool false, .ref s.heap.objs.size, rawInt 0, .none, .none] }) (s.heap.objs.size + 1) s.heap.objs.size 0 .none := by
    have := Heap.get?_push_size (s.heap.push o) (o := { cls := .type "enumerate", data := .fields #[.none, .bool false, .ref s.heap.objs.size, rawInt 0, .none, .none] }) rfl
    rw [hz] at this; exact this
  refine ⟨⟨_, he, rfl⟩, h _ he (Heap.get?_push_of_some _ (Heap.get?_push_size _ B.free)) (by rw [Heap.size_push, hz]) fun b o x => Heap.get?_push_of_some _ (Heap.get?_push_of_some _ x)⟩
/-- enumerate of a list or a tuple -/
def iEnumA (K : PySem.W.Frag) (ta : TA) : TI := fun σ H R => ta σ H fun vs H1 => ∃ a xs, vs = [.ref a] ∧ ((SqL K H1 a xs ∧ R (Ite K a) H1) ∨ (SqT K H1 a xs ∧ R (Itet K a) H1))
theorem pi_enumA {X : Cx} {e : Expr} {ta : TA} {p pos tpos : Pos} {elts : List Expr} {kk : Nat} (hg : Gl X "enumerate") (hm : X.mg "enumerate" = none) (ha : PA X [e] ta) (hs : starEach [e] X.env = [(false, eval e X.env)] := by rfl) :
    PI X (.Tuple elts kk tpos) (.Call (.Name "enumerate" p) [e] [] pos) (iEnumA X.K ta) := by
  refine ⟨fun pins s σ H R I h => ?_⟩
  refine PyProof.Rows.Call_ (ld_blt I hg hm boot_enumerate (PyProof.Rows.callWith_type1 (thn (ha.run pos pins s σ H _ I h) fun us s1 ⟨vs, H1, I1, r1, q1⟩ => ?_) hs rfl))
  obtain ⟨a, xs, ex, hq⟩ := q1
  subst ex
  cases r1 with
  | cons r rr =>
    cases rr
    cases r
    rcases hq with ⟨hq, q⟩ | ⟨hq, q⟩
    · obtain ⟨its, rv, p', hz⟩ := I1.list hq
      refine call_enumerate_list p'.isList fun h' he hit hsz hk => wpAny_pyIter_enum he ?_
      have I2 : Inv X pins σ H1 { s1 with heap := h' } := I1.kept (t' := s1.toks) hk
      refine ⟨s1.heap.objs.size + 1, [s1.heap.objs.size + 1, s1.heap.objs.size], _, _, H1, rfl, I2, turn_enum a (s1.heap.objs.size + 1) s1.heap.objs.size, ⟨⟨.none, he⟩, hit, Nat.succ_ne_self _⟩, fun b hb => ?_, q⟩
      have e' : b = s1.heap.objs.size + 1 ∨ b = s1.heap.objs.size := by simpa using hb
      have hle : s1.heap.objs.size ≤ b := by
        rcases e' with z | z
        · rw [z]; exact Nat.le_add_right _ _
        · rw [z]; exact Nat.le_refl _
      exact I1.fpOk hle (I1.hok.fresh hle)
    · obtain ⟨its, rv, p', hz⟩ := I1.tuple hq
      have p2 : s1.heap.IsTuple a its.toArray := p'
      refine call_enumerate_B (begins_tuple a its.toArray) p2 fun h' he hit hsz hk => wpAny_pyIter_enum he ?_
      have I2 : Inv X pins σ H1 { s1 with heap := h' } := I1.kept (t' := s1.toks) hk
      have hal : a < s1.heap.objs.size := by obtain ⟨_, q, _⟩ := p2; exact Heap.lt_size q
      refine ⟨s1.heap.objs.size + 1, [s1.heap.objs.size + 1, s1.heap.objs.size], _, _, H1, rfl, I2, turn_enumT a (s1.heap.objs.size + 1) s1.heap.objs.size, ⟨⟨.none, he⟩, ⟨_, hit, rfl, rfl⟩, Nat.succ_ne_self _, Nat.ne_of_lt hal, Nat.ne_of_lt (Nat.lt_succ_of_lt hal)⟩, fun b hb => ?_, q⟩
      have e' : b = s1.heap.objs.size + 1 ∨ b = s1.heap.objs.size := by simpa using hb
      have hle : s1.heap.objs.size ≤ b := by
        rcases e' with z | z
        · rw [z]; exact Nat.le_add_right _ _
        · rw [z]; exact Nat.le_refl _
      exact I1.fpOk hle (I1.hok.fresh hle)

end CSW
namespace CS
open PySem L2
open PyProof.Rows (envOfC)
section
variable {X : Cx} {R : RC} {e e2 : Expr} {m n : M D} {pos p p2 pos2 tpos : Pos}
theorem di_enum {elts : List Expr} {kk : Nat} (hK : X.K = R.K) (hg : Gl X "enumerate") (hm : X.mg "enumerate" = none) (ha : PE X e (lE R m)) (hs : starEach [e] X.env = [(false, eval e X.env)] := by rfl) :
    PI X (.Tuple elts kk tpos) (.Call (.Name "enumerate" p) [e] [] pos) (lI R (mEnum m)) :=
  PI.imp (CSW.pi_enumA hg hm (pa_cons ha pa_nil hs) hs) fun σ H Rr ⟨B, env, p, F, S, ds, env', p', e, q⟩ => by
    have c : Cn R (fun F' (ds : List D) (J : It) => Yl R J F' ds) (mEnum m) Rr σ B env p F H := ⟨S, ds, env', p', e, q⟩
    refine c.sq fun d v env1 p1 F1 H1 s1 r1 c1 => ?_
    obtain ⟨ds, e, q⟩ := c1.res
    have S := c1.S
    rw [hK]
    obtain ⟨es, e1, e2⟩ := Res.bind_ok e
    cases e2
    unfold D.row at e1
    split at e1
    · rename_i xs
      cases e1
      simp only [Rep] at r1
      obtain ⟨a, vs, rfl, h, r⟩ := r1
      refine ⟨a, vs, rfl, .inl ⟨SqL.of (S.fh _ _ h), q _ _ _ (Same.refl _) S ⟨fun F3 H3 s s3 => ?_, fun i d F3 H3 s s3 hd => ?_⟩⟩⟩
      · refine ⟨vs, SqL.of (s3 _ _ (s _ _ h)), ?_⟩
        rw [r.length, enumL_length]; omega
      · rw [enumL_get] at hd
        cases hx : es[i]? with
        | none => rw [hx] at hd; cases hd
        | some x =>
          rw [hx] at hd
          cases hd
          obtain ⟨u, hu, ru⟩ := r.get hx
          refine ⟨⟨vs, u, SqL.of (s3 _ _ (s _ _ h)), hu⟩, fun z H4 ⟨T, x1, e1, e2, e3, k1⟩ => .inr ?_⟩
          have g1 := k1 vs (SqL.of (s3 _ _ (s _ _ h)))
          rw [hu] at g1; cases g1
          refine ⟨T, _, _, e2, e3, e1, rfl, .cons ?_ (.one (ru.mono s))⟩
          rw [Nat.zero_add]
          simp [Rep]
    · rename_i xs
      cases e1
      simp only [Rep] at r1
      obtain ⟨a, vs, rfl, h, r⟩ := r1
      refine ⟨a, vs, rfl, .inr ⟨Same.sqt S.fh h, q _ _ _ (Same.refl _) S ⟨fun F3 H3 s s3 => ?_, fun i d F3 H3 s s3 hd => ?_⟩⟩⟩
      · refine ⟨vs, Same.sqt (s.trans s3) h, ?_⟩
        rw [r.length, enumL_length]; omega
      · rw [enumL_get] at hd
        cases hx : es[i]? with
        | none => rw [hx] at hd; cases hd
        | some x =>
          rw [hx] at hd
          cases hd
          obtain ⟨u, hu, ru⟩ := r.get hx
          refine ⟨⟨vs, u, Same.sqt (s.trans s3) h, hu⟩, fun z H4 ⟨T, x1, e1, e2, e3, k1⟩ => .inr ?_⟩
          have g1 := k1 vs (Same.sqt (s.trans s3) h)
          rw [hu] at g1; cases g1
          refine ⟨T, _, _, e2, e3, e1, rfl, .cons ?_ (.one (ru.mono s))⟩
          rw [Nat.zero_add]
          simp [Rep]
    · cases e1
/-- list(range(e)) -/
def rgL (d : D) : Res D := (asI d).bind fun n => if n ≤ 16777216 ∧ -(2 ^ 62) ≤ n then .ok (.lst ((List.range n.toNat).map fun (i : Nat) => D.int i)) else .bad
theorem reps_range {F : Hp} : ∀ (l : List Nat), Reps R F (l.map fun (i : Nat) => D.int i) (l.map fun (i : Nat) => V.int i)
  | [] => by simp [Reps]
  | a :: l => .cons (by simp [Rep]) (reps_range l)
theorem rgV0 (n : Int) : rgV 0 n = (List.range n.toNat).map fun (i : Nat) => V.int i := by
  unfold rgV
  simp
theorem df_listRg (hc : X.calm = true) (hg : Gl X "list") (hm : X.mg "list" = none) (hg2 : Gl X "range") (hm2 : X.mg "range" = none) (ha : PE X e (lE R m)) (na : starEach [e] X.env = (false, eval e X.env) :: starEach [] X.env := by rfl)
    (na2 : starEach [.Call (.Name "range" p2) [e] [] pos2] X.env = (false, eval (.Call (.Name "range" p2) [e] [] pos2) X.env) :: starEach [] X.env := by rfl) :
    PE X (.Call (.Name "list" p) [.Call (.Name "range" p2) [e] [] pos2] [] pos) (lF R (m1 rgL m)) :=
  PE.imp (pe_listRg hc hg hm (prg_1 hg2 hm2 ha na) na2) fun σ H Q ⟨B, env, p, F, S, d, env', p', e, q⟩ => by
    obtain ⟨x, env1, p1, e1, e2⟩ := bind_ok (show (m >>= _) env p = _ from e)
    obtain ⟨z, e3, e4⟩ := Res.bind_ok (show (rgL x).bind _ = _ from e2)
    cases e4
    obtain ⟨n, e5, e6⟩ := Res.bind_ok e3
    cases asI_ok e5
    split at e6
    · rename_i hz
      cases e6
      refine ⟨B, env, p, F, S, _, env', p', e1, fun v F' H' s S' r => ?_⟩
      simp only [Rep] at r
      refine ⟨n, r, ⟨by omega, by omega, by omega, by omega, by omega⟩, fun a hn => ?_⟩
      rw [rgV0]
      obtain ⟨g1, g2⟩ := S'.newO (reps_range (List.range n.toNat)) hn
      exact q a F' _ s g1 g2
    · cases e6
end
end CS
namespace CS
open PySem L2
/-! ## sorted of pairs of small numbers (by one number for each) -/
def encT : D → Int
  | .tup [.int i, .int j] => i * 4096 + j
  | _ => 0
def encP : D → Res Int
  | .tup [.int i, .int j] => if 0 ≤ i ∧ i < 4096 ∧ 0 ≤ j ∧ j < 4096 then .ok (i * 4096 + j) else .bad
  | _ => .bad
def decP (c : Int) : D := .tup [.int (c / 4096), .int (c % 4096)]
def toEnc : List D → Res (List Int)
  | [] => .ok []
  | d :: r => (encP d).bind fun c => (toEnc r).bind fun cs => .ok (c :: cs)
def GoodC (c : Int) : Prop := 0 ≤ c ∧ c < 16777216
theorem encT_dec {c : Int} : encT (decP c) = c := by
  show c / 4096 * 4096 + c % 4096 = c
  omega
theorem encP_ok {d : D} {c : Int} (h : encP d = .ok c) : d = decP c ∧ GoodC c := by
  unfold encP at h
  split at h
  · split at h
    · rename_i i j hb
      cases h
      have e1 : (i * 4096 + j) / 4096 = i := by omega
      have e2 : (i * 4096 + j) % 4096 = j := by omega
      exact ⟨by unfold decP; rw [e1, e2], by unfold GoodC; omega⟩
    · cases h
  · cases h
theorem toEnc_ok : ∀ {ds : List D} {cs : List Int}, toEnc ds = .ok cs → ds = cs.map decP ∧ ∀ c ∈ cs, GoodC c
  | [], cs, h => by cases h; exact ⟨rfl, fun _ h => by cases h⟩
  | d :: r, cs, h => by
    obtain ⟨c, h1, h2⟩ := Res.bind_ok (show (encP d).bind _ = _ from h)
    obtain ⟨cs', h3, h4⟩ := Res.bind_ok h2
    cases h4
    obtain ⟨rfl, g⟩ := encP_ok h1
    obtain ⟨rfl, gs⟩ := toEnc_ok h3
    refine ⟨rfl, fun x hx => ?_⟩
    rcases List.mem_cons.mp hx with rfl | hx
    · exact g
    · exact gs x hx
def sortedA : List D → Res D
  | [.lst ds] => match toInts ds with
    | .ok is => .ok (.lst ((sortI is).map D.int))
    | _ => (toEnc ds).bind fun cs => if cs.length < 64 then .ok (.lst ((sortI cs).map decP)) else .bad
  | _ => .bad
theorem Reps.perm {R : RC} {F : Hp} {xs ys : List V} (h : ys.Perm xs) : ∀ {ds : List D}, Reps R F ds xs → ∃ ds', Reps R F ds' ys ∧ ds'.Perm ds := by
  induction h with
  | nil => intro ds r; exact ⟨ds, r, .refl _⟩
  | @cons x l1 l2 _ ih =>
    intro ds r
    cases ds with
    | nil => simp only [Reps] at r; cases r
    | cons d ds =>
      simp only [Reps] at r
      obtain ⟨v, vr, e, r1, r2⟩ := r
      cases e
      obtain ⟨ds', r3, p⟩ := ih r2
      exact ⟨d :: ds', .cons r1 r3, p.cons d⟩
  | swap x y l =>
    intro ds r
    cases ds with
    | nil => simp only [Reps] at r; cases r
    | cons d ds =>
      cases ds with
      | nil =>
        simp only [Reps] at r
        obtain ⟨v, vr, e, r1, r2⟩ := r
        cases e
        cases r2
      | cons d2 ds =>
        simp only [Reps] at r
        obtain ⟨v, vr, e, r1, v2, vr2, e2, r2, r3⟩ := r
        cases e
        cases e2
        exact ⟨d2 :: d :: ds, .cons r2 (.cons r1 r3), .swap _ _ _⟩
  | trans _ _ ih1 ih2 =>
    intro ds r
    obtain ⟨ds1, r1, p1⟩ := ih2 r
    obtain ⟨ds2, r2, p2⟩ := ih1 r1
    exact ⟨ds2, r2, p2.trans p1⟩
theorem rep_dec {R : RC} {F H : Hp} (s : Same F H) {c : Int} {v : V} (r : Rep R F (decP c) v) : TupI R.K H v [c / 4096, c % 4096] := by
  unfold decP at r
  simp only [Rep, Reps] at r
  obtain ⟨a, vs, rfl, h, v1, r1, rfl, rfl, v2, r2, rfl, rfl, rfl⟩ := r
  exact ⟨a, rfl, Same.sqt s h⟩
theorem code_dec (c : Int) : TS.code 4096 [c / 4096, c % 4096] = c := by
  have : TS.code 4096 [c / 4096, c % 4096] = c / 4096 * 4096 + c % 4096 := by simp [TS.code]
  rw [this]
  omega
theorem pw_dec {R : RC} {F H : Hp} (s : Same F H) : ∀ {cs : List Int} {ys : List V}, Reps R F (cs.map decP) ys → ys.Pairwise (fun x y => ∀ n m, TupI R.K H x n → TupI R.K H y m → TS.code 4096 n ≤ TS.code 4096 m) → cs.Pairwise (· ≤ ·)
  | [], _, _, _ => .nil
  | c :: cs, ys, r, h => by
    simp only [List.map_cons, Reps] at r
    obtain ⟨v, vr, rfl, r1, r2⟩ := r
    rw [List.pairwise_cons] at h
    refine List.pairwise_cons.mpr ⟨fun c2 h2 => ?_, pw_dec s r2 h.2⟩
    obtain ⟨i, hi, he⟩ := List.mem_iff_getElem.mp h2
    obtain ⟨w, hw, rw'⟩ := r2.get (i := i) (d := decP c2) (by simp [List.getElem?_map, hi, he])
    have := h.1 w (List.mem_of_getElem? hw) _ _ (rep_dec s r1) (rep_dec s rw')
    rw [code_dec, code_dec] at this
    exact this
def rSortedA (K : PySem.W.Frag) : List V → Hp → VK → Prop := fun vs H Q => rSortedI K vs H Q ∨ rSortU K 2 4096 vs H Q
theorem cr_sortedA {X : Cx} : CallR X (.builtin "sorted") (rSortedA X.K) := fun pins s σ H xs us Q I r h => h.elim (cr_sortedI pins s σ H xs us Q I r) (cr_sortT (by decide) pins s σ H xs us Q I r)
theorem sortedA_run {R : RC} {B : Bs} {env : Env'} {p : Pn} {σ : St} {F H : Hp} {xs : List D} {z : D} {vs : List V} {Q : VK} (S : SRel R B env p σ F H) (r : Reps R F xs vs) (h : sortedA xs = .ok z)
    (q : ∀ ds ws, z = .lst ds → Reps R F ds ws → ∀ a, H a = none → Q (.ref a) (upd H a (.lst ws))) : rSortedA R.K vs H Q := by
  unfold sortedA at h
  split at h
  · rename_i ds
    split at h
    · rename_i is h1
      cases h
      cases toInts_ok h1
      obtain ⟨v, rfl, r1⟩ := r.one1
      simp only [Rep] at r1
      obtain ⟨a, ws, rfl, g1, r1⟩ := r1
      cases Reps.ints r1
      refine .inl ⟨a, is, rfl, SqL.of (S.fh _ _ g1), fun ns' l h1 h2 hn => ?_⟩
      have e : ns' = sortI is := sorted_unique (h1.trans (sortI_perm is).symm) h2 (sortI_sorted is)
      subst e
      exact q _ _ rfl (Reps.of_ints _) l hn
    · obtain ⟨cs, h1, h2⟩ := Res.bind_ok h
      split at h2
      · rename_i h64
        cases h2
        obtain ⟨rfl, hg⟩ := toEnc_ok h1
        obtain ⟨v, rfl, r1⟩ := r.one1
        simp only [Rep] at r1
        obtain ⟨a, ws, rfl, g1, r1⟩ := r1
        refine .inr ⟨a, ws, rfl, SqL.of (S.fh _ _ g1), by rw [r1.length]; simpa using h64, fun x hx => ?_, fun ys l h1 h2 hn => ?_⟩
        · obtain ⟨i, hi, he⟩ := List.mem_iff_getElem.mp hx
          have hl : i < (cs.map decP).length := by rw [← r1.length]; exact hi
          obtain ⟨w, hw, rw'⟩ := r1.get (i := i) (List.getElem?_eq_getElem hl)
          rw [List.getElem?_eq_getElem hi, he] at hw
          cases hw
          rw [List.getElem_map] at rw'
          refine ⟨_, rep_dec S.fh rw', rfl, fun m hm => ?_⟩
          have := hg _ (List.getElem_mem (by simpa using hl))
          unfold GoodC at this
          rcases List.mem_cons.mp hm with rfl | hm
          · omega
          · rcases List.mem_cons.mp hm with rfl | hm
            · omega
            · cases hm
        · obtain ⟨ds', r2, pm⟩ := r1.perm h1
          have pc : (ds'.map encT).Perm cs := by
            have := pm.map encT
            rw [List.map_map] at this
            rwa [show cs.map (encT ∘ decP) = cs from by
              conv => rhs; rw [← List.map_id cs]
              exact List.map_congr_left fun c _ => encT_dec] at this
          have ed : ds' = (ds'.map encT).map decP := by
            rw [List.map_map]
            conv => lhs; rw [← List.map_id ds']
            refine List.map_congr_left fun d hd => ?_
            obtain ⟨c, _, rfl⟩ := List.mem_map.mp (pm.mem_iff.mp hd)
            show decP c = decP (encT (decP c))
            rw [encT_dec]
          rw [ed] at r2
          have e : ds'.map encT = sortI cs := sorted_unique (pc.trans (sortI_perm cs).symm) (pw_dec S.fh r2 h2) (sortI_sorted cs)
          rw [e] at r2
          exact q _ _ rfl r2 l hn
      · cases h2
  · cases h
theorem sortedA_lst {xs : List D} {z : D} (h : sortedA xs = .ok z) : ∃ ds, z = .lst ds := by
  unfold sortedA at h
  split at h
  · split at h
    · cases h; exact ⟨_, rfl⟩
    · obtain ⟨cs, h1, h2⟩ := Res.bind_ok h
      split at h2
      · cases h2; exact ⟨_, rfl⟩
      · cases h2
  · cases h
theorem sortedA_d {R : RC} : CallD R (rSortedA R.K) sortedA := ⟨fun S r h q => by
  obtain ⟨ds, rfl⟩ := sortedA_lst h
  exact sortedA_run S r h fun ds ws e rz a hn => by
    cases e
    exact Wn.lst S rz q a hn⟩
theorem sortedA_l {R : RC} : CallL R (rSortedA R.K) sortedA := ⟨fun S r h q => sortedA_run S r h q⟩
end CS
namespace CSW
open PySem PySem.Spec PyProof.Rows L2 TS
/-- sorted(t), t a tuple of fewer than 64 tuples of small numbers -/
theorem sorted_tupsT {prog : Program} {w : World} {A : Around} {E : Value → Shared → Prop} {s : Shared} {l : Addr} {o : Obj} {vs : List Value} {n d : Nat} {B : Int} {Q : Value → Shared → Prop} (ho : s.heap.get? l = some o) (hc : o.cls = .type "tuple") (hdt : o.data = .seq vs.toArray n) (h64 : vs.length < 64) (hd : 1 ≤ d) (x : TupsOk s.heap d B vs)
    (h : ∀ (h' : Heap) (out : Array Value), (∀ b o, s.heap.get? b = some o → h'.get? b = some o) → out.toList.Perm vs → out.toList.Pairwise (fun u v => code B (intsOf s.heap u) ≤ code B (intsOf s.heap v)) →
      Q (.ref h'.objs.size) { s with heap := sortedHeap (h'.push (seqObj "list" vs.toArray 0)) h'.objs.size vs out }) :
    wpAny (model prog w) A (call (.builtin "sorted") [.ref l]) Q E s := by
  refine Calls.call_function_entry kind_sorted plain_sorted entry_sorted (args_sorted1 _) ?_
  unfold Builtin.«sorted»
  refine wpAny_bind (m := checkCount "sorted" 1 1 _) (wpAny_pure ?_)
  refine wpAny_bind (wpAny_collect_seq l (.inr rfl) ho hc hdt (fun h' kp => ?_) (by rw [sizeLine_eq, List.size_toArray]; omega))
  refine wpAny_bind (wpAny_newList ?_ (by rw [sizeLine_eq]; show vs.toArray.toList.length ≤ _; simp; omega))
  have e0 : vs.toArray.toList = vs := by simp
  rw [e0]
  have hoL : (h'.push (seqObj "list" vs.toArray 0)).get? h'.objs.size = some (seqObj "list" vs.toArray 0) := Heap.get?_push_size _ rfl
  have keep : ∀ b o, s.heap.get? b = some o → o.cls = .type "tuple" → (h'.push (seqObj "list" vs.toArray 0)).get? b = some o := fun b o q _ => Heap.get?_push_of_some _ (kp b o q)
  show wpAny _ _ _ _ _ { s with heap := h'.push (seqObj "list" vs.toArray 0) }
  refine wpAny_bind (wpAny_holding (wpAny_call_entry slot_list_sort ⟨_, hoL, rfl⟩ entry_list_sort (sort_tups hoL h64 hd (x.keeps keep) (fun v => code B (intsOf s.heap v)) (fun v hv ns t => ?_) fun out a1 a2 => ⟨_, rfl, ?_⟩) (args_list_sort _)))
  · obtain ⟨ns0, t0, _⟩ := x v hv
    have e : ns = ns0 := t.ints.symm.trans (t0.keeps keep).ints
    rw [e]
    show code B (intsOf s.heap v) = code B ns0
    rw [t0.ints]
  · exact wpAny_pure ⟨_, rfl, h h' out kp a1 a2⟩
end CSW
namespace CS
open PySem PySem.Spec PyProof.Rows L2
def rSortTT (K : PySem.W.Frag) (d : Nat) (B : Int) : List V → Hp → VK → Prop := fun vs H Q => ∃ (a : Addr) (xs : List V), vs = [V.ref a] ∧ SqT K H a xs ∧ xs.length < 64 ∧ (∀ x ∈ xs, ∃ ns, TupI K H x ns ∧ ns.length = d ∧ TS.Bd B ns) ∧
  ∀ (ys : List V) (p : Addr), ys.Perm xs → ys.Pairwise (fun x y => ∀ n m, TupI K H x n → TupI K H y m → TS.code B n ≤ TS.code B m) → H p = none → Q (.ref p) (upd H p (.lst ys))
theorem cr_sortTT {X : Cx} {d : Nat} {B : Int} (hd : 1 ≤ d) : CallR X (.builtin "sorted") (rSortTT X.K d B) := by
  intro pins s σ H vs us Q I r h
  obtain ⟨a, xs, rfl, hs, h64, hx, q⟩ := h
  obtain ⟨its, rv, hl, hz⟩ := I.tuple hs
  rw [Vals.ref1 r]
  obtain ⟨e1, e2⟩ := bkV_refs rv fun x m => by
    obtain ⟨ns, ⟨t, e, _⟩, _⟩ := hx x m
    exact ⟨t, e⟩
  obtain ⟨o, ho, hc, n, hdt⟩ := id hl
  refine CSW.sorted_tupsT (d := d) (B := B) ho hc hdt (by rw [← rv.length]; exact h64) hd (fun v hv => ?_) fun h' out kp h1 h2 => ?_
  · obtain ⟨t, rfl⟩ := e2 v hv
    have hm : V.ref t ∈ xs := by
      rw [e1]
      exact List.mem_map.mpr ⟨_, hv, rfl⟩
    obtain ⟨ns, ⟨t', e, ht⟩, hn, hb⟩ := hx _ hm
    cases e
    exact ⟨ns, tupI_raw I ht, hn, hb⟩
  · have hoL : (h'.push (seqObj "list" its.toArray 0)).get? h'.objs.size = some (seqObj "list" its.toArray 0) := Heap.get?_push_size _ rfl
    obtain ⟨ep, he'⟩ := PyProof.Rows.sortedHeap_at (out := out) hoL
    have h3 : ∀ u ∈ out.toList, ∃ a, u = Value.ref a := fun u hu => e2 u (h1.mem_iff.mp hu)
    have hp : (out.toList.map bkV).Perm xs := by
      rw [e1]
      exact h1.map bkV
    have hlen : (out.toList.map bkV).length ≤ sizeLine := by
      rw [hp.length_eq]
      exact hz
    have I2 : Inv X pins σ H { s with heap := h' } := I.kept (t' := s.toks) kp
    refine ⟨.ref _, upd H h'.objs.size (.lst (out.toList.map bkV)), I2.laid (t' := s.toks) (fun b u hb => ?_) (Nat.le_refl _) ⟨hlen, out.toList, ep, bkV_vals h3, he'⟩, rfl, q _ _ hp ?_ (I2.hok.fresh (Nat.le_refl _))⟩
    · have hb' : h'.get? b = some u := hb
      have hlt : b < h'.objs.size := Heap.lt_size hb'
      rw [PyProof.Rows.sortedHeap_old (Nat.ne_of_lt hlt) (by rw [size_push']; exact Nat.lt_succ_of_lt hlt)]
      exact Heap.get?_push_of_some _ hb'
    rw [List.pairwise_map]
    refine List.Pairwise.imp (fun {u v} huv n m hn hm => ?_) h2
    obtain ⟨t, et, ht⟩ := hn
    obtain ⟨t', et', ht'⟩ := hm
    have eu := bkV_ref et
    have ev := bkV_ref et'
    have i1 : TS.intsOf s.heap u = n := by
      rw [eu]
      exact (tupI_raw I ht).ints
    have i2 : TS.intsOf s.heap v = m := by
      rw [ev]
      exact (tupI_raw I ht').ints
    rw [← i1, ← i2]
    exact huv
def encsOf (ds : List D) : Res D := (toEnc ds).bind fun cs => if cs.length < 64 then .ok (.lst ((sortI cs).map decP)) else .bad
/-- sorted of numbers in a list, of pairs in a list or a tuple -/
def sortedB : List D → Res D
  | [.tup ds] => encsOf ds
  | xs => sortedA xs
theorem sortedB_of (ds : List D) : sortedB [.lst ds] = sortedA [.lst ds] := rfl
def rSortedB (K : PySem.W.Frag) : List V → Hp → VK → Prop := fun vs H Q => rSortedA K vs H Q ∨ rSortTT K 2 4096 vs H Q
theorem cr_sortedB {X : Cx} : CallR X (.builtin "sorted") (rSortedB X.K) := fun pins s σ H xs us Q I r h => h.elim (cr_sortedA pins s σ H xs us Q I r) (cr_sortTT (by decide) pins s σ H xs us Q I r)
theorem encs_run {R : RC} {F H : Hp} {ds : List D} {ws : List V} {z : D} (s : Same F H) (r1 : Reps R F ds ws) (h : encsOf ds = .ok z) : ∃ cs : List Int, z = .lst (cs.map decP) ∧ ws.length < 64 ∧ (∀ x ∈ ws, ∃ ns, TupI R.K H x ns ∧ ns.length = 2 ∧ TS.Bd 4096 ns) ∧
    ∀ ys : List V, ys.Perm ws → ys.Pairwise (fun x y => ∀ n m, TupI R.K H x n → TupI R.K H y m → TS.code 4096 n ≤ TS.code 4096 m) → Reps R F (cs.map decP) ys := by
  obtain ⟨cs, h1, h2⟩ := Res.bind_ok h
  split at h2
  · rename_i h64
    cases h2
    obtain ⟨rfl, hg⟩ := toEnc_ok h1
    refine ⟨sortI cs, rfl, by rw [r1.length]; simpa using h64, fun x hx => ?_, fun ys h1 h2 => ?_⟩
    · obtain ⟨i, hi, he⟩ := List.mem_iff_getElem.mp hx
      have hl : i < (cs.map decP).length := by rw [← r1.length]; exact hi
      obtain ⟨w, hw, rw'⟩ := r1.get (i := i) (List.getElem?_eq_getElem hl)
      rw [List.getElem?_eq_getElem hi, he] at hw
      cases hw
      rw [List.getElem_map] at rw'
      refine ⟨_, rep_dec s rw', rfl, fun m hm => ?_⟩
      have := hg _ (List.getElem_mem (by simpa using hl))
      unfold GoodC at this
      rcases List.mem_cons.mp hm with rfl | hm
      · omega
      · rcases List.mem_cons.mp hm with rfl | hm
        · omega
        · cases hm
    · obtain ⟨ds', r2, pm⟩ := r1.perm h1
      have pc : (ds'.map encT).Perm cs := by
        have := pm.map encT
        rw [List.map_map] at this
        rwa [show cs.map (encT ∘ decP) = cs from by
          conv => rhs; rw [← List.map_id cs]
          exact List.map_congr_left fun c _ => encT_dec] at this
      have ed : ds' = (ds'.map encT).map decP := by
        rw [List.map_map]
        conv => lhs; rw [← List.map_id ds']
        refine List.map_congr_left fun d hd => ?_
        obtain ⟨c, _, rfl⟩ := List.mem_map.mp (pm.mem_iff.mp hd)
        show decP c = decP (encT (decP c))
        rw [encT_dec]
      rw [ed] at r2
      have e : ds'.map encT = sortI cs := sorted_unique (pc.trans (sortI_perm cs).symm) (pw_dec s r2 h2) (sortI_sorted cs)
      rw [e] at r2
      exact r2
  · cases h2
theorem sortedB_run {R : RC} {B : Bs} {env : Env'} {p : Pn} {σ : L2.St} {F H : Hp} {xs : List D} {z : D} {vs : List V} {Q : VK} (S : SRel R B env p σ F H) (r : Reps R F xs vs) (h : sortedB xs = .ok z)
    (q : ∀ ds ws, z = .lst ds → Reps R F ds ws → ∀ a, H a = none → Q (.ref a) (upd H a (.lst ws))) : rSortedB R.K vs H Q := by
  unfold sortedB at h
  split at h
  · rename_i ds
    obtain ⟨v, rfl, r1⟩ := r.one1
    simp only [Rep] at r1
    obtain ⟨a, ws, rfl, g1, r1⟩ := r1
    obtain ⟨cs, rfl, h64, hx, hy⟩ := encs_run S.fh r1 h
    exact .inr ⟨a, ws, rfl, Same.sqt S.fh g1, h64, hx, fun ys l h1 h2 hn => q _ _ rfl (hy ys h1 h2) l hn⟩
  · exact .inl (sortedA_run S r h q)
theorem sortedB_lst {xs : List D} {z : D} (h : sortedB xs = .ok z) : ∃ ds, z = .lst ds := by
  unfold sortedB at h
  split at h
  · obtain ⟨cs, h1, h2⟩ := Res.bind_ok h
    split at h2
    · cases h2; exact ⟨_, rfl⟩
    · cases h2
  · exact sortedA_lst h
theorem sortedB_d {R : RC} : CallD R (rSortedB R.K) sortedB := ⟨fun S r h q => by
  obtain ⟨ds, rfl⟩ := sortedB_lst h
  exact sortedB_run S r h fun ds ws e rz a hn => by
    cases e
    exact Wn.lst S rz q a hn⟩
theorem sortedB_l {R : RC} : CallL R (rSortedB R.K) sortedB := ⟨fun S r h q => sortedB_run S r h q⟩
end CS
namespace CSW
open PySem PySem.Spec PyProof.Rows
section
variable {prog : Program} {w : World} {A : Around} {E : Value → Shared → Prop} {s : Shared} {l : Addr} {xs : Array (Int × Tok)}
theorem iter_intTup {Q : Value → Shared → Prop} {items : Array Value} (hl : s.heap.IsTuple l items)
    (h : ∀ s₂ : Shared, s₂ = { s with heap := s.heap.push { cls := .type "tuple_iterator", data := .fields #[.ref l, .int 0 0] } } → (s₂.heap.IsTupleIter s.heap.objs.size l 0 ∧ s₂.heap.IsTuple l items) → (∀ b ∈ [s.heap.objs.size, l], b < s₂.heap.objs.size) → l ≠ s.heap.objs.size → Q (.ref s.heap.objs.size) s₂) :
    wpAny (model prog w) A (pyIter (.ref l)) Q E s := by
  have hlt : l < s.heap.objs.size := by obtain ⟨o, ho, _⟩ := hl; exact Heap.lt_size ho
  refine wpAny_pyIter_tuple hl (h _ rfl ⟨⟨_, Heap.get?_push_size _ rfl, rfl, rfl⟩, hl.push _⟩ (fun b hb => ?_) (Nat.ne_of_lt hlt))
  show b < (s.heap.push _).objs.size
  rw [Heap.size_push]
  rcases List.mem_cons.mp hb with rfl | hb
  · exact Nat.lt_succ_self _
  · rcases List.mem_cons.mp hb with rfl | hb
    · exact Nat.lt_succ_of_lt hlt
    · cases hb
theorem max_intTup {Q : Value → Shared → Prop} (hh : A.handled = none) (hl : s.heap.IsTuple l (intItems xs)) (hne : 0 < xs.size)
    (h : ∀ v h' tk, (intItems xs)[argBest (fun i j => decide (numAt xs i > numAt xs j)) (xs.size - 1)]? = some v → (∀ b o, s.heap.get? b = some o → h'.get? b = some o) → Q v { s with heap := h', toks := tk }) :
    wpAny (model prog w) A (call (.builtin "max") [.ref l]) Q E s := by
  refine call_max_walk (iter_intTup hl fun s₂ e st hfp hlI => ?_)
  subst e
  refine ⟨_, _, _, _, _, _, _, rfl, Walks.tuple (A := A.in1) hh _ l hlI (intItems xs), st, hfp, by simpa [intItems] using hne, CmpOf.ints_gt (numAt xs) (fun _ _ => intItems_at), fun v h' tk hP hk => ?_⟩
  refine h v h' tk (by simpa [intItems] using hP) fun b o e => ?_
  refine hk b o (fun hm => ?_) (Heap.get?_push_of_some _ e)
  rcases List.mem_cons.mp hm with e1 | hm
  · exact absurd (e1 ▸ Heap.lt_size e) (Nat.lt_irrefl _)
  · cases hm
theorem max_rawT {its : List Value} {ns : List Int} {Q : Value → Shared → Prop} (hh : A.handled = none) (hl : s.heap.IsTuple l its.toArray) (hi : IntsAre its ns) (hne : 0 < ns.length)
    (h : ∀ h' tk M t', (∀ b o, s.heap.get? b = some o → h'.get? b = some o) → M ∈ ns → (∀ a, a ∈ ns → a ≤ M) → Q (.int M t') { s with heap := h', toks := tk }) : wpAny (model prog w) A (call (.builtin "max") [.ref l]) Q E s := by
  obtain ⟨xs, e⟩ := hi.allInts.items
  have hn : numsOf (intItems xs).toList = ns := by rw [← e]; exact hi.numsOf
  rw [nums_intItems] at hn
  subst hn
  rw [e] at hl
  have hsz : 0 < xs.size := by simpa using hne
  refine max_intTup hh hl hsz fun v h' tk hv hk => ?_
  obtain ⟨t, rfl⟩ := intItems_at hv
  obtain ⟨h1, h2⟩ := argBest_gt (numAt xs) (xs.size - 1)
  refine h h' tk _ t hk ?_ fun a ha => ?_
  · rw [numAt_eq]; exact PySem.getD_mem (by rw [List.length_map, Array.length_toList]; omega)
  · obtain ⟨j, hj, rfl⟩ := mem_getD ha
    rw [List.length_map, Array.length_toList] at hj
    rw [← numAt_eq]; exact h2 j (by omega)
end
end CSW
namespace CS
open PySem L2
def rMaxA (K : PySem.W.Frag) : List V → Hp → VK → Prop := fun vs H Q => rMax K vs H Q ∨ ∃ (a : Addr) (ns : List Int), vs = [V.ref a] ∧ SqT K H a (ns.map V.int) ∧ 0 < ns.length ∧ ∀ m, m ∈ ns → (∀ y, y ∈ ns → y ≤ m) → Q (.int m) H
theorem cr_maxA {X : Cx} (hc : X.calm = true) : CallR X (.builtin "max") (rMaxA X.K) := fun pins s σ H vs us Q I r h => by
  rcases h with h | ⟨a, ns, rfl, hs, hne, q⟩
  · exact cr_max hc pins s σ H vs us Q I r h
  · obtain ⟨its, rv, hl, _⟩ := I.tuple hs
    rw [Vals.ref1 r]
    exact CSW.max_rawT (I.ok.hd hc) (show s.heap.IsTuple a its.toArray from hl) rv.ints hne fun h' tk m t' hk h1 h2 => ⟨.int _, H, I.kept hk, ⟨_, rfl⟩, q m h1 h2⟩
/-- max of a list, a tuple of numbers -/
def maxA : List D → Res D
  | [.tup ds] => (toInts ds).bind fun is => if is.isEmpty then .bad else .ok (.int (maxL is))
  | xs => max1D xs
theorem maxA_d {R : RC} : CallD R (rMaxA R.K) maxA := ⟨fun {B env p σ F H xs z vs Q} S r h q => by
  unfold maxA at h
  split at h
  · obtain ⟨is, h1, h2⟩ := Res.bind_ok h
    split at h2
    · cases h2
    · rename_i hne
      cases h2
      cases toInts_ok h1
      obtain ⟨v, rfl, r1⟩ := r.one1
      simp only [Rep] at r1
      obtain ⟨a, ws, rfl, g1, r1⟩ := r1
      cases Reps.ints r1
      have hne' : is ≠ [] := by rintro rfl; simp at hne
      refine .inr ⟨a, is, rfl, Same.sqt S.fh g1, List.length_pos_iff.mpr hne', fun m h1 h2 => ?_⟩
      obtain ⟨k1, k2⟩ := maxL_spec hne'
      have : m = maxL is := Int.le_antisymm (k2 m h1) (h2 _ k1)
      subst this
      exact Wn.flat S q (by simp [Rep])
  · exact .inl (max1_d.run S r h q)⟩
end CS
namespace CS
open PySem L2
open PyProof.Rows (envOfC)
section
variable {X : Cx} {R : RC} {a b c e : Expr} {s : M Bool} {m n : M D} {pos p p2 pos2 p1 p3 : Pos}
theorem df_ifExp (hc : PT X c (lT R s)) (ha : PE X a (lF R m)) (hb : PE X b (lF R n)) : PE X (.IfExp c a b pos) (lF R (mIf s m n)) :=
  PE.imp (pe_ifExp hc ha hb) fun σ H Q ⟨B, env, p, F, S, d, env', p', e, q⟩ => by
    obtain ⟨k, env1, p1, e1, e2⟩ := bind_ok (show (s >>= _) env p = _ from e)
    refine ⟨B, env, p, F, S, k, env1, p1, e1, fun b F' H' s1 S1 r1 => ?_⟩
    cases r1
    cases k with
    | true => exact ⟨B, env1, p1, F', S1, d, env', p', e2, fun a F2 H2 s2 => q a F2 H2 (s1.trans s2)⟩
    | false => exact ⟨B, env1, p1, F', S1, d, env', p', e2, fun a F2 H2 s2 => q a F2 H2 (s1.trans s2)⟩
/-- xs[::-1], xs a list -/
def revD : D → Res D
  | .lst ds => .ok (.lst ds.reverse)
  | _ => .bad
theorem df_revL {k : Nat} (he : PE X e (lE R m)) : PE X (.Subscript e (.Slice none none (some (.UnaryOp .USub (.Constant (.int 1) k p1) p2)) p3) pos) (lF R (m1 revD m)) :=
  PE.imp (pe_revL he) fun σ H Q ⟨B, env, p, F, S, d, env', p', e, q⟩ => by
    obtain ⟨x, env1, p1, e1, e2⟩ := bind_ok (show (m >>= _) env p = _ from e)
    obtain ⟨z, e3, e4⟩ := Res.bind_ok (show (revD x).bind _ = _ from e2)
    cases e4
    unfold revD at e3
    split at e3
    · cases e3
      refine ⟨B, env, p, F, S, _, env', p', e1, fun v F' H' s S' r => ?_⟩
      simp only [Rep] at r
      obtain ⟨a, vs, rfl, h1, r⟩ := r
      refine ⟨a, vs, rfl, SqL.of (S'.fh _ _ h1), fun l hn => ?_⟩
      obtain ⟨g1, g2⟩ := S'.newO r.reverse hn
      exact q l F' _ s g1 g2
    · cases e3
/-- tuple(range(e)) -/
def rgT (d : D) : Res D := (asI d).bind fun n => if n ≤ 16777216 ∧ -(2 ^ 62) ≤ n then .ok (.tup ((List.range n.toNat).map fun (i : Nat) => D.int i)) else .bad
theorem de_tupRg (hc : X.calm = true) (hg : Gl X "tuple") (hm : X.mg "tuple" = none) (hg2 : Gl X "range") (hm2 : X.mg "range" = none) (ha : PE X e (lE R m)) (na : starEach [e] X.env = (false, eval e X.env) :: starEach [] X.env := by rfl)
    (na2 : starEach [.Call (.Name "range" p2) [e] [] pos2] X.env = (false, eval (.Call (.Name "range" p2) [e] [] pos2) X.env) :: starEach [] X.env := by rfl) :
    PE X (.Call (.Name "tuple" p) [.Call (.Name "range" p2) [e] [] pos2] [] pos) (lE R (m1 rgT m)) :=
  PE.imp (pe_tupRg hc hg hm (prg_1 hg2 hm2 ha na) na2) fun σ H Q ⟨B, env, p, F, c⟩ => c.sq fun x v env1 p1 F1 H1 s1 r1 c1 => by
    obtain ⟨z, e, q⟩ := c1.res
    obtain ⟨n, e5, e6⟩ := Res.bind_ok e
    cases asI_ok e5
    split at e6
    · rename_i hz
      cases e6
      simp only [Rep] at r1
      refine ⟨n, r1, ⟨by omega, by omega, by omega, by omega, by omega⟩, fun a hn => ?_⟩
      rw [rgV0]
      exact Wn.tup c1.S (reps_range (List.range n.toNat)) q a hn
    · cases e6
end
/-- a promise that nobody can call in -/
theorem fn_bad {P : Program} {w : World} {K : PySem.W.Frag} {cls : Str → Addr} {mg : Str → Option Value} {base : Heap} {k : Nat} {f : Addr} {fd : FuncData} {ps : List Str} {n : Nat} : FnOk P w K mg base CX0 k f fd ps (spD K cls n fun _ _ => .bad) := by
  refine ⟨fun vs H Q E h => ?_, fun A outer s H args us vs Q E _ _ _ _ h => ?_⟩
  · obtain ⟨q, ca, sf, cells, F, p, ds, _, _, _, _, _, d, p', e, _⟩ := h
    cases e
  · obtain ⟨q, ca, sf, cells, F, p, ds, _, _, _, _, _, d, p', e, _⟩ := h
    cases e
/-! ## x, y = e1, e2: names of any kind, y an own list -/
def dTwPO (i j : Nat) (m n : M D) : SS := dOf (m >>= fun x => n >>= fun y => M.ret (x, y)) fun z env p => .nx ((env.set i (.pl z.1)).set j (.ow z.2)) p
section
variable {X : Cx} {R : RC} {i j : Nat} {x y : Str} {a b : Expr} {m n : M D} {px py pt pos pt2 : Pos} {kt k2 : Nat}
theorem ds_twPO (hK : X.K = R.K) (hc : X.calm = true) (hN : X.N.Nodup) (hi : X.N[i]? = some x) (hj : X.N[j]? = some y) (hx : Loc X.env.scope x) (hy : Loc X.env.scope y) (ha : PE X a (lE R m)) (hb : PE X b (lF R n))
    (fx : X.fn x = true ∨ X.env.scope.names.lookup x = some .local := by first | exact .inl rfl | exact .inr rfl) (fy : X.fn y = true ∨ X.env.scope.names.lookup y = some .local := by first | exact .inl rfl | exact .inr rfl)
    (hs : swapsWithSole [.Tuple [.Name x px, .Name y py] kt pt] (.Tuple [a, b] k2 pt2) pos.line X.env = pure false := by rfl) (hw : swappedStores [.Tuple [.Name x px, .Name y py] kt pt] (.Tuple [a, b] k2 pt2) X.env = pure none := by rfl)
    (h0 : (assignEach [.Tuple [.Name x px, .Name y py] kt pt] X.env).map (·.2) = [assign (.Tuple [.Name x px, .Name y py] kt pt) X.env] := by rfl)
    (h1 : starEach [a, b] X.env = (false, eval a X.env) :: starEach [b] X.env := by rfl) (h2 : starEach [b] X.env = (false, eval b X.env) :: starEach [] X.env := by rfl)
    (hn : (assignEach [.Name x px, .Name y py] X.env).length = 2 := by rfl) (hst : (assignEach [.Name x px, .Name y py] X.env).findIdx? (·.1) = none := by rfl)
    (k1 : (assignEach [.Name x px, .Name y py] X.env).map (·.2) = assign (.Name x px) X.env :: (assignEach [.Name y py] X.env).map (·.2) := by rfl) (k3 : (assignEach [.Name y py] X.env).map (·.2) = assign (.Name y py) X.env :: (assignEach [] X.env).map (·.2) := by rfl) :
    PS X (.Assign [.Tuple [.Name x px, .Name y py] kt pt] (.Tuple [a, b] k2 pt2) pos) (lS R (dTwPO i j m n)) :=
  PS.imp (ps_asg (pe_tup (pa_cons ha (pa_cons hb pa_nil h2) h1)) (pg_tup hc (pgs_cons (pg_name hN hi hx fx) (pgs_cons (pg_name hN hj hy fy) pgs_nil k3) k1) hn hst) hs hw h0) fun E σ H ⟨B, env, p, F, S, o⟩ => by
    unfold dTwPO dOf at o
    split at o
    · rename_i z env' p' e
      obtain ⟨d1, env1, p1, e1, e2⟩ := bind_ok e
      obtain ⟨d2, env2, p2, e3, e4⟩ := bind_ok e2
      cases e4
      refine ⟨B, env, p, F, S, d1, env1, p1, e1, fun v F1 H1 s1 S1 r1 => ⟨B, env1, p1, F1, S1, d2, env', p', e3, fun l F2 H2 s2 S2 fr => ⟨by show 2 ≤ sizeLine; decide, fun t ht => ?_⟩⟩⟩
      have ex := S2.allocO (o := .tup [v, .ref l]) ht
      have S3 := S2.ext ex
      have fr3 := fr.stay S2 ex
      have S4 := S3.set (i := i) (r1.mono s2)
      have fr4 : FreshA R B (env'.set i (.pl d1)) (σ.set i (some v)) F2 (upd H2 t (.tup [v, .ref l])) d2 l := by
        refine ⟨fr3.f, fr3.b, fr3.q, fun k h => ?_, fr3.own⟩
        obtain ⟨⟨s, g1, g2⟩, g3⟩ := h
        by_cases e : i = k
        · subst e
          have hl : i < env'.length := by have := (List.getElem?_eq_some_iff.mp g1).1; simpa using this
          rw [List.getElem?_set_self hl] at g1
          cases g1
          cases g2
        · rw [List.getElem?_set_ne e] at g1 g3
          exact fr3.no k ⟨⟨s, g1, g2⟩, g3⟩
      refine ⟨t, [v, .ref l], rfl, SqT.of upd_same, rfl, v, [.ref l], rfl, .ref l, [], rfl, rfl, ?_⟩
      exact o _ F2 _ (s1.trans s2) (S4.setO fr4)
    · exact o.elim
    · exact o.elim
theorem ds_parPO (hc : X.calm = true) (hN : X.N.Nodup) (hi : X.N[i]? = some x) (hj : X.N[j]? = some y) (hij : i ≠ j) (hx : X.env.scope.names.lookup x = some .local) (hy : X.env.scope.names.lookup y = some .local) (ha : PE X a (lE R m)) (hb : PE X b (lF R n))
    (hw : swappedStores [.Tuple [.Name x px, .Name y py] kt pt] (.Tuple [a, b] k2 pt2) X.env = pure (some [x, y])) (hs : swapsWithSole [.Tuple [.Name x px, .Name y py] kt pt] (.Tuple [a, b] k2 pt2) pos.line X.env = pure false := by rfl)
    (h1 : starEach [a, b] X.env = (false, eval a X.env) :: starEach [b] X.env := by rfl) (h2 : starEach [b] X.env = (false, eval b X.env) :: starEach [] X.env := by rfl) :
    PS X (.Assign [.Tuple [.Name x px, .Name y py] kt pt] (.Tuple [a, b] k2 pt2) pos) (lS R (dTwPO i j m n)) :=
  PS.imp (ps_par hc hN hi hj hij hx hy (pa_cons ha (pa_cons hb pa_nil h2) h1) hw hs) fun E σ H ⟨B, env, p, F, S, o⟩ => by
    unfold dTwPO dOf at o
    split at o
    · rename_i z env' p' e
      obtain ⟨d1, env1, p1, e1, e2⟩ := bind_ok e
      obtain ⟨d2, env2, p2, e3, e4⟩ := bind_ok e2
      cases e4
      refine ⟨B, env, p, F, S, d1, env1, p1, e1, fun v F1 H1 s1 S1 r1 => ⟨B, env1, p1, F1, S1, d2, env', p', e3, fun l F2 H2 s2 S2 fr => ⟨v, .ref l, rfl, ?_⟩⟩⟩
      have S4 := S2.set (i := i) (r1.mono s2)
      have fr4 : FreshA R B (env'.set i (.pl d1)) (σ.set i (some v)) F2 H2 d2 l := by
        refine ⟨fr.f, fr.b, fr.q, fun k h => ?_, fr.own⟩
        obtain ⟨⟨s, g1, g2⟩, g3⟩ := h
        by_cases e : i = k
        · subst e
          have hl : i < env'.length := by have := (List.getElem?_eq_some_iff.mp g1).1; simpa using this
          rw [List.getElem?_set_self hl] at g1
          cases g1
          cases g2
        · rw [List.getElem?_set_ne e] at g1 g3
          exact fr.no k ⟨⟨s, g1, g2⟩, g3⟩
      exact o _ F2 _ (s1.trans s2) (S4.setO fr4)
    · exact o.elim
    · exact o.elim
end
/-! ## x.remove(e), numbers -/
section
variable {X : Cx} {R : RC} {i : Nat} {x : Str} {e : Expr} {m : M D} {pos px apos : Pos}
theorem de_remove (hv : PE X (.Name x px) (tVar i)) (he : PE X e (lE R m)) (hbase : attributeBase (.Name x px) "remove" X.env (eval (.Name x px) X.env) = eval (.Name x px) X.env := by rfl)
    (hfew : ((backTo pos (starEach [e] X.env)).all (fun x => !x.1) && (backToKw pos (keywordEach [] X.env)).all (fun x => x.1.isSome) && decide (([e] : List Expr).length + ([] : List Keyword).length + (if ([] : List Keyword).isEmpty then 0 else 1) < 30)) = true := by rfl)
    (hline : (apos.endLine == pos.line) = true := by rfl) (hs : starEach [e] X.env = (false, eval e X.env) :: starEach [] X.env := by rfl) (hplain : (backTo pos (starEach [] X.env)).any (·.1) = false := by rfl) : PE X (.Call (.Attribute (.Name x px) "remove" apos) [e] [] pos) (lE R (mRemove i m)) :=
  PE.imp (pe_bm PySem.F.plainAttrs_list PySem.F.slot_list_remove PySem.F.type_list_remove mt_remove hv (pa_cons he pa_nil hs) hbase hfew hline hs hplain) fun σ H Q ⟨B, env, p, F, c⟩ => by
    obtain ⟨⟨a, ha, vs0, hH0⟩, c0⟩ := c.chk
    refine ⟨.ref a, ha, .inl ⟨rfl, vs0, SqL.of hH0⟩, c0.sq fun d v env1 p1 F1 H1 s1 r1 c2 => ?_⟩
    obtain ⟨ds, a', vs, hi, ha', hH, r, c3⟩ := c2.getW
    rw [ha] at ha'; cases ha'
    obtain ⟨is', e, c4⟩ := c3.rs
    obtain ⟨k, e1, e2⟩ := Res.bind_ok e
    obtain ⟨is, e3, e4⟩ := Res.bind_ok e2
    cases asI_ok e1
    cases toInts_ok e3
    split at e4
    · rename_i hk
      cases e4
      cases Reps.ints r
      simp only [Rep] at r1
      obtain ⟨j, _, h2, h3, h4⟩ := first_at hk
      have r' : Reps R F1 ((is.erase k).map D.int) ((is.eraseIdx j).map V.int) := by rw [h4]; exact Reps.of_ints _
      exact ⟨a, is, k, j, rfl, by rw [r1], hH, h2, h3, (c4.put hi ha r').ret _ F1 _ (Same.refl _) (c4.put hi ha r').S (by simp [Rep])⟩
    · cases e4
end
end CS
namespace CS
open PySem L2
/-! ## running mirrors -/
section
variable {α β : Type} {env e1 e2 e3 : Env'} {p p1 p2 p3 : Pn}
theorem run_bind {m : M α} {k : α → M β} {a : α} {r : Res (β × Env' × Pn)} (h : m env p = .ok (a, e1, p1)) (h2 : k a e1 p1 = r) : (m >>= k) env p = r := by
  show (m env p).bind _ = _
  rw [h]; exact h2
theorem run_res {r : Res α} {a : α} (h : r = .ok a) : M.res r env p = .ok (a, env, p) := by rw [h]; rfl
theorem run_seq {a b : SS} {o : Out} (h : a env p = .nx e1 p1) (h2 : b e1 p1 = o) : dSeq a b env p = o := by
  unfold dSeq; rw [h]; exact h2
theorem run_seqR {a b : SS} {d : D} (h : a env p = .rt d p1) : dSeq a b env p = .rt d p1 := by
  unfold dSeq; rw [h]; rfl
theorem run_of {m : M α} {k : α → SS} {a : α} {o : Out} (h : m env p = .ok (a, e1, p1)) (h2 : k a e1 p1 = o) : dOf m k env p = o := by
  unfold dOf; rw [h]; exact h2
theorem run_expr {m : M D} {d : D} (h : m env p = .ok (d, e1, p1)) : dExpr m env p = .nx e1 p1 := run_of h rfl
theorem run_set {i : Nat} {m : M D} {d : D} (h : m env p = .ok (d, e1, p1)) : dSet i m env p = .nx (e1.set i (.pl d)) p1 := run_of h rfl
theorem run_setO {i : Nat} {m : M D} {d : D} (h : m env p = .ok (d, e1, p1)) : dSetO i m env p = .nx (e1.set i (.ow d)) p1 := run_of h rfl
theorem run_ret {m : M D} {d : D} (h : m env p = .ok (d, e1, p1)) : dRet m env p = .rt d p1 := run_of h rfl
theorem run_asg {m : M D} {b : Bd} {d : D} (h : m env p = .ok (d, e1, p1)) (h2 : b d e1 = .ok e2) : dAsg m b env p = .nx e2 p1 := run_of h (by rw [h2])
theorem run_if {t : M Bool} {a b : SS} {c : Bool} {o : Out} (h : t env p = .ok (c, e1, p1)) (h2 : (if c = true then a else b) e1 p1 = o) : dIf t a b env p = o := run_of h h2
theorem run_ifT {t : M Bool} {a b : SS} {o : Out} (h : t env p = .ok (true, e1, p1)) (h2 : a e1 p1 = o) : dIf t a b env p = o := run_of h h2
theorem run_ifF {t : M Bool} {a b : SS} {o : Out} (h : t env p = .ok (false, e1, p1)) (h2 : b e1 p1 = o) : dIf t a b env p = o := run_of h h2
theorem run_par {i j : Nat} {m n : M D} {x y : D} (h : m env p = .ok (x, e1, p1)) (h2 : n e1 p1 = .ok (y, e2, p2)) : dPar i j m n env p = .nx ((e2.set i (.pl x)).set j (.pl y)) p2 := by
  refine run_of (a := (x, y)) (e1 := e2) (p1 := p2) ?_ rfl
  exact run_bind h (run_bind h2 rfl)
theorem run_parO {i j : Nat} {m n : M D} {x y : D} (h : m env p = .ok (x, e1, p1)) (h2 : n (e1.map Slot.rd) p1 = .ok (y, e2, p2)) : dParO i j m n env p = .nx ((e1.set i (.ow x)).set j (.pl y)) p2 := by
  refine run_of (a := (x, y)) (e1 := e1) (p1 := p2) ?_ rfl
  refine run_bind h (run_bind (a := y) (e1 := e1) (p1 := p2) ?_ rfl)
  unfold mRd; rw [h2]; rfl
theorem run_parOO {i j : Nat} {m n : M D} {x y : D} (h : m env p = .ok (x, e1, p1)) (h2 : n (e1.map Slot.rd) p1 = .ok (y, e2, p2)) : dParOO i j m n env p = .nx ((e1.set i (.ow x)).set j (.ow y)) p2 := by
  refine run_of (a := (x, y)) (e1 := e1) (p1 := p2) ?_ rfl
  refine run_bind h (run_bind (a := y) (e1 := e1) (p1 := p2) ?_ rfl)
  unfold mRd; rw [h2]; rfl
theorem run_m2 {f : D → D → Res D} {m n : M D} {x y z : D} (h : m env p = .ok (x, e1, p1)) (h2 : n e1 p1 = .ok (y, e2, p2)) (h3 : f x y = .ok z) : m2 f m n env p = .ok (z, e2, p2) := by
  refine run_bind h (run_bind h2 ?_)
  show (f x y).bind _ = _
  rw [h3]; rfl
theorem run_m1 {f : D → Res D} {m : M D} {x z : D} (h : m env p = .ok (x, e1, p1)) (h3 : f x = .ok z) : m1 f m env p = .ok (z, e1, p1) := by
  refine run_bind h ?_
  show (f x).bind _ = _
  rw [h3]; rfl
theorem run_cons {m : M D} {ms : M (List D)} {x : D} {xs : List D} (h : m env p = .ok (x, e1, p1)) (h2 : ms e1 p1 = .ok (xs, e2, p2)) : mCons m ms env p = .ok (x :: xs, e2, p2) := run_bind h (run_bind h2 rfl)
theorem run_CB {f : List D → Res D} {ms : M (List D)} {xs : List D} {z : D} (h : ms env p = .ok (xs, e1, p1)) (h2 : f xs = .ok z) : mCB f ms env p = .ok (z, e1, p1) := by
  refine run_bind h ?_
  show (f xs).bind _ = _
  rw [h2]; rfl
theorem run_call {mf : FD} {ms : M (List D)} {xs : List D} {z : D} (h : ms env p = .ok (xs, e1, p1)) (h2 : mf xs p1 = .ok (z, p2)) : mCall mf [] ms env p = .ok (z, e1, p2) := by
  refine run_bind h ?_
  show (mf (xs ++ []) p1).bind _ = _
  rw [List.append_nil, h2]; rfl
theorem run_tup {ms : M (List D)} {xs : List D} (h : ms env p = .ok (xs, e1, p1)) (hl : xs.length ≤ sizeLine) : mTup ms env p = .ok (.tup xs, e1, p1) := by
  refine run_bind h ?_
  unfold mkT; rw [if_pos hl]; rfl
theorem run_lst {ms : M (List D)} {xs : List D} (h : ms env p = .ok (xs, e1, p1)) (hl : xs.length ≤ sizeLine) : mLst ms env p = .ok (.lst xs, e1, p1) := by
  refine run_bind h ?_
  unfold mkL; rw [if_pos hl]; rfl
theorem run_B {m : M D} {b : Bool} (h : m env p = .ok (.bl b, e1, p1)) : mB m env p = .ok (b, e1, p1) := run_bind h rfl
theorem run_not {m : M Bool} {b : Bool} (h : m env p = .ok (b, e1, p1)) : mNot m env p = .ok (!b, e1, p1) := run_bind h rfl
theorem run_notV {m : M D} {b : Bool} (h : m env p = .ok (.bl b, e1, p1)) : mNotV m env p = .ok (.bl (!b), e1, p1) := run_bind h rfl
theorem run_bor {m : M D} {d : D} (h : m (env.map Slot.fz) p = .ok (d, e1, p1)) (hf : d.flat = true) : mBor m env p = .ok (d, env, p1) := by
  unfold mBor; rw [h]
  show (if d.flat = true then _ else _) = _
  rw [if_pos hf]
theorem run_borT {m : M Bool} {b : Bool} (h : m (env.map Slot.fz) p = .ok (b, e1, p1)) : mBorT m env p = .ok (b, env, p1) := by
  unfold mBorT; rw [h]; rfl
theorem run_row {m : M D} {d : D} {ds : List D} (h : m env p = .ok (d, e1, p1)) (h2 : d.row = .ok ds) : mRow m env p = .ok (ds, e1, p1) := by
  refine run_bind h ?_
  rw [h2]; rfl
theorem rg_gen {n : Nat} {A B : Int} (h2 : (n : Int) < A) (h3 : B ≤ (n : Int)) : ((asI (D.int n)).bind fun n => if n < A ∧ B ≤ n then Res.ok ((List.range n.toNat).map fun (i : Nat) => D.int i) else Res.bad) = Res.ok ((List.range n).map fun (i : Nat) => D.int i) := by
  have h4 : asI (D.int n) = .ok (n : Int) := rfl
  rw [h4]
  simp only [Res.bind]
  rw [if_pos ⟨h2, h3⟩, Int.toNat_natCast]
theorem le62 {n : Nat} (hn : n ≤ 16777216) : (n : Int) < 2 ^ 62 := by omega
theorem ge62 {n : Nat} : -(2 ^ 62) ≤ (n : Int) := by omega
theorem run_range {m : M D} {n : Nat} (h : m env p = .ok (.int n, e1, p1)) (hn : n ≤ 16777216) : mRange1 m env p = .ok ((List.range n).map fun (i : Nat) => D.int i, e1, p1) := by
  unfold mRange1
  refine run_bind h ?_
  refine run_res ?_
  exact rg_gen (le62 hn) ge62
theorem run_fn {n N : Nat} {body : SS} {ds : List D} {d : D} (hl : ds.length = n) (h : body (ds.map Slot.pl ++ List.replicate (N - n) Slot.un) p = .rt d p1) : fnD n N body ds p = .ok (d, p1) := by
  unfold fnD; rw [if_pos hl, h]
theorem run_fnN {n N : Nat} {body : SS} {ds : List D} (hl : ds.length = n) (h : body (ds.map Slot.pl ++ List.replicate (N - n) Slot.un) p = .nx e1 p1) : fnD n N body ds p = .ok (.non, p1) := by
  unfold fnD; rw [if_pos hl, h]
/-! the same where the names stay as they are -/
theorem pRet {m : M D} {d : D} (h : m env p = .ok (d, env, p1)) : dRet m env p = .rt d p1 := run_ret h
theorem pExpr {m : M D} {d : D} (h : m env p = .ok (d, env, p1)) : dExpr m env p = .nx env p1 := run_expr h
theorem pSet {i : Nat} {m : M D} {d : D} (h : m env p = .ok (d, env, p1)) : dSet i m env p = .nx (env.set i (.pl d)) p1 := run_set h
theorem pSetO {i : Nat} {m : M D} {d : D} (h : m env p = .ok (d, env, p1)) : dSetO i m env p = .nx (env.set i (.ow d)) p1 := run_setO h
theorem pB {m : M D} {b : Bool} (h : m env p = .ok (.bl b, env, p1)) : mB m env p = .ok (b, env, p1) := run_B h
theorem pNot {m : M Bool} {b : Bool} (h : m env p = .ok (b, env, p1)) : mNot m env p = .ok (!b, env, p1) := run_not h
theorem pNotV {m : M D} {b : Bool} (h : m env p = .ok (.bl b, env, p1)) : mNotV m env p = .ok (.bl (!b), env, p1) := run_notV h
theorem pCB {f : List D → Res D} {ms : M (List D)} {xs : List D} {z : D} (h : ms env p = .ok (xs, env, p1)) (h2 : f xs = .ok z) : mCB f ms env p = .ok (z, env, p1) := run_CB h h2
theorem pCons {m : M D} {ms : M (List D)} {x : D} {xs : List D} (h : m env p = .ok (x, env, p1)) (h2 : ms env p1 = .ok (xs, env, p2)) : mCons m ms env p = .ok (x :: xs, env, p2) := run_cons h h2
theorem pOne {m : M D} {x : D} (h : m env p = .ok (x, env, p1)) : mCons m mNil env p = .ok ([x], env, p1) := run_cons h rfl
theorem pCall {mf : FD} {ms : M (List D)} {xs : List D} {z : D} (h : ms env p = .ok (xs, env, p1)) (h2 : mf xs p1 = .ok (z, p2)) : mCall mf [] ms env p = .ok (z, env, p2) := run_call h h2
theorem pRow {m : M D} {d : D} {ds : List D} (h : m env p = .ok (d, env, p1)) (h2 : d.row = .ok ds) : mRow m env p = .ok (ds, env, p1) := run_row h h2
theorem pIfT {t : M Bool} {a b : SS} {o : Out} (h : t env p = .ok (true, env, p1)) (h2 : a env p1 = o) : dIf t a b env p = o := run_ifT h h2
theorem pIfF {t : M Bool} {a b : SS} {o : Out} (h : t env p = .ok (false, env, p1)) (h2 : b env p1 = o) : dIf t a b env p = o := run_ifF h h2
theorem pM2 {f : D → D → Res D} {m n : M D} {x y z : D} (h : m env p = .ok (x, env, p1)) (h2 : n env p1 = .ok (y, env, p2)) (h3 : f x y = .ok z) : m2 f m n env p = .ok (z, env, p2) := run_m2 h h2 h3
theorem pAndT {a b : M D} {r : Res (D × Env' × Pn)} (h : a env p = .ok (.bl true, env, p1)) (h2 : b env p1 = r) : mAndV a b env p = r := by
  refine run_bind h ?_
  refine run_bind (a := true) (e1 := env) (p1 := p1) rfl ?_
  exact h2
theorem pAndF {a b : M D} (h : a env p = .ok (.bl false, env, p1)) : mAndV a b env p = .ok (.bl false, env, p1) := by
  refine run_bind h ?_
  exact run_bind (a := false) (e1 := env) (p1 := p1) rfl rfl
theorem pOrF {a b : M Bool} {r : Res (Bool × Env' × Pn)} (h : a env p = .ok (false, env, p1)) (h2 : b env p1 = r) : mOr a b env p = r := run_bind h h2
theorem pAndB {a b : M D} {x y : Bool} (h : a env p = .ok (.bl x, env, p1)) (h2 : x = true → b env p1 = .ok (.bl y, env, p1)) : mAndV a b env p = .ok (.bl (x && y), env, p1) := by
  cases x with
  | true => exact pAndT h (h2 rfl)
  | false => exact pAndF h
theorem pChain {f g : D → D → Res D} {m n l : M D} {x y z : D} {a b : Bool} (h1 : m env p = .ok (x, env, p)) (h2 : n env p = .ok (y, env, p)) (h3 : f x y = .ok (.bl a)) (h4 : l env p = .ok (z, env, p)) (h5 : g y z = .ok (.bl b)) : mChain f g m n l env p = .ok (.bl (a && b), env, p) := by
  refine run_bind h1 (run_bind h2 (run_bind (run_res h3) (run_bind (a := a) (e1 := env) (p1 := p) rfl ?_)))
  cases a with
  | true => exact run_bind h4 (run_res h5)
  | false => rfl
/-! ### comprehensions -/
theorem compL_run {b : Bd} {t : M Bool} {e : M D} (h : α → D) (c : α → Bool) (g : α → D) : ∀ (l : List α), (∀ a ∈ l, ∃ e1, b (h a) env = .ok e1 ∧ ∃ e2, t e1 p = .ok (c a, e2, p) ∧ (c a = true → ∃ e3, e e2 p = .ok (g a, e3, p))) → compL b t e env (l.map h) p = .ok ((l.filter c).map g, p)
  | [], _ => rfl
  | a :: l, H => by
    obtain ⟨e1, h1, e2, h2, h3⟩ := H a (List.mem_cons_self ..)
    have ih := compL_run h c g l fun x hx => H x (List.mem_cons_of_mem _ hx)
    show (b (h a) env).bind _ = _
    rw [h1]
    show (t e1 p).bind _ = _
    rw [h2]
    show (if c a = true then _ else _) = _
    cases hc : c a with
    | true =>
      obtain ⟨e3, h4⟩ := h3 hc
      rw [if_pos rfl, h4]
      show (compL b t e env (l.map h) p).bind _ = _
      rw [ih, List.filter_cons, if_pos hc]
      rfl
    | false =>
      rw [if_neg Bool.false_ne_true, ih, List.filter_cons, if_neg (by rw [hc]; exact Bool.false_ne_true)]
theorem run_comp {src : M (List D)} {vs : List Nat} {b : Bd} {t : M Bool} {e : M D} (h : α → D) (c : α → Bool) (g : α → D) (l : List α) (hs : src env p = .ok (l.map h, e1, p1))
    (H : ∀ a ∈ l, ∃ e3, b (h a) (wipeE (e1.map Slot.rd) vs) = .ok e3 ∧ ∃ e2, t e3 p1 = .ok (c a, e2, p1) ∧ (c a = true → ∃ e4, e e2 p1 = .ok (g a, e4, p1))) (hl : l.length ≤ sizeLine) : mComp src vs b t e env p = .ok (.lst ((l.filter c).map g), e1, p1) := by
  refine run_bind hs ?_
  show (compL b t e (wipeE (e1.map Slot.rd) vs) (l.map h) p1).bind _ = _
  rw [compL_run h c g l H]
  show (if ((l.filter c).map g).length ≤ sizeLine then _ else _) = _
  rw [if_pos (by rw [List.length_map]; exact Nat.le_trans (List.length_filter_le ..) hl)]
theorem comp2L_run {γ : Type} {b b1 : Bd} {t t1 : M Bool} {src1 : M (List D)} {vs1 : List Nat} {e : M D} (h : α → D) (l1 : α → List γ) (h1 : α → γ → D) (c1 : α → γ → Bool) (g : α → γ → D) : ∀ (l : List α), (∀ a ∈ l, ∃ e1, b (h a) env = .ok e1 ∧ ∃ e2, t e1 p = .ok (true, e2, p) ∧ ∃ e3, src1 e2 p = .ok ((l1 a).map (h1 a), e3, p) ∧
      ∀ x ∈ l1 a, ∃ e4, b1 (h1 a x) (wipeE (e1.map Slot.rd) vs1) = .ok e4 ∧ ∃ e5, t1 e4 p = .ok (c1 a x, e5, p) ∧ (c1 a x = true → ∃ e6, e e5 p = .ok (g a x, e6, p))) →
    comp2L b t src1 vs1 b1 t1 e env (l.map h) p = .ok (l.flatMap fun a => ((l1 a).filter (c1 a)).map (g a), p)
  | [], _ => rfl
  | a :: l, H => by
    obtain ⟨e1, k1, e2, k2, e3, k3, k4⟩ := H a (List.mem_cons_self ..)
    have ih := comp2L_run h l1 h1 c1 g l fun x hx => H x (List.mem_cons_of_mem _ hx)
    show (b (h a) env).bind _ = _
    rw [k1]
    show (t e1 p).bind _ = _
    rw [k2]
    show (src1 e2 p).bind _ = _
    rw [k3]
    show (compL b1 t1 e (wipeE (e1.map Slot.rd) vs1) ((l1 a).map (h1 a)) p).bind _ = _
    rw [compL_run (h1 a) (c1 a) (g a) (l1 a) k4]
    show (comp2L b t src1 vs1 b1 t1 e env (l.map h) p).bind _ = _
    rw [ih]
    rfl
theorem run_comp2 {γ : Type} {src : M (List D)} {vs : List Nat} {b b1 : Bd} {t t1 : M Bool} {src1 : M (List D)} {vs1 : List Nat} {e : M D} (h : α → D) (l1 : α → List γ) (h1 : α → γ → D) (c1 : α → γ → Bool) (g : α → γ → D) (l : List α) (hs : src env p = .ok (l.map h, e1, p1))
    (H : ∀ a ∈ l, ∃ e3, b (h a) (wipeE (e1.map Slot.rd) vs) = .ok e3 ∧ ∃ e2, t e3 p1 = .ok (true, e2, p1) ∧ ∃ e4, src1 e2 p1 = .ok ((l1 a).map (h1 a), e4, p1) ∧
      ∀ x ∈ l1 a, ∃ e5, b1 (h1 a x) (wipeE (e3.map Slot.rd) vs1) = .ok e5 ∧ ∃ e6, t1 e5 p1 = .ok (c1 a x, e6, p1) ∧ (c1 a x = true → ∃ e7, e e6 p1 = .ok (g a x, e7, p1)))
    (hl : (l.flatMap fun a => ((l1 a).filter (c1 a)).map (g a)).length ≤ sizeLine) : mComp2 src vs b t src1 vs1 b1 t1 e env p = .ok (.lst (l.flatMap fun a => ((l1 a).filter (c1 a)).map (g a)), e1, p1) := by
  refine run_bind hs ?_
  show (comp2L b t src1 vs1 b1 t1 e (wipeE (e1.map Slot.rd) vs) (l.map h) p1).bind _ = _
  rw [comp2L_run h l1 h1 c1 g l H]
  show (if _ then _ else _) = _
  rw [if_pos hl]
/-! ### loops -/
theorem forL_inv {b : Bd} {body : SS} (h : α → D) (Inv : List α → Env' → Pn → Prop) (l : List α) (hs : ∀ done a rest env p, l = done ++ a :: rest → Inv done env p → ∃ e1, b (h a) env = .ok e1 ∧ ∃ e2 p2, body e1 p = .nx e2 p2 ∧ Inv (done ++ [a]) e2 p2) :
    ∀ (rest done : List α) (env : Env') (p : Pn), l = done ++ rest → Inv done env p → ∃ e' p', dForL b body (rest.map h) env p = .nx e' p' ∧ Inv l e' p'
  | [], done, env, p, e, hi => ⟨env, p, rfl, by rw [e, List.append_nil]; exact hi⟩
  | a :: rest, done, env, p, e, hi => by
    obtain ⟨e1, h1, e2, p2, h2, h3⟩ := hs done a rest env p e hi
    obtain ⟨e', p', h4, h5⟩ := forL_inv h Inv l hs rest (done ++ [a]) e2 p2 (by rw [e]; simp) h3
    refine ⟨e', p', ?_, h5⟩
    rw [List.map_cons]
    unfold dForL
    rw [h1]
    dsimp only
    rw [h2]
    exact h4
theorem run_for {src : M (List D)} {b : Bd} {body : SS} (h : α → D) (l : List α) (Inv : List α → Env' → Pn → Prop) (hsrc : src env p = .ok (l.map h, e1, p1)) (h0 : Inv [] e1 p1)
    (hs : ∀ done a rest env p, l = done ++ a :: rest → Inv done env p → ∃ e1, b (h a) env = .ok e1 ∧ ∃ e2 p2, body e1 p = .nx e2 p2 ∧ Inv (done ++ [a]) e2 p2) : ∃ e' p', dFor src b body env p = .nx e' p' ∧ Inv l e' p' := by
  obtain ⟨e', p', h1, h2⟩ := forL_inv (b := b) (body := body) h Inv l hs l [] e1 p1 rfl h0
  exact ⟨e', p', run_of hsrc h1, h2⟩
theorem run_while {c : M Bool} {body : SS} (Inv : Nat → Env' → Pn → Prop) (Post : Env' → Pn → Prop) (hs : ∀ n env p, Inv n env p → ∃ k e1 p1, c env p = .ok (k, e1, p1) ∧ (k = true → ∃ m e2 p2, body e1 p1 = .nx e2 p2 ∧ m < n ∧ Inv m e2 p2) ∧ (k = false → Post e1 p1)) :
    ∀ (n : Nat) (env : Env') (p : Pn), Inv n env p → ∃ e' p', dWhile c body env p = .nx e' p' ∧ Post e' p' := by
  have main : ∀ (n : Nat) (env : Env') (p : Pn), Inv n env p → ∃ N e' p', dWhN c body N env p = .nx e' p' ∧ Post e' p' := by
    intro n
    induction n using Nat.strongRecOn with
    | ind n ih =>
      intro env p hi
      obtain ⟨k, e1, p1, h1, h2, h3⟩ := hs n env p hi
      cases k with
      | false => exact ⟨1, e1, p1, run_of h1 rfl, h3 rfl⟩
      | true =>
        obtain ⟨m, e2, p2, h4, hm, h5⟩ := h2 rfl
        obtain ⟨N, e', p', h6, h7⟩ := ih m hm e2 p2 h5
        refine ⟨N + 1, e', p', run_of h1 ?_, h7⟩
        show (match body e1 p1 with
          | .nx e p => dWhN c body N e p
          | .ct e p => dWhN c body N e p
          | .bk e p => .nx e p
          | .rt d p => .rt d p
          | .exc c xs => .exc c xs
          | .bad => .bad) = _
        rw [h4]
        exact h6
  intro n env p hi
  obtain ⟨N, e', p', h1, h2⟩ := main n env p hi
  exact ⟨e', p', dWhile_eq h1 (by simp), h2⟩
end
end CS
namespace CS
open PySem L2
open PyProof.Rows (envOfC)
/-! ## the law's own table -/
abbrev BM := List (List Bool)
def tab0 (n : Nat) : BM := (List.range n).map fun x => (List.range n).map fun y => decide (x = y)
def tabSet (M : BM) (q : Nat × Nat) : BM := M.set q.1 ((M.getD q.1 []).set q.2 true)
def tabOr (z : Nat) (M : BM) (x : Nat) : BM := if (M.getD x []).getD z false = true then M.set x (List.zipWith (· || ·) (M.getD x []) (M.getD z [])) else M
def tabM (n : Nat) (ps : List (Nat × Nat)) : BM := (List.range n).foldl (fun M z => (List.range n).foldl (tabOr z) M) (ps.foldl tabSet (tab0 n))
def rowB (m : List Bool) : D := .lst (m.map D.bl)
def toPrs (n : Nat) : List D → Res (List (Nat × Nat))
  | [] => .ok []
  | .tup [.int x, .int y] :: r => if 0 ≤ x ∧ x < n ∧ 0 ≤ y ∧ y < n then (toPrs n r).bind fun l => .ok ((x.toNat, y.toNat) :: l) else .bad
  | _ => .bad
def tableF : FD := fun ds p => match ds with
  | [.int k, X] => if 0 ≤ k ∧ k ≤ 1000 then X.row.bind fun l => (toPrs k.toNat l).bind fun ps => .ok (.lst ((tabM k.toNat ps).map rowB), p) else .bad
  | _ => .bad
theorem toPrs_ok {n : Nat} : ∀ {l : List D} {ps : List (Nat × Nat)}, toPrs n l = .ok ps → l = ps.map (fun q => D.tup [.int q.1, .int q.2]) ∧ ∀ q ∈ ps, q.1 < n ∧ q.2 < n
  | [], ps, h => by cases h; exact ⟨rfl, fun _ h => nomatch h⟩
  | d :: r, ps, h => by
    unfold toPrs at h
    split at h
    · rename_i e; cases e
    · rename_i x y r' e
      cases e
      split at h
      · rename_i hc
        obtain ⟨l, e1, e2⟩ := Res.bind_ok h
        cases e2
        obtain ⟨i1, i2⟩ := toPrs_ok e1
        refine ⟨?_, fun q hq => ?_⟩
        · rw [i1, List.map_cons]
          have h1 : ((x.toNat : Nat) : Int) = x := Int.toNat_of_nonneg hc.1
          have h2 : ((y.toNat : Nat) : Int) = y := Int.toNat_of_nonneg hc.2.2.1
          simp [h1, h2]
        · rcases List.mem_cons.mp hq with rfl | hq
          · constructor
            · show x.toNat < n; omega
            · show y.toNat < n; omega
          · exact i2 q hq
      · cases h
    · cases h
/-- the table at T, its rows at as, all new since H0 -/
structure TB (H0 H : Hp) (T : Addr) (as : List Addr) (M : BM) : Prop where
  t : H T = some (.lst (as.map V.ref))
  len : as.length = M.length
  row : ∀ (i : Nat) (a : Addr) (m : List Bool), as[i]? = some a → M[i]? = some m → H a = some (.lst (m.map V.bl))
  nd : as.Nodup
  tn : T ∉ as
  n0 : H0 T = none
  na : ∀ a ∈ as, H0 a = none
  keep : ∀ b o, H0 b = some o → H b = some o
section
variable {H0 H : Hp} {T : Addr} {as : List Addr} {M : BM}
theorem TB.mem (h : TB H0 H T as M) {a : Addr} (ha : a ∈ as) : H a ≠ none := by
  obtain ⟨i, hi, e⟩ := List.getElem_of_mem ha
  rw [h.row i a (M[i]'(by rw [← h.len]; exact hi)) (by rw [List.getElem?_eq_getElem hi, e]) (List.getElem?_eq_getElem _)]
  simp
theorem TB.free (h : TB H0 H T as M) {a : Addr} (hn : H a = none) : a ∉ as ∧ a ≠ T ∧ H0 a = none := by
  refine ⟨fun z => h.mem z hn, fun z => by (rw [z, h.t] at hn; cases hn), ?_⟩
  cases e : H0 a with
  | none => rfl
  | some o => rw [h.keep _ _ e] at hn; cases hn
theorem TB.push (h : TB H0 H T as M) {a : Addr} (hn : H a = none) (m : List Bool) :
    TB H0 (upd (upd H a (.lst (m.map V.bl))) T (.lst (as.map V.ref ++ [V.ref a]))) T (as ++ [a]) (M ++ [m]) := by
  obtain ⟨f1, f2, f3⟩ := h.free hn
  refine ⟨by rw [upd_same]; simp, by simp [h.len], fun i b m' h1 h2 => ?_, ?_, ?_, h.n0, ?_, ?_⟩
  · by_cases hi : i < as.length
    · rw [List.getElem?_append_left hi] at h1
      rw [List.getElem?_append_left (by rw [← h.len]; exact hi)] at h2
      have hb : b ∈ as := List.mem_of_getElem? h1
      rw [upd_ne (a := T) (b := b) (fun z => h.tn (z ▸ hb)), upd_ne (a := a) (b := b) (fun z => f1 (z ▸ hb))]
      exact h.row i b m' h1 h2
    · have e : i = as.length := by
        have := (List.getElem?_eq_some_iff.mp h1).1
        simp at this; omega
      subst e
      rw [List.getElem?_append_right (Nat.le_refl _)] at h1
      rw [List.getElem?_append_right (by rw [h.len]; exact Nat.le_refl _)] at h2
      simp at h1
      rw [h.len] at h2
      simp at h2
      subst h1 h2
      rw [upd_ne f2, upd_same]
  · rw [List.nodup_append]
    refine ⟨h.nd, by simp, fun x hx y hy => ?_⟩
    simp at hy; subst hy
    exact fun z => f1 (z ▸ hx)
  · simp only [List.mem_append, List.mem_singleton, not_or]
    exact ⟨h.tn, fun z => f2 z.symm⟩
  · intro b hb
    rcases List.mem_append.mp hb with hb | hb
    · exact h.na b hb
    · simp at hb; subst hb; exact f3
  · intro b o e
    have h1 : b ≠ T := fun z => by rw [z, h.n0] at e; cases e
    have h2 : b ≠ a := fun z => by rw [z, f3] at e; cases e
    rw [upd_ne h1, upd_ne h2]
    exact h.keep b o e
theorem nd_ix {α : Type} {l : List α} (h : l.Nodup) {i j : Nat} {a : α} (h1 : l[i]? = some a) (h2 : l[j]? = some a) : i = j := by
  obtain ⟨p1, p2⟩ := List.getElem?_eq_some_iff.mp h1
  obtain ⟨q1, q2⟩ := List.getElem?_eq_some_iff.mp h2
  rcases Nat.lt_trichotomy i j with z | z | z
  · exact absurd (p2.trans q2.symm) (List.pairwise_iff_getElem.mp h i j p1 q1 z)
  · exact z
  · exact absurd (q2.trans p2.symm) (List.pairwise_iff_getElem.mp h j i q1 p1 z)
theorem nd_of {α : Type} {l : List α} (h : ∀ (i j : Nat) (a : α), l[i]? = some a → l[j]? = some a → i = j) : l.Nodup := by
  refine List.pairwise_iff_getElem.mpr fun i j hi hj hij z => ?_
  have := h i j _ (List.getElem?_eq_getElem hi) (by rw [List.getElem?_eq_getElem hj, z])
  omega
theorem TB.setRow (h : TB H0 H T as M) {i : Nat} {a : Addr} (hi : as[i]? = some a) (m : List Bool) : TB H0 (upd H a (.lst (m.map V.bl))) T as (M.set i m) := by
  have ha : a ∈ as := List.mem_of_getElem? hi
  have at_ : a ≠ T := fun z => h.tn (z ▸ ha)
  refine ⟨by rw [upd_ne at_.symm]; exact h.t, by simp [h.len], fun j b m' h1 h2 => ?_, h.nd, h.tn, h.n0, h.na, fun b o e => ?_⟩
  · by_cases hj : j = i
    · subst hj
      rw [hi] at h1; cases h1
      have hl : j < M.length := by rw [← h.len]; exact (List.getElem?_eq_some_iff.mp hi).1
      rw [List.getElem?_set_self hl] at h2
      cases h2
      rw [upd_same]
    · have hne : b ≠ a := fun z => by
        subst z
        exact hj (nd_ix h.nd h1 hi)
      rw [List.getElem?_set_ne (fun z => hj z.symm)] at h2
      rw [upd_ne hne]
      exact h.row j b m' h1 h2
  · have : b ≠ a := fun z => by rw [z, h.na a ha] at e; cases e
    rw [upd_ne this]
    exact h.keep b o e
theorem TB.newRow (h : TB H0 H T as M) {i : Nat} {b : Addr} (hn : H b = none) (m : List Bool) (hi : i < as.length) :
    TB H0 (upd (upd H b (.lst (m.map V.bl))) T (.lst ((as.map V.ref).set i (.ref b)))) T (as.set i b) (M.set i m) := by
  obtain ⟨f1, f2, f3⟩ := h.free hn
  refine ⟨by rw [upd_same, List.map_set], by simp [h.len], fun j c m' h1 h2 => ?_, ?_, ?_, h.n0, ?_, ?_⟩
  · by_cases hj : j = i
    · subst hj
      rw [List.getElem?_set_self hi] at h1
      rw [List.getElem?_set_self (by rw [← h.len]; exact hi)] at h2
      cases h1; cases h2
      rw [upd_ne f2, upd_same]
    · rw [List.getElem?_set_ne (fun z => hj z.symm)] at h1 h2
      have hc : c ∈ as := List.mem_of_getElem? h1
      rw [upd_ne (a := T) (b := c) (fun z => h.tn (z ▸ hc)), upd_ne (a := b) (b := c) (fun z => f1 (z ▸ hc))]
      exact h.row j c m' h1 h2
  · refine nd_of fun j k c h1 h2 => ?_
    by_cases hji : j = i
    · by_cases hki : k = i
      · rw [hji, hki]
      · subst hji
        rw [List.getElem?_set_self hi] at h1
        rw [List.getElem?_set_ne (fun z => hki z.symm)] at h2
        cases h1
        exact absurd (List.mem_of_getElem? h2) f1
    · by_cases hki : k = i
      · subst hki
        rw [List.getElem?_set_self hi] at h2
        rw [List.getElem?_set_ne (fun z => hji z.symm)] at h1
        cases h2
        exact absurd (List.mem_of_getElem? h1) f1
      · rw [List.getElem?_set_ne (fun z => hji z.symm)] at h1
        rw [List.getElem?_set_ne (fun z => hki z.symm)] at h2
        exact nd_ix h.nd h1 h2
  · intro hT
    rcases List.mem_or_eq_of_mem_set hT with z | z
    · exact h.tn z
    · exact f2 z.symm
  · intro c hc
    rcases List.mem_or_eq_of_mem_set hc with z | z
    · exact h.na c z
    · rw [z]; exact f3
  · intro c o e
    have h1 : c ≠ T := fun z => by rw [z, h.n0] at e; cases e
    have h2 : c ≠ b := fun z => by rw [z, f3] at e; cases e
    rw [upd_ne h1, upd_ne h2]
    exact h.keep c o e
/-- other new things -/
theorem TB.more (h : TB H0 H T as M) {b : Addr} (hn : H b = none) (o : HO) : TB H0 (upd H b o) T as M := by
  obtain ⟨f1, f2, f3⟩ := h.free hn
  refine ⟨by rw [upd_ne f2.symm]; exact h.t, h.len, fun i a m h1 h2 => ?_, h.nd, h.tn, h.n0, h.na, fun c u e => ?_⟩
  · rw [upd_ne (a := b) (b := a) (fun z => f1 (z ▸ List.mem_of_getElem? h1))]; exact h.row i a m h1 h2
  · rw [upd_ne (fun z => by rw [z, f3] at e; cases e)]; exact h.keep c u e
end
theorem Reps.of_get {R : RC} {F : Hp} : ∀ {ds : List D} {vs : List V}, ds.length = vs.length → (∀ (i : Nat) (d : D) (v : V), ds[i]? = some d → vs[i]? = some v → Rep R F d v) → Reps R F ds vs
  | [], [], _, _ => .nil
  | [], _ :: _, h, _ => nomatch h
  | _ :: _, [], h, _ => nomatch h
  | d :: ds, v :: vs, h, g => .cons (g 0 d v rfl rfl) (Reps.of_get (by simpa using h) fun i d' v' h1 h2 => g (i + 1) d' v' (by simpa using h1) (by simpa using h2))
/-- the table is given out: it stands still from now on -/
theorem TB.give {R : RC} {F H0 H : Hp} {p : Pn} {T : Addr} {as : List Addr} {M : BM} (h : TB H0 H T as M) (fh : Same F H0) (pen : PenRel R F H0 p) :
    ∃ F', Ext R F H0 p F' H p ∧ Rep R F' (.lst (M.map rowB)) (.ref T) := by
  classical
  have fT : F T = none := fh.free h.n0
  have fa : ∀ a ∈ as, F a = none := fun a ha => fh.free (h.na a ha)
  refine ⟨fun b => if b = T ∨ b ∈ as then H b else F b, ⟨fun b o e => ?_, fun b o e => ?_, fun b o _ e => h.keep b o e, fun a e => ?_, rfl, ?_⟩, ?_⟩
  · have : ¬ (b = T ∨ b ∈ as) := by
      rintro (z | z)
      · rw [z, fT] at e; cases e
      · rw [fa b z] at e; cases e
    show (if _ then _ else _) = _
    rw [if_neg this]; exact e
  · revert e
    show (if _ then _ else _) = _ → _
    split
    · exact id
    · exact fun e => h.keep b o (fh _ _ e)
  · revert e
    show (if _ then _ else _) ≠ _ → _
    split
    · rename_i z
      intro _
      rcases z with z | z
      · rw [z]; exact .inr h.n0
      · exact .inr (h.na a z)
    · exact fun e => .inl e
  · cases p with
    | none => trivial
    | some P =>
      obtain ⟨q1, q2, q3⟩ := pen
      refine ⟨?_, h.keep _ _ q2, q3⟩
      show (if _ then _ else _) = _
      rw [if_neg]
      · exact q1
      · rintro (z | z)
        · exact absurd h.n0 (by rw [← z, q2]; simp)
        · exact absurd (h.na _ z) (by rw [q2]; simp)
  · simp only [Rep]
    refine ⟨T, as.map V.ref, rfl, ?_, Reps.of_get (by simp [h.len]) fun i d v h1 h2 => ?_⟩
    · show (if _ then _ else _) = _
      rw [if_pos (.inl rfl)]; exact h.t
    · rw [List.getElem?_map] at h1 h2
      obtain ⟨m, e1, rfl⟩ := Option.map_eq_some_iff.mp h1
      obtain ⟨a, e2, rfl⟩ := Option.map_eq_some_iff.mp h2
      show Rep R _ (.lst _) _
      simp only [Rep]
      refine ⟨a, m.map V.bl, rfl, ?_, ?_⟩
      · show (if _ then _ else _) = _
        rw [if_pos (.inr (List.mem_of_getElem? e2))]; exact h.row i a m e2 e1
      · clear h1 h2 e1
        induction m with
        | nil => exact .nil
        | cons b m ih => exact .cons (by simp [Rep]) ih
end CS
namespace CS
open PySem L2
open PyProof.Rows (envOfC)
/-! ## the law's own table: what its text reads -/
section
variable {K : PySem.W.Frag} {H0 H : Hp} {T : Addr} {as : List Addr} {M : BM}
theorem sz1000 {m : Nat} (h : m ≤ 1000) : m < sizeLine := Nat.lt_of_le_of_lt h (by decide)
theorem r62 {n : Nat} (h : n ≤ 1000) : -(2 ^ 62) ≤ (n : Int) ∧ (n : Int) < 2 ^ 62 := ⟨by omega, by omega⟩
/-- [f y for y in range(n)]: a new list of truths -/
theorem lc_row {n : Nat} (hn : n ≤ 1000) {te : TE} {σ : L2.St} {H1 : Hp} {Q : VK} (f : Nat → Bool) {v0 vy : Nat} (hs0 : σ[v0]? = some (some (V.int n)))
    (hte : ∀ i, i < n → ∀ H' Q', Q' (V.bl (f i)) H' → te ((wipe σ [vy]).set vy (some (V.int i))) H' Q')
    (hq : ∀ D, H1 D = none → Q (.ref D) (upd H1 D (.lst (((List.range n).map f).map V.bl)))) :
    tLc (iRng1 (tCons (tVar v0) tNil)) (gName vy) tYes te [vy] σ H1 Q := by
  refine ⟨_, hs0, n, rfl, (r62 hn).1, (r62 hn).2, fun D hD => ?_⟩
  rw [Int.toNat_natCast]
  refine lc_range (fun i H => H = upd H1 D (.lst (((List.range i).map f).map V.bl))) (by simp) (fun i H hi hP => ?_) fun H hP => ?_
  · refine ⟨by simp [wipe], ?_⟩
    unfold tYes
    dsimp only
    rw [if_pos rfl]
    rw [Int.zero_add]
    refine hte i hi H _ ?_
    rw [hP]
    refine ⟨_, upd_same, by simp; exact sz1000 (by omega), ?_⟩
    rw [upd_upd]
    simp [List.range_succ]
  · rw [hP]; exact hq D hD
/-- [a or b for a, b in zip(l1, l2)] -/
theorem lc_or {te1 te2 : TE} {σ : L2.St} {H1 : Hp} {Q : VK} {a b : Addr} {l m : List Bool} (hl : H1 a = some (.lst (l.map V.bl))) (hm : H1 b = some (.lst (m.map V.bl))) (hle : l.length ≤ 1000) (hσ : 7 < σ.length)
    (h1 : ∀ H Q, H = H1 → Q (.ref a) H → te1 σ H Q) (h2 : ∀ H Q, H = H1 → Q (.ref b) H → te2 σ H Q)
    (hq : ∀ D H', H1 D = none → (∀ c o, H1 c = some o → H' c = some o) → H' D = some (.lst ((List.zipWith (· || ·) l m).map V.bl)) → Q (.ref D) H') :
    tLc (RZ.iZipA K (tCons te1 (tCons te2 tNil))) (gTup K 2 (gCons (gName 6) (gCons (gName 7) gNil))) tYes (tOrV (tVar 6) (tVar 7)) [6, 7] σ H1 Q := by
  refine h1 H1 _ rfl (h2 H1 _ rfl ⟨a, b, _, _, rfl, .inl ⟨SqL.of hl, SqL.of hm, fun D hD => ?_⟩⟩)
  have la : ∀ {i : Nat}, i < (List.zipWith (· || ·) l m).length → i < l.length ∧ i < m.length := fun h => by rw [List.length_zipWith] at h; omega
  refine ⟨fun i k H => k = (List.zipWith (· || ·) l m).length - i ∧ i ≤ (List.zipWith (· || ·) l m).length ∧ (∀ c o, H1 c = some o → H c = some o) ∧ H D = some (.lst (((List.zipWith (· || ·) l m).take i).map V.bl)), ⟨_, rfl, Nat.zero_le _, fun c o e => by rw [upd_ne (ne_of_none e hD)]; exact e, by rw [upd_same]; simp⟩, ?_⟩
  rintro i k H ⟨rfl, hi, hk, hacc⟩
  by_cases hlt : i < (List.zipWith (· || ·) l m).length
  · obtain ⟨i1, i2⟩ := la hlt
    have x1 : (l.map V.bl)[i]? = some (V.bl l[i]) := by simp [i1]
    have x2 : (m.map V.bl)[i]? = some (V.bl m[i]) := by simp [i2]
    refine .inr ⟨⟨_, _, _, _, SqL.of (hk _ _ hl), SqL.of (hk _ _ hm), x1, x2⟩, fun H' => (∀ c o, H1 c = some o → H' c = some o) ∧ H' D = some (.lst (((List.zipWith (· || ·) l m).take (i + 1)).map V.bl)), fun H' hn => ⟨_, by omega, rfl, hlt, hn⟩, ?_⟩
    rintro x H' ⟨t, x1', x2', rfl, ht, rfl, k1, k2⟩
    have g1 := k1 _ (SqL.of (hk _ _ hl))
    have g2 := k2 _ (SqL.of (hk _ _ hm))
    rw [x1] at g1; cases g1
    rw [x2] at g2; cases g2
    have wl : (wipe σ [6, 7]).length = σ.length := wipe_length _ _
    refine ⟨t, _, rfl, SqT.of upd_same, rfl, _, _, rfl, _, _, rfl, rfl, ?_, ?_⟩
    · simp [wipe, List.set_comm]
    · unfold tYes
      dsimp only
      rw [if_pos rfl]
      have tD : D ≠ t := ne_of_none hacc ht
      have fin : ∃ acc, upd H t (.tup [V.bl l[i], V.bl m[i]]) D = some (.lst acc) ∧ acc.length < sizeLine ∧ (∀ c o, H1 c = some o → upd (upd H t (.tup [V.bl l[i], V.bl m[i]])) D (.lst (acc ++ [V.bl (l[i] || m[i])])) c = some o) ∧ upd (upd H t (.tup [V.bl l[i], V.bl m[i]])) D (.lst (acc ++ [V.bl (l[i] || m[i])])) D = some (.lst (((List.zipWith (· || ·) l m).take (i + 1)).map V.bl)) := by
        refine ⟨_, by rw [upd_ne tD]; exact hacc, ?_, fun c o e => ?_, ?_⟩
        · simp
          exact sz1000 (by omega)
        · rw [upd_ne (ne_of_none e hD), upd_ne (ne_of_none (hk c o e) ht)]
          exact hk c o e
        · rw [upd_same, List.take_succ_eq_append_getElem hlt]
          simp
      refine ⟨V.bl l[i], ?_, l[i], rfl, ?_⟩
      · rw [List.getElem?_set_ne (by decide), List.getElem?_set_self (by rw [wl]; omega)]
      · cases h : l[i] with
        | true =>
          rw [if_pos rfl]
          rw [h] at fin
          exact fin
        | false =>
          rw [if_neg Bool.false_ne_true]
          rw [h] at fin
          exact ⟨V.bl m[i], by rw [List.getElem?_set_self (by rw [List.length_set, wl]; omega)], fin⟩
  · have e : i = (List.zipWith (· || ·) l m).length := by omega
    subst e
    rw [List.take_length] at hacc
    refine .inl ⟨⟨_, _, SqL.of (hk _ _ hl), SqL.of (hk _ _ hm), ?_⟩, hq D H hD hk hacc⟩
    rw [List.length_map, List.length_map, List.length_zipWith]; omega
end
end CS
namespace CS
open PySem L2
section
variable {K : PySem.W.Frag} {H0 H H' : Hp} {T : Addr} {as : List Addr} {M : BM}
theorem ixN_nat' {n j : Nat} (hj : j < n) : ixN n (j : Int) = some j := by
  unfold ixN
  rw [if_pos (by omega), if_pos (by omega)]
  simp
theorem TB.ext (h : TB H0 H T as M) (e : ∀ c o, H c = some o → H' c = some o) : TB H0 H' T as M :=
  ⟨e _ _ h.t, h.len, fun i a m h1 h2 => e _ _ (h.row i a m h1 h2), h.nd, h.tn, h.n0, h.na, fun c o z => e _ _ (h.keep c o z)⟩
theorem TB.putRow (h : TB H0 H T as M) {i : Nat} {b : Addr} {m : List Bool} (hb : H b = some (.lst (m.map V.bl))) (f1 : b ∉ as) (f2 : b ≠ T) (f3 : H0 b = none) (hi : i < as.length) :
    TB H0 (upd H T (.lst ((as.map V.ref).set i (.ref b)))) T (as.set i b) (M.set i m) := by
  refine ⟨by rw [upd_same, List.map_set], by simp [h.len], fun j c m' h1 h2 => ?_, ?_, ?_, h.n0, ?_, ?_⟩
  · by_cases hj : j = i
    · subst hj
      rw [List.getElem?_set_self hi] at h1
      rw [List.getElem?_set_self (by rw [← h.len]; exact hi)] at h2
      cases h1; cases h2
      rw [upd_ne f2]; exact hb
    · rw [List.getElem?_set_ne (fun z => hj z.symm)] at h1 h2
      have hc : c ∈ as := List.mem_of_getElem? h1
      rw [upd_ne (a := T) (b := c) (fun z => h.tn (z ▸ hc))]
      exact h.row j c m' h1 h2
  · refine nd_of fun j k c h1 h2 => ?_
    by_cases hji : j = i
    · by_cases hki : k = i
      · rw [hji, hki]
      · subst hji
        rw [List.getElem?_set_self hi] at h1
        rw [List.getElem?_set_ne (fun z => hki z.symm)] at h2
        cases h1
        exact absurd (List.mem_of_getElem? h2) f1
    · by_cases hki : k = i
      · subst hki
        rw [List.getElem?_set_self hi] at h2
        rw [List.getElem?_set_ne (fun z => hji z.symm)] at h1
        cases h2
        exact absurd (List.mem_of_getElem? h1) f1
      · rw [List.getElem?_set_ne (fun z => hji z.symm)] at h1
        rw [List.getElem?_set_ne (fun z => hki z.symm)] at h2
        exact nd_ix h.nd h1 h2
  · intro hT
    rcases List.mem_or_eq_of_mem_set hT with z | z
    · exact h.tn z
    · exact f2 z.symm
  · intro c hc
    rcases List.mem_or_eq_of_mem_set hc with z | z
    · exact h.na c z
    · rw [z]; exact f3
  · intro c o e
    have h1 : c ≠ T := fun z => by rw [z, h.n0] at e; cases e
    rw [upd_ne h1]
    exact h.keep c o e
/-- n rows of n truths -/
structure Shp (n : Nat) (M : BM) : Prop where
  len : M.length = n
  row : ∀ m ∈ M, m.length = n
theorem Shp.at (h : Shp n M) {i : Nat} (hi : i < n) : ∃ m, M[i]? = some m ∧ M.getD i [] = m ∧ m.length = n := by
  have hl : i < M.length := by rw [h.len]; exact hi
  refine ⟨M[i], List.getElem?_eq_getElem hl, ?_, h.row _ (List.getElem_mem hl)⟩
  rw [List.getD_eq_getElem?_getD, List.getElem?_eq_getElem hl]; rfl
theorem Shp.set (h : Shp n M) {i : Nat} {m : List Bool} (hm : m.length = n) : Shp n (M.set i m) :=
  ⟨by rw [List.length_set, h.len], fun x hx => by
    rcases List.mem_or_eq_of_mem_set hx with z | z
    · exact h.row _ z
    · rw [z, hm]⟩
theorem Shp.tab0 (n : Nat) : Shp n (tab0 n) := ⟨by simp [CS.tab0], fun m hm => by
  obtain ⟨x, _, rfl⟩ := List.mem_map.mp hm
  simp⟩
theorem Shp.tabSet (h : Shp n M) {q : Nat × Nat} (h1 : q.1 < n) : Shp n (tabSet M q) := by
  obtain ⟨m, _, e, hl⟩ := h.at h1
  exact h.set (by rw [List.length_set, e, hl])
theorem Shp.tabOr (h : Shp n M) {z x : Nat} (hz : z < n) (hx : x < n) : Shp n (tabOr z M x) := by
  unfold CS.tabOr
  split
  · obtain ⟨m, _, e, hl⟩ := h.at hx
    obtain ⟨m', _, e', hl'⟩ := h.at hz
    exact h.set (by rw [List.length_zipWith, e, e', hl, hl', Nat.min_self])
  · exact h
theorem foldl_take {α β : Type} (f : β → α → β) (b : β) (l : List α) {i : Nat} {a : α} (h : l[i]? = some a) : (l.take (i + 1)).foldl f b = f ((l.take i).foldl f b) a := by
  obtain ⟨h1, h2⟩ := List.getElem?_eq_some_iff.mp h
  rw [List.take_succ_eq_append_getElem h1, List.foldl_append, h2]; rfl
theorem foldl_range {β : Type} (f : β → Nat → β) (b : β) (i : Nat) : (List.range (i + 1)).foldl f b = f ((List.range i).foldl f b) i := by
  rw [List.range_succ, List.foldl_append]; rfl
/-- the slots of the def that stay -/
structure SlT (n : Nat) (pa T : Addr) (σ : L2.St) : Prop where
  len : σ.length = 8
  s0 : σ[0]? = some (some (.int n))
  s1 : σ[1]? = some (some (.ref pa))
  s2 : σ[2]? = some (some (.ref T))
theorem SlT.set {n : Nat} {pa : Addr} {σ : L2.St} (h : SlT n pa T σ) {i : Nat} (hi : 3 ≤ i) (v : Option V) : SlT n pa T (σ.set i v) :=
  ⟨by rw [List.length_set, h.len], by rw [List.getElem?_set_ne (by omega)]; exact h.s0, by rw [List.getElem?_set_ne (by omega)]; exact h.s1, by rw [List.getElem?_set_ne (by omega)]; exact h.s2⟩
theorem TB.addr (h : TB H0 H T as M) {i : Nat} {m : List Bool} (hm : M[i]? = some m) : ∃ a, as[i]? = some a ∧ H a = some (.lst (m.map V.bl)) := by
  have hl : i < as.length := by rw [h.len]; exact (List.getElem?_eq_some_iff.mp hm).1
  exact ⟨as[i], List.getElem?_eq_getElem hl, h.row i _ m (List.getElem?_eq_getElem hl) hm⟩
/-- table[x] -/
theorem tb_ix (h : TB H0 H T as M) {σ : L2.St} {n : Nat} {pa : Addr} (S : SlT n pa T σ) {k x : Nat} {a : Addr} (hk : σ[k]? = some (some (V.int x))) (ha : as[x]? = some a) {Q : VK} (q : Q (.ref a) H) : tOp (rIxL K) (tVar 2) (tVar k) σ H Q :=
  ⟨_, S.s2, _, hk, T, as.map V.ref, x, .ref a, rfl, rfl, SqL.of h.t, atI_nat (by rw [List.getElem?_map, ha]; rfl), q⟩
/-- the first loop's body -/
theorem tb_set (h : TB H0 H T as M) (sh : Shp n M) {σ : L2.St} {pa : Addr} (S : SlT n pa T σ) {a b : Nat} (ha : a < n) (hb : b < n) (h3 : σ[3]? = some (some (V.int a))) (h4 : σ[4]? = some (some (V.int b))) {D : Ends}
    (q : ∀ H', TB H0 H' T as (tabSet M (a, b)) → D.nx σ H') : tAsg (tC (V.bl true)) (gSub (tOp (rIxL K) (tVar 2) (tVar 3)) (tVar 4) rSetL) D σ H := by
  obtain ⟨m, hm, e, hl⟩ := sh.at ha
  obtain ⟨r, hr, hH⟩ := h.addr hm
  refine tb_ix h S h3 hr ⟨_, h4, r, m.map V.bl, b, b, rfl, rfl, hH, ixN_nat' (by rw [List.length_map, hl]; exact hb), q _ ?_⟩
  have := h.setRow hr (m.set b true)
  rw [List.map_set] at this
  unfold tabSet
  dsimp only
  rw [e]
  exact this
/-- the second loops' body -/
theorem tb_or (hn : n ≤ 1000) (h : TB H0 H T as M) (sh : Shp n M) {σ : L2.St} {pa : Addr} (S : SlT n pa T σ) {x z : Nat} (hx : x < n) (hz : z < n) (h3 : σ[3]? = some (some (V.int x))) (h5 : σ[5]? = some (some (V.int z))) {D : Ends}
    (q : ∀ as' H', TB H0 H' T as' (tabOr z M x) → D.nx σ H') :
    tIfS (tB (tOp (rIxL K) (tOp (rIxL K) (tVar 2) (tVar 3)) (tVar 5))) (tAsg (tLc (RZ.iZipA K (tCons (tOp (rIxL K) (tVar 2) (tVar 3)) (tCons (tOp (rIxL K) (tVar 2) (tVar 5)) tNil))) (gTup K 2 (gCons (gName 6) (gCons (gName 7) gNil))) tYes (tOrV (tVar 6) (tVar 7)) [6, 7]) (gSub (tVar 2) (tVar 3) rSetL)) tNext D σ H := by
  obtain ⟨mx, hmx, ex, hlx⟩ := sh.at hx
  obtain ⟨mz, hmz, ez, hlz⟩ := sh.at hz
  obtain ⟨rx, hrx, hHx⟩ := h.addr hmx
  obtain ⟨rz, hrz, hHz⟩ := h.addr hmz
  have hzl : z < mx.length := by rw [hlx]; exact hz
  refine tb_ix h S h3 hrx ⟨_, h5, rx, mx.map V.bl, z, .bl mx[z], rfl, rfl, SqL.of hHx, atI_nat (by rw [List.getElem?_map, List.getElem?_eq_getElem hzl]; rfl), mx[z], rfl, ?_⟩
  have eg : (M.getD x []).getD z false = mx[z] := by rw [ex, List.getD_eq_getElem?_getD, List.getElem?_eq_getElem hzl]; rfl
  cases hc : mx[z] with
  | false =>
    dsimp only
    rw [if_neg Bool.false_ne_true]
    refine q as H ?_
    unfold tabOr
    rw [eg, hc, if_neg Bool.false_ne_true]
    exact h
  | true =>
    dsimp only
    rw [if_pos rfl]
    refine lc_or (K := K) hHx hHz (by omega) (by rw [S.len]; decide) (fun H' Q e q => by subst e; exact tb_ix h S h3 hrx q) (fun H' Q e q => by subst e; exact tb_ix h S h5 hrz q) fun N H' hN ek eN => ?_
    obtain ⟨f1, f2, f3⟩ := h.free hN
    have h' := h.ext ek
    have hxl : x < as.length := by rw [h.len, sh.len]; exact hx
    refine ⟨_, S.s2, _, h3, T, as.map V.ref, x, x, rfl, rfl, h'.t, ixN_nat' (by rw [List.length_map]; exact hxl), q (as.set x N) _ ?_⟩
    unfold tabOr
    rw [eg, hc, if_pos rfl, ex, ez]
    exact h'.putRow eN f1 f2 f3 hxl
theorem table_run (hn : n ≤ 1000) {ps : List (Nat × Nat)} (hps : ∀ q ∈ ps, q.1 < n ∧ q.2 < n) {pa : Addr} {xs : List V} (hx : SqL K H pa xs ∨ SqT K H pa xs) (hlen : xs.length = ps.length)
    (hit : ∀ (i : Nat) (q : Nat × Nat), ps[i]? = some q → ∃ t, xs[i]? = some (.ref t) ∧ SqT K H t [.int q.1, .int q.2]) {nx : L2.St → Hp → Prop} {bk ct : L2.St → Hp → Prop} {Q : VK} (hq : ∀ T as H', TB H H' T as (tabM n ps) → Q (.ref T) H') :
    tSeq (tAsg (tLc (iRng1 (tCons (tVar 0) tNil)) (gName 3) tYes (tLc (iRng1 (tCons (tVar 0) tNil)) (gName 4) tYes (tOp rEq (tVar 3) (tVar 4)) [4]) [3]) (gName 2))
      (tSeq (tFor (iSeq K (tVar 1)) (gTup K 2 (gCons (gName 3) (gCons (gName 4) gNil))) (tAsg (tC (V.bl true)) (gSub (tOp (rIxL K) (tVar 2) (tVar 3)) (tVar 4) rSetL)))
        (tSeq (tFor (iRng1 (tCons (tVar 0) tNil)) (gName 5) (tFor (iRng1 (tCons (tVar 0) tNil)) (gName 3)
          (tIfS (tB (tOp (rIxL K) (tOp (rIxL K) (tVar 2) (tVar 3)) (tVar 5))) (tAsg (tLc (RZ.iZipA K (tCons (tOp (rIxL K) (tVar 2) (tVar 3)) (tCons (tOp (rIxL K) (tVar 2) (tVar 5)) tNil))) (gTup K 2 (gCons (gName 6) (gCons (gName 7) gNil))) tYes (tOrV (tVar 6) (tVar 7)) [6, 7]) (gSub (tVar 2) (tVar 3) rSetL)) tNext)))
          (tRet (tVar 2)))) { nx := nx, rt := Q, bk := bk, ct := ct } [some (.int n), some (.ref pa), none, none, none, none, none, none] H := by
  have hr := r62 hn
  refine ⟨_, rfl, n, rfl, hr.1, hr.2, fun T hT => ?_⟩
  rw [Int.toNat_natCast]
  refine lc_range (fun i H' => ∃ as, TB H H' T as ((tab0 n).take i)) ⟨[], ⟨upd_same, rfl, fun i a m h _ => by simp at h, List.nodup_nil, by simp, hT, by simp, fun b o e => by rw [upd_ne (ne_of_none e hT)]; exact e⟩⟩ (fun i H1 hi ⟨as, hTB⟩ => ?_) fun H1 ⟨as, hTB⟩ => ?_
  · refine ⟨by simp [wipe], ?_⟩
    unfold tYes
    dsimp only
    rw [if_pos rfl, Int.zero_add]
    refine lc_row hn (fun j => decide (i = j)) rfl (fun j hj H2 Q' q => ⟨.int i, rfl, .int j, rfl, rfl, ?_⟩) fun N hN => ?_
    · have : decide (V.int (i : Int) = V.int (j : Int)) = decide (i = j) := decide_eq_decide.mpr ⟨fun h => by injection h with h; omega, fun h => by rw [h]⟩
      rw [this]; exact q
    · obtain ⟨f1, f2, f3⟩ := hTB.free hN
      refine ⟨_, by rw [upd_ne f2.symm]; exact hTB.t, ?_, as ++ [N], ?_⟩
      · rw [List.length_map, hTB.len, List.length_take]; exact sz1000 (by omega)
      · have := hTB.push hN ((List.range n).map fun j => decide (i = j))
        have e : (tab0 n).take (i + 1) = (tab0 n).take i ++ [(List.range n).map fun j => decide (i = j)] := by
          rw [List.take_succ_eq_append_getElem (by simp [tab0]; exact hi)]
          simp [tab0]
        rw [e]; exact this
  · rw [List.take_of_length_le (by simp [tab0])] at hTB
    have S1 : SlT n pa T ([some (V.int n), some (.ref pa), none, none, none, none, none, none].set 2 (some (.ref T))) := ⟨rfl, rfl, rfl, rfl⟩
    show tSeq _ _ _ ([some (V.int n), some (.ref pa), none, none, none, none, none, none].set 2 (some (.ref T))) H1
    generalize ([some (V.int n), some (.ref pa), none, none, none, none, none, none].set 2 (some (.ref T)) : L2.St) = σ1 at S1
    -- the loop over the pairs
    have seqs : ∀ H2, (∀ b o, H b = some o → H2 b = some o) → (SqL K H2 pa xs ∨ SqT K H2 pa xs) := fun H2 k => hx.imp (fun h => Same.seq k h) (fun h => Same.sqt k h)
    have body : ∀ (i : Nat) (x : V) (σ : L2.St) (H2 : Hp) (E : Ends), xs[i]? = some x → (∃ as, TB H H2 T as ((ps.take i).foldl tabSet (tab0 n)) ∧ Shp n ((ps.take i).foldl tabSet (tab0 n)) ∧ SlT n pa T σ) →
        (∀ σ H3, (∃ as, TB H H3 T as ((ps.take (i + 1)).foldl tabSet (tab0 n)) ∧ Shp n ((ps.take (i + 1)).foldl tabSet (tab0 n)) ∧ SlT n pa T σ) → E.nx σ H3) →
        gTup K 2 (gCons (gName 3) (gCons (gName 4) gNil)) x σ H2 fun σ2 H3 => tAsg (tC (V.bl true)) (gSub (tOp (rIxL K) (tVar 2) (tVar 3)) (tVar 4) rSetL) E σ2 H3 := by
      rintro i x σ H2 E hxi ⟨as, t, sh, S⟩ hE
      have hip : i < ps.length := by rw [← hlen]; exact (List.getElem?_eq_some_iff.mp hxi).1
      have hqi : ps[i]? = some ps[i] := List.getElem?_eq_getElem hip
      obtain ⟨tt, ht, hsq⟩ := hit i _ hqi
      rw [hxi] at ht; cases ht
      obtain ⟨p1, p2⟩ := hps _ (List.mem_of_getElem? hqi)
      have S2 := (S.set (i := 3) (by omega) (some (V.int ps[i].1))).set (i := 4) (by omega) (some (V.int ps[i].2))
      refine ⟨tt, _, rfl, Same.sqt t.keep hsq, rfl, _, _, rfl, _, _, rfl, rfl, ?_⟩
      refine tb_set t sh S2 (a := ps[i].1) (b := ps[i].2) p1 p2 ?_ ?_ fun H3 t3 => hE _ _ ⟨as, ?_, ?_, S2⟩
      · rw [List.getElem?_set_ne (by decide), List.getElem?_set_self (by rw [S.len]; decide)]
      · rw [List.getElem?_set_self (by rw [List.length_set, S.len]; decide)]
      · rw [foldl_take _ _ _ hqi]; exact t3
      · rw [foldl_take _ _ _ hqi]; exact sh.tabSet p1
    -- what follows the loop
    have rest : ∀ (σ : L2.St) (H2 : Hp), (∃ as, TB H H2 T as (ps.foldl tabSet (tab0 n)) ∧ Shp n (ps.foldl tabSet (tab0 n)) ∧ SlT n pa T σ) → tSeq (tFor (iRng1 (tCons (tVar 0) tNil)) (gName 5) (tFor (iRng1 (tCons (tVar 0) tNil)) (gName 3)
          (tIfS (tB (tOp (rIxL K) (tOp (rIxL K) (tVar 2) (tVar 3)) (tVar 5))) (tAsg (tLc (RZ.iZipA K (tCons (tOp (rIxL K) (tVar 2) (tVar 3)) (tCons (tOp (rIxL K) (tVar 2) (tVar 5)) tNil))) (gTup K 2 (gCons (gName 6) (gCons (gName 7) gNil))) tYes (tOrV (tVar 6) (tVar 7)) [6, 7]) (gSub (tVar 2) (tVar 3) rSetL)) tNext)))
          (tRet (tVar 2)) { nx := nx, rt := Q, bk := bk, ct := ct } σ H2 := by
      rintro σ H2 ⟨as, t, sh, S⟩
      refine ⟨_, S.s0, n, rfl, hr.1, hr.2, ?_⟩
      rw [Int.toNat_natCast]
      refine for_range (fun z σ H' => ∃ as, TB H H' T as ((List.range z).foldl (fun M z => (List.range n).foldl (tabOr z) M) (ps.foldl tabSet (tab0 n))) ∧ Shp n ((List.range z).foldl (fun M z => (List.range n).foldl (tabOr z) M) (ps.foldl tabSet (tab0 n))) ∧ SlT n pa T σ) ⟨as, t, sh, S⟩ (fun z σ H3 hz ⟨as, t, sh, S⟩ => ?_) (fun σ H3 ⟨as, t, sh, S⟩ => ?_)
      · have S2 := S.set (i := 5) (by omega) (some (V.int (0 + z)))
        refine ⟨_, S2.s0, n, rfl, hr.1, hr.2, ?_⟩
        rw [Int.toNat_natCast]
        have h5 : (σ.set 5 (some (V.int (0 + z))))[5]? = some (some (V.int z)) := by rw [List.getElem?_set_self (by rw [S.len]; decide), Int.zero_add]
        refine for_range (fun x σ H' => ∃ as, TB H H' T as ((List.range x).foldl (tabOr z) ((List.range z).foldl (fun M z => (List.range n).foldl (tabOr z) M) (ps.foldl tabSet (tab0 n)))) ∧ Shp n ((List.range x).foldl (tabOr z) ((List.range z).foldl (fun M z => (List.range n).foldl (tabOr z) M) (ps.foldl tabSet (tab0 n)))) ∧ SlT n pa T σ ∧ σ[5]? = some (some (V.int z))) ⟨as, t, sh, S2, h5⟩ (fun x σ H4 hx ⟨as, t, sh, S, h5⟩ => ?_) (fun σ H4 ⟨as, t, sh, S, h5⟩ => ?_)
        · have S3 := S.set (i := 3) (by omega) (some (V.int (0 + x)))
          have g3 : (σ.set 3 (some (V.int (0 + x))))[3]? = some (some (V.int x)) := by rw [List.getElem?_set_self (by rw [S.len]; decide), Int.zero_add]
          have g5 : (σ.set 3 (some (V.int (0 + x))))[5]? = some (some (V.int z)) := by rw [List.getElem?_set_ne (by decide)]; exact h5
          refine tb_or hn t sh S3 hx hz g3 g5 fun as' H5 t5 => ⟨as', ?_, ?_, S3, g5⟩
          · rw [foldl_range]; exact t5
          · rw [foldl_range]; exact sh.tabOr hz hx
        · refine ⟨as, ?_, ?_, S⟩
          · rw [foldl_range]; exact t
          · rw [foldl_range]; exact sh
      · exact ⟨_, S.s2, hq T as H3 t⟩
    refine ⟨_, S1.s1, pa, rfl, ?_⟩
    rcases hx with hx | hx
    · refine .inl ⟨⟨xs, Same.seq hTB.keep hx⟩, for_list (xs := xs) (fun i σ H' => ∃ as, TB H H' T as ((ps.take i).foldl tabSet (tab0 n)) ∧ Shp n ((ps.take i).foldl tabSet (tab0 n)) ∧ SlT n pa T σ) ⟨as, hTB, Shp.tab0 n, S1⟩ (fun i σ H2 _ ⟨_, t, _⟩ => Same.seq t.keep hx) (fun i x σ H2 hi hP => body i x σ H2 _ hi hP fun _ _ h => h) fun σ H2 hP => rest σ H2 ?_⟩
      rw [hlen, List.take_length] at hP
      exact hP
    · refine .inr ⟨⟨xs, Same.sqt hTB.keep hx⟩, for_tup (xs := xs) (fun i σ H' => ∃ as, TB H H' T as ((ps.take i).foldl tabSet (tab0 n)) ∧ Shp n ((ps.take i).foldl tabSet (tab0 n)) ∧ SlT n pa T σ) ⟨as, hTB, Shp.tab0 n, S1⟩ (fun i σ H2 _ ⟨_, t, _⟩ => Same.sqt t.keep hx) (fun i x σ H2 hi hP => body i x σ H2 _ hi hP fun _ _ h => h) fun σ H2 hP => rest σ H2 ?_⟩
      rw [hlen, List.take_length] at hP
      exact hP
end
end CS
namespace CS
open PySem L2
theorem reps_items {R : RC} {F : Hp} : ∀ {ps : List (Nat × Nat)} {vs : List V}, Reps R F (ps.map fun q => D.tup [.int q.1, .int q.2]) vs → ∀ (i : Nat) (q : Nat × Nat), ps[i]? = some q → ∃ t, vs[i]? = some (.ref t) ∧ SqT R.K F t [.int q.1, .int q.2] := fun {ps vs} r i q h => by
  obtain ⟨v, hv, rv⟩ := r.get (i := i) (d := D.tup [.int q.1, .int q.2]) (by rw [List.getElem?_map, h]; rfl)
  simp only [Rep] at rv
  obtain ⟨a, ws, rfl, hs, r2⟩ := rv
  obtain ⟨v1, v2, rfl, r3, r4⟩ := r2.two2
  simp only [Rep] at r3 r4
  subst r3 r4
  exact ⟨a, hv, hs⟩
theorem table_reads {K : PySem.W.Frag} {cls : Str → Addr} {q ca sf : Addr} {cells : List Int} {F H : Hp} {p p' : Pn} {ds : List D} {vs : List V} {d : D} {Q : VK} {N : List Str} (hN : N.length = 8)
    (fh : Same F H) (pen : PenRel ⟨K, cls, q, ca, cells, sf⟩ F H p) (r : Reps ⟨K, cls, q, ca, cells, sf⟩ F ds vs) (e : tableF ds p = .ok (d, p')) {nx : L2.St → Hp → Prop}
    (hq : ∀ (v : V) (F' H' : Hp), Ext ⟨K, cls, q, ca, cells, sf⟩ F H p F' H' p' → Rep ⟨K, cls, q, ca, cells, sf⟩ F' d v → Q v H') :
    tSeq (tAsg (tLc (iRng1 (tCons (tVar 0) tNil)) (gName 3) tYes (tLc (iRng1 (tCons (tVar 0) tNil)) (gName 4) tYes (tOp rEq (tVar 3) (tVar 4)) [4]) [3]) (gName 2))
      (tSeq (tFor (iSeq K (tVar 1)) (gTup K 2 (gCons (gName 3) (gCons (gName 4) gNil))) (tAsg (tC (V.bl true)) (gSub (tOp (rIxL K) (tVar 2) (tVar 3)) (tVar 4) rSetL)))
        (tSeq (tFor (iRng1 (tCons (tVar 0) tNil)) (gName 5) (tFor (iRng1 (tCons (tVar 0) tNil)) (gName 3)
          (tIfS (tB (tOp (rIxL K) (tOp (rIxL K) (tVar 2) (tVar 3)) (tVar 5))) (tAsg (tLc (RZ.iZipA K (tCons (tOp (rIxL K) (tVar 2) (tVar 3)) (tCons (tOp (rIxL K) (tVar 2) (tVar 5)) tNil))) (gTup K 2 (gCons (gName 6) (gCons (gName 7) gNil))) tYes (tOrV (tVar 6) (tVar 7)) [6, 7]) (gSub (tVar 2) (tVar 3) rSetL)) tNext)))
          (tRet (tVar 2)))) { nx := nx, rt := Q } (L2.start N vs) H := by
  unfold tableF at e
  split at e
  · rename_i k X
    split at e
    · rename_i hk
      obtain ⟨l, e1, e2⟩ := Res.bind_ok e
      obtain ⟨ps, e3, e4⟩ := Res.bind_ok e2
      cases e4
      obtain ⟨rfl, hps⟩ := toPrs_ok e3
      obtain ⟨v1, v2, rfl, r1, r2⟩ := r.two2
      simp only [Rep] at r1
      subst r1
      have hkn : ((k.toNat : Nat) : Int) = k := Int.toNat_of_nonneg hk.1
      obtain ⟨pa, xs, rfl, hsq, rr⟩ := r2.row fh e1
      have hst : L2.start N [V.int k, V.ref pa] = [some (.int (k.toNat : Nat)), some (.ref pa), none, none, none, none, none, none] := by
        unfold L2.start
        rw [hN, hkn]; rfl
      rw [hst]
      refine table_run (n := k.toNat) (by omega) hps hsq (by rw [rr.length, List.length_map]) (fun i qq h => ?_) fun T as H' t => ?_
      · obtain ⟨tt, h1, h2⟩ := reps_items rr i qq h
        exact ⟨tt, h1, Same.sqt fh h2⟩
      · obtain ⟨F', ex, rp⟩ := TB.give (R := ⟨K, cls, q, ca, cells, sf⟩) t fh pen
        exact hq _ F' H' ex rp
    · cases e
  · cases e
end CS
namespace CS
open PySem L2
/-! ## own lists read as values, where what comes of it holds no list -/
mutual
def D.noL : D → Bool
  | .lst _ => false
  | .tup ds => D.noLs ds
  | .ins _ _ ds => D.noLs ds
  | _ => true
def D.noLs : List D → Bool
  | [] => true
  | d :: ds => D.noL d && D.noLs ds
end
def Slot.ownL : Slot → Bool
  | .ow (.lst _) => true
  | .ro (.lst _) => true
  | .ow _ => false
  | .ro _ => false
  | _ => true
def mBor2 (m : M D) : M D := fun env p => (m (env.map Slot.fz) p).bind fun r => if r.1.noL = true ∧ env.all Slot.ownL = true then .ok (r.1, env, r.2.2) else .bad
mutual
theorem Rep.lose {R : RC} {F F2 : Hp} (h : ∀ a o, F a = some o → (∀ xs, o ≠ .lst xs) → F2 a = some o) : ∀ {d : D} {v : V}, d.noL = true → Rep R F d v → Rep R F2 d v
  | .non, _, _, r => by simpa [Rep] using r
  | .bl _, _, _, r => by simpa [Rep] using r
  | .int _, _, _, r => by simpa [Rep] using r
  | .str _, _, _, r => by simpa [Rep] using r
  | .tup ds, v, n, r => by
    simp only [Rep] at r ⊢
    obtain ⟨a, vs, e, q, r⟩ := r
    refine ⟨a, vs, e, ?_, Reps.lose h (by simpa [D.noL] using n) r⟩
    rcases q with (q | ⟨o, q⟩) | q
    · exact .inl (.inl (h _ _ q fun xs z => by cases z))
    · exact .inl (.inr ⟨o, h _ _ q fun xs z => by cases z⟩)
    · exact .inr q
  | .lst ds, v, n, r => by simp [D.noL] at n
  | .ins c ns ds, v, n, r => by
    simp only [Rep] at r ⊢
    obtain ⟨a, dx, vs, e, q, l, r⟩ := r
    exact ⟨a, dx, vs, e, h _ _ q (fun xs z => by cases z), l, Reps.lose h (by simpa [D.noL] using n) r⟩
  | .pen, _, _, r => by simpa [Rep] using r
  | .ty _, _, _, r => by simpa [Rep] using r
  | .cls _, _, _, r => by simpa [Rep] using r
theorem Reps.lose {R : RC} {F F2 : Hp} (h : ∀ a o, F a = some o → (∀ xs, o ≠ .lst xs) → F2 a = some o) : ∀ {ds : List D} {vs : List V}, D.noLs ds = true → Reps R F ds vs → Reps R F2 ds vs
  | [], _, _, r => by simpa [Reps] using r
  | d :: ds, _, n, r => by
    simp only [Reps] at r ⊢
    simp only [D.noLs, Bool.and_eq_true] at n
    obtain ⟨v, r', e, h1, h2⟩ := r
    exact ⟨v, r', e, Rep.lose h n.1 h1, Reps.lose h n.2 h2⟩
end
section
variable {R : RC} {B : Bs} {env : Env'} {p : Pn} {σ : St} {F H : Hp}
open Classical in
theorem SRel.borrowX (S : SRel R B env p σ F H) : ∃ F1, Same F F1 ∧ SRel R ⟨F1, H, B.pn⟩ (env.map Slot.fz) p σ F1 H ∧ ∀ a, F1 a ≠ none → F a ≠ none ∨ ∃ i, OwnAt env σ i a := by
  have sm : Same F (fun a => if ∃ i, OwnAt env σ i a then H a else F a) := fun a o e => by
    show (if ∃ i, OwnAt env σ i a then H a else F a) = some o
    rw [if_neg]
    · exact e
    · rintro ⟨i, h⟩
      rw [(S.ownF h).1] at e; cases e
  refine ⟨_, sm, ?_, fun a h => by
    by_cases z : ∃ i, OwnAt env σ i a
    · exact .inr z
    · exact .inl (by rw [if_neg z] at h; exact h)⟩
  refine ⟨fun a o e => ?_, Same.refl _, fun _ _ _ h => h, fun _ h => .inl h, S.pnb, ?_, fun h => Same.seq (S.f0.trans sm) (S.cel h), by rw [List.length_map]; exact S.len, fun i s hi => ?_, fun i j a _ h _ => ?_⟩
  · have e : (if ∃ i, OwnAt env σ i a then H a else F a) = some o := e
    split at e
    · exact e
    · exact S.fh _ _ e
  · have := S.pen
    cases p with
    | none => trivial
    | some P =>
      obtain ⟨h1, h2, h3⟩ := this
      refine ⟨?_, h2, h3⟩
      show (if ∃ i, OwnAt env σ i R.q then H R.q else F R.q) = none
      rw [if_neg]
      · exact h1
      · rintro ⟨i, h⟩
        exact S.nq (S.ownF h).2.1 rfl
  · rw [List.getElem?_map] at hi
    cases e : env[i]? with
    | none => rw [e] at hi; cases hi
    | some s' =>
      rw [e] at hi
      cases hi
      have h := S.slots i s' e
      have own : ∀ d a, s'.isO = true → σ[i]? = some (some (.ref a)) → Own R F H d a → Rep R (fun a => if ∃ i, OwnAt env σ i a then H a else F a) d (.ref a) := fun d a ho ha o => by
        have ea : (if ∃ i, OwnAt env σ i a then H a else F a) = H a := if_pos ⟨i, ⟨s', e, ho⟩, ha⟩
        rcases o with ⟨ds, vs, rfl, h1, r⟩ | ⟨c, ns, ds, dx, vs, _, rfl, h1, l, r⟩
        · simp only [Rep]
          exact ⟨a, vs, rfl, by rw [ea]; exact h1, r.mono sm⟩
        · simp only [Rep]
          exact ⟨a, dx, vs, rfl, by rw [ea]; exact h1, l, r.mono sm⟩
      cases s' with
      | un => trivial
      | pl d => obtain ⟨v, h1, h2⟩ := h; exact ⟨v, h1, h2.mono sm⟩
      | ow d => obtain ⟨a, h1, _, _, _, o⟩ := h; exact ⟨_, h1, own d a rfl h1 o⟩
      | ro d => obtain ⟨a, h1, _, _, o⟩ := h; exact ⟨_, h1, own d a rfl h1 o⟩
  · obtain ⟨⟨s, h1, h2⟩, _⟩ := h
    rw [List.getElem?_map] at h1
    cases e : env[i]? with
    | none => rw [e] at h1; cases h1
    | some s' =>
      rw [e] at h1
      cases h1
      cases s' <;> cases h2
end
section
variable {X : Cx} {R : RC} {e : Expr} {m : M D}
open Classical in
theorem de_bor2 (h : PE X e (lE R m)) : PE X e (lE R (mBor2 m)) := PE.imp h fun σ H Q ⟨B, env, p, F, S, d, env', p', e, q⟩ => by
  obtain ⟨F1, s1, S1, own1⟩ := S.borrowX
  obtain ⟨⟨d', env2, p2⟩, e1, e2⟩ := Res.bind_ok (show (m (env.map Slot.fz) p).bind _ = _ from e)
  split at e2
  · rename_i hf
    cases e2
    obtain ⟨hn, ho⟩ := hf
    refine ⟨_, _, p, F1, S1, d', env2, p2, e1, fun v F' H' s T r => ?_⟩
    -- own things are lists, and they stand in F' as they did
    have ownl : ∀ i a, OwnAt env σ i a → ∃ xs, H a = some (.lst xs) := fun i a hw => by
      obtain ⟨⟨sl, g1, g2⟩, g3⟩ := hw
      have hl : sl.ownL = true := List.all_eq_true.mp ho sl (List.mem_of_getElem? g1)
      have := S.slots i sl g1
      cases sl with
      | un => cases g2
      | pl d => cases g2
      | ow d =>
        cases d <;> first | cases hl | skip
        obtain ⟨b, k1, k2, k3, k4, k5⟩ := this
        rw [g3] at k1; cases k1
        rcases k5 with ⟨ds, vs, _, h1, _⟩ | ⟨c, ns, ds, dx, vs, _, z, _⟩
        · exact ⟨vs, h1⟩
        · cases z
      | ro d =>
        cases d <;> first | cases hl | skip
        obtain ⟨b, k1, k2, k4, k5⟩ := this
        rw [g3] at k1; cases k1
        rcases k5 with ⟨ds, vs, _, h1, _⟩ | ⟨c, ns, ds, dx, vs, _, z, _⟩
        · exact ⟨vs, h1⟩
        · cases z
    have hqn : ∀ i a, OwnAt env σ i a → (a ≠ R.q ∨ p = none) := fun i a hw => (S.ownF hw).2.1.imp id S.pnone.mp
    have ownH : ∀ i a, OwnAt env σ i a → ∃ xs, H' a = some (.lst xs) := fun i a hw => by
      obtain ⟨xs, hx⟩ := ownl i a hw
      exact ⟨xs, T.h0 a _ ((hqn i a hw).imp id fun z => S.pnone.mpr z) hx⟩
    have ex : Ext R F H p (fun a => if ∃ i, OwnAt env σ i a then none else F' a) H' p2 := by
      refine ⟨fun b o eb => ?_, fun b o eb => ?_, fun b o hb hh => T.h0 b o (hb.imp id fun z => S.pnone.mpr z) hh, fun a ha => ?_, by rw [T.pnb, S.pnb], ?_⟩
      · show (if _ then _ else _) = _
        rw [if_neg]
        · exact T.f0 _ _ (s1 _ _ eb)
        · rintro ⟨i, hw⟩
          rw [(S.ownF hw).1] at eb; cases eb
      · have eb : (if ∃ i, OwnAt env σ i b then none else F' b) = some o := eb
        split at eb
        · cases eb
        · exact T.fh _ _ eb
      · have ha : (if ∃ i, OwnAt env σ i a then none else F' a) ≠ none := ha
        split at ha
        · exact absurd rfl ha
        · rename_i hno
          rcases T.fresh a ha with z | z
          · left
            intro zf
            have z : F1 a ≠ none := z
            rcases own1 a z with y | y
            · exact y zf
            · exact hno y
          · exact .inr z
      · have := T.pen
        cases p2 with
        | none => trivial
        | some P =>
          obtain ⟨h1, h2, h3⟩ := this
          refine ⟨?_, h2, h3⟩
          show (if _ then _ else _) = _
          split
          · rfl
          · exact h1
    refine q v _ H' ex.ff (S.ext ex) (r.lose (fun a o ea hnl => ?_) hn)
    show (if _ then _ else _) = _
    rw [if_neg]
    · exact ea
    · rintro ⟨i, hw⟩
      obtain ⟨xs, hx⟩ := ownH i a hw
      rw [T.fh _ _ ea] at hx
      cases hx
      exact hnl xs rfl
  · cases e2
end
end CS
namespace CS
open PySem L2
open PyProof.Rows (envOfC)


structure PH (q ca : Addr) (H H' : Hp) (P : Pen) : Prop where
  at_ : H' q = some (.dK (penK P ca))
  ne : ∀ b, b ≠ q → H' b = H b
structure NoMg (mg : Str → Option Value) : Prop where
  len : mg "len" = none
  int : mg "int" = none
  list : mg "list" = none
theorem PH.put {q ca : Addr} {H H' : Hp} {P P' : Pen} (h : PH q ca H H' P) {k : Key} {v : V} (e : putK (penK P ca) k v = penK P' ca) : PH q ca H (upd H' q (.dK (putK (penK P ca) k v))) P' :=
  ⟨by rw [upd_same, e], fun b hb => by rw [upd_ne hb]; exact h.ne b hb⟩
theorem small5 : 5 < sizeLine := by decide
theorem PH.ext {K : PySem.W.Frag} {cls : Str → Addr} {q ca sf : Addr} {cells : List Int} {F H H' : Hp} {P P' : Pen} (h : PH q ca H H' P') (fh : Same F H) (pen : PenRel ⟨K, cls, q, ca, cells, sf⟩ F H (some P)) (hc : P'.cells = P.cells) :
    Ext ⟨K, cls, q, ca, cells, sf⟩ F H (some P) F H' (some P') := by
  obtain ⟨h1, h2, h3⟩ := pen
  refine ⟨Same.refl _, fun b o e => ?_, fun b o hb e => ?_, fun _ h => .inl h, rfl, ⟨h1, h.at_, hc.trans h3⟩⟩
  · rw [h.ne b fun z => by rw [z] at e; rw [show F q = none from h1] at e; cases e]
    exact fh _ _ e
  · rcases hb with hb | hb
    · rw [h.ne b hb]; exact e
    · cases hb
def top (i : Nat) : Stmt := PySem.Challenge.pw_corespaces_k18_whole_cores_judged.main.body.getD i (.Pass ⟨0, 0, 0, 0⟩)
theorem sc_draw : FnScope ["pen", "many", "cell", "digit", "mixed"] ["pen", "many"] (defScope (top 31)) := ⟨rfl, rfl, rfl, by decide +kernel, rfl, by decide +kernel, by decide +kernel⟩
section
variable {P : Program} {w : World} {K : PySem.W.Frag} {mg : Str → Option Value} {base : Heap}
theorem ok_draw {f : Addr} {fd : FuncData} (F : FunG K "_law_draw" "_law_draw" (top 31) f fd)
    (T : NoMg mg) {cls : Str → Addr} : FnOk P w K mg base CX0 1 f fd ["pen", "many"] (spD K cls 2 drawF) := by
  refine F.ok sc_draw (fun vs H Q E h => ?_) (fun cdv A outer s H vs Q E hr h => ?_)
  · obtain ⟨q, ca, sf, cells, F, p, ds, _, _, _, r, hl, _⟩ := h
    rw [r.length]; exact hl
  · obtain ⟨q, ca, sf, cells, F, p, ds, fh, cel, pen, r, hl, d, p', e, hq⟩ := h
    obtain ⟨m, P0, rfl, rfl, m0, m1, f0, f1, c1, rfl, rfl⟩ := drawF_inv e
    simp only [Reps, Rep] at r
    obtain ⟨v1, r1, rfl, rfl, v2, r2, rfl, rfl, rfl⟩ := r
    have hu := hu_of hr
    have cel' := cel rfl
    have nd := sc_draw.nd
    obtain ⟨q1, q2, q3⟩ := id pen
    have gS : ∀ {H' : Hp} {P' : Pen}, PH q ca H H' P' → SqL K H' ca (cells.map V.int) := fun {H' P'} h => by
      have s1 : Same F H' := fun b o e => by
        rw [h.ne b fun z => by rw [z] at e; rw [show F q = none from q1] at e; cases e]
        exact fh _ _ e
      exact s1.seq cel'
    refine ⟨_, pss_cons (ps_dput hu (pv 0) pe_str (pe_op op_add (pe_dget hu (pv 0) pe_str (fun _ _ => rfl)) pe_int) rfl)
      (pss_cons (ps_if (PW.pt (pw_and (pt_cmpR op_eq (pe_dget hu (pv 0) pe_str (fun _ _ => rfl)) pe_int (nomark _))
          (pw_and1 (pt_cmpR op_lt (pe_dget hu (pv 0) pe_str (fun _ _ => rfl)) (pe_callB call_len_seq (by rfl) T.len PySem.boot_len (pa_cons (pe_dget hu (pv 0) pe_str (fun _ _ => rfl)) pa_nil)) (nomark _)))))
        (pss_cons (ps_set (i := 2) nd rfl (Or.inl rfl) (pe_ix ix_list (pe_dget hu (pv 0) pe_str (fun _ _ => rfl)) (pe_dget hu (pv 0) pe_str (fun _ _ => rfl)) (fun _ _ => rfl)))
        (pss_cons (ps_dput hu (pv 0) pe_str (pe_op op_add (pe_dget hu (pv 0) pe_str (fun _ _ => rfl)) pe_int) rfl)
        (pss_one (ps_if (pt_cmpR op_ge (pv 2) (pe_op op_pow pe_int pe_int) (nomark _))
          (pss_one (ps_dput hu (pv 0) pe_str (pe_op op_sub (pv 2) (pe_op op_pow pe_int pe_int)) rfl))
          (pss_one (ps_dput hu (pv 0) pe_str (pe_op op_modN (pe_callTy call_int1 (by rfl) T.int (by decide +kernel) (pa_cons (pe_op op_add (pe_op op_mul (pe_dget hu (pv 0) pe_str (fun _ _ => rfl)) pe_int) (pv 2)) pa_nil)) pe_int) rfl))))))
        pss_nil)
      (pss_cons (ps_if (pt_cmpR op_gt (pe_dget hu (pv 0) pe_str (fun _ _ => rfl)) pe_int (nomark _))
        (pss_cons (ps_set (i := 3) nd rfl (Or.inl rfl) (pe_op op_modN (pe_callTy call_int1 (by rfl) T.int (by decide +kernel) (pa_cons (pe_dget hu (pv 0) pe_str (fun _ _ => rfl)) pa_nil)) (pv 1)))
        (pss_cons (ps_dput hu (pv 0) pe_str (pe_op op_fdivN (pe_dget hu (pv 0) pe_str (fun _ _ => rfl)) (pv 1)) rfl)
        (pss_one (ps_ret (pv 3)))))
        pss_nil)
      (pss_cons (ps_set (i := 4) nd rfl (Or.inl rfl) (pe_op op_add (pe_op op_add (pe_dget hu (pv 0) pe_str (fun _ _ => rfl)) (pe_op op_mul (pe_dget hu (pv 0) pe_str (fun _ _ => rfl)) pe_int)) pe_int))
      (pss_one (ps_ret (pe_op op_modN (pe_op op_fdivN (pe_callTy call_int1 (by rfl) T.int (by decide +kernel) (pa_cons (pe_op op_modN (pe_op op_pow (pv 4) pe_int) pe_int) pa_nil)) pe_int) (pv 1))))))), ?_⟩
    refine ⟨_, rfl, q, _, rfl, DGet.k (k := .inr "count") q2, _, _, rfl, rfl, _, rfl, q, _, rfl, DPut.k (k := .inr "count") q2 small5, ?_⟩
    have h1 : PH q ca H (upd H q (.dK (putK (penK P0 ca) (.inr "count") (.int ((P0.count : Int) + 1))))) { P0 with count := P0.count + 1 } := PH.put ⟨q2, fun _ _ => rfl⟩ pp_count
    have st : P0.step m = (Pen.read { P0 with count := P0.count + 1 }).tell m := rfl
    have okP : Pen.Ok { P0 with count := P0.count + 1 } (P0.count + 1) := ⟨f0, f1, Nat.le_refl _⟩
    have okc : Pen.cells { P0 with count := P0.count + 1 } = cells := q3
    have hc1 : Pen.count { P0 with count := P0.count + 1 } ≤ 2 ^ 50 := c1
    rw [st] at hq
    generalize Pen.mk P0.cells P0.at_ P0.digits (P0.count + 1) P0.fold = P1 at h1 hq okP okc hc1
    generalize upd H q (.dK (putK (penK P0 ca) (.inr "count") (.int ((P0.count : Int) + 1)))) = H1 at h1 ⊢
    have okr := Pen.read_ok okP
    have go : ∀ (H2 : Hp) (P2 : Pen), PH q ca H H2 P2 → P2 = P1.read → P2.Ok (2 ^ 50) ∧ P2.cells = P0.cells ∧ (∀ P3 H3 v, PH q ca H H3 P3 → P3 = (P2.tell m).2 → v = .int (P2.tell m).1 → Q v H3) := fun H2 P2 h e => by
      subst e
      have hcc : P1.read.cells = P0.cells := by rw [okr.2.2, okc, q3]
      refine ⟨⟨okr.1.f0, okr.1.f1, by rw [okr.2.1]; exact hc1⟩, hcc, fun P3 H3 v h3 e3 ev => ?_⟩
      subst e3
      refine hq v F H3 (h3.ext fh pen ?_) (by simpa [Rep] using ev)
      unfold Pen.tell
      split <;> exact hcc
    have fin : ∀ (H2 : Hp) (P2 : Pen) (σ : St), PH q ca H H2 P2 → P2 = P1.read → σ.length = 5 → σ[0]? = some (some (.ref q)) → σ[1]? = some (some (.int m)) → True := fun _ _ _ _ _ _ _ _ => trivial
    refine ⟨_, rfl, q, _, rfl, DGet.k (k := .inr "digits") h1.at_, rfl, _, rfl, ite2 (fun hd => ?_) (fun hd => ?_)⟩
    · have hd' : P1.digits = 0 := by
        have := of_decide_eq_true hd
        injection this
      refine ⟨_, rfl, q, _, rfl, DGet.k (k := .inr "at") h1.at_, _, rfl, q, _, rfl, DGet.k (k := .inr "cells") h1.at_, ca, _, rfl, .inl (gS h1), _, _, rfl, rfl, _, rfl, ite2 (fun hl => ?_) (fun hl => ?_)⟩
      · have hl' : P1.at_ < cells.length := by
          have := of_decide_eq_true hl
          simpa using this
        refine ⟨_, rfl, q, _, rfl, DGet.k (k := .inr "cells") h1.at_, _, rfl, q, _, rfl, DGet.k (k := .inr "at") h1.at_, ca, _, _, .int (cells.getD P1.at_ 0), rfl, rfl, gS h1, ?_, ?_⟩
        · refine atI_nat ?_
          rw [List.getElem?_map, List.getElem?_eq_getElem hl']
          simp [List.getD, hl']
        refine ⟨_, rfl, q, _, rfl, DGet.k (k := .inr "at") h1.at_, _, _, rfl, rfl, _, rfl, q, _, rfl, DPut.k (k := .inr "at") h1.at_ small5, ?_⟩
        have h2 := h1.put (pp_at (P := P1) (ca := ca) (n := P1.at_ + 1))
        refine ⟨_, rfl, _, _, rfl, rfl, ⟨by decide, by decide, by decide⟩, _, _, rfl, rfl, _, rfl, ite2 (fun hz => ?_) (fun hz => ?_)⟩
        · have hz' : (10 : Int) ^ 18 ≤ cells.getD P1.at_ 0 := of_decide_eq_true hz
          refine ⟨_, rfl, _, _, rfl, rfl, ⟨by decide, by decide, by decide⟩, _, _, rfl, rfl, _, rfl, q, _, rfl, DPut.k (k := .inr "digits") h2.at_ small5, ?_⟩
          have h3 := h2.put (pp_digits (P := { P1 with at_ := P1.at_ + 1 }) (ca := ca) (z := cells.getD P1.at_ 0 - 10 ^ 18))
          obtain ⟨P2, h2, e2⟩ : ∃ P2, PH q ca H _ P2 ∧ P2 = P1.read := ⟨_, h3, by
            unfold Pen.read
            rw [okc, if_pos ⟨hd', hl'⟩, if_pos hz']⟩
          obtain ⟨ok2, cl2, kk⟩ := go _ _ h2 e2
          refine ⟨_, rfl, q, _, rfl, DGet.k (k := .inr "digits") h2.at_, _, _, rfl, rfl, _, rfl, ite2 (fun hp => ?_) (fun hp => ?_)⟩
          · have hp' : 0 < P2.digits := of_decide_eq_true hp
            refine ⟨_, rfl, q, _, rfl, DGet.k (k := .inr "digits") h2.at_, .inl ⟨_, rfl, _, rfl, _, _, rfl, rfl, (by omega), ?_⟩⟩
            refine ⟨_, rfl, q, _, rfl, DGet.k (k := .inr "digits") h2.at_, _, rfl, _, _, rfl, rfl, ⟨by omega, by omega⟩, _, rfl, q, _, rfl, DPut.k (k := .inr "digits") h2.at_ small5, ?_⟩
            have h3 := h2.put (pp_digits (P := P2) (ca := ca) (z := P2.digits.fdiv m))
            have e3 : P2.tell m = (P2.digits.fmod m, { P2 with digits := P2.digits.fdiv m }) := by unfold Pen.tell; rw [if_pos hp']
            exact ⟨_, rfl, kk _ _ _ h3 (by rw [e3]) (by rw [e3])⟩
          · have hp' : ¬ 0 < P2.digits := fun z => hp (decide_eq_true z)
            have e3 : P2.tell m = ((((((P2.fold + (P2.count : Int) * 7907 + 37) ^ 17).fmod 2305843009213693951).fdiv 128).fmod m), P2) := by unfold Pen.tell; rw [if_neg hp']
            have b0 := ok2.f0
            have b1 := ok2.f1
            have b2 := ok2.c
            refine ⟨_, rfl, q, _, rfl, DGet.k (k := .inr "fold") h2.at_, _, rfl, q, _, rfl, DGet.k (k := .inr "count") h2.at_, _, _, rfl, rfl, .inr ⟨by decide, by decide⟩, _, _, rfl, rfl, _, _, rfl, rfl, ?_⟩
            refine ⟨_, rfl, _, _, rfl, rfl, ⟨by decide, by decide, ?_⟩, _, _, rfl, rfl, (by show (2305843009213693951 : Int) ≠ 0; decide), .inl ⟨_, rfl, _, _, rfl, rfl, ⟨by decide, by decide⟩, _, rfl, _, _, rfl, rfl, (by omega), ?_⟩⟩
            · show (P2.fold + (P2.count : Int) * 7907 + 37).natAbs < 2 ^ 64
              omega
            exact kk _ _ _ h2 (by rw [e3]) (by rw [e3]; rfl)
        · have hz' : ¬ (10 : Int) ^ 18 ≤ cells.getD P1.at_ 0 := fun z => hz (decide_eq_true z)
          refine ⟨_, rfl, q, _, rfl, DGet.k (k := .inr "fold") h2.at_, _, _, rfl, rfl, .inr ⟨by decide, by decide⟩, _, rfl, _, _, rfl, rfl, (.inl ⟨_, rfl, _, _, rfl, rfl, (by show (2147483587 : Int) ≠ 0; decide), _, rfl, q, _, rfl, DPut.k (k := .inr "fold") h2.at_ small5, ?_⟩)⟩
          have h3 := h2.put (pp_fold (P := { P1 with at_ := P1.at_ + 1 }) (ca := ca) (z := (P1.fold * 69069 + cells.getD P1.at_ 0).fmod 2147483587))
          obtain ⟨P2, h2, e2⟩ : ∃ P2, PH q ca H _ P2 ∧ P2 = P1.read := ⟨_, h3, by
            unfold Pen.read
            rw [okc, if_pos ⟨hd', hl'⟩, if_neg hz']⟩
          obtain ⟨ok2, cl2, kk⟩ := go _ _ h2 e2
          refine ⟨_, rfl, q, _, rfl, DGet.k (k := .inr "digits") h2.at_, _, _, rfl, rfl, _, rfl, ite2 (fun hp => ?_) (fun hp => ?_)⟩
          · have hp' : 0 < P2.digits := of_decide_eq_true hp
            refine ⟨_, rfl, q, _, rfl, DGet.k (k := .inr "digits") h2.at_, .inl ⟨_, rfl, _, rfl, _, _, rfl, rfl, (by omega), ?_⟩⟩
            refine ⟨_, rfl, q, _, rfl, DGet.k (k := .inr "digits") h2.at_, _, rfl, _, _, rfl, rfl, ⟨by omega, by omega⟩, _, rfl, q, _, rfl, DPut.k (k := .inr "digits") h2.at_ small5, ?_⟩
            have h3 := h2.put (pp_digits (P := P2) (ca := ca) (z := P2.digits.fdiv m))
            have e3 : P2.tell m = (P2.digits.fmod m, { P2 with digits := P2.digits.fdiv m }) := by unfold Pen.tell; rw [if_pos hp']
            exact ⟨_, rfl, kk _ _ _ h3 (by rw [e3]) (by rw [e3])⟩
          · have hp' : ¬ 0 < P2.digits := fun z => hp (decide_eq_true z)
            have e3 : P2.tell m = ((((((P2.fold + (P2.count : Int) * 7907 + 37) ^ 17).fmod 2305843009213693951).fdiv 128).fmod m), P2) := by unfold Pen.tell; rw [if_neg hp']
            have b0 := ok2.f0
            have b1 := ok2.f1
            have b2 := ok2.c
            refine ⟨_, rfl, q, _, rfl, DGet.k (k := .inr "fold") h2.at_, _, rfl, q, _, rfl, DGet.k (k := .inr "count") h2.at_, _, _, rfl, rfl, .inr ⟨by decide, by decide⟩, _, _, rfl, rfl, _, _, rfl, rfl, ?_⟩
            refine ⟨_, rfl, _, _, rfl, rfl, ⟨by decide, by decide, ?_⟩, _, _, rfl, rfl, (by show (2305843009213693951 : Int) ≠ 0; decide), .inl ⟨_, rfl, _, _, rfl, rfl, ⟨by decide, by decide⟩, _, rfl, _, _, rfl, rfl, (by omega), ?_⟩⟩
            · show (P2.fold + (P2.count : Int) * 7907 + 37).natAbs < 2 ^ 64
              omega
            exact kk _ _ _ h2 (by rw [e3]) (by rw [e3]; rfl)
      · have hl' : ¬ P1.at_ < cells.length := by
          refine fun z => hl (decide_eq_true ?_)
          simpa using z
        obtain ⟨P2, h2, e2⟩ : ∃ P2, PH q ca H _ P2 ∧ P2 = P1.read := ⟨_, h1, by
            unfold Pen.read
            rw [okc, if_neg fun h => hl' h.2]⟩
        generalize H1 = H2 at h2 ⊢
        obtain ⟨ok2, cl2, kk⟩ := go _ _ h2 e2
        refine ⟨_, rfl, q, _, rfl, DGet.k (k := .inr "digits") h2.at_, _, _, rfl, rfl, _, rfl, ite2 (fun hp => ?_) (fun hp => ?_)⟩
        · have hp' : 0 < P2.digits := of_decide_eq_true hp
          refine ⟨_, rfl, q, _, rfl, DGet.k (k := .inr "digits") h2.at_, .inl ⟨_, rfl, _, rfl, _, _, rfl, rfl, (by omega), ?_⟩⟩
          refine ⟨_, rfl, q, _, rfl, DGet.k (k := .inr "digits") h2.at_, _, rfl, _, _, rfl, rfl, ⟨by omega, by omega⟩, _, rfl, q, _, rfl, DPut.k (k := .inr "digits") h2.at_ small5, ?_⟩
          have h3 := h2.put (pp_digits (P := P2) (ca := ca) (z := P2.digits.fdiv m))
          have e3 : P2.tell m = (P2.digits.fmod m, { P2 with digits := P2.digits.fdiv m }) := by unfold Pen.tell; rw [if_pos hp']
          exact ⟨_, rfl, kk _ _ _ h3 (by rw [e3]) (by rw [e3])⟩
        · have hp' : ¬ 0 < P2.digits := fun z => hp (decide_eq_true z)
          have e3 : P2.tell m = ((((((P2.fold + (P2.count : Int) * 7907 + 37) ^ 17).fmod 2305843009213693951).fdiv 128).fmod m), P2) := by unfold Pen.tell; rw [if_neg hp']
          have b0 := ok2.f0
          have b1 := ok2.f1
          have b2 := ok2.c
          refine ⟨_, rfl, q, _, rfl, DGet.k (k := .inr "fold") h2.at_, _, rfl, q, _, rfl, DGet.k (k := .inr "count") h2.at_, _, _, rfl, rfl, .inr ⟨by decide, by decide⟩, _, _, rfl, rfl, _, _, rfl, rfl, ?_⟩
          refine ⟨_, rfl, _, _, rfl, rfl, ⟨by decide, by decide, ?_⟩, _, _, rfl, rfl, (by show (2305843009213693951 : Int) ≠ 0; decide), .inl ⟨_, rfl, _, _, rfl, rfl, ⟨by decide, by decide⟩, _, rfl, _, _, rfl, rfl, (by omega), ?_⟩⟩
          · show (P2.fold + (P2.count : Int) * 7907 + 37).natAbs < 2 ^ 64
            omega
          exact kk _ _ _ h2 (by rw [e3]) (by rw [e3]; rfl)
    · have hd' : ¬ P1.digits = 0 := fun z => by
        refine hd (decide_eq_true ?_)
        show V.int P1.digits = V.int 0
        rw [z]
      obtain ⟨P2, h2, e2⟩ : ∃ P2, PH q ca H _ P2 ∧ P2 = P1.read := ⟨_, h1, by
            unfold Pen.read
            rw [if_neg fun h => hd' h.1]⟩
      generalize H1 = H2 at h2 ⊢
      obtain ⟨ok2, cl2, kk⟩ := go _ _ h2 e2
      refine ⟨_, rfl, q, _, rfl, DGet.k (k := .inr "digits") h2.at_, _, _, rfl, rfl, _, rfl, ite2 (fun hp => ?_) (fun hp => ?_)⟩
      · have hp' : 0 < P2.digits := of_decide_eq_true hp
        refine ⟨_, rfl, q, _, rfl, DGet.k (k := .inr "digits") h2.at_, .inl ⟨_, rfl, _, rfl, _, _, rfl, rfl, (by omega), ?_⟩⟩
        refine ⟨_, rfl, q, _, rfl, DGet.k (k := .inr "digits") h2.at_, _, rfl, _, _, rfl, rfl, ⟨by omega, by omega⟩, _, rfl, q, _, rfl, DPut.k (k := .inr "digits") h2.at_ small5, ?_⟩
        have h3 := h2.put (pp_digits (P := P2) (ca := ca) (z := P2.digits.fdiv m))
        have e3 : P2.tell m = (P2.digits.fmod m, { P2 with digits := P2.digits.fdiv m }) := by unfold Pen.tell; rw [if_pos hp']
        exact ⟨_, rfl, kk _ _ _ h3 (by rw [e3]) (by rw [e3])⟩
      · have hp' : ¬ 0 < P2.digits := fun z => hp (decide_eq_true z)
        have e3 : P2.tell m = ((((((P2.fold + (P2.count : Int) * 7907 + 37) ^ 17).fmod 2305843009213693951).fdiv 128).fmod m), P2) := by unfold Pen.tell; rw [if_neg hp']
        have b0 := ok2.f0
        have b1 := ok2.f1
        have b2 := ok2.c
        refine ⟨_, rfl, q, _, rfl, DGet.k (k := .inr "fold") h2.at_, _, rfl, q, _, rfl, DGet.k (k := .inr "count") h2.at_, _, _, rfl, rfl, .inr ⟨by decide, by decide⟩, _, _, rfl, rfl, _, _, rfl, rfl, ?_⟩
        refine ⟨_, rfl, _, _, rfl, rfl, ⟨by decide, by decide, ?_⟩, _, _, rfl, rfl, (by show (2305843009213693951 : Int) ≠ 0; decide), .inl ⟨_, rfl, _, _, rfl, rfl, ⟨by decide, by decide⟩, _, rfl, _, _, rfl, rfl, (by omega), ?_⟩⟩
        · show (P2.fold + (P2.count : Int) * 7907 + 37).natAbs < 2 ^ 64
          omega
        exact kk _ _ _ h2 (by rw [e3]) (by rw [e3]; rfl)
end


def foldP (z : Int) : List Int → Int
  | [] => z
  | c :: cs => foldP ((z * 47 + c).fmod 1000000007) cs
theorem foldP_snoc (z : Int) (c : Int) : ∀ (cs : List Int), foldP z (cs ++ [c]) = (foldP z cs * 47 + c).fmod 1000000007
  | [] => rfl
  | d :: cs => by
    show foldP _ (cs ++ [c]) = _
    rw [foldP_snoc _ c cs]; rfl
theorem foldP_rg : ∀ (cs : List Int) (z : Int), 0 ≤ z → z < 2147483648 → 0 ≤ foldP z cs ∧ foldP z cs < 2147483648
  | [], z, h0, h1 => ⟨h0, h1⟩
  | c :: cs, z, h0, h1 => foldP_rg cs _ (Int.fmod_nonneg_of_pos _ (by decide)) (by
    have := Int.fmod_lt_of_pos (z * 47 + c) (show (0 : Int) < 1000000007 by decide)
    omega)
def pen0 (ns : List Int) : Pen := ⟨ns, 0, 0, 0, foldP 0 ns⟩
theorem pen0_ok (ns : List Int) : (pen0 ns).Ok 0 := ⟨(foldP_rg ns 0 (by decide) (by decide)).1, (foldP_rg ns 0 (by decide) (by decide)).2, Nat.le_refl _⟩
def spPen (K : PySem.W.Frag) : Sp := fun vs H Q _ => ∃ (a : Addr) (ns : List Int), vs = [.ref a] ∧ SqL K H a (ns.map V.int) ∧ ns.length ≤ 63 ∧
  ∀ (q ca : Addr) (H' : Hp), H q = none → H ca = none → q ≠ ca → H' q = some (.dK (penK (pen0 ns) ca)) → H' ca = some (.lst (ns.map V.int)) → (∀ b o, H b = some o → H' b = some o) → Q (.ref q) H'
def spLaw (K : PySem.W.Frag) : Sp := fun vs H Q _ => ∃ (a : Addr) (ns : List Int), vs = [.ref a] ∧ SqL K H a (ns.map V.int) ∧ ns.length ≤ 63 ∧ ∀ H', Q (.bl true) H'
theorem PSs.ex {X : Cx} {st : List Stmt} {ι : Type} {t : ι → TS} (h : ∀ i, PSs X st (t i)) : PSs X st (fun D σ H => ∃ i, t i D σ H) :=
  ⟨fun pins s σ H D I ⟨i, ht⟩ => (h i).run pins s σ H D I ht⟩
def hid (H : Hp) (q : Addr) : Hp := fun b => if b = q then none else H b
theorem hid_same {H : Hp} {q : Addr} : Same (hid H q) H := fun b o e => by
  unfold hid at e
  split at e
  · cases e
  · exact e
/-- the state behind the first line of a law -/
theorem SRel.law {K : PySem.W.Frag} {cls : Str → Addr} {q ca : Addr} {ns : List Int} {H : Hp} {P : Pen} {n : Nat} {σ : St} (h1 : H q = some (.dK (penK P ca))) (h2 : H ca = some (.lst (ns.map V.int))) (hq : q ≠ ca) (hc : P.cells = ns) (hl : σ.length = n + 2) (hs : σ[1]? = some (some (.ref q))) :
    SRel ⟨K, cls, q, ca, ns, q⟩ ⟨hid H q, H, true⟩ (.un :: .pl .pen :: List.replicate n .un) (some P) σ (hid H q) H where
  fh := hid_same
  f0 := Same.refl _
  h0 := fun _ _ _ h => h
  fresh := fun _ h => .inl h
  pnb := rfl
  pen := ⟨by show hid H q q = none; unfold hid; rw [if_pos rfl], h1, hc⟩
  cel := fun _ => .inl (by
    refine .inl ?_
    show hid H q ca = _
    unfold hid
    rw [if_neg hq.symm]
    exact h2)
  len := by rw [hl]; simp
  slots := fun i s hi => by
    match i with
    | 0 => cases hi; trivial
    | 1 => cases hi; exact ⟨_, hs, by simp [Rep]⟩
    | i + 2 =>
      have : (List.replicate n Slot.un)[i]? = some s := hi
      have := List.eq_of_mem_replicate (List.mem_of_getElem? this)
      subst this
      trivial
  dis := fun i j a hij h1 h2 => by
    obtain ⟨⟨s, g1, g2⟩, _⟩ := h1
    match i with
    | 0 => cases g1; cases g2
    | 1 => cases g1; cases g2
    | i + 2 =>
      have : (List.replicate n Slot.un)[i]? = some s := g1
      have := List.eq_of_mem_replicate (List.mem_of_getElem? this)
      subst this
      cases g2
theorem sc_pen : FnScope ["script", "fold", "cell"] ["script"] (defScope (top 30)) := ⟨rfl, rfl, rfl, by decide +kernel, rfl, by decide +kernel, by decide +kernel⟩
section
variable {P : Program} {w : World} {K : PySem.W.Frag} {mg : Str → Option Value} {base : Heap}
theorem ok_pen {f : Addr} {fd : FuncData} (F : FunG K "_law_pen" "_law_pen" (top 30) f fd)
    (T : NoMg mg) : FnOk P w K mg base CX0 1 f fd ["script"] (spPen K) := by
  refine F.ok sc_pen (fun vs H Q E h => ?_) (fun cdv A outer s H vs Q E hr h => ?_)
  · obtain ⟨a, ns, rfl, _⟩ := h
    rfl
  · obtain ⟨a, ns, rfl, hS, hlen, k⟩ := h
    have nd := sc_pen.nd
    refine ⟨_, pss_cons (ps_set (i := 1) nd rfl (Or.inl rfl) pe_int)
      (pss_cons (ps_for PassesOwn.never rfl (pi_list (pv 0)) (pg_name (i := 2) nd rfl (Or.inl rfl))
        (pss_one (ps_set (i := 1) nd rfl (Or.inl rfl) (pe_op op_modN (pe_callTy call_int1 (by rfl) T.int (by decide +kernel) (pa_cons (pe_op op_add (pe_op op_mul (pv 1) pe_int) (pv 2)) pa_nil)) pe_int))))
      (pss_one (ps_ret (pe_disp (pps_cons pe_str (pe_callTy call_list_of (by rfl) T.list (by decide +kernel) (pa_cons (pv 0) pa_nil))
        (pps_cons pe_str pe_int (pps_cons pe_str pe_int (pps_cons pe_str pe_int (pps_cons pe_str (pv 1) pps_nil))))) (by rfl) (by rfl) (fun z => by cases z) (by decide))))), ?_⟩
    refine ⟨_, rfl, a, rfl, ⟨_, hS⟩, for_list (K := K) (a := a) (xs := ns.map V.int) (fun i σ H2 => ∃ (v : Option V), σ = [some (.ref a), some (.int (foldP 0 (ns.take i))), v] ∧ H2 = H)
      ⟨none, rfl, rfl⟩ (fun i σ H2 _ ⟨_, _, e⟩ => by rw [e]; exact hS) ?_ ?_⟩
    · rintro i y σ H2 hi ⟨v, rfl, rfl⟩
      obtain ⟨z, hz, rfl⟩ : ∃ z, ns[i]? = some z ∧ y = V.int z := by
        rw [List.getElem?_map] at hi
        cases e : ns[i]? with
        | none => rw [e] at hi; cases hi
        | some z => rw [e] at hi; exact ⟨z, rfl, (Option.some.inj hi).symm⟩
      refine ⟨_, rfl, _, _, rfl, rfl, .inr ⟨by decide, by decide⟩, _, rfl, _, _, rfl, rfl, .inl ⟨_, rfl, _, _, rfl, rfl, (by show (1000000007 : Int) ≠ 0; decide), ?_⟩⟩
      refine ⟨some (.int z), ?_, rfl⟩
      rw [List.take_add_one, hz, Option.toList, foldP_snoc]
      rfl
    · rintro σ H2 ⟨v, rfl, rfl⟩
      intro p hp
      have npa : ∀ b o, H2 b = some o → b ≠ p := fun b o e => ne_of_none e hp
      have s1 : Same H2 (upd H2 p (.dK [])) := same_upd hp
      refine ⟨_, rfl, a, _, rfl, .inl (s1.seq hS), fun l hl => ⟨_, rfl, ?_⟩⟩
      have nlp : l ≠ p := fun z => by rw [z, upd_same] at hl; cases hl
      have hl2 : H2 l = none := by rw [upd_ne nlp] at hl; exact hl
      refine ⟨by rw [upd_ne nlp.symm, upd_same], penK (pen0 ns) l, ?_, (by show 5 ≤ 15; decide), k p l _ hp hl2 nlp.symm (upd_same.trans (congrArg (fun z => some (HO.dK z)) (show mergeK [] (penK (pen0 ns) l) = penK (pen0 ns) l from rfl))) (by rw [upd_ne nlp, upd_same]) fun b o e => ?_⟩
      · exact (show _ = List.map (fun kv => (kV kv.fst, kv.snd)) (penK (pen0 ns) l) by
          rw [List.length_map, List.take_length]
          rfl)
      · rw [upd_ne (npa b o e), upd_ne (ne_of_none e hl2), upd_ne (npa b o e)]
        exact e
end
end CS
namespace CS
open PySem L2
open PyProof.Rows (envOfC)
theorem hu64_of {k : Nat} {A : Around} (h : Room k A) : A.units + 64 < cLine := by have := h.un; omega
theorem hu65_of {k : Nat} {A : Around} (h : Room k A) : A.units + 65 < cLine := by have := h.un; omega
structure Tx (K : PySem.W.Frag) (mg : Str → Option Value) (cls : Str → Addr) (ad : Nat → Addr) (fo : Nat → FuncData) : Prop where
  n_all : mg "all" = none
  n_any : mg "any" = none
  n_bool : mg "bool" = none
  n_enumerate : mg "enumerate" = none
  n_int : mg "int" = none
  n_isinstance : mg "isinstance" = none
  n_len : mg "len" = none
  n_list : mg "list" = none
  n_range : mg "range" = none
  n_sorted : mg "sorted" = none
  n_tuple : mg "tuple" = none
  n_zip : mg "zip" = none
  c_MOST_POINTS : ∃ t, mg "MOST_POINTS" = some (.int 24 t)
  F30 : FunG K "_law_pen" "_law_pen" (top 30) (ad 30) (fo 30)
  k30 : PySem.W.keepIn K (.ref (ad 30)) = true
  b30 : Binds K (fo 30) ["script"] []
  g__law_pen : mg "_law_pen" = some (.ref (ad 30))
  F31 : FunG K "_law_draw" "_law_draw" (top 31) (ad 31) (fo 31)
  k31 : PySem.W.keepIn K (.ref (ad 31)) = true
  b31 : Binds K (fo 31) ["pen", "many"] []
  g__law_draw : mg "_law_draw" = some (.ref (ad 31))
  F32 : FunG K "_law_pick" "_law_pick" (top 32) (ad 32) (fo 32)
  k32 : PySem.W.keepIn K (.ref (ad 32)) = true
  b32 : Binds K (fo 32) ["pen", "some"] []
  g__law_pick : mg "_law_pick" = some (.ref (ad 32))
  F36 : FunG K "_law_known" "_law_known" (top 36) (ad 36) (fo 36)
  k36 : PySem.W.keepIn K (.ref (ad 36)) = true
  b36 : Binds K (fo 36) ["pen", "most"] []
  g__law_known : mg "_law_known" = some (.ref (ad 36))
  F33 : FunG K "_law_shuffled" "_law_shuffled" (top 33) (ad 33) (fo 33)
  k33 : PySem.W.keepIn K (.ref (ad 33)) = true
  b33 : Binds K (fo 33) ["pen", "some"] []
  g__law_shuffled : mg "_law_shuffled" = some (.ref (ad 33))
  F35 : FunG K "_law_some_pairs" "_law_some_pairs" (top 35) (ad 35) (fo 35)
  k35 : PySem.W.keepIn K (.ref (ad 35)) = true
  b35 : Binds K (fo 35) ["pen", "many", "most"] []
  g__law_some_pairs : mg "_law_some_pairs" = some (.ref (ad 35))
  F37 : FunG K "_law_some_space" "_law_some_space" (top 37) (ad 37) (fo 37)
  k37 : PySem.W.keepIn K (.ref (ad 37)) = true
  b37 : Binds K (fo 37) ["pen", "most"] []
  g__law_some_space : mg "_law_some_space" = some (.ref (ad 37))
  F1 : FunG K "is_integer" "is_integer" (top 1) (ad 1) (fo 1)
  k1 : PySem.W.keepIn K (.ref (ad 1)) = true
  b1 : Binds K (fo 1) ["value"] []
  g_is_integer : mg "is_integer" = some (.ref (ad 1))
  F2 : FunG K "is_row" "is_row" (top 2) (ad 2) (fo 2)
  k2 : PySem.W.keepIn K (.ref (ad 2)) = true
  b2 : Binds K (fo 2) ["value"] []
  g_is_row : mg "is_row" = some (.ref (ad 2))
  F12 : FunG K "is_point_of" "is_point_of" (top 12) (ad 12) (fo 12)
  k12 : PySem.W.keepIn K (.ref (ad 12)) = true
  b12 : Binds K (fo 12) ["many", "value"] []
  g_is_point_of : mg "is_point_of" = some (.ref (ad 12))
  F13 : FunG K "is_pair_of" "is_pair_of" (top 13) (ad 13) (fo 13)
  k13 : PySem.W.keepIn K (.ref (ad 13)) = true
  b13 : Binds K (fo 13) ["many", "value"] []
  g_is_pair_of : mg "is_pair_of" = some (.ref (ad 13))
  F14 : FunG K "led_on" "led_on" (top 14) (ad 14) (fo 14)
  k14 : PySem.W.keepIn K (.ref (ad 14)) = true
  b14 : Binds K (fo 14) ["many", "pairs"] []
  g_led_on : mg "led_on" = some (.ref (ad 14))
  F1300 : FunG K "__init__" "Space.__init__" (inClass (top 15) 0) (ad 1300) (fo 1300)
  k1300 : PySem.W.keepIn K (.ref (ad 1300)) = true
  b1300 : Binds K (fo 1300) ["self", "many", "pairs"] []
  F34 : FunG K "_law_table" "_law_table" (top 34) (ad 34) (fo 34)
  k34 : PySem.W.keepIn K (.ref (ad 34)) = true
  b34 : Binds K (fo 34) ["many", "pairs"] []
  g__law_table : mg "_law_table" = some (.ref (ad 34))
  F38 : FunG K "_law_beats" "_law_beats" (top 38) (ad 38) (fo 38)
  k38 : PySem.W.keepIn K (.ref (ad 38)) = true
  b38 : Binds K (fo 38) ["table", "left"] []
  g__law_beats : mg "_law_beats" = some (.ref (ad 38))
  F41 : FunG K "_law_way" "_law_way" (top 41) (ad 41) (fo 41)
  k41 : PySem.W.keepIn K (.ref (ad 41)) = true
  b41 : Binds K (fo 41) ["pen", "table"] []
  g__law_way : mg "_law_way" = some (.ref (ad 41))
  F42 : FunG K "_law_bent" "_law_bent" (top 42) (ad 42) (fo 42)
  k42 : PySem.W.keepIn K (.ref (ad 42)) = true
  b42 : Binds K (fo 42) ["pen", "many", "answer"] []
  g__law_bent : mg "_law_bent" = some (.ref (ad 42))
  F3 : FunG K "kept" "kept" (top 3) (ad 3) (fo 3)
  k3 : PySem.W.keepIn K (.ref (ad 3)) = true
  b3 : Binds K (fo 3) ["value"] []
  g_kept : mg "kept" = some (.ref (ad 3))
  F1420 : FunG K "__init__" "Core.__init__" (inClass (top 21) 0) (ad 1420) (fo 1420)
  k1420 : PySem.W.keepIn K (.ref (ad 1420)) = true
  b1420 : Binds K (fo 1420) ["self", "steps", "points"] []
  F16 : FunG K "need_space" "need_space" (top 16) (ad 16) (fo 16)
  k16 : PySem.W.keepIn K (.ref (ad 16)) = true
  b16 : Binds K (fo 16) ["space"] []
  g_need_space : mg "need_space" = some (.ref (ad 16))
  F17 : FunG K "all_pairs" "all_pairs" (top 17) (ad 17) (fo 17)
  k17 : PySem.W.keepIn K (.ref (ad 17)) = true
  b17 : Binds K (fo 17) ["space"] []
  g_all_pairs : mg "all_pairs" = some (.ref (ad 17))
  F18 : FunG K "parts_points" "parts_points" (top 18) (ad 18) (fo 18)
  k18 : PySem.W.keepIn K (.ref (ad 18)) = true
  b18 : Binds K (fo 18) ["space"] []
  g_parts_points : mg "parts_points" = some (.ref (ad 18))
  F19 : FunG K "need_parted" "need_parted" (top 19) (ad 19) (fo 19)
  k19 : PySem.W.keepIn K (.ref (ad 19)) = true
  b19 : Binds K (fo 19) ["space"] []
  g_need_parted : mg "need_parted" = some (.ref (ad 19))
  F22 : FunG K "greatest_in" "greatest_in" (top 22) (ad 22) (fo 22)
  k22 : PySem.W.keepIn K (.ref (ad 22)) = true
  b22 : Binds K (fo 22) ["space", "lot"] []
  g_greatest_in : mg "greatest_in" = some (.ref (ad 22))
  F23 : FunG K "least_in" "least_in" (top 23) (ad 23) (fo 23)
  k23 : PySem.W.keepIn K (.ref (ad 23)) = true
  b23 : Binds K (fo 23) ["space", "lot"] []
  g_least_in : mg "least_in" = some (.ref (ad 23))
  F24 : FunG K "partners" "partners" (top 24) (ad 24) (fo 24)
  k24 : PySem.W.keepIn K (.ref (ad 24)) = true
  b24 : Binds K (fo 24) ["space", "left", "x"] []
  g_partners : mg "partners" = some (.ref (ad 24))
  F26 : FunG K "steps_fault" "steps_fault" (top 26) (ad 26) (fo 26)
  k26 : PySem.W.keepIn K (.ref (ad 26)) = true
  b26 : Binds K (fo 26) ["space", "steps"] []
  g_steps_fault : mg "steps_fault" = some (.ref (ad 26))
  F25 : FunG K "all_beats" "all_beats" (top 25) (ad 25) (fo 25)
  k25 : PySem.W.keepIn K (.ref (ad 25)) = true
  b25 : Binds K (fo 25) ["space", "left"] []
  g_all_beats : mg "all_beats" = some (.ref (ad 25))
  F27 : FunG K "right_core_fault" "right_core_fault" (top 27) (ad 27) (fo 27)
  k27 : PySem.W.keepIn K (.ref (ad 27)) = true
  b27 : Binds K (fo 27) ["space", "answer"] []
  g_right_core_fault : mg "right_core_fault" = some (.ref (ad 27))
  F28 : FunG K "core_fault" "core_fault" (top 28) (ad 28) (fo 28)
  k28 : PySem.W.keepIn K (.ref (ad 28)) = true
  b28 : Binds K (fo 28) ["space", "answer"] []
  g_core_fault : mg "core_fault" = some (.ref (ad 28))
  F39 : FunG K "_law_is_pair" "_law_is_pair" (top 39) (ad 39) (fo 39)
  k39 : PySem.W.keepIn K (.ref (ad 39)) = true
  b39 : Binds K (fo 39) ["value", "many"] []
  g__law_is_pair : mg "_law_is_pair" = some (.ref (ad 39))
  F40 : FunG K "_law_due" "_law_due" (top 40) (ad 40) (fo 40)
  k40 : PySem.W.keepIn K (.ref (ad 40)) = true
  b40 : Binds K (fo 40) ["table", "answer"] []
  g__law_due : mg "_law_due" = some (.ref (ad 40))
  F1421 : FunG K "__eq__" "Core.__eq__" (inClass (top 21) 1) (ad 1421) (fo 1421)
  k1421 : PySem.W.keepIn K (.ref (ad 1421)) = true
  b1421 : Binds K (fo 1421) ["self", "other"] []
  cl_Space : cls "Space" = ad 15
  g_Space : mg "Space" = some (.ref (ad 15))
  m_Space : Mk K (ad 15) (ad 1300)
  cl_Core : cls "Core" = ad 21
  g_Core : mg "Core" = some (.ref (ad 21))
  m_Core : Mk K (ad 21) (ad 1420)
  eq_Core : EqF K (ad 21) (ad 1421)
  f_many : ∀ q ca cells sf, FldF ⟨K, cls, q, ca, cells, sf⟩ ["Space"] "many"
  f_over : ∀ q ca cells sf, FldF ⟨K, cls, q, ca, cells, sf⟩ ["Space"] "over"
  f_points : ∀ q ca cells sf, FldF ⟨K, cls, q, ca, cells, sf⟩ ["Core"] "points"
  f_steps : ∀ q ca cells sf, FldF ⟨K, cls, q, ca, cells, sf⟩ ["Core"] "steps"
  f_under : ∀ q ca cells sf, FldF ⟨K, cls, q, ca, cells, sf⟩ ["Space"] "under"
  isa : ∀ q ca cells sf, IsF ⟨K, cls, q, ca, cells, sf⟩ ["Space", "Core"]
section
variable {P : Program} {w : World} {K : PySem.W.Frag} {mg : Str → Option Value} {base : Heap} {cls : Str → Addr} {ad : Nat → Addr} {fo : Nat → FuncData}
theorem okT_draw (T : Tx K mg cls ad fo) : FnOk P w K mg base CX0 1 (ad 31) (fo 31) ["pen", "many"] (spD K cls 2 drawF) := ok_draw T.F31 ⟨T.n_len, T.n_int, T.n_list⟩
theorem okT_pen (T : Tx K mg cls ad fo) : FnOk P w K mg base CX0 1 (ad 30) (fo 30) ["script"] (spPen K) := ok_pen T.F30 ⟨T.n_len, T.n_int, T.n_list⟩
theorem sc_table : FnScope ["many", "pairs", "table", "x", "y", "z", "one", "other"] ["many", "pairs"] (defScope (top 34)) := ⟨rfl, rfl, rfl, by decide +kernel, rfl, by decide +kernel, by decide +kernel⟩
theorem ok_table {f : Addr} {fd : FuncData} (F : FunG K "_law_table" "_law_table" (top 34) f fd) (n_range : mg "range" = none) (n_zip : mg "zip" = none) : FnOk P w K mg base CX0 1 f fd ["many", "pairs"] (spD K cls 2 tableF) := by
  refine F.ok sc_table (fun vs H Q E h => ?_) (fun cdv A outer s H vs Q E hr h => ?_)
  · obtain ⟨q, ca, sf, cells, F, p, ds, _, _, _, r, hl, _⟩ := h
    rw [r.length]; exact hl
  · obtain ⟨q, ca, sf, cells, F, p, ds, fh, cel, pen, r, hl, d, p', e, hq⟩ := h
    have nd := sc_table.nd
    refine ⟨_, pss_cons (ps_setLc (i := 2) (own := [("x", 3)]) rfl nd rfl rfl (sw_true rfl rfl rfl (by decide +kernel)) (pi_range1 rfl n_range (pa_cons (pv 0) pa_nil)) (blkOk_by rfl)
        (fun _ _ _ _ _ => pg_name (i := 3) nd rfl (by first | exact .inl rfl | exact .inr rfl) (by first | exact .inl rfl | exact .inr rfl)) (fun _ _ _ _ _ => pts_nil)
        (fun _ _ _ _ _ => pe_lc (own := [("y", 4)]) rfl nd (pi_range1 rfl n_range (pa_cons (pv 0) pa_nil)) (blkOk_by rfl)
          (fun _ _ _ _ _ => pg_name (i := 4) nd rfl (by first | exact .inl rfl | exact .inr rfl) (by first | exact .inl rfl | exact .inr rfl)) (fun _ _ _ _ _ => pts_nil) (fun _ _ _ _ _ => pe_cmpR op_eq (pv 3) (pv 4) (nomark _))))
      (pss_cons (ps_for PassesOwn.never rfl (pi_seq (pv 1)) (pg_tup rfl (pgs_cons (pg_name (i := 3) nd rfl (by first | exact .inl rfl | exact .inr rfl) (by first | exact .inl rfl | exact .inr rfl)) (pgs_cons (pg_name (i := 4) nd rfl (by first | exact .inl rfl | exact .inr rfl) (by first | exact .inl rfl | exact .inr rfl)) pgs_nil)) rfl rfl)
        (pss_one (ps_asg pe_bl (pg_sub (pe_ix ix_list (pv 2) (pv 3) (fun _ _ => rfl)) (pv 4) set_list))))
      (pss_cons (ps_for PassesOwn.never rfl (pi_range1 rfl n_range (pa_cons (pv 0) pa_nil)) (pg_name (i := 5) nd rfl (by first | exact .inl rfl | exact .inr rfl) (by first | exact .inl rfl | exact .inr rfl))
        (pss_one (ps_for PassesOwn.never rfl (pi_range1 rfl n_range (pa_cons (pv 0) pa_nil)) (pg_name (i := 3) nd rfl (by first | exact .inl rfl | exact .inr rfl) (by first | exact .inl rfl | exact .inr rfl))
          (pss_one (ps_if (pt_val (pe_ix ix_list (pe_ix ix_list (pv 2) (pv 3) (fun _ _ => rfl)) (pv 5) (fun _ _ => rfl)) (by intro _; rfl))
            (pss_one (ps_asg (by exact pe_lc (g := gTup K 2 (gCons (gName 6) (gCons (gName 7) gNil))) (own := [("one", 6), ("other", 7)]) rfl nd (RZ.pi_zipA (by rfl) n_zip (pa_cons (pe_ix ix_list (pv 2) (pv 3) (fun _ _ => rfl)) (pa_cons (pe_ix ix_list (pv 2) (pv 5) (fun _ _ => rfl)) pa_nil))) (blkOk_by rfl) (fun _ _ _ _ _ => by exact pg_tup rfl (pgs_cons (pg_name (i := 6) nd rfl (by first | exact .inl rfl | exact .inr rfl) (by first | exact .inl rfl | exact .inr rfl)) (pgs_cons (pg_name (i := 7) nd rfl (by first | exact .inl rfl | exact .inr rfl) (by first | exact .inl rfl | exact .inr rfl)) pgs_nil)) rfl rfl) (fun _ _ _ _ _ => pts_nil) (fun _ _ _ _ _ => pe_or (pv 6) (pe_one (pv 7)))) (pg_sub (pv 2) (pv 3) set_list)))
            pss_nil)))))
      (pss_one (ps_ret (pv 2))))), ?_⟩
    exact table_reads rfl fh pen r e hq
theorem tableF_len (ds : List D) (p : Pn) (r : D × Pn) (h : tableF ds p = .ok r) : ds.length = 2 := by
  unfold tableF at h
  split at h
  · rfl
  · cases h
theorem okT_table (T : Tx K mg cls ad fo) : FnOk P w K mg base CX0 1 (ad 34) (fo 34) ["many", "pairs"] (spD K cls 2 tableF) := ok_table T.F34 T.n_range T.n_zip
theorem sc_law_pick : FnScope ["pen", "some"] ["pen", "some"] (defScope (top 32)) := ⟨rfl, rfl, rfl, by decide +kernel, rfl, by decide +kernel, by decide +kernel⟩
noncomputable def b_law_pick : SS := dRet (m2 ixD (dVar 1) (mCall drawF [] (mCons (dVar 0) (mCons (mCB lenD (mCons (dVar 1) mNil)) mNil))))
noncomputable def m_law_pick : FD := fnD 2 2 b_law_pick
theorem ok_law_pick (T : Tx K mg cls ad fo) : FnOk P w K mg base CX0 2 (ad 32) (fo 32) ["pen", "some"] (spD K cls 2 m_law_pick) :=
  fn_okD (N := ["pen", "some"]) (ps := ["pen", "some"]) (body := b_law_pick) T.F32 sc_law_pick (by decide) (fun cdv A outer s H E q ca sf cells hr => by
    have nd := sc_law_pick.nd
    have hu64 := hu64_of hr
    have hu65 := hu65_of hr
    exact dss_one (ds_ret (de_ix (de_var (pv 1)) (de_call rfl (okT_draw T) drawF_len (hr.mono (by omega)) rfl T.g__law_draw T.k31 T.b31 .nil (fun _ => .nil) pass0 (da_cons (de_var (pv 0)) (da_cons (de_callB call_len len_d rfl T.n_len (by decide +kernel) (da_cons (de_var (pv 1)) da_nil)) da_nil))) rfl (fun _ _ => rfl))))
theorem sc_law_known : FnScope ["pen", "most", "some", "one"] ["pen", "most"] (defScope (top 36)) := ⟨rfl, rfl, rfl, by decide +kernel, rfl, by decide +kernel, by decide +kernel⟩
noncomputable def b_law_known : SS := dSeq (dSet 2 (mLst (mCons (mTup (mCons (M.ret (.int 4)) (mCons (mLst (mCons (mTup (mCons (M.ret (.int 0)) (mCons (M.ret (.int 2)) mNil))) (mCons (mTup (mCons (M.ret (.int 0)) (mCons (M.ret (.int 3)) mNil))) (mCons (mTup (mCons (M.ret (.int 1)) (mCons (M.ret (.int 2)) mNil))) (mCons (mTup (mCons (M.ret (.int 1)) (mCons (M.ret (.int 3)) mNil))) mNil))))) mNil))) (mCons (mTup (mCons (M.ret (.int 6)) (mCons (mLst (mCons (mTup (mCons (M.ret (.int 0)) (mCons (M.ret (.int 3)) mNil))) (mCons (mTup (mCons (M.ret (.int 0)) (mCons (M.ret (.int 4)) mNil))) (mCons (mTup (mCons (M.ret (.int 1)) (mCons (M.ret (.int 4)) mNil))) (mCons (mTup (mCons (M.ret (.int 1)) (mCons (M.ret (.int 5)) mNil))) (mCons (mTup (mCons (M.ret (.int 2)) (mCons (M.ret (.int 5)) mNil))) (mCons (mTup (mCons (M.ret (.int 2)) (mCons (M.ret (.int 3)) mNil))) mNil))))))) mNil))) mNil)))) (dSeq (dSet 2 (m2 addD (dVar 2) (mLst (mCons (mTup (mCons (M.ret (.int 5)) (mCons (mLst (mCons (mTup (mCons (M.ret (.int 0)) (mCons (M.ret (.int 1)) mNil))) (mCons (mTup (mCons (M.ret (.int 2)) (mCons (M.ret (.int 1)) mNil))) (mCons (mTup (mCons (M.ret (.int 2)) (mCons (M.ret (.int 3)) mNil))) (mCons (mTup (mCons (M.ret (.int 4)) (mCons (M.ret (.int 3)) mNil))) mNil))))) mNil))) (mCons (mTup (mCons (M.ret (.int 3)) (mCons (mLst (mCons (mTup (mCons (M.ret (.int 0)) (mCons (M.ret (.int 1)) mNil))) (mCons (mTup (mCons (M.ret (.int 1)) (mCons (M.ret (.int 2)) mNil))) mNil))) mNil))) (mCons (mTup (mCons (M.ret (.int 3)) (mCons (mLst mNil) mNil))) mNil)))))) (dSeq (dSet 2 (m2 addD (dVar 2) (mLst (mCons (mTup (mCons (M.ret (.int 5)) (mCons (mLst (mCons (mTup (mCons (M.ret (.int 0)) (mCons (M.ret (.int 1)) mNil))) (mCons (mTup (mCons (M.ret (.int 0)) (mCons (M.ret (.int 2)) mNil))) (mCons (mTup (mCons (M.ret (.int 1)) (mCons (M.ret (.int 3)) mNil))) (mCons (mTup (mCons (M.ret (.int 2)) (mCons (M.ret (.int 3)) mNil))) (mCons (mTup (mCons (M.ret (.int 4)) (mCons (M.ret (.int 3)) mNil))) mNil)))))) mNil))) (mCons (mTup (mCons (M.ret (.int 1)) (mCons (mLst mNil) mNil))) (mCons (mTup (mCons (M.ret (.int 2)) (mCons (mLst (mCons (mTup (mCons (M.ret (.int 0)) (mCons (M.ret (.int 1)) mNil))) mNil)) mNil))) mNil)))))) (dSeq (dSet 2 (m2 addD (dVar 2) (mLst (mCons (mTup (mCons (M.ret (.int 6)) (mCons (mLst (mCons (mTup (mCons (M.ret (.int 0)) (mCons (M.ret (.int 2)) mNil))) (mCons (mTup (mCons (M.ret (.int 0)) (mCons (M.ret (.int 3)) mNil))) (mCons (mTup (mCons (M.ret (.int 1)) (mCons (M.ret (.int 2)) mNil))) (mCons (mTup (mCons (M.ret (.int 1)) (mCons (M.ret (.int 3)) mNil))) (mCons (mTup (mCons (M.ret (.int 2)) (mCons (M.ret (.int 4)) mNil))) (mCons (mTup (mCons (M.ret (.int 2)) (mCons (M.ret (.int 5)) mNil))) (mCons (mTup (mCons (M.ret (.int 3)) (mCons (M.ret (.int 4)) mNil))) (mCons (mTup (mCons (M.ret (.int 3)) (mCons (M.ret (.int 5)) mNil))) mNil))))))))) mNil))) mNil)))) (dRet (mCall m_law_pick [] (mCons (dVar 0) (mCons (mComp (mRow (dVar 2)) [3] (bNm 3) ((mB (m2 leD (m2 ixD (dVar 3) (M.ret (.int 0))) (dVar 1)))) (dVar 3)) mNil)))))))
noncomputable def m_law_known : FD := fnD 2 4 b_law_known
theorem ok_law_known (T : Tx K mg cls ad fo) : FnOk P w K mg base CX0 3 (ad 36) (fo 36) ["pen", "most"] (spD K cls 2 m_law_known) :=
  fn_okD (N := ["pen", "most", "some", "one"]) (ps := ["pen", "most"]) (body := b_law_known) T.F36 sc_law_known (by decide) (fun cdv A outer s H E q ca sf cells hr => by
    have nd := sc_law_known.nd
    have hu64 := hu64_of hr
    have hu65 := hu65_of hr
    exact dss_cons (ds_set (i := 2) nd rfl (by first | exact .inl rfl | exact .inr rfl) (de_lst (da_cons (de_tup (da_cons (de_int) (da_cons (de_lst (da_cons (de_tup (da_cons (de_int) (da_cons (de_int) da_nil))) (da_cons (de_tup (da_cons (de_int) (da_cons (de_int) da_nil))) (da_cons (de_tup (da_cons (de_int) (da_cons (de_int) da_nil))) (da_cons (de_tup (da_cons (de_int) (da_cons (de_int) da_nil))) da_nil))))) da_nil))) (da_cons (de_tup (da_cons (de_int) (da_cons (de_lst (da_cons (de_tup (da_cons (de_int) (da_cons (de_int) da_nil))) (da_cons (de_tup (da_cons (de_int) (da_cons (de_int) da_nil))) (da_cons (de_tup (da_cons (de_int) (da_cons (de_int) da_nil))) (da_cons (de_tup (da_cons (de_int) (da_cons (de_int) da_nil))) (da_cons (de_tup (da_cons (de_int) (da_cons (de_int) da_nil))) (da_cons (de_tup (da_cons (de_int) (da_cons (de_int) da_nil))) da_nil))))))) da_nil))) da_nil)))) (dss_cons (ds_set (i := 2) nd rfl (by first | exact .inl rfl | exact .inr rfl) (de_op op_addA add_d (de_var (pv 2)) (de_lst (da_cons (de_tup (da_cons (de_int) (da_cons (de_lst (da_cons (de_tup (da_cons (de_int) (da_cons (de_int) da_nil))) (da_cons (de_tup (da_cons (de_int) (da_cons (de_int) da_nil))) (da_cons (de_tup (da_cons (de_int) (da_cons (de_int) da_nil))) (da_cons (de_tup (da_cons (de_int) (da_cons (de_int) da_nil))) da_nil))))) da_nil))) (da_cons (de_tup (da_cons (de_int) (da_cons (de_lst (da_cons (de_tup (da_cons (de_int) (da_cons (de_int) da_nil))) (da_cons (de_tup (da_cons (de_int) (da_cons (de_int) da_nil))) da_nil))) da_nil))) (da_cons (de_tup (da_cons (de_int) (da_cons (de_lst da_nil) da_nil))) da_nil)))))) (dss_cons (ds_set (i := 2) nd rfl (by first | exact .inl rfl | exact .inr rfl) (de_op op_addA add_d (de_var (pv 2)) (de_lst (da_cons (de_tup (da_cons (de_int) (da_cons (de_lst (da_cons (de_tup (da_cons (de_int) (da_cons (de_int) da_nil))) (da_cons (de_tup (da_cons (de_int) (da_cons (de_int) da_nil))) (da_cons (de_tup (da_cons (de_int) (da_cons (de_int) da_nil))) (da_cons (de_tup (da_cons (de_int) (da_cons (de_int) da_nil))) (da_cons (de_tup (da_cons (de_int) (da_cons (de_int) da_nil))) da_nil)))))) da_nil))) (da_cons (de_tup (da_cons (de_int) (da_cons (de_lst da_nil) da_nil))) (da_cons (de_tup (da_cons (de_int) (da_cons (de_lst (da_cons (de_tup (da_cons (de_int) (da_cons (de_int) da_nil))) da_nil)) da_nil))) da_nil)))))) (dss_cons (ds_set (i := 2) nd rfl (by first | exact .inl rfl | exact .inr rfl) (de_op op_addA add_d (de_var (pv 2)) (de_lst (da_cons (de_tup (da_cons (de_int) (da_cons (de_lst (da_cons (de_tup (da_cons (de_int) (da_cons (de_int) da_nil))) (da_cons (de_tup (da_cons (de_int) (da_cons (de_int) da_nil))) (da_cons (de_tup (da_cons (de_int) (da_cons (de_int) da_nil))) (da_cons (de_tup (da_cons (de_int) (da_cons (de_int) da_nil))) (da_cons (de_tup (da_cons (de_int) (da_cons (de_int) da_nil))) (da_cons (de_tup (da_cons (de_int) (da_cons (de_int) da_nil))) (da_cons (de_tup (da_cons (de_int) (da_cons (de_int) da_nil))) (da_cons (de_tup (da_cons (de_int) (da_cons (de_int) da_nil))) da_nil))))))))) da_nil))) da_nil)))) (dss_one (ds_ret (de_call rfl (ok_law_pick T) fnD_len (hr.mono (by omega)) rfl T.g__law_pick T.k32 T.b32 .nil (fun _ => .nil) pass0 (da_cons (de_var (pv 0)) (da_cons (de_of (df_lc (own := [("one", 3)]) rfl nd (di_row rfl (de_var (pv 2))) (blkOk_by rfl) (by decide) (fun _ _ _ _ _ => dg_name (i := 3) nd rfl (by first | exact .inl rfl | exact .inr rfl)) (fun _ _ _ _ _ => dts_one (dt_cmp op_le le_d (de_ix (de_var (pv 3)) (de_int) rfl (fun _ _ => rfl)) (de_var (pv 1)) (nomark _))) (fun _ _ _ _ _ => (de_var (pv 3))))) da_nil)))))))))
theorem sc_law_shuffled : FnScope ["pen", "some", "rest", "found", "lap"] ["pen", "some"] (defScope (top 33)) := ⟨rfl, rfl, rfl, by decide +kernel, rfl, by decide +kernel, by decide +kernel⟩
noncomputable def b_law_shuffled : SS := dSeq (dParOO 2 3 (mCB listD (mCons (dVar 1) mNil)) (mLst mNil)) (dSeq (dFor (mRange1 (mCB lenD (mCons (dVar 1) mNil))) (bNm 4) (dExpr (mAppend 3 (mPopAt 2 (mCall drawF [] (mCons (dVar 0) (mCons (mBor (mCB lenD (mCons (dVar 2) mNil))) mNil))))))) (dFrz [3] (dRet (dVar 3))))
noncomputable def m_law_shuffled : FD := fnD 2 5 b_law_shuffled
theorem ok_law_shuffled (T : Tx K mg cls ad fo) : FnOk P w K mg base CX0 2 (ad 33) (fo 33) ["pen", "some"] (spD K cls 2 m_law_shuffled) :=
  fn_okD (N := ["pen", "some", "rest", "found", "lap"]) (ps := ["pen", "some"]) (body := b_law_shuffled) T.F33 sc_law_shuffled (by decide) (fun cdv A outer s H E q ca sf cells hr => by
    have nd := sc_law_shuffled.nd
    have hu64 := hu64_of hr
    have hu65 := hu65_of hr
    exact dss_cons (ds_parOO (i := 2) (j := 3) rfl nd rfl rfl (by decide) rfl rfl (df_callTy call_list_of list_l rfl T.n_list (by decide +kernel) (da_cons (de_var (pv 1)) da_nil)) (df_lst da_nil) rfl) (dss_cons (ds_for PassesOwn.never rfl (di_range1 rfl T.n_range (de_callB call_len len_d rfl T.n_len (by decide +kernel) (da_cons (de_var (pv 1)) da_nil))) (dg_name (i := 4) nd rfl (by first | exact .inl rfl | exact .inr rfl)) (dss_one (ds_expr (de_append (pv 3) (de_popAt (pv 2) (de_call rfl (okT_draw T) drawF_len (hr.mono (by omega)) rfl T.g__law_draw T.k31 T.b31 .nil (fun _ => .nil) pass0 (da_cons (de_var (pv 0)) (da_cons (de_bor (de_callB call_len len_d rfl T.n_len (by decide +kernel) (da_cons (de_var (pv 2)) da_nil))) da_nil)))))))) (dss_one (ds_frz [3] (ds_ret (de_var (pv 3)))))))
theorem sc_law_some_pairs : FnScope ["pen", "many", "most", "order", "found", "lap", "a", "b"] ["pen", "many", "most"] (defScope (top 35)) := ⟨rfl, rfl, rfl, by decide +kernel, rfl, by decide +kernel, by decide +kernel⟩
noncomputable def b_law_some_pairs : SS := dSeq (dSet 3 (mCall m_law_shuffled [] (mCons (dVar 0) (mCons (m1 rgL (dVar 1)) mNil)))) (dSeq (dSetO 4 (mLst mNil)) (dSeq (dFor (mRange1 (mIf (mB (m2 gtD (dVar 1) (M.ret (.int 1)))) (mCall drawF [] (mCons (dVar 0) (mCons (m2 addD (dVar 2) (M.ret (.int 1))) mNil))) (M.ret (.int 0)))) (bNm 5) (dSeq (dSet 6 (mCall drawF [] (mCons (dVar 0) (mCons (m2 subD (dVar 1) (M.ret (.int 1))) mNil)))) (dSeq (dSet 7 (m2 addD (m2 addD (dVar 6) (M.ret (.int 1))) (mCall drawF [] (mCons (dVar 0) (mCons (m2 subD (m2 subD (dVar 1) (M.ret (.int 1))) (dVar 6)) mNil))))) (dExpr (mAppend 4 (mTup (mCons (m2 ixD (dVar 3) (dVar 6)) (mCons (m2 ixD (dVar 3) (dVar 7)) mNil)))))))) (dFrz [4] (dRet (dVar 4)))))
noncomputable def m_law_some_pairs : FD := fnD 3 8 b_law_some_pairs
theorem ok_law_some_pairs (T : Tx K mg cls ad fo) : FnOk P w K mg base CX0 3 (ad 35) (fo 35) ["pen", "many", "most"] (spD K cls 3 m_law_some_pairs) :=
  fn_okD (N := ["pen", "many", "most", "order", "found", "lap", "a", "b"]) (ps := ["pen", "many", "most"]) (body := b_law_some_pairs) T.F35 sc_law_some_pairs (by decide) (fun cdv A outer s H E q ca sf cells hr => by
    have nd := sc_law_some_pairs.nd
    have hu64 := hu64_of hr
    have hu65 := hu65_of hr
    exact dss_cons (ds_set (i := 3) nd rfl (by first | exact .inl rfl | exact .inr rfl) (de_call rfl (ok_law_shuffled T) fnD_len (hr.mono (by omega)) rfl T.g__law_shuffled T.k33 T.b33 .nil (fun _ => .nil) pass0 (da_cons (de_var (pv 0)) (da_cons (de_of (df_listRg rfl rfl T.n_list rfl T.n_range (de_var (pv 1)))) da_nil)))) (dss_cons (ds_setO (i := 4) nd rfl (by first | exact .inl rfl | exact .inr rfl) (df_lst da_nil)) (dss_cons (ds_for PassesOwn.never rfl (di_range1 rfl T.n_range (de_ifExp (dt_cmp op_gt gt_d (de_var (pv 1)) (de_int) (nomark _)) (de_call rfl (okT_draw T) drawF_len (hr.mono (by omega)) rfl T.g__law_draw T.k31 T.b31 .nil (fun _ => .nil) pass0 (da_cons (de_var (pv 0)) (da_cons (de_op op_addA add_d (de_var (pv 2)) (de_int)) da_nil))) (de_int))) (dg_name (i := 5) nd rfl (by first | exact .inl rfl | exact .inr rfl)) (dss_cons (ds_set (i := 6) nd rfl (by first | exact .inl rfl | exact .inr rfl) (de_call rfl (okT_draw T) drawF_len (hr.mono (by omega)) rfl T.g__law_draw T.k31 T.b31 .nil (fun _ => .nil) pass0 (da_cons (de_var (pv 0)) (da_cons (de_op op_sub sub_d (de_var (pv 1)) (de_int)) da_nil)))) (dss_cons (ds_set (i := 7) nd rfl (by first | exact .inl rfl | exact .inr rfl) (de_op op_addA add_d (de_op op_addA add_d (de_var (pv 6)) (de_int)) (de_call rfl (okT_draw T) drawF_len (hr.mono (by omega)) rfl T.g__law_draw T.k31 T.b31 .nil (fun _ => .nil) pass0 (da_cons (de_var (pv 0)) (da_cons (de_op op_sub sub_d (de_op op_sub sub_d (de_var (pv 1)) (de_int)) (de_var (pv 6))) da_nil))))) (dss_one (ds_expr (de_append (pv 4) (de_tup (da_cons (de_ix (de_var (pv 3)) (de_var (pv 6)) rfl (fun _ _ => rfl)) (da_cons (de_ix (de_var (pv 3)) (de_var (pv 7)) rfl (fun _ _ => rfl)) da_nil))))))))) (dss_one (ds_frz [4] (ds_ret (de_var (pv 4))))))))
theorem sc_law_some_space : FnScope ["pen", "most", "many", "pairs", "names", "x", "y"] ["pen", "most"] (defScope (top 37)) := ⟨rfl, rfl, rfl, by decide +kernel, rfl, by decide +kernel, by decide +kernel⟩
noncomputable def b_law_some_space : SS := dSeq (dPar 2 3 (m2 addD (M.ret (.int 1)) (mCall drawF [] (mCons (dVar 0) (mCons (dVar 1) mNil)))) (M.ret .non)) (dSeq (dIf (mB (m2 eqD (mCall drawF [] (mCons (dVar 0) (mCons (M.ret (.int 3)) mNil))) (M.ret (.int 0)))) (dSeq (dAsg (mCall m_law_known [] (mCons (dVar 0) (mCons (dVar 1) mNil))) (bTup 2 (bCons (bNm 2) (bCons (bNm 3) bNil)))) (dSeq (dSet 4 (mCall m_law_shuffled [] (mCons (dVar 0) (mCons (m1 rgL (dVar 2)) mNil)))) (dRet (mTup (mCons (dVar 2) (mCons (mComp (mRow (dVar 3)) [5, 6] (bTup 2 (bCons (bNm 5) (bCons (bNm 6) bNil))) (mYes) (mTup (mCons (m2 ixD (dVar 4) (dVar 5)) (mCons (m2 ixD (dVar 4) (dVar 6)) mNil)))) mNil)))))) (dNext)) (dRet (mTup (mCons (dVar 2) (mCons (mCall m_law_some_pairs [] (mCons (dVar 0) (mCons (dVar 2) (mCons (m2 mulD (M.ret (.int 2)) (dVar 2)) mNil)))) mNil)))))
noncomputable def m_law_some_space : FD := fnD 2 7 b_law_some_space
theorem ok_law_some_space (T : Tx K mg cls ad fo) : FnOk P w K mg base CX0 4 (ad 37) (fo 37) ["pen", "most"] (spD K cls 2 m_law_some_space) :=
  fn_okD (N := ["pen", "most", "many", "pairs", "names", "x", "y"]) (ps := ["pen", "most"]) (body := b_law_some_space) T.F37 sc_law_some_space (by decide) (fun cdv A outer s H E q ca sf cells hr => by
    have nd := sc_law_some_space.nd
    have hu64 := hu64_of hr
    have hu65 := hu65_of hr
    exact dss_cons (ds_par (i := 2) (j := 3) rfl nd rfl rfl (by decide) rfl rfl (de_op op_addA add_d (de_int) (de_call rfl (okT_draw T) drawF_len (hr.mono (by omega)) rfl T.g__law_draw T.k31 T.b31 .nil (fun _ => .nil) pass0 (da_cons (de_var (pv 0)) (da_cons (de_var (pv 1)) da_nil)))) (de_non) rfl) (dss_cons (ds_if (dt_cmp (op_eqD hu64) eq_d (de_call rfl (okT_draw T) drawF_len (hr.mono (by omega)) rfl T.g__law_draw T.k31 T.b31 .nil (fun _ => .nil) pass0 (da_cons (de_var (pv 0)) (da_cons (de_int) da_nil))) (de_int) (nomark _)) (dss_cons (ds_asg (de_call rfl (ok_law_known T) fnD_len (hr.mono (by omega)) rfl T.g__law_known T.k36 T.b36 .nil (fun _ => .nil) pass0 (da_cons (de_var (pv 0)) (da_cons (de_var (pv 1)) da_nil))) (dg_tup rfl rfl (dgs_cons (dg_name (i := 2) nd rfl (by first | exact .inl rfl | exact .inr rfl)) (dgs_cons (dg_name (i := 3) nd rfl (by first | exact .inl rfl | exact .inr rfl)) dgs_nil)))) (dss_cons (ds_set (i := 4) nd rfl (by first | exact .inl rfl | exact .inr rfl) (de_call rfl (ok_law_shuffled T) fnD_len (hr.mono (by omega)) rfl T.g__law_shuffled T.k33 T.b33 .nil (fun _ => .nil) pass0 (da_cons (de_var (pv 0)) (da_cons (de_of (df_listRg rfl rfl T.n_list rfl T.n_range (de_var (pv 2)))) da_nil)))) (dss_one (ds_ret (de_tup (da_cons (de_var (pv 2)) (da_cons (de_of (df_lc (own := [("x", 5), ("y", 6)]) rfl nd (di_row rfl (de_var (pv 3))) (blkOk_by rfl) (by decide) (fun _ _ _ _ _ => dg_tup rfl rfl (dgs_cons (dg_name (i := 5) nd rfl (by first | exact .inl rfl | exact .inr rfl)) (dgs_cons (dg_name (i := 6) nd rfl (by first | exact .inl rfl | exact .inr rfl)) dgs_nil))) (fun _ _ _ _ _ => dts_nil) (fun _ _ _ _ _ => (de_tup (da_cons (de_ix (de_var (pv 4)) (de_var (pv 5)) rfl (fun _ _ => rfl)) (da_cons (de_ix (de_var (pv 4)) (de_var (pv 6)) rfl (fun _ _ => rfl)) da_nil)))))) da_nil))))))) (dss_nil)) (dss_one (ds_ret (de_tup (da_cons (de_var (pv 2)) (da_cons (de_call rfl (ok_law_some_pairs T) fnD_len (hr.mono (by omega)) rfl T.g__law_some_pairs T.k35 T.b35 .nil (fun _ => .nil) pass0 (da_cons (de_var (pv 0)) (da_cons (de_var (pv 2)) (da_cons (de_op op_mulA mul_d (de_int) (de_var (pv 2))) da_nil)))) da_nil)))))))
theorem sc_is_integer : FnScope ["value"] ["value"] (defScope (top 1)) := ⟨rfl, rfl, rfl, by decide +kernel, rfl, by decide +kernel, by decide +kernel⟩
noncomputable def b_is_integer : SS := dRet ((mAndV (mCB (isa1 ["Space", "Core"]) (mCons (dVar 0) (mCons (M.ret (.ty "int")) mNil))) (mNotV (mCB (isa1 ["Space", "Core"]) (mCons (dVar 0) (mCons (M.ret (.ty "bool")) mNil))))))
noncomputable def m_is_integer : FD := fnD 1 1 b_is_integer
theorem ok_is_integer (T : Tx K mg cls ad fo) : FnOk P w K mg base CX0 1 (ad 1) (fo 1) ["value"] (spD K cls 1 m_is_integer) :=
  fn_okD (N := ["value"]) (ps := ["value"]) (body := b_is_integer) T.F1 sc_is_integer (by decide) (fun cdv A outer s H E q ca sf cells hr => by
    have nd := sc_is_integer.nd
    have hu64 := hu64_of hr
    have hu65 := hu65_of hr
    exact dss_one (ds_ret ((de_and (de_isi1 rfl (T.isa q ca cells sf) rfl T.n_isinstance (da_cons (de_var (pv 0)) (da_cons (de_ty rfl T.n_int (by decide +kernel)) da_nil))) (de_one (de_not (de_isi1 rfl (T.isa q ca cells sf) rfl T.n_isinstance (da_cons (de_var (pv 0)) (da_cons (de_ty rfl T.n_bool (by decide +kernel)) da_nil)))))))))
theorem sc_is_row : FnScope ["value"] ["value"] (defScope (top 2)) := ⟨rfl, rfl, rfl, by decide +kernel, rfl, by decide +kernel, by decide +kernel⟩
noncomputable def b_is_row : SS := dRet (mIsaT ["Space", "Core"] (dVar 0) (mCons (M.ret (.ty "list")) (mCons (M.ret (.ty "tuple")) mNil)))
noncomputable def m_is_row : FD := fnD 1 1 b_is_row
theorem ok_is_row (T : Tx K mg cls ad fo) : FnOk P w K mg base CX0 1 (ad 2) (fo 2) ["value"] (spD K cls 1 m_is_row) :=
  fn_okD (N := ["value"]) (ps := ["value"]) (body := b_is_row) T.F2 sc_is_row (by decide) (fun cdv A outer s H E q ca sf cells hr => by
    have nd := sc_is_row.nd
    have hu64 := hu64_of hr
    have hu65 := hu65_of hr
    exact dss_one (ds_ret (de_isiT rfl (T.isa q ca cells sf) rfl T.n_isinstance (de_var (pv 0)) (da_cons (de_ty rfl T.n_list (by decide +kernel)) (da_cons (de_ty rfl T.n_tuple (by decide +kernel)) da_nil)))))
theorem sc_is_point_of : FnScope ["many", "value"] ["many", "value"] (defScope (top 12)) := ⟨rfl, rfl, rfl, by decide +kernel, rfl, by decide +kernel, by decide +kernel⟩
noncomputable def b_is_point_of : SS := dRet ((mAndV (mCall m_is_integer [] (mCons (dVar 1) mNil)) (mChain leD ltD (M.ret (.int 0)) (dVar 1) (dVar 0))))
noncomputable def m_is_point_of : FD := fnD 2 2 b_is_point_of
theorem ok_is_point_of (T : Tx K mg cls ad fo) : FnOk P w K mg base CX0 2 (ad 12) (fo 12) ["many", "value"] (spD K cls 2 m_is_point_of) :=
  fn_okD (N := ["many", "value"]) (ps := ["many", "value"]) (body := b_is_point_of) T.F12 sc_is_point_of (by decide) (fun cdv A outer s H E q ca sf cells hr => by
    have nd := sc_is_point_of.nd
    have hu64 := hu64_of hr
    have hu65 := hu65_of hr
    exact dss_one (ds_ret ((de_and (de_call rfl (ok_is_integer T) fnD_len (hr.mono (by omega)) rfl T.g_is_integer T.k1 T.b1 .nil (fun _ => .nil) pass0 (da_cons (de_var (pv 1)) da_nil)) (de_one (de_chain op_le op_lt le_d lt_d (de_int) (de_var (pv 1)) (de_var (pv 0))))))))
theorem sc_is_pair_of : FnScope ["many", "value", "item"] ["many", "value"] (defScope (top 13)) := ⟨rfl, rfl, rfl, by decide +kernel, rfl, by decide +kernel, by decide +kernel⟩
noncomputable def b_is_pair_of : SS := dRet ((mAndV (mCB (isa1 ["Space", "Core"]) (mCons (dVar 1) (mCons (M.ret (.ty "tuple")) mNil))) (mAndV (m2 eqD (mCB lenD (mCons (dVar 1) mNil)) (M.ret (.int 2))) (mCB allD (mCons (mComp (mRow (dVar 1)) [2] (bNm 2) (mYes) (mCall m_is_point_of [] (mCons (dVar 0) (mCons (dVar 2) mNil)))) mNil)))))
noncomputable def m_is_pair_of : FD := fnD 2 3 b_is_pair_of
theorem ok_is_pair_of (T : Tx K mg cls ad fo) : FnOk P w K mg base CX0 3 (ad 13) (fo 13) ["many", "value"] (spD K cls 2 m_is_pair_of) :=
  fn_okD (N := ["many", "value", "item"]) (ps := ["many", "value"]) (body := b_is_pair_of) T.F13 sc_is_pair_of (by decide) (fun cdv A outer s H E q ca sf cells hr => by
    have nd := sc_is_pair_of.nd
    have hu64 := hu64_of hr
    have hu65 := hu65_of hr
    exact dss_one (ds_ret ((de_and (de_isi1 rfl (T.isa q ca cells sf) rfl T.n_isinstance (da_cons (de_var (pv 1)) (da_cons (de_ty rfl T.n_tuple (by decide +kernel)) da_nil))) (de_and (de_cmp (op_eqD hu64) eq_d (de_callB call_len len_d rfl T.n_len (by decide +kernel) (da_cons (de_var (pv 1)) da_nil)) (de_int) (nomark _)) (de_one (de_callB (cr_all rfl) all_d rfl T.n_all (by decide +kernel) (da_cons (de_of (df_lc (own := [("item", 2)]) rfl nd (di_row rfl (de_var (pv 1))) (blkOk_by rfl) (by decide) (fun _ _ _ _ _ => dg_name (i := 2) nd rfl (by first | exact .inl rfl | exact .inr rfl)) (fun _ _ _ _ _ => dts_nil) (fun _ _ _ _ _ => (de_call rfl (ok_is_point_of T) fnD_len (hr.mono (by omega)) rfl T.g_is_point_of T.k12 T.b12 .nil (fun _ => .nil) pass0 (da_cons (de_var (pv 0)) (da_cons (de_var (pv 2)) da_nil)))))) da_nil))))))))
theorem sc_led_on : FnScope ["many", "pairs", "ahead", "found", "point", "lot", "at", "y", "x"] ["many", "pairs"] (defScope (top 14)) := ⟨rfl, rfl, rfl, by decide +kernel, rfl, by decide +kernel, by decide +kernel⟩
noncomputable def b_led_on : SS := dSeq (dSet 2 (mComp (mRange1 (dVar 0)) [4] (bNm 4) (mYes) (mComp (mRow (dVar 1)) [8, 7] (bTup 2 (bCons (bNm 8) (bCons (bNm 7) bNil))) ((mB (m2 eqD (dVar 8) (dVar 4)))) (dVar 7)))) (dSeq (dSetO 3 (mLst mNil)) (dSeq (dFor (mRange1 (dVar 0)) (bNm 4) (dSeq (dParO 5 6 (mLst (mCons (dVar 4) mNil)) (M.ret (.int 0))) (dSeq (dWhile (mB (m2 ltD (dVar 6) (mBor (mCB lenD (mCons (dVar 5) mNil))))) (dSeq (dFor (mRow (m2 ixD (dVar 2) (mIxO 5 (dVar 6)))) (bNm 7) (dIf (mBorT (mB (m2 notInD (dVar 7) (dVar 5)))) (dExpr (mAppend 5 (dVar 7))) (dNext))) (dAug 6 addI (M.ret (.int 1))))) (dFrz [5] (dExpr (mAppend 3 (mCB tupleD (mCons (mCB sortedB (mCons (dVar 5) mNil)) mNil)))))))) (dFrz [3] (dRet (mCB tupleD (mCons (dVar 3) mNil))))))
noncomputable def m_led_on : FD := fnD 2 9 b_led_on
theorem ok_led_on (T : Tx K mg cls ad fo) : FnOk P w K mg base CX0 1 (ad 14) (fo 14) ["many", "pairs"] (spD K cls 2 m_led_on) :=
  fn_okD (N := ["many", "pairs", "ahead", "found", "point", "lot", "at", "y", "x"]) (ps := ["many", "pairs"]) (body := b_led_on) T.F14 sc_led_on (by decide) (fun cdv A outer s H E q ca sf cells hr => by
    have nd := sc_led_on.nd
    have hu64 := hu64_of hr
    have hu65 := hu65_of hr
    exact dss_cons (ds_setLc (i := 2) (own := [("point", 4)]) rfl nd rfl rfl (sw_true rfl rfl rfl (by decide +kernel)) (di_range1 rfl T.n_range (de_var (pv 0))) (blkOk_by rfl) (by decide) (fun _ _ _ _ _ => dg_name (i := 4) nd rfl (by first | exact .inl rfl | exact .inr rfl)) (fun _ _ _ _ _ => dts_nil) (fun _ _ _ _ _ => (de_of (df_lc (own := [("x", 8), ("y", 7)]) rfl nd (di_row rfl (de_var (pv 1))) (blkOk_by rfl) (by decide) (fun _ _ _ _ _ => dg_tup rfl rfl (dgs_cons (dg_name (i := 8) nd rfl (by first | exact .inl rfl | exact .inr rfl)) (dgs_cons (dg_name (i := 7) nd rfl (by first | exact .inl rfl | exact .inr rfl)) dgs_nil))) (fun _ _ _ _ _ => dts_one (dt_cmp (op_eqD hu64) eq_d (de_var (pv 8)) (de_var (pv 4)) (nomark _))) (fun _ _ _ _ _ => (de_var (pv 7))))))) (dss_cons (ds_setO (i := 3) nd rfl (by first | exact .inl rfl | exact .inr rfl) (df_lst da_nil)) (dss_cons (ds_for PassesOwn.never rfl (di_range1 rfl T.n_range (de_var (pv 0))) (dg_name (i := 4) nd rfl (by first | exact .inl rfl | exact .inr rfl)) (dss_cons (ds_parO (i := 5) (j := 6) rfl nd rfl rfl (by decide) rfl rfl (df_lst (da_cons (de_var (pv 4)) da_nil)) (de_int) rfl) (dss_cons (ds_while PassesOwn.never (dt_cmp op_lt lt_d (de_var (pv 6)) (de_bor (de_callB call_len len_d rfl T.n_len (by decide +kernel) (da_cons (de_var (pv 5)) da_nil))) (nomark _)) (dss_cons (ds_for PassesOwn.never rfl (di_row rfl (de_ix (de_var (pv 2)) (de_ixO (pv 5) (de_var (pv 6)) (fun _ _ => rfl)) rfl (fun _ _ => rfl))) (dg_name (i := 7) nd rfl (by first | exact .inl rfl | exact .inr rfl)) (dss_one (ds_if (dt_bor (dt_cmp (op_notInD hu65) notIn_d (de_var (pv 7)) (de_var (pv 5)) (by rfl))) (dss_one (ds_expr (de_append (pv 5) (de_var (pv 7))))) (dss_nil)))) (dss_one (ds_augAdd (i := 6) nd rfl (by first | exact .inl rfl | exact .inr rfl) (de_int))))) (dss_one (ds_frz [5] (ds_expr (de_append (pv 3) (de_callTy call_tuple_of tuple_d rfl T.n_tuple (by decide +kernel) (da_cons (de_callB cr_sortedB sortedB_d rfl T.n_sorted (by decide +kernel) (da_cons (de_var (pv 5)) da_nil)) da_nil))))))))) (dss_one (ds_frz [3] (ds_ret (de_callTy call_tuple_of tuple_d rfl T.n_tuple (by decide +kernel) (da_cons (de_var (pv 3)) da_nil))))))))
theorem sc_Space_init : FnScope ["self", "many", "pairs", "index", "pair", "y", "x"] ["self", "many", "pairs"] (defScope (inClass (top 15) 0)) := ⟨rfl, rfl, rfl, by decide +kernel, rfl, by decide +kernel, by decide +kernel⟩
noncomputable def b_Space_init : SS := dSeq (dIf ((mOr (mNot (mB (mCall m_is_integer [] (mCons (dVar 1) mNil)))) (mNot (mB (mChain leD leD (M.ret (.int 0)) (dVar 1) (M.ret (.int 24))))))) (dBad) (dNext)) (dSeq (dIf (mNot (mB (mCall m_is_row [] (mCons (dVar 2) mNil)))) (dBad) (dNext)) (dSeq (dFor (mEnum (dVar 2)) (bTup 2 (bCons (bNm 3) (bCons (bNm 4) bNil))) (dIf (mNot (mB (mCall m_is_pair_of [] (mCons (dVar 1) (mCons (dVar 4) mNil))))) (dBad) (dNext))) (dSeq (dFldS 0 ["Space"] "many" (dVar 1)) (dSeq (dFldS 0 ["Space"] "over" (mCall m_led_on [] (mCons (dVar 1) (mCons (mCB listD (mCons (dVar 2) mNil)) mNil)))) (dFldS 0 ["Space"] "under" (mCB tupleD (mCons (mComp (mRange1 (dVar 1)) [5] (bNm 5) (mYes) (mCB tupleD (mCons (mComp (mRange1 (dVar 1)) [6] (bNm 6) ((mB (m2 inD (dVar 5) (m2 ixD (mFldO 0 ["Space"] "over") (dVar 6))))) (dVar 6)) mNil))) mNil)))))))
noncomputable def m_Space_init : FD := initD "Space" 2 7 b_Space_init
theorem ok_Space_init (T : Tx K mg cls ad fo) : FnOk P w K mg base CX0 4 (ad 1300) (fo 1300) ["self", "many", "pairs"] (spI K cls "Space" 2 m_Space_init) :=
  fn_okI (N := ["self", "many", "pairs", "index", "pair", "y", "x"]) (ps := ["self", "many", "pairs"]) (body := b_Space_init) T.F1300 sc_Space_init rfl (by decide) (fun cdv A outer s H E q ca sf cells hr => by
    have nd := sc_Space_init.nd
    have hu64 := hu64_of hr
    have hu65 := hu65_of hr
    exact dss_cons (ds_if (dt_bool (dw_or (dt_not (dt_val (de_call rfl (ok_is_integer T) fnD_len (hr.mono (by omega)) rfl T.g_is_integer T.k1 T.b1 .nil (fun _ => .nil) pass0 (da_cons (de_var (pv 1)) da_nil)))) (dw_or1 (dt_not (dt_chain op_le op_le le_d le_d (de_int) (de_var (pv 1)) (de_gint rfl (Classical.choose_spec T.c_MOST_POINTS))))))) (dss_one (ds_never)) (dss_nil)) (dss_cons (ds_if (dt_not (dt_val (de_call rfl (ok_is_row T) fnD_len (hr.mono (by omega)) rfl T.g_is_row T.k2 T.b2 .nil (fun _ => .nil) pass0 (da_cons (de_var (pv 2)) da_nil)))) (dss_one (ds_never)) (dss_nil)) (dss_cons (ds_for PassesOwn.never rfl (di_enum rfl rfl T.n_enumerate (de_var (pv 2))) (dg_tup rfl rfl (dgs_cons (dg_name (i := 3) nd rfl (by first | exact .inl rfl | exact .inr rfl)) (dgs_cons (dg_name (i := 4) nd rfl (by first | exact .inl rfl | exact .inr rfl)) dgs_nil))) (dss_one (ds_if (dt_not (dt_val (de_call rfl (ok_is_pair_of T) fnD_len (hr.mono (by omega)) rfl T.g_is_pair_of T.k13 T.b13 .nil (fun _ => .nil) pass0 (da_cons (de_var (pv 1)) (da_cons (de_var (pv 4)) da_nil))))) (dss_one (ds_never)) (dss_nil)))) (dss_cons (ds_fldS rfl (T.f_many q ca cells sf) (pv 0) (de_var (pv 1)) rfl) (dss_cons (ds_fldS rfl (T.f_over q ca cells sf) (pv 0) (de_call rfl (ok_led_on T) fnD_len (hr.mono (by omega)) rfl T.g_led_on T.k14 T.b14 .nil (fun _ => .nil) pass0 (da_cons (de_var (pv 1)) (da_cons (de_callTy call_list_of list_d rfl T.n_list (by decide +kernel) (da_cons (de_var (pv 2)) da_nil)) da_nil))) rfl) (dss_one (ds_fldS rfl (T.f_under q ca cells sf) (pv 0) (de_callTy call_tuple_of tuple_d rfl T.n_tuple (by decide +kernel) (da_cons (de_of (df_lc (own := [("y", 5)]) rfl nd (di_range1 rfl T.n_range (de_var (pv 1))) (blkOk_by rfl) (by decide) (fun _ _ _ _ _ => dg_name (i := 5) nd rfl (by first | exact .inl rfl | exact .inr rfl)) (fun _ _ _ _ _ => dts_nil) (fun _ _ _ _ _ => (de_callTy call_tuple_of tuple_d rfl T.n_tuple (by decide +kernel) (da_cons (de_of (df_lc (own := [("x", 6)]) rfl nd (di_range1 rfl T.n_range (de_var (pv 1))) (blkOk_by rfl) (by decide) (fun _ _ _ _ _ => dg_name (i := 6) nd rfl (by first | exact .inl rfl | exact .inr rfl)) (fun _ _ _ _ _ => dts_one (dt_cmp (op_inD hu65) in_d (de_var (pv 5)) (de_ix (de_fldO rfl (T.f_over q ca cells sf) (pv 0) rfl) (de_var (pv 6)) rfl (fun _ _ => rfl)) (by rfl))) (fun _ _ _ _ _ => (de_var (pv 6))))) da_nil))))) da_nil)) rfl)))))))
theorem sc_law_beats : FnScope ["table", "left", "found", "x", "below", "above", "y", "z"] ["table", "left"] (defScope (top 38)) := ⟨rfl, rfl, rfl, by decide +kernel, rfl, by decide +kernel, by decide +kernel⟩
noncomputable def b_law_beats : SS := dSeq (dSet 2 (mLst mNil)) (dSeq (dFor (mRow (dVar 1)) (bNm 3) (dSeq (dSet 4 (mComp (mRow (dVar 1)) [6] (bNm 6) (((mAnd (mB (m2 neD (dVar 6) (dVar 3))) (mB (m2 ixD (m2 ixD (dVar 0) (dVar 6)) (dVar 3)))))) (dVar 6))) (dSeq (dSet 5 (mComp (mRow (dVar 1)) [6] (bNm 6) (((mAnd (mB (m2 neD (dVar 6) (dVar 3))) (mB (m2 ixD (m2 ixD (dVar 0) (dVar 3)) (dVar 6)))))) (dVar 6))) (dSeq (dSet 2 (m2 addD (dVar 2) (mComp (mRow (dVar 4)) [6] (bNm 6) ((mB (m2 eqD (mComp (mRow (dVar 4)) [7] (bNm 7) ((mNot (mB (m2 ixD (m2 ixD (dVar 0) (dVar 7)) (dVar 6))))) (dVar 7)) (mLst mNil)))) (mTup (mCons (dVar 3) (mCons (dVar 6) mNil)))))) (dSet 2 (m2 addD (dVar 2) (mComp (mRow (dVar 5)) [6] (bNm 6) ((mB (m2 eqD (mComp (mRow (dVar 5)) [7] (bNm 7) ((mNot (mB (m2 ixD (m2 ixD (dVar 0) (dVar 6)) (dVar 7))))) (dVar 7)) (mLst mNil)))) (mTup (mCons (dVar 3) (mCons (dVar 6) mNil)))))))))) (dRet (dVar 2)))
noncomputable def m_law_beats : FD := fnD 2 8 b_law_beats
theorem ok_law_beats (T : Tx K mg cls ad fo) : FnOk P w K mg base CX0 1 (ad 38) (fo 38) ["table", "left"] (spD K cls 2 m_law_beats) :=
  fn_okD (N := ["table", "left", "found", "x", "below", "above", "y", "z"]) (ps := ["table", "left"]) (body := b_law_beats) T.F38 sc_law_beats (by decide) (fun cdv A outer s H E q ca sf cells hr => by
    have nd := sc_law_beats.nd
    have hu64 := hu64_of hr
    have hu65 := hu65_of hr
    exact dss_cons (ds_set (i := 2) nd rfl (by first | exact .inl rfl | exact .inr rfl) (de_lst da_nil)) (dss_cons (ds_for PassesOwn.never rfl (di_row rfl (de_var (pv 1))) (dg_name (i := 3) nd rfl (by first | exact .inl rfl | exact .inr rfl)) (dss_cons (ds_set (i := 4) nd rfl (by first | exact .inl rfl | exact .inr rfl) (de_of (df_lc (own := [("y", 6)]) rfl nd (di_row rfl (de_var (pv 1))) (blkOk_by rfl) (by decide) (fun _ _ _ _ _ => dg_name (i := 6) nd rfl (by first | exact .inl rfl | exact .inr rfl)) (fun _ _ _ _ _ => dts_one (dt_bool (dw_and (dt_cmp (op_neD hu64) ne_d (de_var (pv 6)) (de_var (pv 3)) (nomark _)) (dw_and1 (dt_val (de_ix (de_ix (de_var (pv 0)) (de_var (pv 6)) rfl (fun _ _ => rfl)) (de_var (pv 3)) rfl (fun _ _ => rfl))))))) (fun _ _ _ _ _ => (de_var (pv 6)))))) (dss_cons (ds_set (i := 5) nd rfl (by first | exact .inl rfl | exact .inr rfl) (de_of (df_lc (own := [("y", 6)]) rfl nd (di_row rfl (de_var (pv 1))) (blkOk_by rfl) (by decide) (fun _ _ _ _ _ => dg_name (i := 6) nd rfl (by first | exact .inl rfl | exact .inr rfl)) (fun _ _ _ _ _ => dts_one (dt_bool (dw_and (dt_cmp (op_neD hu64) ne_d (de_var (pv 6)) (de_var (pv 3)) (nomark _)) (dw_and1 (dt_val (de_ix (de_ix (de_var (pv 0)) (de_var (pv 3)) rfl (fun _ _ => rfl)) (de_var (pv 6)) rfl (fun _ _ => rfl))))))) (fun _ _ _ _ _ => (de_var (pv 6)))))) (dss_cons (ds_set (i := 2) nd rfl (by first | exact .inl rfl | exact .inr rfl) (de_op op_addA add_d (de_var (pv 2)) (de_of (df_lc (own := [("y", 6)]) rfl nd (di_row rfl (de_var (pv 4))) (blkOk_by rfl) (by decide) (fun _ _ _ _ _ => dg_name (i := 6) nd rfl (by first | exact .inl rfl | exact .inr rfl)) (fun _ _ _ _ _ => dts_one (dt_cmp (op_eqD hu64) eq_d (de_of (df_lc (own := [("z", 7)]) rfl nd (di_row rfl (de_var (pv 4))) (blkOk_by rfl) (by decide) (fun _ _ _ _ _ => dg_name (i := 7) nd rfl (by first | exact .inl rfl | exact .inr rfl)) (fun _ _ _ _ _ => dts_one (dt_not (dt_val (de_ix (de_ix (de_var (pv 0)) (de_var (pv 7)) rfl (fun _ _ => rfl)) (de_var (pv 6)) rfl (fun _ _ => rfl))))) (fun _ _ _ _ _ => (de_var (pv 7))))) (de_lst da_nil) (nomark _))) (fun _ _ _ _ _ => (de_tup (da_cons (de_var (pv 3)) (da_cons (de_var (pv 6)) da_nil)))))))) (dss_one (ds_set (i := 2) nd rfl (by first | exact .inl rfl | exact .inr rfl) (de_op op_addA add_d (de_var (pv 2)) (de_of (df_lc (own := [("y", 6)]) rfl nd (di_row rfl (de_var (pv 5))) (blkOk_by rfl) (by decide) (fun _ _ _ _ _ => dg_name (i := 6) nd rfl (by first | exact .inl rfl | exact .inr rfl)) (fun _ _ _ _ _ => dts_one (dt_cmp (op_eqD hu64) eq_d (de_of (df_lc (own := [("z", 7)]) rfl nd (di_row rfl (de_var (pv 5))) (blkOk_by rfl) (by decide) (fun _ _ _ _ _ => dg_name (i := 7) nd rfl (by first | exact .inl rfl | exact .inr rfl)) (fun _ _ _ _ _ => dts_one (dt_not (dt_val (de_ix (de_ix (de_var (pv 0)) (de_var (pv 6)) rfl (fun _ _ => rfl)) (de_var (pv 7)) rfl (fun _ _ => rfl))))) (fun _ _ _ _ _ => (de_var (pv 7))))) (de_lst da_nil) (nomark _))) (fun _ _ _ _ _ => (de_tup (da_cons (de_var (pv 3)) (da_cons (de_var (pv 6)) da_nil))))))))))))) (dss_one (ds_ret (de_var (pv 2))))))
theorem sc_law_way : FnScope ["pen", "table", "left", "steps", "lap", "beats", "x"] ["pen", "table"] (defScope (top 41)) := ⟨rfl, rfl, rfl, by decide +kernel, rfl, by decide +kernel, by decide +kernel⟩
noncomputable def b_law_way : SS := dSeq (dTwPO 2 3 (m1 rgL (mCB lenD (mCons (dVar 1) mNil))) (mLst mNil)) (dSeq (dFor (mRange1 (mCB lenD (mCons (dVar 1) mNil))) (bNm 4) (dSeq (dSet 5 (mCall m_law_beats [] (mCons (dVar 1) (mCons (dVar 2) mNil)))) (dSeq (dIf ((mOr (mB (m2 eqD (dVar 5) (mLst mNil))) (mB (m2 eqD (mCall drawF [] (mCons (dVar 0) (mCons (M.ret (.int 12)) mNil))) (M.ret (.int 0)))))) (dBrk) (dNext)) (dSeq (dExpr (mAppend 3 (mCall m_law_pick [] (mCons (dVar 0) (mCons (dVar 5) mNil))))) (dSet 2 (mComp (mRow (dVar 2)) [6] (bNm 6) ((mB (m2 neD (dVar 6) (m2 ixD (mIxO 3 (m1 negD (M.ret (.int 1)))) (M.ret (.int 0)))))) (dVar 6))))))) (dFrz [3] (dRet (mTup (mCons (M.ret (.str "core")) (mCons (dVar 3) (mCons (dVar 2) mNil)))))))
noncomputable def m_law_way : FD := fnD 2 7 b_law_way
theorem ok_law_way (T : Tx K mg cls ad fo) : FnOk P w K mg base CX0 3 (ad 41) (fo 41) ["pen", "table"] (spD K cls 2 m_law_way) :=
  fn_okD (N := ["pen", "table", "left", "steps", "lap", "beats", "x"]) (ps := ["pen", "table"]) (body := b_law_way) T.F41 sc_law_way (by decide) (fun cdv A outer s H E q ca sf cells hr => by
    have nd := sc_law_way.nd
    have hu64 := hu64_of hr
    have hu65 := hu65_of hr
    exact dss_cons (ds_twPO (i := 2) (j := 3) rfl rfl nd rfl rfl (by first | exact .inl rfl | exact .inr rfl) (by first | exact .inl rfl | exact .inr rfl) (de_of (df_listRg rfl rfl T.n_list rfl T.n_range (de_callB call_len len_d rfl T.n_len (by decide +kernel) (da_cons (de_var (pv 1)) da_nil)))) (df_lst da_nil)) (dss_cons (ds_for PassesOwn.never rfl (di_range1 rfl T.n_range (de_callB call_len len_d rfl T.n_len (by decide +kernel) (da_cons (de_var (pv 1)) da_nil))) (dg_name (i := 4) nd rfl (by first | exact .inl rfl | exact .inr rfl)) (dss_cons (ds_set (i := 5) nd rfl (by first | exact .inl rfl | exact .inr rfl) (de_call rfl (ok_law_beats T) fnD_len (hr.mono (by omega)) rfl T.g__law_beats T.k38 T.b38 .nil (fun _ => .nil) pass0 (da_cons (de_var (pv 1)) (da_cons (de_var (pv 2)) da_nil)))) (dss_cons (ds_if (dt_bool (dw_or (dt_cmp (op_eqD hu64) eq_d (de_var (pv 5)) (de_lst da_nil) (nomark _)) (dw_or1 (dt_cmp (op_eqD hu64) eq_d (de_call rfl (okT_draw T) drawF_len (hr.mono (by omega)) rfl T.g__law_draw T.k31 T.b31 .nil (fun _ => .nil) pass0 (da_cons (de_var (pv 0)) (da_cons (de_int) da_nil))) (de_int) (nomark _))))) (dss_one (ds_break)) (dss_nil)) (dss_cons (ds_expr (de_append (pv 3) (de_call rfl (ok_law_pick T) fnD_len (hr.mono (by omega)) rfl T.g__law_pick T.k32 T.b32 .nil (fun _ => .nil) pass0 (da_cons (de_var (pv 0)) (da_cons (de_var (pv 5)) da_nil))))) (dss_one (ds_setLc (i := 2) (own := [("x", 6)]) rfl nd rfl rfl (sw_true rfl rfl rfl (by decide +kernel)) (di_row rfl (de_var (pv 2))) (blkOk_by rfl) (by decide) (fun _ _ _ _ _ => dg_name (i := 6) nd rfl (by first | exact .inl rfl | exact .inr rfl)) (fun _ _ _ _ _ => dts_one (dt_cmp (op_neD hu64) ne_d (de_var (pv 6)) (de_ix (de_ixO (pv 3) (de_un un_neg neg_d (de_int)) (fun _ _ => rfl)) (de_int) rfl (fun _ _ => rfl)) (nomark _))) (fun _ _ _ _ _ => (de_var (pv 6))))))))) (dss_one (ds_frz [3] (ds_ret (de_tup (da_cons (de_str) (da_cons (de_var (pv 3)) (da_cons (de_var (pv 2)) da_nil)))))))))
theorem sc_law_bent : FnScope ["pen", "many", "answer", "steps", "points", "way", "rows", "at", "new"] ["pen", "many", "answer"] (defScope (top 42)) := ⟨rfl, rfl, rfl, by decide +kernel, rfl, by decide +kernel, by decide +kernel⟩
noncomputable def b_law_bent : SS := dSeq (dPar 3 4 (m2 ixD (dVar 2) (M.ret (.int 1))) (m2 ixD (dVar 2) (M.ret (.int 2)))) (dSeq (dSet 5 (mCall drawF [] (mCons (dVar 0) (mCons (M.ret (.int 7)) mNil)))) (dSeq (dIf (mB (m2 eqD (dVar 5) (M.ret (.int 0)))) (dRet (mTup (mCons (M.ret (.str "other")) (mCons (mCall m_law_pick [] (mCons (dVar 0) (mCons (mLst (mCons (M.ret .non) (mCons (mTup mNil) (mCons (M.ret (.str "core")) (mCons (M.ret (.int 3)) mNil))))) mNil))) mNil)))) (dNext)) (dSeq (dSetO 6 (mIf (mB (mIsaT ["Space", "Core"] (dVar 3) (mCons (M.ret (.ty "list")) (mCons (M.ret (.ty "tuple")) mNil)))) (mCB listD (mCons (dVar 3) mNil)) (mLst mNil))) (dSeq (dSet 7 (mCall drawF [] (mCons (dVar 0) (mCons (m2 addD (mBor (mCB lenD (mCons (dVar 6) mNil))) (M.ret (.int 1))) mNil)))) (dSeq (dSet 8 (mCall m_law_pick [] (mCons (dVar 0) (mCons (mLst (mCons (mTup (mCons (mCall drawF [] (mCons (dVar 0) (mCons (dVar 1) mNil))) (mCons (mCall drawF [] (mCons (dVar 0) (mCons (dVar 1) mNil))) mNil))) (mCons (mTup (mCons (M.ret (.int 0)) (mCons (M.ret (.int 0)) (mCons (M.ret (.int 0)) mNil)))) (mCons (mTup (mCons (M.ret (.int 0)) (mCons (dVar 1) mNil))) (mCons (M.ret .non) (mCons (mTup (mCons (M.ret (.int 0)) mNil)) mNil)))))) mNil)))) (dSeq (dIf (mB (m2 eqD (dVar 5) (M.ret (.int 1)))) (dFrz [6] (dRet (mTup (mCons (M.ret (.str "core")) (mCons (m2 addD (m2 addD (mSlice (dVar 6) mNoPart (mPart (dVar 7))) (mLst (mCons (dVar 8) mNil))) (mSlice (dVar 6) (mPart (dVar 7)) mNoPart)) (mCons (dVar 4) mNil)))))) (dNext)) (dSeq (dIf (mB (m2 eqD (dVar 5) (M.ret (.int 2)))) (dFrz [6] (dRet (mTup (mCons (M.ret (.str "core")) (mCons (m2 addD (mSlice (dVar 6) mNoPart (mPart (dVar 7))) (mSlice (dVar 6) (mPart (m2 addD (dVar 7) (M.ret (.int 1)))) mNoPart)) (mCons (dVar 4) mNil)))))) (dNext)) (dSeq (dIf (mB (m2 eqD (dVar 5) (M.ret (.int 3)))) (dFrz [6] (dRet (mTup (mCons (M.ret (.str "core")) (mCons (mCall m_law_pick [] (mCons (dVar 0) (mCons (mLst (mCons (M.ret .non) (mCons (M.ret (.int 4)) (mCons (m1 revD (dVar 6)) mNil)))) mNil))) (mCons (dVar 4) mNil)))))) (dNext)) (dSeq (dIf ((mAnd (mB (m2 eqD (dVar 5) (M.ret (.int 4)))) (mAnd (mB (m2 ltD (dVar 7) (mBor (mCB lenD (mCons (dVar 6) mNil))))) (mAnd (mB (mCB (isa1 ["Space", "Core"]) (mCons (mIxO 6 (dVar 7)) (mCons (M.ret (.ty "tuple")) mNil)))) (mB (m2 eqD (mCB lenD (mCons (mIxO 6 (dVar 7)) mNil)) (M.ret (.int 2)))))))) (dSeq (dSetItem 6 (mTup (mCons (m2 ixD (mIxO 6 (dVar 7)) (M.ret (.int 0))) (mCons (mCall drawF [] (mCons (dVar 0) (mCons (dVar 1) mNil))) mNil))) (dVar 7)) (dFrz [6] (dRet (mTup (mCons (M.ret (.str "core")) (mCons (dVar 6) (mCons (dVar 4) mNil))))))) (dNext)) (dRet (mTup (mCons (M.ret (.str "core")) (mCons (dVar 3) (mCons (mCall m_law_pick [] (mCons (dVar 0) (mCons (mLst (mCons (M.ret .non) (mCons (mLst mNil) (mCons (mLst (mCons (M.ret (.int 0)) mNil)) (mCons (m1 rgL (dVar 1)) (mCons (dVar 4) mNil)))))) mNil))) mNil))))))))))))))
noncomputable def m_law_bent : FD := fnD 3 9 b_law_bent
theorem ok_law_bent (T : Tx K mg cls ad fo) : FnOk P w K mg base CX0 3 (ad 42) (fo 42) ["pen", "many", "answer"] (spD K cls 3 m_law_bent) :=
  fn_okD (N := ["pen", "many", "answer", "steps", "points", "way", "rows", "at", "new"]) (ps := ["pen", "many", "answer"]) (body := b_law_bent) T.F42 sc_law_bent (by decide) (fun cdv A outer s H E q ca sf cells hr => by
    have nd := sc_law_bent.nd
    have hu64 := hu64_of hr
    have hu65 := hu65_of hr
    exact dss_cons (ds_par (i := 3) (j := 4) rfl nd rfl rfl (by decide) rfl rfl (de_ix (de_var (pv 2)) (de_int) rfl (fun _ _ => rfl)) (de_ix (de_var (pv 2)) (de_int) rfl (fun _ _ => rfl)) rfl) (dss_cons (ds_set (i := 5) nd rfl (by first | exact .inl rfl | exact .inr rfl) (de_call rfl (okT_draw T) drawF_len (hr.mono (by omega)) rfl T.g__law_draw T.k31 T.b31 .nil (fun _ => .nil) pass0 (da_cons (de_var (pv 0)) (da_cons (de_int) da_nil)))) (dss_cons (ds_if (dt_cmp (op_eqD hu64) eq_d (de_var (pv 5)) (de_int) (nomark _)) (dss_one (ds_ret (de_tup (da_cons (de_str) (da_cons (de_call rfl (ok_law_pick T) fnD_len (hr.mono (by omega)) rfl T.g__law_pick T.k32 T.b32 .nil (fun _ => .nil) pass0 (da_cons (de_var (pv 0)) (da_cons (de_lst (da_cons (de_non) (da_cons (de_tup da_nil) (da_cons (de_str) (da_cons (de_int) da_nil))))) da_nil))) da_nil))))) (dss_nil)) (dss_cons (ds_setO (i := 6) nd rfl (by first | exact .inl rfl | exact .inr rfl) (df_ifExp (dt_val (de_isiT rfl (T.isa q ca cells sf) rfl T.n_isinstance (de_var (pv 3)) (da_cons (de_ty rfl T.n_list (by decide +kernel)) (da_cons (de_ty rfl T.n_tuple (by decide +kernel)) da_nil)))) (df_callTy call_list_of list_l rfl T.n_list (by decide +kernel) (da_cons (de_var (pv 3)) da_nil)) (df_lst da_nil))) (dss_cons (ds_set (i := 7) nd rfl (by first | exact .inl rfl | exact .inr rfl) (de_call rfl (okT_draw T) drawF_len (hr.mono (by omega)) rfl T.g__law_draw T.k31 T.b31 .nil (fun _ => .nil) pass0 (da_cons (de_var (pv 0)) (da_cons (de_op op_addA add_d (de_bor (de_callB call_len len_d rfl T.n_len (by decide +kernel) (da_cons (de_var (pv 6)) da_nil))) (de_int)) da_nil)))) (dss_cons (ds_set (i := 8) nd rfl (by first | exact .inl rfl | exact .inr rfl) (de_call rfl (ok_law_pick T) fnD_len (hr.mono (by omega)) rfl T.g__law_pick T.k32 T.b32 .nil (fun _ => .nil) pass0 (da_cons (de_var (pv 0)) (da_cons (de_lst (da_cons (de_tup (da_cons (de_call rfl (okT_draw T) drawF_len (hr.mono (by omega)) rfl T.g__law_draw T.k31 T.b31 .nil (fun _ => .nil) pass0 (da_cons (de_var (pv 0)) (da_cons (de_var (pv 1)) da_nil))) (da_cons (de_call rfl (okT_draw T) drawF_len (hr.mono (by omega)) rfl T.g__law_draw T.k31 T.b31 .nil (fun _ => .nil) pass0 (da_cons (de_var (pv 0)) (da_cons (de_var (pv 1)) da_nil))) da_nil))) (da_cons (de_tup (da_cons (de_int) (da_cons (de_int) (da_cons (de_int) da_nil)))) (da_cons (de_tup (da_cons (de_int) (da_cons (de_var (pv 1)) da_nil))) (da_cons (de_non) (da_cons (de_tup (da_cons (de_int) da_nil)) da_nil)))))) da_nil)))) (dss_cons (ds_if (dt_cmp (op_eqD hu64) eq_d (de_var (pv 5)) (de_int) (nomark _)) (dss_one (ds_frz [6] (ds_ret (de_tup (da_cons (de_str) (da_cons (de_op op_addA add_d (de_op op_addA add_d (de_slice rfl (de_var (pv 6)) do_none (do_some (de_var (pv 7)))) (de_lst (da_cons (de_var (pv 8)) da_nil))) (de_slice rfl (de_var (pv 6)) (do_some (de_var (pv 7))) do_none)) (da_cons (de_var (pv 4)) da_nil))))))) (dss_nil)) (dss_cons (ds_if (dt_cmp (op_eqD hu64) eq_d (de_var (pv 5)) (de_int) (nomark _)) (dss_one (ds_frz [6] (ds_ret (de_tup (da_cons (de_str) (da_cons (de_op op_addA add_d (de_slice rfl (de_var (pv 6)) do_none (do_some (de_var (pv 7)))) (de_slice rfl (de_var (pv 6)) (do_some (de_op op_addA add_d (de_var (pv 7)) (de_int))) do_none)) (da_cons (de_var (pv 4)) da_nil))))))) (dss_nil)) (dss_cons (ds_if (dt_cmp (op_eqD hu64) eq_d (de_var (pv 5)) (de_int) (nomark _)) (dss_one (ds_frz [6] (ds_ret (de_tup (da_cons (de_str) (da_cons (de_call rfl (ok_law_pick T) fnD_len (hr.mono (by omega)) rfl T.g__law_pick T.k32 T.b32 .nil (fun _ => .nil) pass0 (da_cons (de_var (pv 0)) (da_cons (de_lst (da_cons (de_non) (da_cons (de_int) (da_cons (de_of (df_revL (de_var (pv 6)))) da_nil)))) da_nil))) (da_cons (de_var (pv 4)) da_nil))))))) (dss_nil)) (dss_cons (ds_if (dt_bool (dw_and (dt_cmp (op_eqD hu64) eq_d (de_var (pv 5)) (de_int) (nomark _)) (dw_and (dt_cmp op_lt lt_d (de_var (pv 7)) (de_bor (de_callB call_len len_d rfl T.n_len (by decide +kernel) (da_cons (de_var (pv 6)) da_nil))) (nomark _)) (dw_and (dt_val (de_isi1 rfl (T.isa q ca cells sf) rfl T.n_isinstance (da_cons (de_ixO (pv 6) (de_var (pv 7)) (fun _ _ => rfl)) (da_cons (de_ty rfl T.n_tuple (by decide +kernel)) da_nil)))) (dw_and1 (dt_cmp (op_eqD hu64) eq_d (de_callB call_len len_d rfl T.n_len (by decide +kernel) (da_cons (de_ixO (pv 6) (de_var (pv 7)) (fun _ _ => rfl)) da_nil)) (de_int) (nomark _))))))) (dss_cons (ds_setItem (pv 6) (de_tup (da_cons (de_ix (de_ixO (pv 6) (de_var (pv 7)) (fun _ _ => rfl)) (de_int) rfl (fun _ _ => rfl)) (da_cons (de_call rfl (okT_draw T) drawF_len (hr.mono (by omega)) rfl T.g__law_draw T.k31 T.b31 .nil (fun _ => .nil) pass0 (da_cons (de_var (pv 0)) (da_cons (de_var (pv 1)) da_nil))) da_nil))) (de_var (pv 7))) (dss_one (ds_frz [6] (ds_ret (de_tup (da_cons (de_str) (da_cons (de_var (pv 6)) (da_cons (de_var (pv 4)) da_nil)))))))) (dss_nil)) (dss_one (ds_ret (de_tup (da_cons (de_str) (da_cons (de_var (pv 3)) (da_cons (de_call rfl (ok_law_pick T) fnD_len (hr.mono (by omega)) rfl T.g__law_pick T.k32 T.b32 .nil (fun _ => .nil) pass0 (da_cons (de_var (pv 0)) (da_cons (de_lst (da_cons (de_non) (da_cons (de_lst da_nil) (da_cons (de_lst (da_cons (de_int) da_nil)) (da_cons (de_of (df_listRg rfl rfl T.n_list rfl T.n_range (de_var (pv 1)))) (da_cons (de_var (pv 4)) da_nil)))))) da_nil))) da_nil))))))))))))))))
theorem sc_kept : FnScope ["value", "item"] ["value"] (defScope (top 3)) := ⟨rfl, rfl, rfl, by decide +kernel, rfl, by decide +kernel, by decide +kernel⟩
noncomputable def b_kept (me : FD) : SS := dRet (mIf (mB (mCall m_is_row [] (mCons (dVar 0) mNil))) (mCB tupleD (mCons (mComp (mRow (dVar 0)) [1] (bNm 1) (mYes) (mCall me [] (mCons (dVar 1) mNil))) mNil)) (dVar 0))
noncomputable def m_kept : Nat → FD
  | 0 => fun _ _ => .bad
  | d + 1 => fnD 1 2 (b_kept (m_kept d))
theorem len_kept : ∀ (d : Nat) (ds : List D) (p : Pn) (r : D × Pn), m_kept d ds p = .ok r → ds.length = 1
  | 0, _, _, _, h => by cases h
  | d + 1, ds, p, r, h => fnD_len (n := 1) (N := 2) (body := b_kept (m_kept d)) ds p r h
theorem oks_kept (T : Tx K mg cls ad fo) (mk : FD) (lenk : ∀ ds p r, mk ds p = .ok r → ds.length = 1) (j : Nat) (hj : 1 ≤ j) (ihh : FnOk P w K mg base CX0 j (ad 3) (fo 3) ["value"] (spD K cls 1 mk)) : FnOk P w K mg base CX0 (j + 1) (ad 3) (fo 3) ["value"] (spD K cls 1 (fnD 1 2 (b_kept mk))) :=
  fn_okD (N := ["value", "item"]) (ps := ["value"]) (body := b_kept mk) T.F3 sc_kept (by decide) (fun cdv A outer s H E q ca sf cells hr => by
    have ih := fun (_ : Tx K mg cls ad fo) => ihh
    have nd := sc_kept.nd
    have hu64 := hu64_of hr
    have hu65 := hu65_of hr
    exact dss_one (ds_ret (de_ifExp (dt_val (de_call rfl (ok_is_row T) fnD_len (hr.mono (by omega)) rfl T.g_is_row T.k2 T.b2 .nil (fun _ => .nil) pass0 (da_cons (de_var (pv 0)) da_nil))) (de_callTy call_tuple_of tuple_d rfl T.n_tuple (by decide +kernel) (da_cons (de_of (df_lc (own := [("item", 1)]) rfl nd (di_row rfl (de_var (pv 0))) (blkOk_by rfl) (by decide) (fun _ _ _ _ _ => dg_name (i := 1) nd rfl (by first | exact .inl rfl | exact .inr rfl)) (fun _ _ _ _ _ => dts_nil) (fun _ _ _ _ _ => (de_call rfl (ih T) lenk (hr.mono (by omega)) rfl T.g_kept T.k3 T.b3 .nil (fun _ => .nil) pass0 (da_cons (de_var (pv 1)) da_nil))))) da_nil)) (de_var (pv 0)))))
theorem okd_kept (T : Tx K mg cls ad fo) : ∀ d : Nat, FnOk P w K mg base CX0 (2 + d) (ad 3) (fo 3) ["value"] (spD K cls 1 (m_kept d))
  | 0 => fn_bad
  | d + 1 => oks_kept T _ (len_kept d) (2 + d) (by omega) (okd_kept T d)
theorem ok_kept (T : Tx K mg cls ad fo) : FnOk P w K mg base CX0 14 (ad 3) (fo 3) ["value"] (spD K cls 1 (m_kept 12)) := okd_kept T 12
theorem sc_Core_init : FnScope ["self", "steps", "points"] ["self", "steps", "points"] (defScope (inClass (top 21) 0)) := ⟨rfl, rfl, rfl, by decide +kernel, rfl, by decide +kernel, by decide +kernel⟩
noncomputable def b_Core_init : SS := dSeq (dFldS 0 ["Core"] "steps" (mCall (m_kept 12) [] (mCons (dVar 1) mNil))) (dFldS 0 ["Core"] "points" (mCall (m_kept 12) [] (mCons (dVar 2) mNil)))
noncomputable def m_Core_init : FD := initD "Core" 2 3 b_Core_init
theorem ok_Core_init (T : Tx K mg cls ad fo) : FnOk P w K mg base CX0 15 (ad 1420) (fo 1420) ["self", "steps", "points"] (spI K cls "Core" 2 m_Core_init) :=
  fn_okI (N := ["self", "steps", "points"]) (ps := ["self", "steps", "points"]) (body := b_Core_init) T.F1420 sc_Core_init rfl (by decide) (fun cdv A outer s H E q ca sf cells hr => by
    have nd := sc_Core_init.nd
    have hu64 := hu64_of hr
    have hu65 := hu65_of hr
    exact dss_cons (ds_fldS rfl (T.f_steps q ca cells sf) (pv 0) (de_call rfl (ok_kept T) (len_kept 12) (hr.mono (by omega)) rfl T.g_kept T.k3 T.b3 .nil (fun _ => .nil) pass0 (da_cons (de_var (pv 1)) da_nil)) rfl) (dss_one (ds_fldS rfl (T.f_points q ca cells sf) (pv 0) (de_call rfl (ok_kept T) (len_kept 12) (hr.mono (by omega)) rfl T.g_kept T.k3 T.b3 .nil (fun _ => .nil) pass0 (da_cons (de_var (pv 2)) da_nil)) rfl)))
theorem sc_need_space : FnScope ["space"] ["space"] (defScope (top 16)) := ⟨rfl, rfl, rfl, by decide +kernel, rfl, by decide +kernel, by decide +kernel⟩
noncomputable def b_need_space : SS := dIf (mNot (mB (mCB (isa1 ["Space", "Core"]) (mCons (dVar 0) (mCons (M.ret (.cls "Space")) mNil))))) (dBad) (dNext)
noncomputable def m_need_space : FD := fnD 1 1 b_need_space
theorem ok_need_space (T : Tx K mg cls ad fo) : FnOk P w K mg base CX0 1 (ad 16) (fo 16) ["space"] (spD K cls 1 m_need_space) :=
  fn_okD (N := ["space"]) (ps := ["space"]) (body := b_need_space) T.F16 sc_need_space (by decide) (fun cdv A outer s H E q ca sf cells hr => by
    have nd := sc_need_space.nd
    have hu64 := hu64_of hr
    have hu65 := hu65_of hr
    exact dss_one (ds_if (dt_not (dt_val (de_isi1 rfl (T.isa q ca cells sf) rfl T.n_isinstance (da_cons (de_var (pv 0)) (da_cons (de_cls (T.cl_Space).symm rfl T.g_Space) da_nil))))) (dss_one (ds_never)) (dss_nil)))
theorem sc_all_pairs : FnScope ["space", "x", "y"] ["space"] (defScope (top 17)) := ⟨rfl, rfl, rfl, by decide +kernel, rfl, by decide +kernel, by decide +kernel⟩
noncomputable def b_all_pairs : SS := dRet (mComp2 (mRange1 (m1 (fldD ["Space"] "many") (dVar 0))) [1, 2] (bNm 1) (mYes) (mRow (m2 ixD (m1 (fldD ["Space"] "over") (dVar 0)) (dVar 1))) [2] (bNm 2) ((mB (m2 neD (dVar 2) (dVar 1)))) (mTup (mCons (dVar 1) (mCons (dVar 2) mNil))))
noncomputable def m_all_pairs : FD := fnD 1 3 b_all_pairs
theorem ok_all_pairs (T : Tx K mg cls ad fo) : FnOk P w K mg base CX0 1 (ad 17) (fo 17) ["space"] (spD K cls 1 m_all_pairs) :=
  fn_okD (N := ["space", "x", "y"]) (ps := ["space"]) (body := b_all_pairs) T.F17 sc_all_pairs (by decide) (fun cdv A outer s H E q ca sf cells hr => by
    have nd := sc_all_pairs.nd
    have hu64 := hu64_of hr
    have hu65 := hu65_of hr
    exact dss_one (ds_ret (de_of (df_lc2 (own := [("x", 1), ("y", 2)]) (vs1 := [2]) rfl nd (di_range1 rfl T.n_range (de_fld rfl (T.f_many q ca cells sf) (de_var (pv 0)) rfl)) (blkOk_by rfl) (by decide) (by decide) (by decide) (fun _ _ _ _ _ => dg_name (i := 1) nd rfl (by first | exact .inl rfl | exact .inr rfl)) (fun _ _ _ _ _ => dts_nil) (fun _ _ _ _ _ => di_row rfl (de_ix (de_fld rfl (T.f_over q ca cells sf) (de_var (pv 0)) rfl) (de_var (pv 1)) rfl (fun _ _ => rfl))) (fun _ _ _ _ _ => dg_name (i := 2) nd rfl (by first | exact .inl rfl | exact .inr rfl)) (fun _ _ _ _ _ => dts_one (dt_cmp (op_neD hu64) ne_d (de_var (pv 2)) (de_var (pv 1)) (nomark _))) (fun _ _ _ _ _ => (de_tup (da_cons (de_var (pv 1)) (da_cons (de_var (pv 2)) da_nil))))))))
theorem sc_parts_points : FnScope ["space", "x", "y"] ["space"] (defScope (top 18)) := ⟨rfl, rfl, rfl, by decide +kernel, rfl, by decide +kernel, by decide +kernel⟩
noncomputable def b_parts_points : SS := dRet (mNotV (mCB anyD (mCons (mComp (mRow (mCall m_all_pairs [] (mCons (dVar 0) mNil))) [1, 2] (bTup 2 (bCons (bNm 1) (bCons (bNm 2) bNil))) (mYes) (m2 inD (dVar 1) (m2 ixD (m1 (fldD ["Space"] "over") (dVar 0)) (dVar 2)))) mNil)))
noncomputable def m_parts_points : FD := fnD 1 3 b_parts_points
theorem ok_parts_points (T : Tx K mg cls ad fo) : FnOk P w K mg base CX0 2 (ad 18) (fo 18) ["space"] (spD K cls 1 m_parts_points) :=
  fn_okD (N := ["space", "x", "y"]) (ps := ["space"]) (body := b_parts_points) T.F18 sc_parts_points (by decide) (fun cdv A outer s H E q ca sf cells hr => by
    have nd := sc_parts_points.nd
    have hu64 := hu64_of hr
    have hu65 := hu65_of hr
    exact dss_one (ds_ret (de_not (de_callB (cr_any rfl) any_d rfl T.n_any (by decide +kernel) (da_cons (de_of (df_lc (own := [("x", 1), ("y", 2)]) rfl nd (di_row rfl (de_call rfl (ok_all_pairs T) fnD_len (hr.mono (by omega)) rfl T.g_all_pairs T.k17 T.b17 .nil (fun _ => .nil) pass0 (da_cons (de_var (pv 0)) da_nil))) (blkOk_by rfl) (by decide) (fun _ _ _ _ _ => dg_tup rfl rfl (dgs_cons (dg_name (i := 1) nd rfl (by first | exact .inl rfl | exact .inr rfl)) (dgs_cons (dg_name (i := 2) nd rfl (by first | exact .inl rfl | exact .inr rfl)) dgs_nil))) (fun _ _ _ _ _ => dts_nil) (fun _ _ _ _ _ => (de_cmp (op_inD hu65) in_d (de_var (pv 1)) (de_ix (de_fld rfl (T.f_over q ca cells sf) (de_var (pv 0)) rfl) (de_var (pv 2)) rfl (fun _ _ => rfl)) (by rfl))))) da_nil)))))
theorem sc_need_parted : FnScope ["space"] ["space"] (defScope (top 19)) := ⟨rfl, rfl, rfl, by decide +kernel, rfl, by decide +kernel, by decide +kernel⟩
noncomputable def b_need_parted : SS := dSeq (dExpr (mCall m_need_space [] (mCons (dVar 0) mNil))) (dIf (mNot (mB (mCall m_parts_points [] (mCons (dVar 0) mNil)))) (dBad) (dNext))
noncomputable def m_need_parted : FD := fnD 1 1 b_need_parted
theorem ok_need_parted (T : Tx K mg cls ad fo) : FnOk P w K mg base CX0 3 (ad 19) (fo 19) ["space"] (spD K cls 1 m_need_parted) :=
  fn_okD (N := ["space"]) (ps := ["space"]) (body := b_need_parted) T.F19 sc_need_parted (by decide) (fun cdv A outer s H E q ca sf cells hr => by
    have nd := sc_need_parted.nd
    have hu64 := hu64_of hr
    have hu65 := hu65_of hr
    exact dss_cons (ds_expr (de_call rfl (ok_need_space T) fnD_len (hr.mono (by omega)) rfl T.g_need_space T.k16 T.b16 .nil (fun _ => .nil) pass0 (da_cons (de_var (pv 0)) da_nil))) (dss_one (ds_if (dt_not (dt_val (de_call rfl (ok_parts_points T) fnD_len (hr.mono (by omega)) rfl T.g_parts_points T.k18 T.b18 .nil (fun _ => .nil) pass0 (da_cons (de_var (pv 0)) da_nil)))) (dss_one (ds_never)) (dss_nil))))
theorem sc_greatest_in : FnScope ["space", "lot", "found", "x", "y"] ["space", "lot"] (defScope (top 22)) := ⟨rfl, rfl, rfl, by decide +kernel, rfl, by decide +kernel, by decide +kernel⟩
noncomputable def b_greatest_in : SS := dSeq (dSet 2 (mComp (mRow (dVar 1)) [3] (bNm 3) ((mB (mCB allD (mCons (mComp (mRow (dVar 1)) [4] (bNm 4) (mYes) (m2 inD (dVar 4) (m2 ixD (m1 (fldD ["Space"] "under") (dVar 0)) (dVar 3)))) mNil)))) (dVar 3))) (dRet (mIf (mB (m2 gtD (mCB lenD (mCons (dVar 2) mNil)) (M.ret (.int 0)))) (m2 ixD (dVar 2) (M.ret (.int 0))) (M.ret .non)))
noncomputable def m_greatest_in : FD := fnD 2 5 b_greatest_in
theorem ok_greatest_in (T : Tx K mg cls ad fo) : FnOk P w K mg base CX0 1 (ad 22) (fo 22) ["space", "lot"] (spD K cls 2 m_greatest_in) :=
  fn_okD (N := ["space", "lot", "found", "x", "y"]) (ps := ["space", "lot"]) (body := b_greatest_in) T.F22 sc_greatest_in (by decide) (fun cdv A outer s H E q ca sf cells hr => by
    have nd := sc_greatest_in.nd
    have hu64 := hu64_of hr
    have hu65 := hu65_of hr
    exact dss_cons (ds_setLc (i := 2) (own := [("x", 3)]) rfl nd rfl rfl (sw_true rfl rfl rfl (by decide +kernel)) (di_row rfl (de_var (pv 1))) (blkOk_by rfl) (by decide) (fun _ _ _ _ _ => dg_name (i := 3) nd rfl (by first | exact .inl rfl | exact .inr rfl)) (fun _ _ _ _ _ => dts_one (dt_val (de_callB (cr_all rfl) all_d rfl T.n_all (by decide +kernel) (da_cons (de_of (df_lc (own := [("y", 4)]) rfl nd (di_row rfl (de_var (pv 1))) (blkOk_by rfl) (by decide) (fun _ _ _ _ _ => dg_name (i := 4) nd rfl (by first | exact .inl rfl | exact .inr rfl)) (fun _ _ _ _ _ => dts_nil) (fun _ _ _ _ _ => (de_cmp (op_inD hu65) in_d (de_var (pv 4)) (de_ix (de_fld rfl (T.f_under q ca cells sf) (de_var (pv 0)) rfl) (de_var (pv 3)) rfl (fun _ _ => rfl)) (by rfl))))) da_nil)))) (fun _ _ _ _ _ => (de_var (pv 3)))) (dss_one (ds_ret (de_ifExp (dt_cmp op_gt gt_d (de_callB call_len len_d rfl T.n_len (by decide +kernel) (da_cons (de_var (pv 2)) da_nil)) (de_int) (nomark _)) (de_ix (de_var (pv 2)) (de_int) rfl (fun _ _ => rfl)) (de_non)))))
theorem sc_least_in : FnScope ["space", "lot", "found", "x", "y"] ["space", "lot"] (defScope (top 23)) := ⟨rfl, rfl, rfl, by decide +kernel, rfl, by decide +kernel, by decide +kernel⟩
noncomputable def b_least_in : SS := dSeq (dSet 2 (mComp (mRow (dVar 1)) [3] (bNm 3) ((mB (mCB allD (mCons (mComp (mRow (dVar 1)) [4] (bNm 4) (mYes) (m2 inD (dVar 4) (m2 ixD (m1 (fldD ["Space"] "over") (dVar 0)) (dVar 3)))) mNil)))) (dVar 3))) (dRet (mIf (mB (m2 gtD (mCB lenD (mCons (dVar 2) mNil)) (M.ret (.int 0)))) (m2 ixD (dVar 2) (M.ret (.int 0))) (M.ret .non)))
noncomputable def m_least_in : FD := fnD 2 5 b_least_in
theorem ok_least_in (T : Tx K mg cls ad fo) : FnOk P w K mg base CX0 1 (ad 23) (fo 23) ["space", "lot"] (spD K cls 2 m_least_in) :=
  fn_okD (N := ["space", "lot", "found", "x", "y"]) (ps := ["space", "lot"]) (body := b_least_in) T.F23 sc_least_in (by decide) (fun cdv A outer s H E q ca sf cells hr => by
    have nd := sc_least_in.nd
    have hu64 := hu64_of hr
    have hu65 := hu65_of hr
    exact dss_cons (ds_setLc (i := 2) (own := [("x", 3)]) rfl nd rfl rfl (sw_true rfl rfl rfl (by decide +kernel)) (di_row rfl (de_var (pv 1))) (blkOk_by rfl) (by decide) (fun _ _ _ _ _ => dg_name (i := 3) nd rfl (by first | exact .inl rfl | exact .inr rfl)) (fun _ _ _ _ _ => dts_one (dt_val (de_callB (cr_all rfl) all_d rfl T.n_all (by decide +kernel) (da_cons (de_of (df_lc (own := [("y", 4)]) rfl nd (di_row rfl (de_var (pv 1))) (blkOk_by rfl) (by decide) (fun _ _ _ _ _ => dg_name (i := 4) nd rfl (by first | exact .inl rfl | exact .inr rfl)) (fun _ _ _ _ _ => dts_nil) (fun _ _ _ _ _ => (de_cmp (op_inD hu65) in_d (de_var (pv 4)) (de_ix (de_fld rfl (T.f_over q ca cells sf) (de_var (pv 0)) rfl) (de_var (pv 3)) rfl (fun _ _ => rfl)) (by rfl))))) da_nil)))) (fun _ _ _ _ _ => (de_var (pv 3)))) (dss_one (ds_ret (de_ifExp (dt_cmp op_gt gt_d (de_callB call_len len_d rfl T.n_len (by decide +kernel) (da_cons (de_var (pv 2)) da_nil)) (de_int) (nomark _)) (de_ix (de_var (pv 2)) (de_int) rfl (fun _ _ => rfl)) (de_non)))))
theorem sc_partners : FnScope ["space", "left", "x", "below", "above", "y"] ["space", "left", "x"] (defScope (top 24)) := ⟨rfl, rfl, rfl, by decide +kernel, rfl, by decide +kernel, by decide +kernel⟩
noncomputable def b_partners : SS := dSeq (dSet 3 (mCall m_greatest_in [] (mCons (dVar 0) (mCons (mComp (mRow (m2 ixD (m1 (fldD ["Space"] "under") (dVar 0)) (dVar 2))) [5] (bNm 5) (((mAnd (mB (m2 neD (dVar 5) (dVar 2))) (mB (m2 inD (dVar 5) (dVar 1)))))) (dVar 5)) mNil)))) (dSeq (dSet 4 (mCall m_least_in [] (mCons (dVar 0) (mCons (mComp (mRow (m2 ixD (m1 (fldD ["Space"] "over") (dVar 0)) (dVar 2))) [5] (bNm 5) (((mAnd (mB (m2 neD (dVar 5) (dVar 2))) (mB (m2 inD (dVar 5) (dVar 1)))))) (dVar 5)) mNil)))) (dRet (mComp (mRow (mTup (mCons (dVar 3) (mCons (dVar 4) mNil)))) [5] (bNm 5) ((mB (m2 notN (dVar 5) (M.ret .non)))) (dVar 5))))
noncomputable def m_partners : FD := fnD 3 6 b_partners
theorem ok_partners (T : Tx K mg cls ad fo) : FnOk P w K mg base CX0 2 (ad 24) (fo 24) ["space", "left", "x"] (spD K cls 3 m_partners) :=
  fn_okD (N := ["space", "left", "x", "below", "above", "y"]) (ps := ["space", "left", "x"]) (body := b_partners) T.F24 sc_partners (by decide) (fun cdv A outer s H E q ca sf cells hr => by
    have nd := sc_partners.nd
    have hu64 := hu64_of hr
    have hu65 := hu65_of hr
    exact dss_cons (ds_set (i := 3) nd rfl (by first | exact .inl rfl | exact .inr rfl) (de_call rfl (ok_greatest_in T) fnD_len (hr.mono (by omega)) rfl T.g_greatest_in T.k22 T.b22 .nil (fun _ => .nil) pass0 (da_cons (de_var (pv 0)) (da_cons (de_of (df_lc (own := [("y", 5)]) rfl nd (di_row rfl (de_ix (de_fld rfl (T.f_under q ca cells sf) (de_var (pv 0)) rfl) (de_var (pv 2)) rfl (fun _ _ => rfl))) (blkOk_by rfl) (by decide) (fun _ _ _ _ _ => dg_name (i := 5) nd rfl (by first | exact .inl rfl | exact .inr rfl)) (fun _ _ _ _ _ => dts_one (dt_bool (dw_and (dt_cmp (op_neD hu64) ne_d (de_var (pv 5)) (de_var (pv 2)) (nomark _)) (dw_and1 (dt_cmp (op_inD hu65) in_d (de_var (pv 5)) (de_var (pv 1)) (by rfl)))))) (fun _ _ _ _ _ => (de_var (pv 5))))) da_nil)))) (dss_cons (ds_set (i := 4) nd rfl (by first | exact .inl rfl | exact .inr rfl) (de_call rfl (ok_least_in T) fnD_len (hr.mono (by omega)) rfl T.g_least_in T.k23 T.b23 .nil (fun _ => .nil) pass0 (da_cons (de_var (pv 0)) (da_cons (de_of (df_lc (own := [("y", 5)]) rfl nd (di_row rfl (de_ix (de_fld rfl (T.f_over q ca cells sf) (de_var (pv 0)) rfl) (de_var (pv 2)) rfl (fun _ _ => rfl))) (blkOk_by rfl) (by decide) (fun _ _ _ _ _ => dg_name (i := 5) nd rfl (by first | exact .inl rfl | exact .inr rfl)) (fun _ _ _ _ _ => dts_one (dt_bool (dw_and (dt_cmp (op_neD hu64) ne_d (de_var (pv 5)) (de_var (pv 2)) (nomark _)) (dw_and1 (dt_cmp (op_inD hu65) in_d (de_var (pv 5)) (de_var (pv 1)) (by rfl)))))) (fun _ _ _ _ _ => (de_var (pv 5))))) da_nil)))) (dss_one (ds_ret (de_of (df_lc (own := [("y", 5)]) rfl nd (di_row rfl (de_tup (da_cons (de_var (pv 3)) (da_cons (de_var (pv 4)) da_nil)))) (blkOk_by rfl) (by decide) (fun _ _ _ _ _ => dg_name (i := 5) nd rfl (by first | exact .inl rfl | exact .inr rfl)) (fun _ _ _ _ _ => dts_one (dt_cmp op_notN notN_d (de_var (pv 5)) (de_non) (nomark _))) (fun _ _ _ _ _ => (de_var (pv 5)))))))))
theorem sc_steps_fault : FnScope ["space", "steps", "left", "k", "step"] ["space", "steps"] (defScope (top 26)) := ⟨rfl, rfl, rfl, by decide +kernel, rfl, by decide +kernel, by decide +kernel⟩
noncomputable def b_steps_fault : SS := dSeq (dIf ((mOr (mNot (mB (mCall m_is_row [] (mCons (dVar 1) mNil)))) (mNot (mB (mCB allD (mCons (mComp (mRow (dVar 1)) [4] (bNm 4) (mYes) (mCall m_is_pair_of [] (mCons (m1 (fldD ["Space"] "many") (dVar 0)) (mCons (dVar 4) mNil)))) mNil)))))) (dRet (mTup (mCons (mTup (mCons (M.ret (.str "steps")) mNil)) (mCons (M.ret .non) mNil)))) (dNext)) (dSeq (dSetO 2 (m1 rgL (m1 (fldD ["Space"] "many") (dVar 0)))) (dSeq (dFor (mEnum (dVar 1)) (bTup 2 (bCons (bNm 3) (bCons (bNm 4) bNil))) (dSeq (dIf ((mOr (mBorT (mB (m2 notInD (m2 ixD (dVar 4) (M.ret (.int 0))) (dVar 2)))) (mBorT (mB (m2 notInD (m2 ixD (dVar 4) (M.ret (.int 1))) (mCall m_partners [] (mCons (dVar 0) (mCons (dVar 2) (mCons (m2 ixD (dVar 4) (M.ret (.int 0))) mNil))))))))) (dRet (mTup (mCons (mTup (mCons (M.ret (.str "step")) (mCons (dVar 3) mNil))) (mCons (M.ret .non) mNil)))) (dNext)) (dExpr (mRemove 2 (m2 ixD (dVar 4) (M.ret (.int 0))))))) (dFrz [2] (dRet (mTup (mCons (M.ret .non) (mCons (dVar 2) mNil)))))))
noncomputable def m_steps_fault : FD := fnD 2 5 b_steps_fault
theorem ok_steps_fault (T : Tx K mg cls ad fo) : FnOk P w K mg base CX0 4 (ad 26) (fo 26) ["space", "steps"] (spD K cls 2 m_steps_fault) :=
  fn_okD (N := ["space", "steps", "left", "k", "step"]) (ps := ["space", "steps"]) (body := b_steps_fault) T.F26 sc_steps_fault (by decide) (fun cdv A outer s H E q ca sf cells hr => by
    have nd := sc_steps_fault.nd
    have hu64 := hu64_of hr
    have hu65 := hu65_of hr
    exact dss_cons (ds_if (dt_bool (dw_or (dt_not (dt_val (de_call rfl (ok_is_row T) fnD_len (hr.mono (by omega)) rfl T.g_is_row T.k2 T.b2 .nil (fun _ => .nil) pass0 (da_cons (de_var (pv 1)) da_nil)))) (dw_or1 (dt_not (dt_val (de_callB (cr_all rfl) all_d rfl T.n_all (by decide +kernel) (da_cons (de_of (df_lc (own := [("step", 4)]) rfl nd (di_row rfl (de_var (pv 1))) (blkOk_by rfl) (by decide) (fun _ _ _ _ _ => dg_name (i := 4) nd rfl (by first | exact .inl rfl | exact .inr rfl)) (fun _ _ _ _ _ => dts_nil) (fun _ _ _ _ _ => (de_call rfl (ok_is_pair_of T) fnD_len (hr.mono (by omega)) rfl T.g_is_pair_of T.k13 T.b13 .nil (fun _ => .nil) pass0 (da_cons (de_fld rfl (T.f_many q ca cells sf) (de_var (pv 0)) rfl) (da_cons (de_var (pv 4)) da_nil)))))) da_nil))))))) (dss_one (ds_ret (de_tup (da_cons (de_tup (da_cons (de_str) da_nil)) (da_cons (de_non) da_nil))))) (dss_nil)) (dss_cons (ds_setO (i := 2) nd rfl (by first | exact .inl rfl | exact .inr rfl) (df_listRg rfl rfl T.n_list rfl T.n_range (de_fld rfl (T.f_many q ca cells sf) (de_var (pv 0)) rfl))) (dss_cons (ds_for PassesOwn.never rfl (di_enum rfl rfl T.n_enumerate (de_var (pv 1))) (dg_tup rfl rfl (dgs_cons (dg_name (i := 3) nd rfl (by first | exact .inl rfl | exact .inr rfl)) (dgs_cons (dg_name (i := 4) nd rfl (by first | exact .inl rfl | exact .inr rfl)) dgs_nil))) (dss_cons (ds_if (dt_bool (dw_or (dt_bor (dt_cmp (op_notInD hu65) notIn_d (de_ix (de_var (pv 4)) (de_int) rfl (fun _ _ => rfl)) (de_var (pv 2)) (by rfl))) (dw_or1 (dt_bor (dt_cmp (op_notInD hu65) notIn_d (de_ix (de_var (pv 4)) (de_int) rfl (fun _ _ => rfl)) (de_call rfl (ok_partners T) fnD_len (hr.mono (by omega)) rfl T.g_partners T.k24 T.b24 .nil (fun _ => .nil) pass0 (da_cons (de_var (pv 0)) (da_cons (de_var (pv 2)) (da_cons (de_ix (de_var (pv 4)) (de_int) rfl (fun _ _ => rfl)) da_nil)))) (by rfl)))))) (dss_one (ds_ret (de_tup (da_cons (de_tup (da_cons (de_str) (da_cons (de_var (pv 3)) da_nil))) (da_cons (de_non) da_nil))))) (dss_nil)) (dss_one (ds_expr (de_remove (pv 2) (de_ix (de_var (pv 4)) (de_int) rfl (fun _ _ => rfl))))))) (dss_one (ds_frz [2] (ds_ret (de_tup (da_cons (de_non) (da_cons (de_var (pv 2)) da_nil)))))))))
theorem sc_all_beats : FnScope ["space", "left", "found", "x", "some"] ["space", "left"] (defScope (top 25)) := ⟨rfl, rfl, rfl, by decide +kernel, rfl, by decide +kernel, by decide +kernel⟩
noncomputable def b_all_beats : SS := dSeq (dSetO 2 (mLst mNil)) (dSeq (dFor (mRow (dVar 1)) (bNm 3) (dSeq (dSet 4 (mCall m_partners [] (mCons (dVar 0) (mCons (dVar 1) (mCons (dVar 3) mNil))))) (dIf (mB (m2 gtD (mCB lenD (mCons (dVar 4) mNil)) (M.ret (.int 0)))) (dExpr (mAppend 2 (mTup (mCons (dVar 3) (mCons (m2 ixD (dVar 4) (M.ret (.int 0))) mNil))))) (dNext)))) (dFrz [2] (dRet (dVar 2))))
noncomputable def m_all_beats : FD := fnD 2 5 b_all_beats
theorem ok_all_beats (T : Tx K mg cls ad fo) : FnOk P w K mg base CX0 3 (ad 25) (fo 25) ["space", "left"] (spD K cls 2 m_all_beats) :=
  fn_okD (N := ["space", "left", "found", "x", "some"]) (ps := ["space", "left"]) (body := b_all_beats) T.F25 sc_all_beats (by decide) (fun cdv A outer s H E q ca sf cells hr => by
    have nd := sc_all_beats.nd
    have hu64 := hu64_of hr
    have hu65 := hu65_of hr
    exact dss_cons (ds_setO (i := 2) nd rfl (by first | exact .inl rfl | exact .inr rfl) (df_lst da_nil)) (dss_cons (ds_for PassesOwn.never rfl (di_row rfl (de_var (pv 1))) (dg_name (i := 3) nd rfl (by first | exact .inl rfl | exact .inr rfl)) (dss_cons (ds_set (i := 4) nd rfl (by first | exact .inl rfl | exact .inr rfl) (de_call rfl (ok_partners T) fnD_len (hr.mono (by omega)) rfl T.g_partners T.k24 T.b24 .nil (fun _ => .nil) pass0 (da_cons (de_var (pv 0)) (da_cons (de_var (pv 1)) (da_cons (de_var (pv 3)) da_nil))))) (dss_one (ds_if (dt_cmp op_gt gt_d (de_callB call_len len_d rfl T.n_len (by decide +kernel) (da_cons (de_var (pv 4)) da_nil)) (de_int) (nomark _)) (dss_one (ds_expr (de_append (pv 2) (de_tup (da_cons (de_var (pv 3)) (da_cons (de_ix (de_var (pv 4)) (de_int) rfl (fun _ _ => rfl)) da_nil)))))) (dss_nil))))) (dss_one (ds_frz [2] (ds_ret (de_var (pv 2)))))))
theorem sc_right_core_fault : FnScope ["space", "answer", "fault", "left"] ["space", "answer"] (defScope (top 27)) := ⟨rfl, rfl, rfl, by decide +kernel, rfl, by decide +kernel, by decide +kernel⟩
noncomputable def b_right_core_fault : SS := dSeq (dAsg (mCall m_steps_fault [] (mCons (dVar 0) (mCons (m1 (fldD ["Core"] "steps") (dVar 1)) mNil))) (bTup 2 (bCons (bNm 2) (bCons (bNm 3) bNil)))) (dSeq (dIf (mB (m2 notN (dVar 2) (M.ret .non))) (dRet (dVar 2)) (dNext)) (dSeq (dIf (mB (m2 neD (m1 (fldD ["Core"] "points") (dVar 1)) (mCB tupleD (mCons (dVar 3) mNil)))) (dRet (mTup (mCons (M.ret (.str "points")) mNil))) (dNext)) (dRet (mIf (mB (m2 eqD (mCB lenD (mCons (mCall m_all_beats [] (mCons (dVar 0) (mCons (dVar 3) mNil))) mNil)) (M.ret (.int 0)))) (M.ret .non) (mTup (mCons (M.ret (.str "beat")) mNil))))))
noncomputable def m_right_core_fault : FD := fnD 2 4 b_right_core_fault
theorem ok_right_core_fault (T : Tx K mg cls ad fo) : FnOk P w K mg base CX0 5 (ad 27) (fo 27) ["space", "answer"] (spD K cls 2 m_right_core_fault) :=
  fn_okD (N := ["space", "answer", "fault", "left"]) (ps := ["space", "answer"]) (body := b_right_core_fault) T.F27 sc_right_core_fault (by decide) (fun cdv A outer s H E q ca sf cells hr => by
    have nd := sc_right_core_fault.nd
    have hu64 := hu64_of hr
    have hu65 := hu65_of hr
    exact dss_cons (ds_asg (de_call rfl (ok_steps_fault T) fnD_len (hr.mono (by omega)) rfl T.g_steps_fault T.k26 T.b26 .nil (fun _ => .nil) pass0 (da_cons (de_var (pv 0)) (da_cons (de_fld rfl (T.f_steps q ca cells sf) (de_var (pv 1)) rfl) da_nil))) (dg_tup rfl rfl (dgs_cons (dg_name (i := 2) nd rfl (by first | exact .inl rfl | exact .inr rfl)) (dgs_cons (dg_name (i := 3) nd rfl (by first | exact .inl rfl | exact .inr rfl)) dgs_nil)))) (dss_cons (ds_if (dt_cmp op_notN notN_d (de_var (pv 2)) (de_non) (nomark _)) (dss_one (ds_ret (de_var (pv 2)))) (dss_nil)) (dss_cons (ds_if (dt_cmp (op_neD hu64) ne_d (de_fld rfl (T.f_points q ca cells sf) (de_var (pv 1)) rfl) (de_callTy call_tuple_of tuple_d rfl T.n_tuple (by decide +kernel) (da_cons (de_var (pv 3)) da_nil)) (nomark _)) (dss_one (ds_ret (de_tup (da_cons (de_str) da_nil)))) (dss_nil)) (dss_one (ds_ret (de_ifExp (dt_cmp (op_eqD hu64) eq_d (de_callB call_len len_d rfl T.n_len (by decide +kernel) (da_cons (de_call rfl (ok_all_beats T) fnD_len (hr.mono (by omega)) rfl T.g_all_beats T.k25 T.b25 .nil (fun _ => .nil) pass0 (da_cons (de_var (pv 0)) (da_cons (de_var (pv 3)) da_nil))) da_nil)) (de_int) (nomark _)) (de_non) (de_tup (da_cons (de_str) da_nil))))))))
theorem sc_core_fault : FnScope ["space", "answer"] ["space", "answer"] (defScope (top 28)) := ⟨rfl, rfl, rfl, by decide +kernel, rfl, by decide +kernel, by decide +kernel⟩
noncomputable def b_core_fault : SS := dSeq (dExpr (mCall m_need_parted [] (mCons (dVar 0) mNil))) (dRet (mIf (mB (mCB (isa1 ["Space", "Core"]) (mCons (dVar 1) (mCons (M.ret (.cls "Core")) mNil)))) (mCall m_right_core_fault [] (mCons (dVar 0) (mCons (dVar 1) mNil))) (mTup (mCons (M.ret (.str "answer")) mNil))))
noncomputable def m_core_fault : FD := fnD 2 2 b_core_fault
theorem ok_core_fault (T : Tx K mg cls ad fo) : FnOk P w K mg base CX0 6 (ad 28) (fo 28) ["space", "answer"] (spD K cls 2 m_core_fault) :=
  fn_okD (N := ["space", "answer"]) (ps := ["space", "answer"]) (body := b_core_fault) T.F28 sc_core_fault (by decide) (fun cdv A outer s H E q ca sf cells hr => by
    have nd := sc_core_fault.nd
    have hu64 := hu64_of hr
    have hu65 := hu65_of hr
    exact dss_cons (ds_expr (de_call rfl (ok_need_parted T) fnD_len (hr.mono (by omega)) rfl T.g_need_parted T.k19 T.b19 .nil (fun _ => .nil) pass0 (da_cons (de_var (pv 0)) da_nil))) (dss_one (ds_ret (de_ifExp (dt_val (de_isi1 rfl (T.isa q ca cells sf) rfl T.n_isinstance (da_cons (de_var (pv 1)) (da_cons (de_cls (T.cl_Core).symm rfl T.g_Core) da_nil)))) (de_call rfl (ok_right_core_fault T) fnD_len (hr.mono (by omega)) rfl T.g_right_core_fault T.k27 T.b27 .nil (fun _ => .nil) pass0 (da_cons (de_var (pv 0)) (da_cons (de_var (pv 1)) da_nil))) (de_tup (da_cons (de_str) da_nil))))))
theorem sc_law_is_pair : FnScope ["value", "many", "x"] ["value", "many"] (defScope (top 39)) := ⟨rfl, rfl, rfl, by decide +kernel, rfl, by decide +kernel, by decide +kernel⟩
noncomputable def b_law_is_pair : SS := dSeq (dIf ((mOr (mNot (mB (mCB (isa1 ["Space", "Core"]) (mCons (dVar 0) (mCons (M.ret (.ty "tuple")) mNil))))) (mB (m2 neD (mCB lenD (mCons (dVar 0) mNil)) (M.ret (.int 2)))))) (dRet (M.ret (.bl false))) (dNext)) (dRet (m2 eqD (mComp (mRow (dVar 0)) [2] (bNm 2) (((mOr (mNot (mB (mCB (isa1 ["Space", "Core"]) (mCons (dVar 2) (mCons (M.ret (.ty "int")) mNil))))) (mOr (mB (mCB (isa1 ["Space", "Core"]) (mCons (dVar 2) (mCons (M.ret (.ty "bool")) mNil)))) (mNot (mB (mChain leD ltD (M.ret (.int 0)) (dVar 2) (dVar 1)))))))) (dVar 2)) (mLst mNil)))
noncomputable def m_law_is_pair : FD := fnD 2 3 b_law_is_pair
theorem ok_law_is_pair (T : Tx K mg cls ad fo) : FnOk P w K mg base CX0 1 (ad 39) (fo 39) ["value", "many"] (spD K cls 2 m_law_is_pair) :=
  fn_okD (N := ["value", "many", "x"]) (ps := ["value", "many"]) (body := b_law_is_pair) T.F39 sc_law_is_pair (by decide) (fun cdv A outer s H E q ca sf cells hr => by
    have nd := sc_law_is_pair.nd
    have hu64 := hu64_of hr
    have hu65 := hu65_of hr
    exact dss_cons (ds_if (dt_bool (dw_or (dt_not (dt_val (de_isi1 rfl (T.isa q ca cells sf) rfl T.n_isinstance (da_cons (de_var (pv 0)) (da_cons (de_ty rfl T.n_tuple (by decide +kernel)) da_nil))))) (dw_or1 (dt_cmp (op_neD hu64) ne_d (de_callB call_len len_d rfl T.n_len (by decide +kernel) (da_cons (de_var (pv 0)) da_nil)) (de_int) (nomark _))))) (dss_one (ds_ret (de_bl))) (dss_nil)) (dss_one (ds_ret (de_cmp (op_eqD hu64) eq_d (de_of (df_lc (own := [("x", 2)]) rfl nd (di_row rfl (de_var (pv 0))) (blkOk_by rfl) (by decide) (fun _ _ _ _ _ => dg_name (i := 2) nd rfl (by first | exact .inl rfl | exact .inr rfl)) (fun _ _ _ _ _ => dts_one (dt_bool (dw_or (dt_not (dt_val (de_isi1 rfl (T.isa q ca cells sf) rfl T.n_isinstance (da_cons (de_var (pv 2)) (da_cons (de_ty rfl T.n_int (by decide +kernel)) da_nil))))) (dw_or (dt_val (de_isi1 rfl (T.isa q ca cells sf) rfl T.n_isinstance (da_cons (de_var (pv 2)) (da_cons (de_ty rfl T.n_bool (by decide +kernel)) da_nil)))) (dw_or1 (dt_not (dt_chain op_le op_lt le_d lt_d (de_int) (de_var (pv 2)) (de_var (pv 1))))))))) (fun _ _ _ _ _ => (de_var (pv 2))))) (de_lst da_nil) (nomark _)))))
theorem sc_law_due : FnScope ["table", "answer", "steps", "points", "left", "k", "step", "x"] ["table", "answer"] (defScope (top 40)) := ⟨rfl, rfl, rfl, by decide +kernel, rfl, by decide +kernel, by decide +kernel⟩
noncomputable def b_law_due : SS := dSeq (dIf (mB (m2 eqD (m2 ixD (dVar 1) (M.ret (.int 0))) (M.ret (.str "other")))) (dRet (mTup (mCons (M.ret (.str "answer")) mNil))) (dNext)) (dSeq (dAsg (mSlice (dVar 1) (mPart (M.ret (.int 1))) mNoPart) (bTup 2 (bCons (bNm 2) (bCons (bNm 3) bNil)))) (dSeq (dIf ((mOr (mNot (mB (mIsaT ["Space", "Core"] (dVar 2) (mCons (M.ret (.ty "list")) (mCons (M.ret (.ty "tuple")) mNil))))) (mB (m2 neD (mComp (mRow (dVar 2)) [6] (bNm 6) ((mNot (mB (mCall m_law_is_pair [] (mCons (dVar 6) (mCons (mCB lenD (mCons (dVar 0) mNil)) mNil)))))) (M.ret (.int 1))) (mLst mNil))))) (dRet (mTup (mCons (M.ret (.str "steps")) mNil))) (dNext)) (dSeq (dSet 4 (m1 rgL (mCB lenD (mCons (dVar 0) mNil)))) (dSeq (dFor (mEnum (dVar 2)) (bTup 2 (bCons (bNm 5) (bCons (bNm 6) bNil))) (dSeq (dIf (mB (m2 notInD (dVar 6) (mCall m_law_beats [] (mCons (dVar 0) (mCons (dVar 4) mNil))))) (dRet (mTup (mCons (M.ret (.str "step")) (mCons (dVar 5) mNil)))) (dNext)) (dSet 4 (mComp (mRow (dVar 4)) [7] (bNm 7) ((mB (m2 neD (dVar 7) (m2 ixD (dVar 6) (M.ret (.int 0)))))) (dVar 7))))) (dSeq (dIf ((mOr (mNot (mB (mIsaT ["Space", "Core"] (dVar 3) (mCons (M.ret (.ty "list")) (mCons (M.ret (.ty "tuple")) mNil))))) (mB (m2 neD (mCB listD (mCons (dVar 3) mNil)) (dVar 4))))) (dRet (mTup (mCons (M.ret (.str "points")) mNil))) (dNext)) (dRet (mIf (mB (m2 neD (mCall m_law_beats [] (mCons (dVar 0) (mCons (dVar 4) mNil))) (mLst mNil))) (mTup (mCons (M.ret (.str "beat")) mNil)) (M.ret .non))))))))
noncomputable def m_law_due : FD := fnD 2 8 b_law_due
theorem ok_law_due (T : Tx K mg cls ad fo) : FnOk P w K mg base CX0 2 (ad 40) (fo 40) ["table", "answer"] (spD K cls 2 m_law_due) :=
  fn_okD (N := ["table", "answer", "steps", "points", "left", "k", "step", "x"]) (ps := ["table", "answer"]) (body := b_law_due) T.F40 sc_law_due (by decide) (fun cdv A outer s H E q ca sf cells hr => by
    have nd := sc_law_due.nd
    have hu64 := hu64_of hr
    have hu65 := hu65_of hr
    exact dss_cons (ds_if (dt_cmp (op_eqD hu64) eq_d (de_ix (de_var (pv 1)) (de_int) rfl (fun _ _ => rfl)) (de_str) (nomark _)) (dss_one (ds_ret (de_tup (da_cons (de_str) da_nil)))) (dss_nil)) (dss_cons (ds_asg (de_slice rfl (de_var (pv 1)) (do_some (de_int)) do_none) (dg_tup rfl rfl (dgs_cons (dg_name (i := 2) nd rfl (by first | exact .inl rfl | exact .inr rfl)) (dgs_cons (dg_name (i := 3) nd rfl (by first | exact .inl rfl | exact .inr rfl)) dgs_nil)))) (dss_cons (ds_if (dt_bool (dw_or (dt_not (dt_val (de_isiT rfl (T.isa q ca cells sf) rfl T.n_isinstance (de_var (pv 2)) (da_cons (de_ty rfl T.n_list (by decide +kernel)) (da_cons (de_ty rfl T.n_tuple (by decide +kernel)) da_nil))))) (dw_or1 (dt_cmp (op_neD hu64) ne_d (de_of (df_lc (own := [("step", 6)]) rfl nd (di_row rfl (de_var (pv 2))) (blkOk_by rfl) (by decide) (fun _ _ _ _ _ => dg_name (i := 6) nd rfl (by first | exact .inl rfl | exact .inr rfl)) (fun _ _ _ _ _ => dts_one (dt_not (dt_val (de_call rfl (ok_law_is_pair T) fnD_len (hr.mono (by omega)) rfl T.g__law_is_pair T.k39 T.b39 .nil (fun _ => .nil) pass0 (da_cons (de_var (pv 6)) (da_cons (de_callB call_len len_d rfl T.n_len (by decide +kernel) (da_cons (de_var (pv 0)) da_nil)) da_nil)))))) (fun _ _ _ _ _ => (de_int)))) (de_lst da_nil) (nomark _))))) (dss_one (ds_ret (de_tup (da_cons (de_str) da_nil)))) (dss_nil)) (dss_cons (ds_set (i := 4) nd rfl (by first | exact .inl rfl | exact .inr rfl) (de_of (df_listRg rfl rfl T.n_list rfl T.n_range (de_callB call_len len_d rfl T.n_len (by decide +kernel) (da_cons (de_var (pv 0)) da_nil))))) (dss_cons (ds_for PassesOwn.never rfl (di_enum rfl rfl T.n_enumerate (de_var (pv 2))) (dg_tup rfl rfl (dgs_cons (dg_name (i := 5) nd rfl (by first | exact .inl rfl | exact .inr rfl)) (dgs_cons (dg_name (i := 6) nd rfl (by first | exact .inl rfl | exact .inr rfl)) dgs_nil))) (dss_cons (ds_if (dt_cmp (op_notInD hu65) notIn_d (de_var (pv 6)) (de_call rfl (ok_law_beats T) fnD_len (hr.mono (by omega)) rfl T.g__law_beats T.k38 T.b38 .nil (fun _ => .nil) pass0 (da_cons (de_var (pv 0)) (da_cons (de_var (pv 4)) da_nil))) (by rfl)) (dss_one (ds_ret (de_tup (da_cons (de_str) (da_cons (de_var (pv 5)) da_nil))))) (dss_nil)) (dss_one (ds_setLc (i := 4) (own := [("x", 7)]) rfl nd rfl rfl (sw_true rfl rfl rfl (by decide +kernel)) (di_row rfl (de_var (pv 4))) (blkOk_by rfl) (by decide) (fun _ _ _ _ _ => dg_name (i := 7) nd rfl (by first | exact .inl rfl | exact .inr rfl)) (fun _ _ _ _ _ => dts_one (dt_cmp (op_neD hu64) ne_d (de_var (pv 7)) (de_ix (de_var (pv 6)) (de_int) rfl (fun _ _ => rfl)) (nomark _))) (fun _ _ _ _ _ => (de_var (pv 7))))))) (dss_cons (ds_if (dt_bool (dw_or (dt_not (dt_val (de_isiT rfl (T.isa q ca cells sf) rfl T.n_isinstance (de_var (pv 3)) (da_cons (de_ty rfl T.n_list (by decide +kernel)) (da_cons (de_ty rfl T.n_tuple (by decide +kernel)) da_nil))))) (dw_or1 (dt_cmp (op_neD hu64) ne_d (de_callTy call_list_of list_d rfl T.n_list (by decide +kernel) (da_cons (de_var (pv 3)) da_nil)) (de_var (pv 4)) (nomark _))))) (dss_one (ds_ret (de_tup (da_cons (de_str) da_nil)))) (dss_nil)) (dss_one (ds_ret (de_ifExp (dt_cmp (op_neD hu64) ne_d (de_call rfl (ok_law_beats T) fnD_len (hr.mono (by omega)) rfl T.g__law_beats T.k38 T.b38 .nil (fun _ => .nil) pass0 (da_cons (de_var (pv 0)) (da_cons (de_var (pv 4)) da_nil))) (de_lst da_nil) (nomark _)) (de_tup (da_cons (de_str) da_nil)) (de_non))))))))))
theorem sc_Core_eq : FnScope ["self", "other"] ["self", "other"] (defScope (inClass (top 21) 1)) := ⟨rfl, rfl, rfl, by decide +kernel, rfl, by decide +kernel, by decide +kernel⟩
noncomputable def b_Core_eq : SS := dRet ((mAndV (mCB (isa1 ["Space", "Core"]) (mCons (dVar 1) (mCons (M.ret (.cls "Core")) mNil))) (m2 eqD (mTup (mCons (m1 (fldD ["Core"] "steps") (dVar 0)) (mCons (m1 (fldD ["Core"] "points") (dVar 0)) mNil))) (mTup (mCons (m1 (fldD ["Core"] "steps") (dVar 1)) (mCons (m1 (fldD ["Core"] "points") (dVar 1)) mNil))))))
noncomputable def m_Core_eq : FD := fnD 2 2 b_Core_eq
theorem ok_Core_eq (T : Tx K mg cls ad fo) : FnOk P w K mg base CX0 1 (ad 1421) (fo 1421) ["self", "other"] (spD K cls 2 m_Core_eq) :=
  fn_okD (N := ["self", "other"]) (ps := ["self", "other"]) (body := b_Core_eq) T.F1421 sc_Core_eq (by decide) (fun cdv A outer s H E q ca sf cells hr => by
    have nd := sc_Core_eq.nd
    have hu64 := hu64_of hr
    have hu65 := hu65_of hr
    exact dss_one (ds_ret ((de_and (de_isi1 rfl (T.isa q ca cells sf) rfl T.n_isinstance (da_cons (de_var (pv 1)) (da_cons (de_cls (T.cl_Core).symm rfl T.g_Core) da_nil))) (de_one (de_cmp (op_eqD hu64) eq_d (de_tup (da_cons (de_fld rfl (T.f_steps q ca cells sf) (de_var (pv 0)) rfl) (da_cons (de_fld rfl (T.f_points q ca cells sf) (de_var (pv 0)) rfl) da_nil))) (de_tup (da_cons (de_fld rfl (T.f_steps q ca cells sf) (de_var (pv 1)) rfl) (da_cons (de_fld rfl (T.f_points q ca cells sf) (de_var (pv 1)) rfl) da_nil))) (nomark _)))))))
theorem sc_law : FnScope ["script", "pen", "many", "pairs", "space", "table", "lap", "answer", "bend", "made", "rows", "kept_v"] ["script"] (defScope (top 43)) := ⟨rfl, rfl, rfl, by decide +kernel, rfl, by decide +kernel, by decide +kernel⟩
noncomputable def b_law : SS := dSeq (dAsg (mCall m_law_some_space [] (mCons (dVar 1) (mCons (M.ret (.int 7)) mNil))) (bTup 2 (bCons (bNm 2) (bCons (bNm 3) bNil)))) (dSeq (dPar 4 5 (mCall m_Space_init [] (mCons (dVar 2) (mCons (dVar 3) mNil))) (mCall tableF [] (mCons (dVar 2) (mCons (dVar 3) mNil)))) (dSeq (dFor (mRange1 (M.ret (.int 9))) (bNm 6) (dSeq (dSet 7 (mCall m_law_way [] (mCons (dVar 1) (mCons (dVar 5) mNil)))) (dSeq (dFor (mRange1 (mCall m_law_pick [] (mCons (dVar 1) (mCons (mLst (mCons (M.ret (.int 0)) (mCons (M.ret (.int 1)) (mCons (M.ret (.int 1)) (mCons (M.ret (.int 2)) mNil))))) mNil)))) (bNm 8) (dSet 7 (mIf (mB (m2 eqD (m2 ixD (dVar 7) (M.ret (.int 0))) (M.ret (.str "other")))) (dVar 7) (mCall m_law_bent [] (mCons (dVar 1) (mCons (dVar 2) (mCons (dVar 7) mNil))))))) (dSeq (dSet 9 (mIf (mB (m2 eqD (m2 ixD (dVar 7) (M.ret (.int 0))) (M.ret (.str "other")))) (m2 ixD (dVar 7) (M.ret (.int 1))) (mCall m_Core_init [] (mCons (m2 ixD (dVar 7) (M.ret (.int 1))) (mCons (m2 ixD (dVar 7) (M.ret (.int 2))) mNil))))) (dSeq (dIf (mB (m2 neD (mCall m_core_fault [] (mCons (dVar 4) (mCons (dVar 9) mNil))) (mCall m_law_due [] (mCons (dVar 5) (mCons (dVar 7) mNil))))) (dRet (M.ret (.bl false))) (dNext)) (dIf ((mAnd (mB (m2 neD (m2 ixD (dVar 7) (M.ret (.int 0))) (M.ret (.str "other")))) (mB (m2M (eqM true "Core" m_Core_eq) (dVar 9) (mCall m_Core_init [] (mCons (m2 ixD (dVar 7) (M.ret (.int 1))) (mCons (m2 ixD (dVar 7) (M.ret (.int 2))) mNil))))))) (dRet (M.ret (.bl false))) (dNext))))))) (dSeq (dSetO 10 (mLst (mCons (mTup (mCons (M.ret (.int 0)) (mCons (M.ret (.int 1)) mNil))) mNil))) (dSeq (dSet 11 (mBor2 (mCall m_Core_init [] (mCons (dVar 10) (mCons (mLst (mCons (M.ret (.int 1)) mNil)) mNil))))) (dSeq (dExpr (mAppend 10 (mTup (mCons (M.ret (.int 1)) (mCons (M.ret (.int 0)) mNil))))) (dRet ((mAndV (m2M (eqM false "Core" m_Core_eq) (dVar 11) (mCall m_Core_init [] (mCons (mTup (mCons (mTup (mCons (M.ret (.int 0)) (mCons (M.ret (.int 1)) mNil))) mNil)) (mCons (mTup (mCons (M.ret (.int 1)) mNil)) mNil)))) (mAndV (m2M (eqM true "Core" m_Core_eq) (mCall m_Core_init [] (mCons (mTup mNil) (mCons (mTup (mCons (M.ret (.int 0)) mNil)) mNil))) (mCall m_Core_init [] (mCons (mTup mNil) (mCons (mTup (mCons (M.ret (.int 1)) mNil)) mNil)))) (m2M (eqM true "Core" m_Core_eq) (mCall m_Core_init [] (mCons (mTup (mCons (mTup (mCons (M.ret (.int 0)) (mCons (M.ret (.int 1)) mNil))) mNil)) (mCons (mTup mNil) mNil))) (mCall m_Core_init [] (mCons (mTup mNil) (mCons (mTup mNil) mNil)))))))))))))
end
end CS
namespace CS
open PySem L2
open PyProof.Rows (envOfC)
section
variable {P : Program} {w : World} {K : PySem.W.Frag} {mg : Str → Option Value} {base : Heap} {cls : Str → Addr} {ad : Nat → Addr} {fo : Nat → FuncData}
theorem walk_law (T : Tx K mg cls ad fo) {fa : Addr} (cdv : Value) (A : Around) (outer : List Env) (s : Shared) (H : Hp) (E : XK) (q ca sf : Addr) (cells : List Int) (hr : Room 16 (A.deeper (envOfC "law" (defScope (top 43)) s.heap.objs.size fa cdv))) : PSs (cxOf CX0 P w K mg base ["script", "pen", "many", "pairs", "space", "table", "lap", "answer", "bend", "made", "rows", "kept_v"] "law" (defScope (top 43)) fa cdv A outer s H E).nox (defBody (top 43)).tail (lS ⟨K, cls, q, ca, cells, sf⟩ b_law) := by
  have nd := sc_law.nd
  have hu64 := hu64_of hr
  have hu65 := hu65_of hr
  exact dss_cons (ds_asg (de_call rfl (ok_law_some_space T) fnD_len (hr.mono (by omega)) rfl T.g__law_some_space T.k37 T.b37 .nil (fun _ => .nil) pass0 (da_cons (de_var (pv 1)) (da_cons (de_int) da_nil))) (dg_tup rfl rfl (dgs_cons (dg_name (i := 2) nd rfl (by first | exact .inl rfl | exact .inr rfl)) (dgs_cons (dg_name (i := 3) nd rfl (by first | exact .inl rfl | exact .inr rfl)) dgs_nil)))) (dss_cons (ds_par (i := 4) (j := 5) rfl nd rfl rfl (by decide) rfl rfl (de_make rfl (T.cl_Space).symm T.m_Space (ok_Space_init T) initD_len (hr.mono (by decide)) rfl T.g_Space T.b1300 .nil (fun _ => .nil) pass0 (da_cons (de_var (pv 2)) (da_cons (de_var (pv 3)) da_nil))) (de_call rfl (okT_table T) tableF_len (hr.mono (by omega)) rfl T.g__law_table T.k34 T.b34 .nil (fun _ => .nil) pass0 (da_cons (de_var (pv 2)) (da_cons (de_var (pv 3)) da_nil))) rfl) (dss_cons (ds_for PassesOwn.never rfl (di_range1 rfl T.n_range (de_int)) (dg_name (i := 6) nd rfl (by first | exact .inl rfl | exact .inr rfl)) (dss_cons (ds_set (i := 7) nd rfl (by first | exact .inl rfl | exact .inr rfl) (de_call rfl (ok_law_way T) fnD_len (hr.mono (by omega)) rfl T.g__law_way T.k41 T.b41 .nil (fun _ => .nil) pass0 (da_cons (de_var (pv 1)) (da_cons (de_var (pv 5)) da_nil)))) (dss_cons (ds_for PassesOwn.never rfl (di_range1 rfl T.n_range (de_call rfl (ok_law_pick T) fnD_len (hr.mono (by omega)) rfl T.g__law_pick T.k32 T.b32 .nil (fun _ => .nil) pass0 (da_cons (de_var (pv 1)) (da_cons (de_lst (da_cons (de_int) (da_cons (de_int) (da_cons (de_int) (da_cons (de_int) da_nil))))) da_nil)))) (dg_name (i := 8) nd rfl (by first | exact .inl rfl | exact .inr rfl)) (dss_one (ds_set (i := 7) nd rfl (by first | exact .inl rfl | exact .inr rfl) (de_ifExp (dt_cmp (op_eqD hu64) eq_d (de_ix (de_var (pv 7)) (de_int) rfl (fun _ _ => rfl)) (de_str) (nomark _)) (de_var (pv 7)) (de_call rfl (ok_law_bent T) fnD_len (hr.mono (by omega)) rfl T.g__law_bent T.k42 T.b42 .nil (fun _ => .nil) pass0 (da_cons (de_var (pv 1)) (da_cons (de_var (pv 2)) (da_cons (de_var (pv 7)) da_nil)))))))) (dss_cons (ds_set (i := 9) nd rfl (by first | exact .inl rfl | exact .inr rfl) (de_ifExp (dt_cmp (op_eqD hu64) eq_d (de_ix (de_var (pv 7)) (de_int) rfl (fun _ _ => rfl)) (de_str) (nomark _)) (de_ix (de_var (pv 7)) (de_int) rfl (fun _ _ => rfl)) (de_make rfl (T.cl_Core).symm T.m_Core (ok_Core_init T) initD_len (hr.mono (by decide)) rfl T.g_Core T.b1420 .nil (fun _ => .nil) pass0 (da_cons (de_ix (de_var (pv 7)) (de_int) rfl (fun _ _ => rfl)) (da_cons (de_ix (de_var (pv 7)) (de_int) rfl (fun _ _ => rfl)) da_nil))))) (dss_cons (ds_if (dt_cmp (op_neD hu64) ne_d (de_call rfl (ok_core_fault T) fnD_len (hr.mono (by omega)) rfl T.g_core_fault T.k28 T.b28 .nil (fun _ => .nil) pass0 (da_cons (de_var (pv 4)) (da_cons (de_var (pv 9)) da_nil))) (de_call rfl (ok_law_due T) fnD_len (hr.mono (by omega)) rfl T.g__law_due T.k40 T.b40 .nil (fun _ => .nil) pass0 (da_cons (de_var (pv 5)) (da_cons (de_var (pv 7)) da_nil))) (nomark _)) (dss_one (ds_ret (de_bl))) (dss_nil)) (dss_one (ds_if (dt_bool (dw_and (dt_cmp (op_neD hu64) ne_d (de_ix (de_var (pv 7)) (de_int) rfl (fun _ _ => rfl)) (de_str) (nomark _)) (dw_and1 (dt_cmpM (((op_neD hu64)).or (op_neO T.eq_Core (ok_Core_eq T) (hr.mono (by decide)) T.b1421 pass0)) (by have h := @eqM_d ⟨K, cls, q, ca, cells, sf⟩ true "Core" m_Core_eq fnD_len; rw [show RC.cls _ "Core" = _ from T.cl_Core] at h; exact h) (de_var (pv 9)) (de_make rfl (T.cl_Core).symm T.m_Core (ok_Core_init T) initD_len (hr.mono (by decide)) rfl T.g_Core T.b1420 .nil (fun _ => .nil) pass0 (da_cons (de_ix (de_var (pv 7)) (de_int) rfl (fun _ _ => rfl)) (da_cons (de_ix (de_var (pv 7)) (de_int) rfl (fun _ _ => rfl)) da_nil))) (nomark _))))) (dss_one (ds_ret (de_bl))) (dss_nil)))))))) (dss_cons (ds_setO (i := 10) nd rfl (by first | exact .inl rfl | exact .inr rfl) (df_lst (da_cons (de_tup (da_cons (de_int) (da_cons (de_int) da_nil))) da_nil))) (dss_cons (ds_set (i := 11) nd rfl (by first | exact .inl rfl | exact .inr rfl) (de_bor2 (de_make rfl (T.cl_Core).symm T.m_Core (ok_Core_init T) initD_len (hr.mono (by decide)) rfl T.g_Core T.b1420 .nil (fun _ => .nil) pass0 (da_cons (de_var (pv 10)) (da_cons (de_lst (da_cons (de_int) da_nil)) da_nil))))) (dss_cons (ds_expr (de_append (pv 10) (de_tup (da_cons (de_int) (da_cons (de_int) da_nil))))) (dss_one (ds_ret ((de_and (de_cmpM (((op_eqD hu64)).or (op_eqO T.eq_Core (ok_Core_eq T) (hr.mono (by decide)) T.b1421 pass0)) (by have h := @eqM_d ⟨K, cls, q, ca, cells, sf⟩ false "Core" m_Core_eq fnD_len; rw [show RC.cls _ "Core" = _ from T.cl_Core] at h; exact h) (de_var (pv 11)) (de_make rfl (T.cl_Core).symm T.m_Core (ok_Core_init T) initD_len (hr.mono (by decide)) rfl T.g_Core T.b1420 .nil (fun _ => .nil) pass0 (da_cons (de_tup (da_cons (de_tup (da_cons (de_int) (da_cons (de_int) da_nil))) da_nil)) (da_cons (de_tup (da_cons (de_int) da_nil)) da_nil))) (nomark _)) (de_and (de_cmpM (((op_neD hu64)).or (op_neO T.eq_Core (ok_Core_eq T) (hr.mono (by decide)) T.b1421 pass0)) (by have h := @eqM_d ⟨K, cls, q, ca, cells, sf⟩ true "Core" m_Core_eq fnD_len; rw [show RC.cls _ "Core" = _ from T.cl_Core] at h; exact h) (de_make rfl (T.cl_Core).symm T.m_Core (ok_Core_init T) initD_len (hr.mono (by decide)) rfl T.g_Core T.b1420 .nil (fun _ => .nil) pass0 (da_cons (de_tup da_nil) (da_cons (de_tup (da_cons (de_int) da_nil)) da_nil))) (de_make rfl (T.cl_Core).symm T.m_Core (ok_Core_init T) initD_len (hr.mono (by decide)) rfl T.g_Core T.b1420 .nil (fun _ => .nil) pass0 (da_cons (de_tup da_nil) (da_cons (de_tup (da_cons (de_int) da_nil)) da_nil))) (nomark _)) (de_one (de_cmpM (((op_neD hu64)).or (op_neO T.eq_Core (ok_Core_eq T) (hr.mono (by decide)) T.b1421 pass0)) (by have h := @eqM_d ⟨K, cls, q, ca, cells, sf⟩ true "Core" m_Core_eq fnD_len; rw [show RC.cls _ "Core" = _ from T.cl_Core] at h; exact h) (de_make rfl (T.cl_Core).symm T.m_Core (ok_Core_init T) initD_len (hr.mono (by decide)) rfl T.g_Core T.b1420 .nil (fun _ => .nil) pass0 (da_cons (de_tup (da_cons (de_tup (da_cons (de_int) (da_cons (de_int) da_nil))) da_nil)) (da_cons (de_tup da_nil) da_nil))) (de_make rfl (T.cl_Core).symm T.m_Core (ok_Core_init T) initD_len (hr.mono (by decide)) rfl T.g_Core T.b1420 .nil (fun _ => .nil) pass0 (da_cons (de_tup da_nil) (da_cons (de_tup da_nil) da_nil))) (nomark _)))))))))))))
theorem ok_law (T : Tx K mg cls ad fo) {fa : Addr} {fd : FuncData} (F : FunG K "law" "law" (top 43) fa fd) (hm : ∀ ns : List Int, ns.length ≤ 63 → ∃ p', b_law (.un :: .pl .pen :: List.replicate 10 .un) (some (pen0 ns)) = .rt (.bl true) p') : FnOk P w K mg base CX0 17 fa fd ["script"] (spLaw K) := by
  refine F.ok sc_law (fun vs H Q E h => ?_) (fun cdv A outer s H vs Q E hr h => ?_)
  · obtain ⟨a, ns, rfl, _⟩ := h
    rfl
  · obtain ⟨a, ns, rfl, hS, hlen, k⟩ := h
    obtain ⟨p', hb⟩ := hm ns hlen
    refine ⟨_, pss_cons (ps_set (i := 1) sc_law.nd rfl (by first | exact .inl rfl | exact .inr rfl) (pe_call (okT_pen T) (hr.mono (by decide)) rfl T.g__law_pen T.k30 T.b30 .nil pass0 (pa_cons (pv 0) pa_nil)) (hf := by first | exact .inl rfl | exact .inr rfl)) (PSs.ex fun (x : Addr × Addr) => walk_law (cls := cls) (ad := ad) (fo := fo) T cdv A outer s H E x.1 x.2 x.1 ns hr), ?_⟩
    refine ⟨_, rfl, a, ns, rfl, hS, hlen, fun q ca H' hq hca hne h1 h2 hk => ⟨(q, ca), ⟨hid H' q, H', true⟩, _, some (pen0 ns), hid H' q, SRel.law (n := 10) h1 h2 hne rfl rfl rfl, ?_⟩⟩
    rw [hb]
    intro v env' σ' F' H'' _ _ r
    simp only [Rep] at r
    subst r
    exact k H''
theorem kit_same {C : Addr} : PySem.W.kitOne K (.ref C) (.ref C) = some true := by
  unfold PySem.W.kitOne
  rw [if_pos (by simp)]
theorem kit_tu {T : String} {C : Addr} (h1 : PySem.W.kitMeta T = true) (h3 : PySem.W.subIn K (.ref C) (.type T) = some false) : PySem.W.kitOne K (.ref C) (.type T) = some false := by
  have e : (Value.ref C == Value.type T) = false := by rfl
  unfold PySem.W.kitOne PySem.W.kitCls
  rw [e]
  show (if PySem.W.kitMeta T = true then PySem.W.subIn K (Value.ref C) (Value.type T) else none) = some false
  rw [h1, h3]
  rfl
theorem kit_rr {C C2 : Addr} {cc : ClassData} (h0 : (Value.ref C == Value.ref C2) = false) (h1 : PySem.W.clsIn K C2 = some cc) (h2 : PySem.W.typeIn K (.ref C2) = some (.type "type")) (h3 : PySem.W.subIn K (.ref C) (.ref C2) = some false) : PySem.W.kitOne K (.ref C) (.ref C2) = some false := by
  unfold PySem.W.kitOne PySem.W.kitCls
  rw [h0]
  show (if ((PySem.W.clsIn K C2).isSome && PySem.W.typeIn K (Value.ref C2) == some (Value.type "type")) = true then PySem.W.subIn K (Value.ref C) (Value.ref C2) else none) = some false
  rw [h1, h2, h3]
  rfl
theorem kit_ty {T : String} {C : Addr} {cc : ClassData} (h1 : PySem.W.clsIn K C = some cc) (h2 : PySem.W.typeIn K (.ref C) = some (.type "type")) (h3 : PySem.W.subIn K (.type T) (.ref C) = some false) : PySem.W.kitOne K (.type T) (.ref C) = some false := by
  have e : (Value.type T == Value.ref C) = false := by rfl
  unfold PySem.W.kitOne PySem.W.kitCls
  rw [e]
  show (if ((PySem.W.clsIn K C).isSome && PySem.W.typeIn K (Value.ref C) == some (Value.type "type")) = true then PySem.W.subIn K (Value.type T) (Value.ref C) else none) = some false
  rw [h1, h2, h3]
  rfl
end
def pickN {α : Type} : List (Nat × α) → α → Nat → α
  | [], d, _ => d
  | (k, x) :: r, d, n => cond (Nat.beq n k) x (pickN r d n)
def pickS : List (Str × Addr) → Str → Addr
  | [], _ => 0
  | (k, x) :: r, c => if c = k then x else pickS r c
theorem all_mk {l : PySem.W.OpenLaw} {w : World} {K : PySem.W.Frag} {h : Heap} {mg : Str → Option Value} {fa : Addr} (X : K.In h) (G : h.Ns mainGlobals mg) (hfa : mg "law" = some (.ref fa))
    {f15 f21 f30 f31 f32 f36 f33 f35 f37 f1 f2 f12 f13 f14 f1300 t1300 f34 f38 f41 f42 f3 f1420 f16 f17 f18 f19 f22 f23 f24 f26 f25 f27 f28 f39 f40 f1421 f43 : Addr}
    {od30 an30 : Option Addr} {sl30 : Array (Option Value)} {oc30 kV30 dc30 pm30 cd30 ct30 : Value}
    {od31 an31 : Option Addr} {sl31 : Array (Option Value)} {oc31 kV31 dc31 pm31 cd31 ct31 : Value}
    {od32 an32 : Option Addr} {sl32 : Array (Option Value)} {oc32 kV32 dc32 pm32 cd32 ct32 : Value}
    {od36 an36 : Option Addr} {sl36 : Array (Option Value)} {oc36 kV36 dc36 pm36 cd36 ct36 : Value}
    {od33 an33 : Option Addr} {sl33 : Array (Option Value)} {oc33 kV33 dc33 pm33 cd33 ct33 : Value}
    {od35 an35 : Option Addr} {sl35 : Array (Option Value)} {oc35 kV35 dc35 pm35 cd35 ct35 : Value}
    {od37 an37 : Option Addr} {sl37 : Array (Option Value)} {oc37 kV37 dc37 pm37 cd37 ct37 : Value}
    {od1 an1 : Option Addr} {sl1 : Array (Option Value)} {oc1 kV1 dc1 pm1 cd1 ct1 : Value}
    {od2 an2 : Option Addr} {sl2 : Array (Option Value)} {oc2 kV2 dc2 pm2 cd2 ct2 : Value}
    {od12 an12 : Option Addr} {sl12 : Array (Option Value)} {oc12 kV12 dc12 pm12 cd12 ct12 : Value}
    {od13 an13 : Option Addr} {sl13 : Array (Option Value)} {oc13 kV13 dc13 pm13 cd13 ct13 : Value}
    {od14 an14 : Option Addr} {sl14 : Array (Option Value)} {oc14 kV14 dc14 pm14 cd14 ct14 : Value}
    {od1300 an1300 : Option Addr} {sl1300 : Array (Option Value)} {oc1300 kV1300 dc1300 pm1300 cd1300 ct1300 : Value}
    {tod1300 : Option Addr} {tsl1300 : Array (Option Value)} {toc1300 : Value} {tn1300 : Nat} {u1300_0 : Value}
    {od34 an34 : Option Addr} {sl34 : Array (Option Value)} {oc34 kV34 dc34 pm34 cd34 ct34 : Value}
    {od38 an38 : Option Addr} {sl38 : Array (Option Value)} {oc38 kV38 dc38 pm38 cd38 ct38 : Value}
    {od41 an41 : Option Addr} {sl41 : Array (Option Value)} {oc41 kV41 dc41 pm41 cd41 ct41 : Value}
    {od42 an42 : Option Addr} {sl42 : Array (Option Value)} {oc42 kV42 dc42 pm42 cd42 ct42 : Value}
    {od3 an3 : Option Addr} {sl3 : Array (Option Value)} {oc3 kV3 dc3 pm3 cd3 ct3 : Value}
    {od1420 an1420 : Option Addr} {sl1420 : Array (Option Value)} {oc1420 kV1420 dc1420 pm1420 cd1420 ct1420 : Value}
    {od16 an16 : Option Addr} {sl16 : Array (Option Value)} {oc16 kV16 dc16 pm16 cd16 ct16 : Value}
    {od17 an17 : Option Addr} {sl17 : Array (Option Value)} {oc17 kV17 dc17 pm17 cd17 ct17 : Value}
    {od18 an18 : Option Addr} {sl18 : Array (Option Value)} {oc18 kV18 dc18 pm18 cd18 ct18 : Value}
    {od19 an19 : Option Addr} {sl19 : Array (Option Value)} {oc19 kV19 dc19 pm19 cd19 ct19 : Value}
    {od22 an22 : Option Addr} {sl22 : Array (Option Value)} {oc22 kV22 dc22 pm22 cd22 ct22 : Value}
    {od23 an23 : Option Addr} {sl23 : Array (Option Value)} {oc23 kV23 dc23 pm23 cd23 ct23 : Value}
    {od24 an24 : Option Addr} {sl24 : Array (Option Value)} {oc24 kV24 dc24 pm24 cd24 ct24 : Value}
    {od26 an26 : Option Addr} {sl26 : Array (Option Value)} {oc26 kV26 dc26 pm26 cd26 ct26 : Value}
    {od25 an25 : Option Addr} {sl25 : Array (Option Value)} {oc25 kV25 dc25 pm25 cd25 ct25 : Value}
    {od27 an27 : Option Addr} {sl27 : Array (Option Value)} {oc27 kV27 dc27 pm27 cd27 ct27 : Value}
    {od28 an28 : Option Addr} {sl28 : Array (Option Value)} {oc28 kV28 dc28 pm28 cd28 ct28 : Value}
    {od39 an39 : Option Addr} {sl39 : Array (Option Value)} {oc39 kV39 dc39 pm39 cd39 ct39 : Value}
    {od40 an40 : Option Addr} {sl40 : Array (Option Value)} {oc40 kV40 dc40 pm40 cd40 ct40 : Value}
    {od1421 an1421 : Option Addr} {sl1421 : Array (Option Value)} {oc1421 kV1421 dc1421 pm1421 cd1421 ct1421 : Value}
    {od43 an43 : Option Addr} {sl43 : Array (Option Value)} {oc43 kV43 dc43 pm43 cd43 ct43 : Value}
    {cc15 : ClassData}
    {cc21 : ClassData}
    {tk_MOST_POINTS : Tok}
    (a15 : PySem.W.nsIn K mainGlobals "Space" = some (some (.ref f15)))
    (a21 : PySem.W.nsIn K mainGlobals "Core" = some (some (.ref f21)))
    (a30 : PySem.W.nsIn K mainGlobals "_law_pen" = some (some (.ref f30)))
    (l30 : K.lookup f30 = some ⟨oc30, od30, .func (PySem.W.fnOf "_law_pen" "_law_pen" (defArgs (top 30)) (defBody (top 30)) (defScope (top 30)) .none kV30 dc30 pm30 an30 cd30 ct30), sl30⟩)
    (c30 : PySem.W.codeIn K cd30 "_law_pen" = true)
    (k30 : PySem.W.keepIn K (.ref f30) = true)
    (a31 : PySem.W.nsIn K mainGlobals "_law_draw" = some (some (.ref f31)))
    (l31 : K.lookup f31 = some ⟨oc31, od31, .func (PySem.W.fnOf "_law_draw" "_law_draw" (defArgs (top 31)) (defBody (top 31)) (defScope (top 31)) .none kV31 dc31 pm31 an31 cd31 ct31), sl31⟩)
    (c31 : PySem.W.codeIn K cd31 "_law_draw" = true)
    (k31 : PySem.W.keepIn K (.ref f31) = true)
    (a32 : PySem.W.nsIn K mainGlobals "_law_pick" = some (some (.ref f32)))
    (l32 : K.lookup f32 = some ⟨oc32, od32, .func (PySem.W.fnOf "_law_pick" "_law_pick" (defArgs (top 32)) (defBody (top 32)) (defScope (top 32)) .none kV32 dc32 pm32 an32 cd32 ct32), sl32⟩)
    (c32 : PySem.W.codeIn K cd32 "_law_pick" = true)
    (k32 : PySem.W.keepIn K (.ref f32) = true)
    (a36 : PySem.W.nsIn K mainGlobals "_law_known" = some (some (.ref f36)))
    (l36 : K.lookup f36 = some ⟨oc36, od36, .func (PySem.W.fnOf "_law_known" "_law_known" (defArgs (top 36)) (defBody (top 36)) (defScope (top 36)) .none kV36 dc36 pm36 an36 cd36 ct36), sl36⟩)
    (c36 : PySem.W.codeIn K cd36 "_law_known" = true)
    (k36 : PySem.W.keepIn K (.ref f36) = true)
    (a33 : PySem.W.nsIn K mainGlobals "_law_shuffled" = some (some (.ref f33)))
    (l33 : K.lookup f33 = some ⟨oc33, od33, .func (PySem.W.fnOf "_law_shuffled" "_law_shuffled" (defArgs (top 33)) (defBody (top 33)) (defScope (top 33)) .none kV33 dc33 pm33 an33 cd33 ct33), sl33⟩)
    (c33 : PySem.W.codeIn K cd33 "_law_shuffled" = true)
    (k33 : PySem.W.keepIn K (.ref f33) = true)
    (a35 : PySem.W.nsIn K mainGlobals "_law_some_pairs" = some (some (.ref f35)))
    (l35 : K.lookup f35 = some ⟨oc35, od35, .func (PySem.W.fnOf "_law_some_pairs" "_law_some_pairs" (defArgs (top 35)) (defBody (top 35)) (defScope (top 35)) .none kV35 dc35 pm35 an35 cd35 ct35), sl35⟩)
    (c35 : PySem.W.codeIn K cd35 "_law_some_pairs" = true)
    (k35 : PySem.W.keepIn K (.ref f35) = true)
    (a37 : PySem.W.nsIn K mainGlobals "_law_some_space" = some (some (.ref f37)))
    (l37 : K.lookup f37 = some ⟨oc37, od37, .func (PySem.W.fnOf "_law_some_space" "_law_some_space" (defArgs (top 37)) (defBody (top 37)) (defScope (top 37)) .none kV37 dc37 pm37 an37 cd37 ct37), sl37⟩)
    (c37 : PySem.W.codeIn K cd37 "_law_some_space" = true)
    (k37 : PySem.W.keepIn K (.ref f37) = true)
    (a1 : PySem.W.nsIn K mainGlobals "is_integer" = some (some (.ref f1)))
    (l1 : K.lookup f1 = some ⟨oc1, od1, .func (PySem.W.fnOf "is_integer" "is_integer" (defArgs (top 1)) (defBody (top 1)) (defScope (top 1)) .none kV1 dc1 pm1 an1 cd1 ct1), sl1⟩)
    (c1 : PySem.W.codeIn K cd1 "is_integer" = true)
    (k1 : PySem.W.keepIn K (.ref f1) = true)
    (a2 : PySem.W.nsIn K mainGlobals "is_row" = some (some (.ref f2)))
    (l2 : K.lookup f2 = some ⟨oc2, od2, .func (PySem.W.fnOf "is_row" "is_row" (defArgs (top 2)) (defBody (top 2)) (defScope (top 2)) .none kV2 dc2 pm2 an2 cd2 ct2), sl2⟩)
    (c2 : PySem.W.codeIn K cd2 "is_row" = true)
    (k2 : PySem.W.keepIn K (.ref f2) = true)
    (a12 : PySem.W.nsIn K mainGlobals "is_point_of" = some (some (.ref f12)))
    (l12 : K.lookup f12 = some ⟨oc12, od12, .func (PySem.W.fnOf "is_point_of" "is_point_of" (defArgs (top 12)) (defBody (top 12)) (defScope (top 12)) .none kV12 dc12 pm12 an12 cd12 ct12), sl12⟩)
    (c12 : PySem.W.codeIn K cd12 "is_point_of" = true)
    (k12 : PySem.W.keepIn K (.ref f12) = true)
    (a13 : PySem.W.nsIn K mainGlobals "is_pair_of" = some (some (.ref f13)))
    (l13 : K.lookup f13 = some ⟨oc13, od13, .func (PySem.W.fnOf "is_pair_of" "is_pair_of" (defArgs (top 13)) (defBody (top 13)) (defScope (top 13)) .none kV13 dc13 pm13 an13 cd13 ct13), sl13⟩)
    (c13 : PySem.W.codeIn K cd13 "is_pair_of" = true)
    (k13 : PySem.W.keepIn K (.ref f13) = true)
    (a14 : PySem.W.nsIn K mainGlobals "led_on" = some (some (.ref f14)))
    (l14 : K.lookup f14 = some ⟨oc14, od14, .func (PySem.W.fnOf "led_on" "led_on" (defArgs (top 14)) (defBody (top 14)) (defScope (top 14)) .none kV14 dc14 pm14 an14 cd14 ct14), sl14⟩)
    (c14 : PySem.W.codeIn K cd14 "led_on" = true)
    (k14 : PySem.W.keepIn K (.ref f14) = true)
    (a1300 : PySem.W.findIn K (.ref f15) "__init__" = some (some (.ref f1300)))
    (i1300 : PySem.W.isFn K (.ref f1300) = true)
    (l1300 : K.lookup f1300 = some ⟨oc1300, od1300, .func (PySem.W.fnOf "__init__" "Space.__init__" (defArgs (inClass (top 15) 0)) (defBody (inClass (top 15) 0)) (defScope (inClass (top 15) 0)) (.ref t1300) kV1300 dc1300 pm1300 an1300 cd1300 ct1300), sl1300⟩)
    (c1300 : PySem.W.codeIn K cd1300 "Space.__init__" = true)
    (k1300 : PySem.W.keepIn K (.ref f1300) = true)
    (t1300l : K.lookup t1300 = some ⟨toc1300, tod1300, .seq #[u1300_0] tn1300, tsl1300⟩)
    (a34 : PySem.W.nsIn K mainGlobals "_law_table" = some (some (.ref f34)))
    (l34 : K.lookup f34 = some ⟨oc34, od34, .func (PySem.W.fnOf "_law_table" "_law_table" (defArgs (top 34)) (defBody (top 34)) (defScope (top 34)) .none kV34 dc34 pm34 an34 cd34 ct34), sl34⟩)
    (c34 : PySem.W.codeIn K cd34 "_law_table" = true)
    (k34 : PySem.W.keepIn K (.ref f34) = true)
    (a38 : PySem.W.nsIn K mainGlobals "_law_beats" = some (some (.ref f38)))
    (l38 : K.lookup f38 = some ⟨oc38, od38, .func (PySem.W.fnOf "_law_beats" "_law_beats" (defArgs (top 38)) (defBody (top 38)) (defScope (top 38)) .none kV38 dc38 pm38 an38 cd38 ct38), sl38⟩)
    (c38 : PySem.W.codeIn K cd38 "_law_beats" = true)
    (k38 : PySem.W.keepIn K (.ref f38) = true)
    (a41 : PySem.W.nsIn K mainGlobals "_law_way" = some (some (.ref f41)))
    (l41 : K.lookup f41 = some ⟨oc41, od41, .func (PySem.W.fnOf "_law_way" "_law_way" (defArgs (top 41)) (defBody (top 41)) (defScope (top 41)) .none kV41 dc41 pm41 an41 cd41 ct41), sl41⟩)
    (c41 : PySem.W.codeIn K cd41 "_law_way" = true)
    (k41 : PySem.W.keepIn K (.ref f41) = true)
    (a42 : PySem.W.nsIn K mainGlobals "_law_bent" = some (some (.ref f42)))
    (l42 : K.lookup f42 = some ⟨oc42, od42, .func (PySem.W.fnOf "_law_bent" "_law_bent" (defArgs (top 42)) (defBody (top 42)) (defScope (top 42)) .none kV42 dc42 pm42 an42 cd42 ct42), sl42⟩)
    (c42 : PySem.W.codeIn K cd42 "_law_bent" = true)
    (k42 : PySem.W.keepIn K (.ref f42) = true)
    (a3 : PySem.W.nsIn K mainGlobals "kept" = some (some (.ref f3)))
    (l3 : K.lookup f3 = some ⟨oc3, od3, .func (PySem.W.fnOf "kept" "kept" (defArgs (top 3)) (defBody (top 3)) (defScope (top 3)) .none kV3 dc3 pm3 an3 cd3 ct3), sl3⟩)
    (c3 : PySem.W.codeIn K cd3 "kept" = true)
    (k3 : PySem.W.keepIn K (.ref f3) = true)
    (a1420 : PySem.W.findIn K (.ref f21) "__init__" = some (some (.ref f1420)))
    (i1420 : PySem.W.isFn K (.ref f1420) = true)
    (l1420 : K.lookup f1420 = some ⟨oc1420, od1420, .func (PySem.W.fnOf "__init__" "Core.__init__" (defArgs (inClass (top 21) 0)) (defBody (inClass (top 21) 0)) (defScope (inClass (top 21) 0)) .none kV1420 dc1420 pm1420 an1420 cd1420 ct1420), sl1420⟩)
    (c1420 : PySem.W.codeIn K cd1420 "Core.__init__" = true)
    (k1420 : PySem.W.keepIn K (.ref f1420) = true)
    (a16 : PySem.W.nsIn K mainGlobals "need_space" = some (some (.ref f16)))
    (l16 : K.lookup f16 = some ⟨oc16, od16, .func (PySem.W.fnOf "need_space" "need_space" (defArgs (top 16)) (defBody (top 16)) (defScope (top 16)) .none kV16 dc16 pm16 an16 cd16 ct16), sl16⟩)
    (c16 : PySem.W.codeIn K cd16 "need_space" = true)
    (k16 : PySem.W.keepIn K (.ref f16) = true)
    (a17 : PySem.W.nsIn K mainGlobals "all_pairs" = some (some (.ref f17)))
    (l17 : K.lookup f17 = some ⟨oc17, od17, .func (PySem.W.fnOf "all_pairs" "all_pairs" (defArgs (top 17)) (defBody (top 17)) (defScope (top 17)) .none kV17 dc17 pm17 an17 cd17 ct17), sl17⟩)
    (c17 : PySem.W.codeIn K cd17 "all_pairs" = true)
    (k17 : PySem.W.keepIn K (.ref f17) = true)
    (a18 : PySem.W.nsIn K mainGlobals "parts_points" = some (some (.ref f18)))
    (l18 : K.lookup f18 = some ⟨oc18, od18, .func (PySem.W.fnOf "parts_points" "parts_points" (defArgs (top 18)) (defBody (top 18)) (defScope (top 18)) .none kV18 dc18 pm18 an18 cd18 ct18), sl18⟩)
    (c18 : PySem.W.codeIn K cd18 "parts_points" = true)
    (k18 : PySem.W.keepIn K (.ref f18) = true)
    (a19 : PySem.W.nsIn K mainGlobals "need_parted" = some (some (.ref f19)))
    (l19 : K.lookup f19 = some ⟨oc19, od19, .func (PySem.W.fnOf "need_parted" "need_parted" (defArgs (top 19)) (defBody (top 19)) (defScope (top 19)) .none kV19 dc19 pm19 an19 cd19 ct19), sl19⟩)
    (c19 : PySem.W.codeIn K cd19 "need_parted" = true)
    (k19 : PySem.W.keepIn K (.ref f19) = true)
    (a22 : PySem.W.nsIn K mainGlobals "greatest_in" = some (some (.ref f22)))
    (l22 : K.lookup f22 = some ⟨oc22, od22, .func (PySem.W.fnOf "greatest_in" "greatest_in" (defArgs (top 22)) (defBody (top 22)) (defScope (top 22)) .none kV22 dc22 pm22 an22 cd22 ct22), sl22⟩)
    (c22 : PySem.W.codeIn K cd22 "greatest_in" = true)
    (k22 : PySem.W.keepIn K (.ref f22) = true)
    (a23 : PySem.W.nsIn K mainGlobals "least_in" = some (some (.ref f23)))
    (l23 : K.lookup f23 = some ⟨oc23, od23, .func (PySem.W.fnOf "least_in" "least_in" (defArgs (top 23)) (defBody (top 23)) (defScope (top 23)) .none kV23 dc23 pm23 an23 cd23 ct23), sl23⟩)
    (c23 : PySem.W.codeIn K cd23 "least_in" = true)
    (k23 : PySem.W.keepIn K (.ref f23) = true)
    (a24 : PySem.W.nsIn K mainGlobals "partners" = some (some (.ref f24)))
    (l24 : K.lookup f24 = some ⟨oc24, od24, .func (PySem.W.fnOf "partners" "partners" (defArgs (top 24)) (defBody (top 24)) (defScope (top 24)) .none kV24 dc24 pm24 an24 cd24 ct24), sl24⟩)
    (c24 : PySem.W.codeIn K cd24 "partners" = true)
    (k24 : PySem.W.keepIn K (.ref f24) = true)
    (a26 : PySem.W.nsIn K mainGlobals "steps_fault" = some (some (.ref f26)))
    (l26 : K.lookup f26 = some ⟨oc26, od26, .func (PySem.W.fnOf "steps_fault" "steps_fault" (defArgs (top 26)) (defBody (top 26)) (defScope (top 26)) .none kV26 dc26 pm26 an26 cd26 ct26), sl26⟩)
    (c26 : PySem.W.codeIn K cd26 "steps_fault" = true)
    (k26 : PySem.W.keepIn K (.ref f26) = true)
    (a25 : PySem.W.nsIn K mainGlobals "all_beats" = some (some (.ref f25)))
    (l25 : K.lookup f25 = some ⟨oc25, od25, .func (PySem.W.fnOf "all_beats" "all_beats" (defArgs (top 25)) (defBody (top 25)) (defScope (top 25)) .none kV25 dc25 pm25 an25 cd25 ct25), sl25⟩)
    (c25 : PySem.W.codeIn K cd25 "all_beats" = true)
    (k25 : PySem.W.keepIn K (.ref f25) = true)
    (a27 : PySem.W.nsIn K mainGlobals "right_core_fault" = some (some (.ref f27)))
    (l27 : K.lookup f27 = some ⟨oc27, od27, .func (PySem.W.fnOf "right_core_fault" "right_core_fault" (defArgs (top 27)) (defBody (top 27)) (defScope (top 27)) .none kV27 dc27 pm27 an27 cd27 ct27), sl27⟩)
    (c27 : PySem.W.codeIn K cd27 "right_core_fault" = true)
    (k27 : PySem.W.keepIn K (.ref f27) = true)
    (a28 : PySem.W.nsIn K mainGlobals "core_fault" = some (some (.ref f28)))
    (l28 : K.lookup f28 = some ⟨oc28, od28, .func (PySem.W.fnOf "core_fault" "core_fault" (defArgs (top 28)) (defBody (top 28)) (defScope (top 28)) .none kV28 dc28 pm28 an28 cd28 ct28), sl28⟩)
    (c28 : PySem.W.codeIn K cd28 "core_fault" = true)
    (k28 : PySem.W.keepIn K (.ref f28) = true)
    (a39 : PySem.W.nsIn K mainGlobals "_law_is_pair" = some (some (.ref f39)))
    (l39 : K.lookup f39 = some ⟨oc39, od39, .func (PySem.W.fnOf "_law_is_pair" "_law_is_pair" (defArgs (top 39)) (defBody (top 39)) (defScope (top 39)) .none kV39 dc39 pm39 an39 cd39 ct39), sl39⟩)
    (c39 : PySem.W.codeIn K cd39 "_law_is_pair" = true)
    (k39 : PySem.W.keepIn K (.ref f39) = true)
    (a40 : PySem.W.nsIn K mainGlobals "_law_due" = some (some (.ref f40)))
    (l40 : K.lookup f40 = some ⟨oc40, od40, .func (PySem.W.fnOf "_law_due" "_law_due" (defArgs (top 40)) (defBody (top 40)) (defScope (top 40)) .none kV40 dc40 pm40 an40 cd40 ct40), sl40⟩)
    (c40 : PySem.W.codeIn K cd40 "_law_due" = true)
    (k40 : PySem.W.keepIn K (.ref f40) = true)
    (a1421 : PySem.W.findIn K (.ref f21) "__eq__" = some (some (.ref f1421)))
    (i1421 : PySem.W.isFn K (.ref f1421) = true)
    (l1421 : K.lookup f1421 = some ⟨oc1421, od1421, .func (PySem.W.fnOf "__eq__" "Core.__eq__" (defArgs (inClass (top 21) 1)) (defBody (inClass (top 21) 1)) (defScope (inClass (top 21) 1)) .none kV1421 dc1421 pm1421 an1421 cd1421 ct1421), sl1421⟩)
    (c1421 : PySem.W.codeIn K cd1421 "Core.__eq__" = true)
    (k1421 : PySem.W.keepIn K (.ref f1421) = true)
    (a43 : PySem.W.nsIn K mainGlobals "law" = some (some (.ref f43)))
    (l43 : K.lookup f43 = some ⟨oc43, od43, .func (PySem.W.fnOf "law" "law" (defArgs (top 43)) (defBody (top 43)) (defScope (top 43)) .none kV43 dc43 pm43 an43 cd43 ct43), sl43⟩)
    (c43 : PySem.W.codeIn K cd43 "law" = true)
    (k43 : PySem.W.keepIn K (.ref f43) = true)
    (pg15 : PySem.W.plainGet K f15 Str.empty = true)
    (hd15 : PySem.W.hasDictIn K f15 = true)
    (po15 : PySem.W.plainOver K f15 = true)
    (sa15 : PySem.W.findIn K (.ref f15) "__setattr__" = some (some (.builtin "object.__setattr__")))
    (mk15 : PySem.W.makesIn K f15 = true)
    (kc15 : PySem.W.keepIn K (.ref f15) = true)
    (n15_many : PySem.W.findIn K (.ref f15) "many" = some none)
    (n15_over : PySem.W.findIn K (.ref f15) "over" = some none)
    (n15_under : PySem.W.findIn K (.ref f15) "under" = some none)
    (pg21 : PySem.W.plainGet K f21 Str.empty = true)
    (hd21 : PySem.W.hasDictIn K f21 = true)
    (po21 : PySem.W.plainOver K f21 = true)
    (sa21 : PySem.W.findIn K (.ref f21) "__setattr__" = some (some (.builtin "object.__setattr__")))
    (mk21 : PySem.W.makesIn K f21 = true)
    (kc21 : PySem.W.keepIn K (.ref f21) = true)
    (en21 : PySem.W.findIn K (.ref f21) "__ne__" = some (some (.builtin "object.__ne__")))
    (n21_points : PySem.W.findIn K (.ref f21) "points" = some none)
    (n21_steps : PySem.W.findIn K (.ref f21) "steps" = some none)
    (sg : PySem.W.specialIn K (.builtin "object.__class__") "__get__" = some (some (.builtin "getset_descriptor.__get__")))
    (tk : PySem.W.takesIn K (.builtin "object.__class__") = some true)
    (ic15 : PySem.W.findIn K (.ref f15) "__class__" = some (some (.builtin "object.__class__")))
    (mo15 : PySem.W.mroIn K f15 (.type "object") = some true)
    (cs15 : PySem.W.clsIn K f15 = some cc15)
    (ty15 : PySem.W.typeIn K (.ref f15) = some (.type "type"))
    (kt15_NoneType : PySem.W.subIn K (.type "NoneType") (.ref f15) = some false)
    (kt15_bool : PySem.W.subIn K (.type "bool") (.ref f15) = some false)
    (kt15_int : PySem.W.subIn K (.type "int") (.ref f15) = some false)
    (kt15_str : PySem.W.subIn K (.type "str") (.ref f15) = some false)
    (kt15_tuple : PySem.W.subIn K (.type "tuple") (.ref f15) = some false)
    (kt15_list : PySem.W.subIn K (.type "list") (.ref f15) = some false)
    (ku15_int : PySem.W.subIn K (.ref f15) (.type "int") = some false)
    (ku15_bool : PySem.W.subIn K (.ref f15) (.type "bool") = some false)
    (ku15_str : PySem.W.subIn K (.ref f15) (.type "str") = some false)
    (ku15_tuple : PySem.W.subIn K (.ref f15) (.type "tuple") = some false)
    (ku15_list : PySem.W.subIn K (.ref f15) (.type "list") = some false)
    (kk15_21 : PySem.W.subIn K (.ref f15) (.ref f21) = some false)
    (ne15_21 : (Value.ref f15 == Value.ref f21) = false)
    (ic21 : PySem.W.findIn K (.ref f21) "__class__" = some (some (.builtin "object.__class__")))
    (mo21 : PySem.W.mroIn K f21 (.type "object") = some true)
    (cs21 : PySem.W.clsIn K f21 = some cc21)
    (ty21 : PySem.W.typeIn K (.ref f21) = some (.type "type"))
    (kt21_NoneType : PySem.W.subIn K (.type "NoneType") (.ref f21) = some false)
    (kt21_bool : PySem.W.subIn K (.type "bool") (.ref f21) = some false)
    (kt21_int : PySem.W.subIn K (.type "int") (.ref f21) = some false)
    (kt21_str : PySem.W.subIn K (.type "str") (.ref f21) = some false)
    (kt21_tuple : PySem.W.subIn K (.type "tuple") (.ref f21) = some false)
    (kt21_list : PySem.W.subIn K (.type "list") (.ref f21) = some false)
    (ku21_int : PySem.W.subIn K (.ref f21) (.type "int") = some false)
    (ku21_bool : PySem.W.subIn K (.ref f21) (.type "bool") = some false)
    (ku21_str : PySem.W.subIn K (.ref f21) (.type "str") = some false)
    (ku21_tuple : PySem.W.subIn K (.ref f21) (.type "tuple") = some false)
    (ku21_list : PySem.W.subIn K (.ref f21) (.type "list") = some false)
    (kk21_15 : PySem.W.subIn K (.ref f21) (.ref f15) = some false)
    (ne21_15 : (Value.ref f21 == Value.ref f15) = false)
    (z_all : PySem.W.nsIn K mainGlobals "all" = some none)
    (z_any : PySem.W.nsIn K mainGlobals "any" = some none)
    (z_bool : PySem.W.nsIn K mainGlobals "bool" = some none)
    (z_enumerate : PySem.W.nsIn K mainGlobals "enumerate" = some none)
    (z_int : PySem.W.nsIn K mainGlobals "int" = some none)
    (z_isinstance : PySem.W.nsIn K mainGlobals "isinstance" = some none)
    (z_len : PySem.W.nsIn K mainGlobals "len" = some none)
    (z_list : PySem.W.nsIn K mainGlobals "list" = some none)
    (z_range : PySem.W.nsIn K mainGlobals "range" = some none)
    (z_sorted : PySem.W.nsIn K mainGlobals "sorted" = some none)
    (z_tuple : PySem.W.nsIn K mainGlobals "tuple" = some none)
    (z_zip : PySem.W.nsIn K mainGlobals "zip" = some none)
    (y_MOST_POINTS : PySem.W.nsIn K mainGlobals "MOST_POINTS" = some (some (.int 24 tk_MOST_POINTS)))
    (hm : ∀ ns : List Int, ns.length ≤ 63 → ∃ p', b_law (.un :: .pl .pen :: List.replicate 10 .un) (some (pen0 ns)) = .rt (.bl true) p') :
    ∃ fd : FuncData, (∀ (s : Shared) (v : Value), BindsTo s fd ⟨[v], []⟩ [("script", v)]) ∧ ∀ base : Heap, K.In base → base.Ns mainGlobals mg → FnOk l.prog w K mg base CX0 17 fa fd ["script"] (spLaw K) := by
  have e := hfa.symm.trans (PySem.W.mg_of X G a43)
  cases e
  have F30 : FunG K "_law_pen" "_law_pen" (top 30) f30 (PySem.W.fnOf "_law_pen" "_law_pen" (defArgs (top 30)) (defBody (top 30)) (defScope (top 30)) .none kV30 dc30 pm30 an30 cd30 ct30) := ⟨⟨_, _, _, _, _, _, _, _, _, _, rfl, l30, c30⟩⟩
  have b30 : Binds K (PySem.W.fnOf "_law_pen" "_law_pen" (defArgs (top 30)) (defBody (top 30)) (defScope (top 30)) .none kV30 dc30 pm30 an30 cd30 ct30) ["script"] [] := .all fun us hl => match us, hl with | [_], _ => rfl
  have F31 : FunG K "_law_draw" "_law_draw" (top 31) f31 (PySem.W.fnOf "_law_draw" "_law_draw" (defArgs (top 31)) (defBody (top 31)) (defScope (top 31)) .none kV31 dc31 pm31 an31 cd31 ct31) := ⟨⟨_, _, _, _, _, _, _, _, _, _, rfl, l31, c31⟩⟩
  have b31 : Binds K (PySem.W.fnOf "_law_draw" "_law_draw" (defArgs (top 31)) (defBody (top 31)) (defScope (top 31)) .none kV31 dc31 pm31 an31 cd31 ct31) ["pen", "many"] [] := .all fun us hl => match us, hl with | [_, _], _ => rfl
  have F32 : FunG K "_law_pick" "_law_pick" (top 32) f32 (PySem.W.fnOf "_law_pick" "_law_pick" (defArgs (top 32)) (defBody (top 32)) (defScope (top 32)) .none kV32 dc32 pm32 an32 cd32 ct32) := ⟨⟨_, _, _, _, _, _, _, _, _, _, rfl, l32, c32⟩⟩
  have b32 : Binds K (PySem.W.fnOf "_law_pick" "_law_pick" (defArgs (top 32)) (defBody (top 32)) (defScope (top 32)) .none kV32 dc32 pm32 an32 cd32 ct32) ["pen", "some"] [] := .all fun us hl => match us, hl with | [_, _], _ => rfl
  have F36 : FunG K "_law_known" "_law_known" (top 36) f36 (PySem.W.fnOf "_law_known" "_law_known" (defArgs (top 36)) (defBody (top 36)) (defScope (top 36)) .none kV36 dc36 pm36 an36 cd36 ct36) := ⟨⟨_, _, _, _, _, _, _, _, _, _, rfl, l36, c36⟩⟩
  have b36 : Binds K (PySem.W.fnOf "_law_known" "_law_known" (defArgs (top 36)) (defBody (top 36)) (defScope (top 36)) .none kV36 dc36 pm36 an36 cd36 ct36) ["pen", "most"] [] := .all fun us hl => match us, hl with | [_, _], _ => rfl
  have F33 : FunG K "_law_shuffled" "_law_shuffled" (top 33) f33 (PySem.W.fnOf "_law_shuffled" "_law_shuffled" (defArgs (top 33)) (defBody (top 33)) (defScope (top 33)) .none kV33 dc33 pm33 an33 cd33 ct33) := ⟨⟨_, _, _, _, _, _, _, _, _, _, rfl, l33, c33⟩⟩
  have b33 : Binds K (PySem.W.fnOf "_law_shuffled" "_law_shuffled" (defArgs (top 33)) (defBody (top 33)) (defScope (top 33)) .none kV33 dc33 pm33 an33 cd33 ct33) ["pen", "some"] [] := .all fun us hl => match us, hl with | [_, _], _ => rfl
  have F35 : FunG K "_law_some_pairs" "_law_some_pairs" (top 35) f35 (PySem.W.fnOf "_law_some_pairs" "_law_some_pairs" (defArgs (top 35)) (defBody (top 35)) (defScope (top 35)) .none kV35 dc35 pm35 an35 cd35 ct35) := ⟨⟨_, _, _, _, _, _, _, _, _, _, rfl, l35, c35⟩⟩
  have b35 : Binds K (PySem.W.fnOf "_law_some_pairs" "_law_some_pairs" (defArgs (top 35)) (defBody (top 35)) (defScope (top 35)) .none kV35 dc35 pm35 an35 cd35 ct35) ["pen", "many", "most"] [] := .all fun us hl => match us, hl with | [_, _, _], _ => rfl
  have F37 : FunG K "_law_some_space" "_law_some_space" (top 37) f37 (PySem.W.fnOf "_law_some_space" "_law_some_space" (defArgs (top 37)) (defBody (top 37)) (defScope (top 37)) .none kV37 dc37 pm37 an37 cd37 ct37) := ⟨⟨_, _, _, _, _, _, _, _, _, _, rfl, l37, c37⟩⟩
  have b37 : Binds K (PySem.W.fnOf "_law_some_space" "_law_some_space" (defArgs (top 37)) (defBody (top 37)) (defScope (top 37)) .none kV37 dc37 pm37 an37 cd37 ct37) ["pen", "most"] [] := .all fun us hl => match us, hl with | [_, _], _ => rfl
  have F1 : FunG K "is_integer" "is_integer" (top 1) f1 (PySem.W.fnOf "is_integer" "is_integer" (defArgs (top 1)) (defBody (top 1)) (defScope (top 1)) .none kV1 dc1 pm1 an1 cd1 ct1) := ⟨⟨_, _, _, _, _, _, _, _, _, _, rfl, l1, c1⟩⟩
  have b1 : Binds K (PySem.W.fnOf "is_integer" "is_integer" (defArgs (top 1)) (defBody (top 1)) (defScope (top 1)) .none kV1 dc1 pm1 an1 cd1 ct1) ["value"] [] := .all fun us hl => match us, hl with | [_], _ => rfl
  have F2 : FunG K "is_row" "is_row" (top 2) f2 (PySem.W.fnOf "is_row" "is_row" (defArgs (top 2)) (defBody (top 2)) (defScope (top 2)) .none kV2 dc2 pm2 an2 cd2 ct2) := ⟨⟨_, _, _, _, _, _, _, _, _, _, rfl, l2, c2⟩⟩
  have b2 : Binds K (PySem.W.fnOf "is_row" "is_row" (defArgs (top 2)) (defBody (top 2)) (defScope (top 2)) .none kV2 dc2 pm2 an2 cd2 ct2) ["value"] [] := .all fun us hl => match us, hl with | [_], _ => rfl
  have F12 : FunG K "is_point_of" "is_point_of" (top 12) f12 (PySem.W.fnOf "is_point_of" "is_point_of" (defArgs (top 12)) (defBody (top 12)) (defScope (top 12)) .none kV12 dc12 pm12 an12 cd12 ct12) := ⟨⟨_, _, _, _, _, _, _, _, _, _, rfl, l12, c12⟩⟩
  have b12 : Binds K (PySem.W.fnOf "is_point_of" "is_point_of" (defArgs (top 12)) (defBody (top 12)) (defScope (top 12)) .none kV12 dc12 pm12 an12 cd12 ct12) ["many", "value"] [] := .all fun us hl => match us, hl with | [_, _], _ => rfl
  have F13 : FunG K "is_pair_of" "is_pair_of" (top 13) f13 (PySem.W.fnOf "is_pair_of" "is_pair_of" (defArgs (top 13)) (defBody (top 13)) (defScope (top 13)) .none kV13 dc13 pm13 an13 cd13 ct13) := ⟨⟨_, _, _, _, _, _, _, _, _, _, rfl, l13, c13⟩⟩
  have b13 : Binds K (PySem.W.fnOf "is_pair_of" "is_pair_of" (defArgs (top 13)) (defBody (top 13)) (defScope (top 13)) .none kV13 dc13 pm13 an13 cd13 ct13) ["many", "value"] [] := .all fun us hl => match us, hl with | [_, _], _ => rfl
  have F14 : FunG K "led_on" "led_on" (top 14) f14 (PySem.W.fnOf "led_on" "led_on" (defArgs (top 14)) (defBody (top 14)) (defScope (top 14)) .none kV14 dc14 pm14 an14 cd14 ct14) := ⟨⟨_, _, _, _, _, _, _, _, _, _, rfl, l14, c14⟩⟩
  have b14 : Binds K (PySem.W.fnOf "led_on" "led_on" (defArgs (top 14)) (defBody (top 14)) (defScope (top 14)) .none kV14 dc14 pm14 an14 cd14 ct14) ["many", "pairs"] [] := .all fun us hl => match us, hl with | [_, _], _ => rfl
  have F1300 : FunG K "__init__" "Space.__init__" (inClass (top 15) 0) f1300 (PySem.W.fnOf "__init__" "Space.__init__" (defArgs (inClass (top 15) 0)) (defBody (inClass (top 15) 0)) (defScope (inClass (top 15) 0)) (.ref t1300) kV1300 dc1300 pm1300 an1300 cd1300 ct1300) := ⟨⟨_, _, _, _, _, _, _, _, _, _, rfl, l1300, c1300⟩⟩
  have b1300 : Binds K (PySem.W.fnOf "__init__" "Space.__init__" (defArgs (inClass (top 15) 0)) (defBody (inClass (top 15) 0)) (defScope (inClass (top 15) 0)) (.ref t1300) kV1300 dc1300 pm1300 an1300 cd1300 ct1300) ["self", "many", "pairs"] [] := fun s us X hl => by
    refine BindsTo.of_looks fun M => ?_
    match us, hl with
    | [z0, z1, z2], _ => exact looks_items (k := _) X t1300l rfl (.of_pure rfl)
  have F34 : FunG K "_law_table" "_law_table" (top 34) f34 (PySem.W.fnOf "_law_table" "_law_table" (defArgs (top 34)) (defBody (top 34)) (defScope (top 34)) .none kV34 dc34 pm34 an34 cd34 ct34) := ⟨⟨_, _, _, _, _, _, _, _, _, _, rfl, l34, c34⟩⟩
  have b34 : Binds K (PySem.W.fnOf "_law_table" "_law_table" (defArgs (top 34)) (defBody (top 34)) (defScope (top 34)) .none kV34 dc34 pm34 an34 cd34 ct34) ["many", "pairs"] [] := .all fun us hl => match us, hl with | [_, _], _ => rfl
  have F38 : FunG K "_law_beats" "_law_beats" (top 38) f38 (PySem.W.fnOf "_law_beats" "_law_beats" (defArgs (top 38)) (defBody (top 38)) (defScope (top 38)) .none kV38 dc38 pm38 an38 cd38 ct38) := ⟨⟨_, _, _, _, _, _, _, _, _, _, rfl, l38, c38⟩⟩
  have b38 : Binds K (PySem.W.fnOf "_law_beats" "_law_beats" (defArgs (top 38)) (defBody (top 38)) (defScope (top 38)) .none kV38 dc38 pm38 an38 cd38 ct38) ["table", "left"] [] := .all fun us hl => match us, hl with | [_, _], _ => rfl
  have F41 : FunG K "_law_way" "_law_way" (top 41) f41 (PySem.W.fnOf "_law_way" "_law_way" (defArgs (top 41)) (defBody (top 41)) (defScope (top 41)) .none kV41 dc41 pm41 an41 cd41 ct41) := ⟨⟨_, _, _, _, _, _, _, _, _, _, rfl, l41, c41⟩⟩
  have b41 : Binds K (PySem.W.fnOf "_law_way" "_law_way" (defArgs (top 41)) (defBody (top 41)) (defScope (top 41)) .none kV41 dc41 pm41 an41 cd41 ct41) ["pen", "table"] [] := .all fun us hl => match us, hl with | [_, _], _ => rfl
  have F42 : FunG K "_law_bent" "_law_bent" (top 42) f42 (PySem.W.fnOf "_law_bent" "_law_bent" (defArgs (top 42)) (defBody (top 42)) (defScope (top 42)) .none kV42 dc42 pm42 an42 cd42 ct42) := ⟨⟨_, _, _, _, _, _, _, _, _, _, rfl, l42, c42⟩⟩
  have b42 : Binds K (PySem.W.fnOf "_law_bent" "_law_bent" (defArgs (top 42)) (defBody (top 42)) (defScope (top 42)) .none kV42 dc42 pm42 an42 cd42 ct42) ["pen", "many", "answer"] [] := .all fun us hl => match us, hl with | [_, _, _], _ => rfl
  have F3 : FunG K "kept" "kept" (top 3) f3 (PySem.W.fnOf "kept" "kept" (defArgs (top 3)) (defBody (top 3)) (defScope (top 3)) .none kV3 dc3 pm3 an3 cd3 ct3) := ⟨⟨_, _, _, _, _, _, _, _, _, _, rfl, l3, c3⟩⟩
  have b3 : Binds K (PySem.W.fnOf "kept" "kept" (defArgs (top 3)) (defBody (top 3)) (defScope (top 3)) .none kV3 dc3 pm3 an3 cd3 ct3) ["value"] [] := .all fun us hl => match us, hl with | [_], _ => rfl
  have F1420 : FunG K "__init__" "Core.__init__" (inClass (top 21) 0) f1420 (PySem.W.fnOf "__init__" "Core.__init__" (defArgs (inClass (top 21) 0)) (defBody (inClass (top 21) 0)) (defScope (inClass (top 21) 0)) .none kV1420 dc1420 pm1420 an1420 cd1420 ct1420) := ⟨⟨_, _, _, _, _, _, _, _, _, _, rfl, l1420, c1420⟩⟩
  have b1420 : Binds K (PySem.W.fnOf "__init__" "Core.__init__" (defArgs (inClass (top 21) 0)) (defBody (inClass (top 21) 0)) (defScope (inClass (top 21) 0)) .none kV1420 dc1420 pm1420 an1420 cd1420 ct1420) ["self", "steps", "points"] [] := .all fun us hl => match us, hl with | [_, _, _], _ => rfl
  have F16 : FunG K "need_space" "need_space" (top 16) f16 (PySem.W.fnOf "need_space" "need_space" (defArgs (top 16)) (defBody (top 16)) (defScope (top 16)) .none kV16 dc16 pm16 an16 cd16 ct16) := ⟨⟨_, _, _, _, _, _, _, _, _, _, rfl, l16, c16⟩⟩
  have b16 : Binds K (PySem.W.fnOf "need_space" "need_space" (defArgs (top 16)) (defBody (top 16)) (defScope (top 16)) .none kV16 dc16 pm16 an16 cd16 ct16) ["space"] [] := .all fun us hl => match us, hl with | [_], _ => rfl
  have F17 : FunG K "all_pairs" "all_pairs" (top 17) f17 (PySem.W.fnOf "all_pairs" "all_pairs" (defArgs (top 17)) (defBody (top 17)) (defScope (top 17)) .none kV17 dc17 pm17 an17 cd17 ct17) := ⟨⟨_, _, _, _, _, _, _, _, _, _, rfl, l17, c17⟩⟩
  have b17 : Binds K (PySem.W.fnOf "all_pairs" "all_pairs" (defArgs (top 17)) (defBody (top 17)) (defScope (top 17)) .none kV17 dc17 pm17 an17 cd17 ct17) ["space"] [] := .all fun us hl => match us, hl with | [_], _ => rfl
  have F18 : FunG K "parts_points" "parts_points" (top 18) f18 (PySem.W.fnOf "parts_points" "parts_points" (defArgs (top 18)) (defBody (top 18)) (defScope (top 18)) .none kV18 dc18 pm18 an18 cd18 ct18) := ⟨⟨_, _, _, _, _, _, _, _, _, _, rfl, l18, c18⟩⟩
  have b18 : Binds K (PySem.W.fnOf "parts_points" "parts_points" (defArgs (top 18)) (defBody (top 18)) (defScope (top 18)) .none kV18 dc18 pm18 an18 cd18 ct18) ["space"] [] := .all fun us hl => match us, hl with | [_], _ => rfl
  have F19 : FunG K "need_parted" "need_parted" (top 19) f19 (PySem.W.fnOf "need_parted" "need_parted" (defArgs (top 19)) (defBody (top 19)) (defScope (top 19)) .none kV19 dc19 pm19 an19 cd19 ct19) := ⟨⟨_, _, _, _, _, _, _, _, _, _, rfl, l19, c19⟩⟩
  have b19 : Binds K (PySem.W.fnOf "need_parted" "need_parted" (defArgs (top 19)) (defBody (top 19)) (defScope (top 19)) .none kV19 dc19 pm19 an19 cd19 ct19) ["space"] [] := .all fun us hl => match us, hl with | [_], _ => rfl
  have F22 : FunG K "greatest_in" "greatest_in" (top 22) f22 (PySem.W.fnOf "greatest_in" "greatest_in" (defArgs (top 22)) (defBody (top 22)) (defScope (top 22)) .none kV22 dc22 pm22 an22 cd22 ct22) := ⟨⟨_, _, _, _, _, _, _, _, _, _, rfl, l22, c22⟩⟩
  have b22 : Binds K (PySem.W.fnOf "greatest_in" "greatest_in" (defArgs (top 22)) (defBody (top 22)) (defScope (top 22)) .none kV22 dc22 pm22 an22 cd22 ct22) ["space", "lot"] [] := .all fun us hl => match us, hl with | [_, _], _ => rfl
  have F23 : FunG K "least_in" "least_in" (top 23) f23 (PySem.W.fnOf "least_in" "least_in" (defArgs (top 23)) (defBody (top 23)) (defScope (top 23)) .none kV23 dc23 pm23 an23 cd23 ct23) := ⟨⟨_, _, _, _, _, _, _, _, _, _, rfl, l23, c23⟩⟩
  have b23 : Binds K (PySem.W.fnOf "least_in" "least_in" (defArgs (top 23)) (defBody (top 23)) (defScope (top 23)) .none kV23 dc23 pm23 an23 cd23 ct23) ["space", "lot"] [] := .all fun us hl => match us, hl with | [_, _], _ => rfl
  have F24 : FunG K "partners" "partners" (top 24) f24 (PySem.W.fnOf "partners" "partners" (defArgs (top 24)) (defBody (top 24)) (defScope (top 24)) .none kV24 dc24 pm24 an24 cd24 ct24) := ⟨⟨_, _, _, _, _, _, _, _, _, _, rfl, l24, c24⟩⟩
  have b24 : Binds K (PySem.W.fnOf "partners" "partners" (defArgs (top 24)) (defBody (top 24)) (defScope (top 24)) .none kV24 dc24 pm24 an24 cd24 ct24) ["space", "left", "x"] [] := .all fun us hl => match us, hl with | [_, _, _], _ => rfl
  have F26 : FunG K "steps_fault" "steps_fault" (top 26) f26 (PySem.W.fnOf "steps_fault" "steps_fault" (defArgs (top 26)) (defBody (top 26)) (defScope (top 26)) .none kV26 dc26 pm26 an26 cd26 ct26) := ⟨⟨_, _, _, _, _, _, _, _, _, _, rfl, l26, c26⟩⟩
  have b26 : Binds K (PySem.W.fnOf "steps_fault" "steps_fault" (defArgs (top 26)) (defBody (top 26)) (defScope (top 26)) .none kV26 dc26 pm26 an26 cd26 ct26) ["space", "steps"] [] := .all fun us hl => match us, hl with | [_, _], _ => rfl
  have F25 : FunG K "all_beats" "all_beats" (top 25) f25 (PySem.W.fnOf "all_beats" "all_beats" (defArgs (top 25)) (defBody (top 25)) (defScope (top 25)) .none kV25 dc25 pm25 an25 cd25 ct25) := ⟨⟨_, _, _, _, _, _, _, _, _, _, rfl, l25, c25⟩⟩
  have b25 : Binds K (PySem.W.fnOf "all_beats" "all_beats" (defArgs (top 25)) (defBody (top 25)) (defScope (top 25)) .none kV25 dc25 pm25 an25 cd25 ct25) ["space", "left"] [] := .all fun us hl => match us, hl with | [_, _], _ => rfl
  have F27 : FunG K "right_core_fault" "right_core_fault" (top 27) f27 (PySem.W.fnOf "right_core_fault" "right_core_fault" (defArgs (top 27)) (defBody (top 27)) (defScope (top 27)) .none kV27 dc27 pm27 an27 cd27 ct27) := ⟨⟨_, _, _, _, _, _, _, _, _, _, rfl, l27, c27⟩⟩
  have b27 : Binds K (PySem.W.fnOf "right_core_fault" "right_core_fault" (defArgs (top 27)) (defBody (top 27)) (defScope (top 27)) .none kV27 dc27 pm27 an27 cd27 ct27) ["space", "answer"] [] := .all fun us hl => match us, hl with | [_, _], _ => rfl
  have F28 : FunG K "core_fault" "core_fault" (top 28) f28 (PySem.W.fnOf "core_fault" "core_fault" (defArgs (top 28)) (defBody (top 28)) (defScope (top 28)) .none kV28 dc28 pm28 an28 cd28 ct28) := ⟨⟨_, _, _, _, _, _, _, _, _, _, rfl, l28, c28⟩⟩
  have b28 : Binds K (PySem.W.fnOf "core_fault" "core_fault" (defArgs (top 28)) (defBody (top 28)) (defScope (top 28)) .none kV28 dc28 pm28 an28 cd28 ct28) ["space", "answer"] [] := .all fun us hl => match us, hl with | [_, _], _ => rfl
  have F39 : FunG K "_law_is_pair" "_law_is_pair" (top 39) f39 (PySem.W.fnOf "_law_is_pair" "_law_is_pair" (defArgs (top 39)) (defBody (top 39)) (defScope (top 39)) .none kV39 dc39 pm39 an39 cd39 ct39) := ⟨⟨_, _, _, _, _, _, _, _, _, _, rfl, l39, c39⟩⟩
  have b39 : Binds K (PySem.W.fnOf "_law_is_pair" "_law_is_pair" (defArgs (top 39)) (defBody (top 39)) (defScope (top 39)) .none kV39 dc39 pm39 an39 cd39 ct39) ["value", "many"] [] := .all fun us hl => match us, hl with | [_, _], _ => rfl
  have F40 : FunG K "_law_due" "_law_due" (top 40) f40 (PySem.W.fnOf "_law_due" "_law_due" (defArgs (top 40)) (defBody (top 40)) (defScope (top 40)) .none kV40 dc40 pm40 an40 cd40 ct40) := ⟨⟨_, _, _, _, _, _, _, _, _, _, rfl, l40, c40⟩⟩
  have b40 : Binds K (PySem.W.fnOf "_law_due" "_law_due" (defArgs (top 40)) (defBody (top 40)) (defScope (top 40)) .none kV40 dc40 pm40 an40 cd40 ct40) ["table", "answer"] [] := .all fun us hl => match us, hl with | [_, _], _ => rfl
  have F1421 : FunG K "__eq__" "Core.__eq__" (inClass (top 21) 1) f1421 (PySem.W.fnOf "__eq__" "Core.__eq__" (defArgs (inClass (top 21) 1)) (defBody (inClass (top 21) 1)) (defScope (inClass (top 21) 1)) .none kV1421 dc1421 pm1421 an1421 cd1421 ct1421) := ⟨⟨_, _, _, _, _, _, _, _, _, _, rfl, l1421, c1421⟩⟩
  have b1421 : Binds K (PySem.W.fnOf "__eq__" "Core.__eq__" (defArgs (inClass (top 21) 1)) (defBody (inClass (top 21) 1)) (defScope (inClass (top 21) 1)) .none kV1421 dc1421 pm1421 an1421 cd1421 ct1421) ["self", "other"] [] := .all fun us hl => match us, hl with | [_, _], _ => rfl
  have F43 : FunG K "law" "law" (top 43) fa (PySem.W.fnOf "law" "law" (defArgs (top 43)) (defBody (top 43)) (defScope (top 43)) .none kV43 dc43 pm43 an43 cd43 ct43) := ⟨⟨_, _, _, _, _, _, _, _, _, _, rfl, l43, c43⟩⟩
  have T : Tx K mg (pickS [("Space", f15), ("Core", f21)]) (pickN [(15, f15), (21, f21), (30, f30), (31, f31), (32, f32), (36, f36), (33, f33), (35, f35), (37, f37), (1, f1), (2, f2), (12, f12), (13, f13), (14, f14), (1300, f1300), (34, f34), (38, f38), (41, f41), (42, f42), (3, f3), (1420, f1420), (16, f16), (17, f17), (18, f18), (19, f19), (22, f22), (23, f23), (24, f24), (26, f26), (25, f25), (27, f27), (28, f28), (39, f39), (40, f40), (1421, f1421)] 0) (pickN [(30, (PySem.W.fnOf "_law_pen" "_law_pen" (defArgs (top 30)) (defBody (top 30)) (defScope (top 30)) .none kV30 dc30 pm30 an30 cd30 ct30)), (31, (PySem.W.fnOf "_law_draw" "_law_draw" (defArgs (top 31)) (defBody (top 31)) (defScope (top 31)) .none kV31 dc31 pm31 an31 cd31 ct31)), (32, (PySem.W.fnOf "_law_pick" "_law_pick" (defArgs (top 32)) (defBody (top 32)) (defScope (top 32)) .none kV32 dc32 pm32 an32 cd32 ct32)), (36, (PySem.W.fnOf "_law_known" "_law_known" (defArgs (top 36)) (defBody (top 36)) (defScope (top 36)) .none kV36 dc36 pm36 an36 cd36 ct36)), (33, (PySem.W.fnOf "_law_shuffled" "_law_shuffled" (defArgs (top 33)) (defBody (top 33)) (defScope (top 33)) .none kV33 dc33 pm33 an33 cd33 ct33)), (35, (PySem.W.fnOf "_law_some_pairs" "_law_some_pairs" (defArgs (top 35)) (defBody (top 35)) (defScope (top 35)) .none kV35 dc35 pm35 an35 cd35 ct35)), (37, (PySem.W.fnOf "_law_some_space" "_law_some_space" (defArgs (top 37)) (defBody (top 37)) (defScope (top 37)) .none kV37 dc37 pm37 an37 cd37 ct37)), (1, (PySem.W.fnOf "is_integer" "is_integer" (defArgs (top 1)) (defBody (top 1)) (defScope (top 1)) .none kV1 dc1 pm1 an1 cd1 ct1)), (2, (PySem.W.fnOf "is_row" "is_row" (defArgs (top 2)) (defBody (top 2)) (defScope (top 2)) .none kV2 dc2 pm2 an2 cd2 ct2)), (12, (PySem.W.fnOf "is_point_of" "is_point_of" (defArgs (top 12)) (defBody (top 12)) (defScope (top 12)) .none kV12 dc12 pm12 an12 cd12 ct12)), (13, (PySem.W.fnOf "is_pair_of" "is_pair_of" (defArgs (top 13)) (defBody (top 13)) (defScope (top 13)) .none kV13 dc13 pm13 an13 cd13 ct13)), (14, (PySem.W.fnOf "led_on" "led_on" (defArgs (top 14)) (defBody (top 14)) (defScope (top 14)) .none kV14 dc14 pm14 an14 cd14 ct14)), (1300, (PySem.W.fnOf "__init__" "Space.__init__" (defArgs (inClass (top 15) 0)) (defBody (inClass (top 15) 0)) (defScope (inClass (top 15) 0)) (.ref t1300) kV1300 dc1300 pm1300 an1300 cd1300 ct1300)), (34, (PySem.W.fnOf "_law_table" "_law_table" (defArgs (top 34)) (defBody (top 34)) (defScope (top 34)) .none kV34 dc34 pm34 an34 cd34 ct34)), (38, (PySem.W.fnOf "_law_beats" "_law_beats" (defArgs (top 38)) (defBody (top 38)) (defScope (top 38)) .none kV38 dc38 pm38 an38 cd38 ct38)), (41, (PySem.W.fnOf "_law_way" "_law_way" (defArgs (top 41)) (defBody (top 41)) (defScope (top 41)) .none kV41 dc41 pm41 an41 cd41 ct41)), (42, (PySem.W.fnOf "_law_bent" "_law_bent" (defArgs (top 42)) (defBody (top 42)) (defScope (top 42)) .none kV42 dc42 pm42 an42 cd42 ct42)), (3, (PySem.W.fnOf "kept" "kept" (defArgs (top 3)) (defBody (top 3)) (defScope (top 3)) .none kV3 dc3 pm3 an3 cd3 ct3)), (1420, (PySem.W.fnOf "__init__" "Core.__init__" (defArgs (inClass (top 21) 0)) (defBody (inClass (top 21) 0)) (defScope (inClass (top 21) 0)) .none kV1420 dc1420 pm1420 an1420 cd1420 ct1420)), (16, (PySem.W.fnOf "need_space" "need_space" (defArgs (top 16)) (defBody (top 16)) (defScope (top 16)) .none kV16 dc16 pm16 an16 cd16 ct16)), (17, (PySem.W.fnOf "all_pairs" "all_pairs" (defArgs (top 17)) (defBody (top 17)) (defScope (top 17)) .none kV17 dc17 pm17 an17 cd17 ct17)), (18, (PySem.W.fnOf "parts_points" "parts_points" (defArgs (top 18)) (defBody (top 18)) (defScope (top 18)) .none kV18 dc18 pm18 an18 cd18 ct18)), (19, (PySem.W.fnOf "need_parted" "need_parted" (defArgs (top 19)) (defBody (top 19)) (defScope (top 19)) .none kV19 dc19 pm19 an19 cd19 ct19)), (22, (PySem.W.fnOf "greatest_in" "greatest_in" (defArgs (top 22)) (defBody (top 22)) (defScope (top 22)) .none kV22 dc22 pm22 an22 cd22 ct22)), (23, (PySem.W.fnOf "least_in" "least_in" (defArgs (top 23)) (defBody (top 23)) (defScope (top 23)) .none kV23 dc23 pm23 an23 cd23 ct23)), (24, (PySem.W.fnOf "partners" "partners" (defArgs (top 24)) (defBody (top 24)) (defScope (top 24)) .none kV24 dc24 pm24 an24 cd24 ct24)), (26, (PySem.W.fnOf "steps_fault" "steps_fault" (defArgs (top 26)) (defBody (top 26)) (defScope (top 26)) .none kV26 dc26 pm26 an26 cd26 ct26)), (25, (PySem.W.fnOf "all_beats" "all_beats" (defArgs (top 25)) (defBody (top 25)) (defScope (top 25)) .none kV25 dc25 pm25 an25 cd25 ct25)), (27, (PySem.W.fnOf "right_core_fault" "right_core_fault" (defArgs (top 27)) (defBody (top 27)) (defScope (top 27)) .none kV27 dc27 pm27 an27 cd27 ct27)), (28, (PySem.W.fnOf "core_fault" "core_fault" (defArgs (top 28)) (defBody (top 28)) (defScope (top 28)) .none kV28 dc28 pm28 an28 cd28 ct28)), (39, (PySem.W.fnOf "_law_is_pair" "_law_is_pair" (defArgs (top 39)) (defBody (top 39)) (defScope (top 39)) .none kV39 dc39 pm39 an39 cd39 ct39)), (40, (PySem.W.fnOf "_law_due" "_law_due" (defArgs (top 40)) (defBody (top 40)) (defScope (top 40)) .none kV40 dc40 pm40 an40 cd40 ct40)), (1421, (PySem.W.fnOf "__eq__" "Core.__eq__" (defArgs (inClass (top 21) 1)) (defBody (inClass (top 21) 1)) (defScope (inClass (top 21) 1)) .none kV1421 dc1421 pm1421 an1421 cd1421 ct1421))] (PySem.W.fnOf "law" "law" (defArgs (top 43)) (defBody (top 43)) (defScope (top 43)) .none kV43 dc43 pm43 an43 cd43 ct43)) := {
    n_all := PySem.W.mg_none_of X G z_all,
    n_any := PySem.W.mg_none_of X G z_any,
    n_bool := PySem.W.mg_none_of X G z_bool,
    n_enumerate := PySem.W.mg_none_of X G z_enumerate,
    n_int := PySem.W.mg_none_of X G z_int,
    n_isinstance := PySem.W.mg_none_of X G z_isinstance,
    n_len := PySem.W.mg_none_of X G z_len,
    n_list := PySem.W.mg_none_of X G z_list,
    n_range := PySem.W.mg_none_of X G z_range,
    n_sorted := PySem.W.mg_none_of X G z_sorted,
    n_tuple := PySem.W.mg_none_of X G z_tuple,
    n_zip := PySem.W.mg_none_of X G z_zip,
    c_MOST_POINTS := ⟨_, PySem.W.mg_of X G y_MOST_POINTS⟩,
    F30 := F30,
    k30 := k30,
    b30 := b30,
    g__law_pen := PySem.W.mg_of X G a30,
    F31 := F31,
    k31 := k31,
    b31 := b31,
    g__law_draw := PySem.W.mg_of X G a31,
    F32 := F32,
    k32 := k32,
    b32 := b32,
    g__law_pick := PySem.W.mg_of X G a32,
    F36 := F36,
    k36 := k36,
    b36 := b36,
    g__law_known := PySem.W.mg_of X G a36,
    F33 := F33,
    k33 := k33,
    b33 := b33,
    g__law_shuffled := PySem.W.mg_of X G a33,
    F35 := F35,
    k35 := k35,
    b35 := b35,
    g__law_some_pairs := PySem.W.mg_of X G a35,
    F37 := F37,
    k37 := k37,
    b37 := b37,
    g__law_some_space := PySem.W.mg_of X G a37,
    F1 := F1,
    k1 := k1,
    b1 := b1,
    g_is_integer := PySem.W.mg_of X G a1,
    F2 := F2,
    k2 := k2,
    b2 := b2,
    g_is_row := PySem.W.mg_of X G a2,
    F12 := F12,
    k12 := k12,
    b12 := b12,
    g_is_point_of := PySem.W.mg_of X G a12,
    F13 := F13,
    k13 := k13,
    b13 := b13,
    g_is_pair_of := PySem.W.mg_of X G a13,
    F14 := F14,
    k14 := k14,
    b14 := b14,
    g_led_on := PySem.W.mg_of X G a14,
    F1300 := F1300,
    k1300 := k1300,
    b1300 := b1300,
    F34 := F34,
    k34 := k34,
    b34 := b34,
    g__law_table := PySem.W.mg_of X G a34,
    F38 := F38,
    k38 := k38,
    b38 := b38,
    g__law_beats := PySem.W.mg_of X G a38,
    F41 := F41,
    k41 := k41,
    b41 := b41,
    g__law_way := PySem.W.mg_of X G a41,
    F42 := F42,
    k42 := k42,
    b42 := b42,
    g__law_bent := PySem.W.mg_of X G a42,
    F3 := F3,
    k3 := k3,
    b3 := b3,
    g_kept := PySem.W.mg_of X G a3,
    F1420 := F1420,
    k1420 := k1420,
    b1420 := b1420,
    F16 := F16,
    k16 := k16,
    b16 := b16,
    g_need_space := PySem.W.mg_of X G a16,
    F17 := F17,
    k17 := k17,
    b17 := b17,
    g_all_pairs := PySem.W.mg_of X G a17,
    F18 := F18,
    k18 := k18,
    b18 := b18,
    g_parts_points := PySem.W.mg_of X G a18,
    F19 := F19,
    k19 := k19,
    b19 := b19,
    g_need_parted := PySem.W.mg_of X G a19,
    F22 := F22,
    k22 := k22,
    b22 := b22,
    g_greatest_in := PySem.W.mg_of X G a22,
    F23 := F23,
    k23 := k23,
    b23 := b23,
    g_least_in := PySem.W.mg_of X G a23,
    F24 := F24,
    k24 := k24,
    b24 := b24,
    g_partners := PySem.W.mg_of X G a24,
    F26 := F26,
    k26 := k26,
    b26 := b26,
    g_steps_fault := PySem.W.mg_of X G a26,
    F25 := F25,
    k25 := k25,
    b25 := b25,
    g_all_beats := PySem.W.mg_of X G a25,
    F27 := F27,
    k27 := k27,
    b27 := b27,
    g_right_core_fault := PySem.W.mg_of X G a27,
    F28 := F28,
    k28 := k28,
    b28 := b28,
    g_core_fault := PySem.W.mg_of X G a28,
    F39 := F39,
    k39 := k39,
    b39 := b39,
    g__law_is_pair := PySem.W.mg_of X G a39,
    F40 := F40,
    k40 := k40,
    b40 := b40,
    g__law_due := PySem.W.mg_of X G a40,
    F1421 := F1421,
    k1421 := k1421,
    b1421 := b1421,
    cl_Space := rfl,
    g_Space := PySem.W.mg_of X G a15,
    m_Space := ⟨mk15, a1300, i1300, kc15⟩,
    cl_Core := rfl,
    g_Core := PySem.W.mg_of X G a21,
    m_Core := ⟨mk21, a1420, i1420, kc21⟩,
    eq_Core := ⟨a1421, i1421, en21, mo21⟩,
    f_many := fun _ _ _ _ c hc => by
      simp only [List.mem_cons, List.not_mem_nil, or_false] at hc
      subst hc
      exact ⟨⟨pg15, hd15, po15, sa15⟩, n15_many⟩,
    f_over := fun _ _ _ _ c hc => by
      simp only [List.mem_cons, List.not_mem_nil, or_false] at hc
      subst hc
      exact ⟨⟨pg15, hd15, po15, sa15⟩, n15_over⟩,
    f_points := fun _ _ _ _ c hc => by
      simp only [List.mem_cons, List.not_mem_nil, or_false] at hc
      subst hc
      exact ⟨⟨pg21, hd21, po21, sa21⟩, n21_points⟩,
    f_steps := fun _ _ _ _ c hc => by
      simp only [List.mem_cons, List.not_mem_nil, or_false] at hc
      subst hc
      exact ⟨⟨pg21, hd21, po21, sa21⟩, n21_steps⟩,
    f_under := fun _ _ _ _ c hc => by
      simp only [List.mem_cons, List.not_mem_nil, or_false] at hc
      subst hc
      exact ⟨⟨pg15, hd15, po15, sa15⟩, n15_under⟩,
    isa := fun _ _ _ _ => ⟨fun c hc => by
      simp only [List.mem_cons, List.not_mem_nil, or_false] at hc
      rcases hc with rfl | rfl
      · exact ⟨⟨pg15, hd15, po15, sa15⟩, ic15, sg, tk, mo15⟩
      · exact ⟨⟨pg21, hd21, po21, sa21⟩, ic21, sg, tk, mo21⟩,
     fun c hc n hn => by
      simp only [List.mem_cons, List.not_mem_nil, or_false] at hc
      simp only [tyNames, List.mem_cons, List.not_mem_nil, or_false] at hn
      rcases hc with rfl | rfl
      · rcases hn with rfl | rfl | rfl | rfl | rfl | rfl
        · exact kit_ty cs15 ty15 kt15_NoneType
        · exact kit_ty cs15 ty15 kt15_bool
        · exact kit_ty cs15 ty15 kt15_int
        · exact kit_ty cs15 ty15 kt15_str
        · exact kit_ty cs15 ty15 kt15_tuple
        · exact kit_ty cs15 ty15 kt15_list
      · rcases hn with rfl | rfl | rfl | rfl | rfl | rfl
        · exact kit_ty cs21 ty21 kt21_NoneType
        · exact kit_ty cs21 ty21 kt21_bool
        · exact kit_ty cs21 ty21 kt21_int
        · exact kit_ty cs21 ty21 kt21_str
        · exact kit_ty cs21 ty21 kt21_tuple
        · exact kit_ty cs21 ty21 kt21_list,
     fun c hc n hn => by
      simp only [List.mem_cons, List.not_mem_nil, or_false] at hc
      simp only [List.mem_cons, List.not_mem_nil, or_false] at hn
      rcases hc with rfl | rfl
      · rcases hn with rfl | rfl | rfl | rfl | rfl
        · exact kit_tu (by decide +kernel) ku15_int
        · exact kit_tu (by decide +kernel) ku15_bool
        · exact kit_tu (by decide +kernel) ku15_str
        · exact kit_tu (by decide +kernel) ku15_tuple
        · exact kit_tu (by decide +kernel) ku15_list
      · rcases hn with rfl | rfl | rfl | rfl | rfl
        · exact kit_tu (by decide +kernel) ku21_int
        · exact kit_tu (by decide +kernel) ku21_bool
        · exact kit_tu (by decide +kernel) ku21_str
        · exact kit_tu (by decide +kernel) ku21_tuple
        · exact kit_tu (by decide +kernel) ku21_list,
     fun c hc k hk => by
      simp only [List.mem_cons, List.not_mem_nil, or_false] at hc
      simp only [List.mem_cons, List.not_mem_nil, or_false] at hk
      rcases hc with rfl | rfl
      · rcases hk with rfl | rfl
        · exact kit_same
        · exact kit_rr ne15_21 cs21 ty21 kk15_21
      · rcases hk with rfl | rfl
        · exact kit_rr ne21_15 cs15 ty15 kk21_15
        · exact kit_same⟩ }
  exact ⟨(PySem.W.fnOf "law" "law" (defArgs (top 43)) (defBody (top 43)) (defScope (top 43)) .none kV43 dc43 pm43 an43 cd43 ct43), fun s v => .of_eq rfl, fun base _ _ => ok_law T F43 hm⟩
theorem walk {l : PySem.W.OpenLaw} {q : Program} {loose : List Str} {XP : (Str → Option Value) → Heap → Prop} {YP : World → Heap → Prop} {d : DefRec} {K : Params → PySem.W.Frag} (hn : l.most = some 63) (hdf : d.params.defaults = [])
    (hY : ∀ (w : World) (h : Heap), YP w h → (K w.params).In h)
    (F : ∀ (w : World) (mg : Str → Option Value) (fa : Addr) (h : Heap), (K w.params).In h → h.Ns mainGlobals mg → mg d.name = some (.ref fa) →
      ∃ fd : FuncData, (∀ (s : Shared) (u : Value), BindsTo s fd ⟨[u], []⟩ [("script", u)]) ∧ ∀ base : Heap, (K w.params).In base → base.Ns mainGlobals mg → FnOk l.prog w (K w.params) mg base CX0 17 fa fd ["script"] (spLaw (K w.params))) :
    PySem.W.WalkO q loose XP YP l.row.toRowW d [] (fun f vs => PySem.call f vs) :=
  L2.walk_of (n := 63) (k := 17) (x := "script") (CX := fun _ => CX0) (sp := fun w => spLaw (K w.params)) hn (by decide) hdf ⟨rfl, by decide, by decide⟩ hY F (fun _ _ a ns hl _ hS => ⟨a, ns, rfl, hS, hl, fun _ => rfl⟩) fun _ _ _ _ _ z => z
end CS
namespace CS
open PySem L2
open Classical
/-! ## spaces as relations -/
inductive Rt (ps : List (Nat × Nat)) : Nat → Nat → Prop
  | refl (x : Nat) : Rt ps x x
  | tail {x y z : Nat} : Rt ps x y → (y, z) ∈ ps → Rt ps x z
theorem Rt.one {ps : List (Nat × Nat)} {x y : Nat} (h : (x, y) ∈ ps) : Rt ps x y := .tail (.refl x) h
theorem Rt.trans {ps : List (Nat × Nat)} {x y z : Nat} (h : Rt ps x y) (h2 : Rt ps y z) : Rt ps x z := by
  induction h2 with
  | refl => exact h
  | tail _ h3 ih => exact ih.tail h3
theorem Rt.head {ps : List (Nat × Nat)} {x y z : Nat} (h : (x, y) ∈ ps) (h2 : Rt ps y z) : Rt ps x z := (Rt.one h).trans h2
/-- all pairs are of points below n -/
def In (n : Nat) (ps : List (Nat × Nat)) : Prop := ∀ q ∈ ps, q.1 < n ∧ q.2 < n
theorem Rt.lt {n : Nat} {ps : List (Nat × Nat)} (h : In n ps) {x y : Nat} (r : Rt ps x y) (hx : x < n) : y < n := by
  induction r with
  | refl => exact hx
  | tail _ h3 _ => exact (h _ h3).2
theorem Rt.mono {ps qs : List (Nat × Nat)} (h : ∀ q ∈ ps, q ∈ qs) {x y : Nat} (r : Rt ps x y) : Rt qs x y := by
  induction r with
  | refl => exact .refl _
  | tail _ h3 ih => exact ih.tail (h _ h3)
/-- the least relation of all that hold the pairs -/
theorem Rt.least {ps : List (Nat × Nat)} {R : Nat → Nat → Prop} (h0 : ∀ x, R x x) (ht : ∀ x y z, R x y → R y z → R x z) (h : ∀ x y, (x, y) ∈ ps → R x y) {x y : Nat} (r : Rt ps x y) : R x y := by
  induction r with
  | refl => exact h0 _
  | tail _ h3 ih => exact ht _ _ _ ih (h _ _ h3)
/-- points below n of a kind, ascending -/
noncomputable def sel (n : Nat) (P : Nat → Prop) : List Nat := (List.range n).filter fun y => decide (P y)
theorem mem_sel {n : Nat} {P : Nat → Prop} {y : Nat} : y ∈ sel n P ↔ y < n ∧ P y := by simp [sel]
theorem sel_sorted (n : Nat) (P : Nat → Prop) : (sel n P).Pairwise (· < ·) := List.Pairwise.filter _ List.pairwise_lt_range
theorem sel_nodup (n : Nat) (P : Nat → Prop) : (sel n P).Nodup := (sel_sorted n P).imp fun h => Nat.ne_of_lt h
theorem sel_length (n : Nat) (P : Nat → Prop) : (sel n P).length ≤ n := by
  have := List.length_filter_le (fun y => decide (P y)) (List.range n)
  simpa [sel] using this
theorem sel_congr {n : Nat} {P Q : Nat → Prop} (h : ∀ y, y < n → (P y ↔ Q y)) : sel n P = sel n Q := by
  unfold sel
  exact List.filter_congr fun y hy => by simp [h y (List.mem_range.mp hy)]
theorem sorted_ext : ∀ {l l' : List Nat}, l.Pairwise (· < ·) → l'.Pairwise (· < ·) → (∀ x, x ∈ l ↔ x ∈ l') → l = l'
  | [], [], _, _, _ => rfl
  | [], b :: l', _, _, h => absurd ((h b).mpr (List.mem_cons_self ..)) (by simp)
  | a :: l, [], _, _, h => absurd ((h a).mp (List.mem_cons_self ..)) (by simp)
  | a :: l, b :: l', h1, h2, h => by
    rw [List.pairwise_cons] at h1 h2
    have ab : a = b := by
      rcases List.mem_cons.mp ((h a).mp (List.mem_cons_self ..)) with e | e
      · exact e
      · rcases List.mem_cons.mp ((h b).mpr (List.mem_cons_self ..)) with e2 | e2
        · exact e2.symm
        · have := h1.1 _ e2
          have := h2.1 _ e
          omega
    subst ab
    congr 1
    refine sorted_ext h1.2 h2.2 fun x => ?_
    constructor
    · intro hx
      rcases List.mem_cons.mp ((h x).mp (List.mem_cons_of_mem _ hx)) with e | e
      · have := h1.1 x hx; omega
      · exact e
    · intro hx
      rcases List.mem_cons.mp ((h x).mpr (List.mem_cons_of_mem _ hx)) with e | e
      · have := h2.1 x hx; omega
      · exact e
def nI (i : Nat) : D := .int i
def prD (q : Nat × Nat) : D := .tup [nI q.1, nI q.2]
noncomputable def row (n : Nat) (P : Nat → Prop) : D := .tup ((sel n P).map nI)
noncomputable def rowsO (n : Nat) (r : Nat → Nat → Prop) : List D := (List.range n).map fun x => row n (r x)
noncomputable def rowsU (n : Nat) (r : Nat → Nat → Prop) : List D := (List.range n).map fun y => row n fun x => r x y
noncomputable def spc (n : Nat) (r : Nat → Nat → Prop) : D := .ins "Space" ["many", "over", "under"] [nI n, .tup (rowsO n r), .tup (rowsU n r)]
theorem rowsO_congr {n : Nat} {r r' : Nat → Nat → Prop} (h : ∀ x y, x < n → y < n → (r x y ↔ r' x y)) : rowsO n r = rowsO n r' := by
  unfold rowsO
  refine List.map_congr_left fun x hx => ?_
  unfold row
  rw [sel_congr fun y hy => h x y (List.mem_range.mp hx) hy]
theorem rowsU_congr {n : Nat} {r r' : Nat → Nat → Prop} (h : ∀ x y, x < n → y < n → (r x y ↔ r' x y)) : rowsU n r = rowsU n r' := by
  unfold rowsU
  refine List.map_congr_left fun x hx => ?_
  unfold row
  rw [sel_congr fun y hy => h y x hy (List.mem_range.mp hx)]
theorem spc_congr {n : Nat} {r r' : Nat → Nat → Prop} (h : ∀ x y, x < n → y < n → (r x y ↔ r' x y)) : spc n r = spc n r' := by
  unfold spc; rw [rowsO_congr h, rowsU_congr h]
/-- the pairs of a space -/
noncomputable def prs (n : Nat) (r : Nat → Nat → Prop) : List (Nat × Nat) := (List.range n).flatMap fun x => (sel n fun y => r x y ∧ y ≠ x).map fun y => (x, y)
theorem mem_prs {n : Nat} {r : Nat → Nat → Prop} {q : Nat × Nat} : q ∈ prs n r ↔ q.1 < n ∧ q.2 < n ∧ r q.1 q.2 ∧ q.2 ≠ q.1 := by
  obtain ⟨x, y⟩ := q
  simp only [prs, List.mem_flatMap, List.mem_range, List.mem_map, mem_sel, Prod.mk.injEq]
  constructor
  · rintro ⟨a, ha, b, ⟨hb, h1, h2⟩, rfl, rfl⟩
    exact ⟨ha, hb, h1, h2⟩
  · rintro ⟨h1, h2, h3, h4⟩
    exact ⟨x, h1, y, ⟨h2, h3, h4⟩, rfl, rfl⟩
theorem flat_len {α β : Type} (f : α → List β) (k : Nat) : ∀ l : List α, (∀ a ∈ l, (f a).length ≤ k) → (l.flatMap f).length ≤ l.length * k
  | [], _ => by simp
  | a :: l, h => by
    have h1 := h a (List.mem_cons_self ..)
    have h2 := flat_len f k l fun x hx => h x (List.mem_cons_of_mem _ hx)
    rw [List.flatMap_cons, List.length_append, List.length_cons, Nat.add_mul]
    omega
theorem prs_len (n : Nat) (r : Nat → Nat → Prop) : (prs n r).length ≤ n * n := by
  have := flat_len (fun x => (sel n fun y => r x y ∧ y ≠ x).map fun y => (x, y)) n (List.range n) fun x _ => by rw [List.length_map]; exact sel_length _ _
  simpa [prs] using this
/-- a relation that orders all n points -/
structure Po (n : Nat) (r : Nat → Nat → Prop) : Prop where
  refl : ∀ x, x < n → r x x
  trans : ∀ x y z, x < n → y < n → z < n → r x y → r y z → r x z
  anti : ∀ x y, x < n → y < n → r x y → r y x → x = y
/-- a relation that is a space -/
structure Qo (n : Nat) (r : Nat → Nat → Prop) : Prop where
  refl : ∀ x, x < n → r x x
  trans : ∀ x y z, x < n → y < n → z < n → r x y → r y z → r x z
theorem Qo.rt {n : Nat} {ps : List (Nat × Nat)} : Qo n (Rt ps) := ⟨fun x _ => .refl x, fun _ _ _ _ _ _ a b => a.trans b⟩
/-- pairs that rise by some rank never come back -/
theorem Rt.rank {ps : List (Nat × Nat)} {f : Nat → Nat} (h : ∀ q ∈ ps, f q.1 < f q.2) {x y : Nat} (r : Rt ps x y) : x = y ∨ f x < f y := by
  induction r with
  | refl => exact .inl rfl
  | tail _ h3 ih =>
    have := h _ h3
    rcases ih with rfl | ih
    · exact .inr this
    · exact .inr (Nat.lt_trans ih this)
theorem Po.rt {n : Nat} {ps : List (Nat × Nat)} {f : Nat → Nat} (h : ∀ q ∈ ps, f q.1 < f q.2) : Po n (Rt ps) :=
  ⟨fun x _ => .refl x, fun _ _ _ _ _ _ a b => a.trans b, fun x y _ _ a b => by
    rcases a.rank h with e | e
    · exact e
    · rcases b.rank h with e2 | e2
      · exact e2.symm
      · omega⟩
/-- the closure of a space's own pairs is the space -/
theorem rt_prs {n : Nat} {r : Nat → Nat → Prop} (q : Qo n r) {x y : Nat} (hx : x < n) (hy : y < n) : Rt (prs n r) x y ↔ r x y := by
  constructor
  · intro h
    have : y < n ∧ r x y := by
      clear hy
      induction h with
      | refl => exact ⟨hx, q.refl _ hx⟩
      | tail h1 h3 ih =>
        obtain ⟨a, b, c, _⟩ := mem_prs.mp h3
        exact ⟨b, q.trans _ _ _ hx a b ih.2 c⟩
    exact this.2
  · intro h
    by_cases e : y = x
    · subst e; exact .refl _
    · exact .one (mem_prs.mpr ⟨hx, hy, h, e⟩)
end CS
namespace CS
open PySem L2
open Classical
/-! ## numbers and rows of them: == -/
mutual
def D.pl : Nat → D → Bool
  | _, .int _ => true
  | n + 1, .tup ds => D.pls n ds
  | n + 1, .lst ds => D.pls n ds
  | _, _ => false
def D.pls : Nat → List D → Bool
  | _, [] => true
  | n, d :: ds => D.pl n d && D.pls n ds
end
theorem pls_all (n : Nat) : ∀ ds : List D, D.pls n ds = true ↔ ∀ d ∈ ds, D.pl n d = true
  | [] => by simp [D.pls]
  | d :: ds => by simp [D.pls, pls_all n ds]
mutual
theorem pl_sh : ∀ (n k : Nat) (d : D), n ≤ k → D.pl n d = true → D.sh k d = true
  | n, k, .int i, _, _ => by cases k <;> rfl
  | n + 1, 0, .tup ds, h, _ => by omega
  | n + 1, 0, .lst ds, h, _ => by omega
  | n + 1, k + 1, .tup ds, h, h2 => by
    simp only [D.sh]
    exact pls_shs n k ds (by omega) (by simpa [D.pl] using h2)
  | n + 1, k + 1, .lst ds, h, h2 => by
    simp only [D.sh]
    exact pls_shs n k ds (by omega) (by simpa [D.pl] using h2)
  | n, k, .non, _, h => by simp [D.pl] at h
  | n, k, .bl _, _, h => by simp [D.pl] at h
  | n, k, .str _, _, h => by simp [D.pl] at h
  | 0, k, .tup _, _, h => by simp [D.pl] at h
  | 0, k, .lst _, _, h => by simp [D.pl] at h
  | n, k, .ins _ _ _, _, h => by simp [D.pl] at h
  | n, k, .pen, _, h => by simp [D.pl] at h
  | n, k, .ty _, _, h => by simp [D.pl] at h
  | n, k, .cls _, _, h => by simp [D.pl] at h
theorem pls_shs : ∀ (n k : Nat) (ds : List D), n ≤ k → D.pls n ds = true → D.shs k ds = true
  | n, k, [], _, _ => by simp [D.shs]
  | n, k, d :: ds, h, h2 => by
    simp only [D.pls, Bool.and_eq_true] at h2
    simp only [D.shs, Bool.and_eq_true]
    exact ⟨pl_sh n k d h h2.1, pls_shs n k ds h h2.2⟩
end
mutual
theorem pl_eqv : ∀ (n m : Nat) (a b : D), D.pl n a = true → D.pl m b = true → (PyData.eqv a.py b.py = true ↔ a = b)
  | n, m, .int i, b, _, hb => by
    cases b with
    | int j => simp [D.py, PyData.eqv]
    | tup _ => simp [D.py, PyData.eqv]
    | lst _ => simp [D.py, PyData.eqv]
    | _ => simp [D.pl] at hb
  | n + 1, m, .tup ds, b, ha, hb => by
    cases b with
    | int j => simp [D.py, PyData.eqv]
    | lst _ => simp [D.py, PyData.eqv]
    | tup es =>
      cases m with
      | zero => simp [D.pl] at hb
      | succ m =>
        simp only [D.py, PyData.eqv, D.tup.injEq]
        exact pls_eqv n m ds es (by simpa [D.pl] using ha) (by simpa [D.pl] using hb)
    | _ => simp [D.pl] at hb
  | n + 1, m, .lst ds, b, ha, hb => by
    cases b with
    | int j => simp [D.py, PyData.eqv]
    | tup _ => simp [D.py, PyData.eqv]
    | lst es =>
      cases m with
      | zero => simp [D.pl] at hb
      | succ m =>
        simp only [D.py, PyData.eqv, D.lst.injEq]
        exact pls_eqv n m ds es (by simpa [D.pl] using ha) (by simpa [D.pl] using hb)
    | _ => simp [D.pl] at hb
  | 0, m, .tup ds, b, ha, hb => by simp [D.pl] at ha
  | 0, m, .lst ds, b, ha, hb => by simp [D.pl] at ha
  | n, m, .non, _, h, _ => by simp [D.pl] at h
  | n, m, .bl _, _, h, _ => by simp [D.pl] at h
  | n, m, .str _, _, h, _ => by simp [D.pl] at h
  | n, m, .ins _ _ _, _, h, _ => by simp [D.pl] at h
  | n, m, .pen, _, h, _ => by simp [D.pl] at h
  | n, m, .ty _, _, h, _ => by simp [D.pl] at h
  | n, m, .cls _, _, h, _ => by simp [D.pl] at h
theorem pls_eqv : ∀ (n m : Nat) (as bs : List D), D.pls n as = true → D.pls m bs = true → (PyData.eqvAll (D.pys as) (D.pys bs) = true ↔ as = bs)
  | n, m, [], [], _, _ => by simp [D.pys, PyData.eqvAll]
  | n, m, [], _ :: _, _, _ => by simp [D.pys, PyData.eqvAll]
  | n, m, _ :: _, [], _, _ => by simp [D.pys, PyData.eqvAll]
  | n, m, a :: as, b :: bs, ha, hb => by
    simp only [D.pls, Bool.and_eq_true] at ha hb
    simp only [D.pys, PyData.eqvAll, Bool.and_eq_true, List.cons.injEq]
    rw [pl_eqv n m a b ha.1 hb.1, pls_eqv n m as bs ha.2 hb.2]
end
theorem bool_iff {b : Bool} {P : Prop} [Decidable P] (h : b = true ↔ P) : b = decide P := by
  by_cases q : P
  · rw [decide_eq_true q]; exact h.mpr q
  · rw [decide_eq_false q]
    cases b with
    | false => rfl
    | true => exact absurd (h.mp rfl) q
theorem eqD_pl {a b : D} (ha : a.pl 9 = true) (hb : b.pl 9 = true) : eqD a b = .ok (.bl (decide (a = b))) := by
  unfold eqD
  rw [if_pos (by rw [pl_sh 9 40 a (by decide) ha, pl_sh 9 40 b (by decide) hb]; rfl)]
  congr 2
  exact bool_iff (pl_eqv 9 9 a b ha hb)
theorem neD_pl {a b : D} (ha : a.pl 9 = true) (hb : b.pl 9 = true) : neD a b = .ok (.bl (decide (a ≠ b))) := by
  unfold neD
  rw [if_pos (by rw [pl_sh 9 40 a (by decide) ha, pl_sh 9 40 b (by decide) hb]; rfl)]
  congr 2
  rw [show a.eqv b = decide (a = b) from bool_iff (pl_eqv 9 9 a b ha hb)]
  by_cases q : a = b
  · simp [q]
  · simp [q]
theorem any_eqv {x : D} {ds : List D} (hx : x.pl 9 = true) (hd : ∀ d ∈ ds, d.pl 9 = true) : (ds.any fun e => e.eqv x) = decide (x ∈ ds) := by
  refine bool_iff ?_
  rw [List.any_eq_true]
  constructor
  · rintro ⟨e, he, h⟩
    rw [show e = x from (pl_eqv 9 9 e x (hd e he) hx).mp h] at he
    exact he
  · exact fun h => ⟨x, h, (pl_eqv 9 9 x x hx hx).mpr rfl⟩
theorem inD_pl {x y : D} {ds : List D} (hr : y.row = .ok ds) (hx : x.pl 9 = true) (hd : ∀ d ∈ ds, d.pl 9 = true) : inD x y = .ok (.bl (decide (x ∈ ds))) := by
  unfold inD
  rw [hr]
  show (if _ then _ else _) = _
  rw [if_pos (by rw [pl_sh 9 40 x (by decide) hx, Bool.true_and, List.all_eq_true]; exact fun d h => pl_sh 9 40 d (by decide) (hd d h)), any_eqv hx hd]
theorem notInD_pl {x y : D} {ds : List D} (hr : y.row = .ok ds) (hx : x.pl 9 = true) (hd : ∀ d ∈ ds, d.pl 9 = true) : notInD x y = .ok (.bl (decide (x ∉ ds))) := by
  unfold notInD
  rw [hr]
  show (if _ then _ else _) = _
  rw [if_pos (by rw [pl_sh 9 40 x (by decide) hx, Bool.true_and, List.all_eq_true]; exact fun d h => pl_sh 9 40 d (by decide) (hd d h)), any_eqv hx hd]
  by_cases q : x ∈ ds
  · simp [q]
  · simp [q]
theorem nI_inj {a b : Nat} : nI a = nI b ↔ a = b := by
  unfold nI
  constructor
  · intro h; injection h with h; omega
  · rintro rfl; rfl
theorem prD_inj {a b : Nat × Nat} : prD a = prD b ↔ a = b := by
  obtain ⟨a1, a2⟩ := a
  obtain ⟨b1, b2⟩ := b
  unfold prD nI
  constructor
  · intro h; injection h with h; injection h with h1 h2; injection h2 with h2 h3
    injection h1 with h1; injection h2 with h2
    rw [show a1 = b1 by omega, show a2 = b2 by omega]
  · intro h; cases h; rfl
theorem mem_nI {a : Nat} {l : List Nat} : nI a ∈ l.map nI ↔ a ∈ l := by
  rw [List.mem_map]
  exact ⟨fun ⟨b, h, e⟩ => by rw [← nI_inj.mp e]; exact h, fun h => ⟨a, h, rfl⟩⟩
theorem map_nI_inj {l l' : List Nat} : l.map nI = l'.map nI ↔ l = l' := by
  constructor
  · intro h
    induction l generalizing l' with
    | nil => cases l' with
      | nil => rfl
      | cons _ _ => simp at h
    | cons a l ih => cases l' with
      | nil => simp at h
      | cons b l' =>
        simp only [List.map_cons, List.cons.injEq] at h
        rw [nI_inj.mp h.1, ih h.2]
  · rintro rfl; rfl
theorem pl_nI (n i : Nat) : (nI i).pl n = true := by cases n <;> rfl
theorem pl_mono : ∀ {n : Nat} {d : D}, d.pl n = true → ∀ k, n ≤ k → d.pl k = true := by
  intro n
  induction n with
  | zero =>
    intro d h k _
    cases d <;> simp [D.pl] at h
    cases k <;> rfl
  | succ n ih =>
    intro d h k hk
    cases k with
    | zero => omega
    | succ k =>
      cases d with
      | int _ => rfl
      | tup ds =>
        simp only [D.pl] at h ⊢
        rw [pls_all] at h ⊢
        exact fun x hx => ih (h x hx) k (by omega)
      | lst ds =>
        simp only [D.pl] at h ⊢
        rw [pls_all] at h ⊢
        exact fun x hx => ih (h x hx) k (by omega)
      | _ => simp [D.pl] at h
theorem pl_tup {n : Nat} {ds : List D} (h : ∀ d ∈ ds, d.pl n = true) : (D.tup ds).pl (n + 1) = true := by
  simp only [D.pl]; exact (pls_all n ds).mpr h
theorem pl_lst {n : Nat} {ds : List D} (h : ∀ d ∈ ds, d.pl n = true) : (D.lst ds).pl (n + 1) = true := by
  simp only [D.pl]; exact (pls_all n ds).mpr h
theorem pl_nums (l : List Nat) (n : Nat) : ∀ d ∈ l.map nI, d.pl n = true := fun d h => by
  obtain ⟨i, _, rfl⟩ := List.mem_map.mp h
  exact pl_nI n i
theorem pl_prD (q : Nat × Nat) : (prD q).pl 1 = true := pl_tup (n := 0) fun d h => by
  rcases List.mem_cons.mp h with rfl | h
  · rfl
  · rcases List.mem_cons.mp h with rfl | h
    · rfl
    · cases h
theorem pl_row (n : Nat) (P : Nat → Prop) : (row n P).pl 1 = true := pl_tup (pl_nums _ 0)
theorem pl_rowsO (n : Nat) (r : Nat → Nat → Prop) : ∀ d ∈ rowsO n r, d.pl 1 = true := fun d h => by
  obtain ⟨i, _, rfl⟩ := List.mem_map.mp h
  exact pl_row _ _
theorem eq_nat (a b : Nat) : eqD (nI a) (nI b) = .ok (.bl (decide (a = b))) := by
  rw [eqD_pl (pl_nI 9 a) (pl_nI 9 b)]
  congr 2
  exact decide_eq_decide.mpr nI_inj
theorem ne_nat (a b : Nat) : neD (nI a) (nI b) = .ok (.bl (decide (a ≠ b))) := by
  rw [neD_pl (pl_nI 9 a) (pl_nI 9 b)]
  congr 2
  exact decide_eq_decide.mpr (not_congr nI_inj)
theorem in_nums {y : D} {a : Nat} {l : List Nat} (h : y.row = .ok (l.map nI)) : inD (nI a) y = .ok (.bl (decide (a ∈ l))) := by
  rw [inD_pl h (pl_nI 9 a) (pl_nums l 9)]
  congr 2
  exact decide_eq_decide.mpr mem_nI
theorem notIn_nums {y : D} {a : Nat} {l : List Nat} (h : y.row = .ok (l.map nI)) : notInD (nI a) y = .ok (.bl (decide (a ∉ l))) := by
  rw [notInD_pl h (pl_nI 9 a) (pl_nums l 9)]
  congr 2
  exact decide_eq_decide.mpr (not_congr mem_nI)
theorem le_nat (a b : Nat) : leD (nI a) (nI b) = .ok (.bl (decide (a ≤ b))) := by
  show Res.ok (D.bl (decide ((a : Int) ≤ (b : Int)))) = _
  congr 2
  exact decide_eq_decide.mpr Int.ofNat_le
theorem lt_nat (a b : Nat) : ltD (nI a) (nI b) = .ok (.bl (decide (a < b))) := by
  show Res.ok (D.bl (decide ((a : Int) < (b : Int)))) = _
  congr 2
  exact decide_eq_decide.mpr Int.ofNat_lt
theorem ix_nat {t : D} {ds : List D} {i : Nat} {d : D} (hr : t.row = .ok ds) (h : ds[i]? = some d) : ixD t (nI i) = .ok d := by
  show (t.row.bind fun ds => match atI ds (i : Int) with
    | some d => Res.ok d
    | none => .bad) = _
  rw [hr]
  show (match atI ds (i : Int) with
    | some d => Res.ok d
    | none => .bad) = _
  rw [atI_nat h]
theorem add_nat (a b : Nat) : addD (nI a) (nI b) = .ok (nI (a + b)) := by
  show Res.ok (D.int ((a : Int) + (b : Int))) = _
  unfold nI
  rw [Int.natCast_add]
end CS
namespace CS
open PySem L2
open Classical
/-! ## sorted numbers -/
theorem toInts_nums : ∀ l : List Nat, toInts (l.map nI) = .ok (l.map fun (i : Nat) => (i : Int))
  | [] => rfl
  | a :: l => by
    have ih := toInts_nums l
    rw [List.map_cons]
    unfold toInts
    show Res.bind (toInts (l.map nI)) _ = _
    rw [ih]
    rfl
theorem sorted_sel {n : Nat} {P : Nat → Prop} {lot : List Nat} (hn : lot.Nodup) (h : ∀ y, y ∈ lot ↔ y < n ∧ P y) : sortedB [.lst (lot.map nI)] = .ok (.lst ((sel n P).map nI)) := by
  have e : sortI (lot.map fun (i : Nat) => (i : Int)) = (sel n P).map fun (i : Nat) => (i : Int) := by
    refine sorted_unique ((sortI_perm _).trans ?_) (sortI_sorted _) ?_
    · refine List.Perm.map _ ((List.perm_ext_iff_of_nodup hn (sel_nodup n P)).mpr fun a => ?_)
      rw [h, mem_sel]
    · rw [List.pairwise_map]
      exact (sel_sorted n P).imp fun h => by omega
  rw [sortedB_of]
  unfold sortedA
  dsimp only
  rw [toInts_nums]
  dsimp only
  rw [e, List.map_map]
  rfl
/-! ## walking from point to point -/
inductive Rn (nb : Nat → List Nat) (s : Nat) : Nat → Prop
  | refl : Rn nb s s
  | tail {y z : Nat} : Rn nb s y → z ∈ nb y → Rn nb s z
def bfs (nbl lot : List Nat) : List Nat := nbl.foldl (fun l y => if y ∈ l then l else l ++ [y]) lot
theorem bfs_pre : ∀ (nbl lot : List Nat), ∃ t, bfs nbl lot = lot ++ t
  | [], lot => ⟨[], by simp [bfs]⟩
  | y :: nbl, lot => by
    show ∃ t, bfs nbl (if y ∈ lot then lot else lot ++ [y]) = lot ++ t
    split
    · exact bfs_pre nbl lot
    · obtain ⟨t, h⟩ := bfs_pre nbl (lot ++ [y])
      exact ⟨[y] ++ t, by rw [h, List.append_assoc]⟩
theorem bfs_mem : ∀ (nbl lot : List Nat) (z : Nat), z ∈ bfs nbl lot ↔ z ∈ lot ∨ z ∈ nbl
  | [], lot, z => by simp [bfs]
  | y :: nbl, lot, z => by
    show z ∈ bfs nbl (if y ∈ lot then lot else lot ++ [y]) ↔ _
    rw [bfs_mem nbl]
    split
    · rename_i h
      constructor
      · rintro (h1 | h1)
        · exact .inl h1
        · exact .inr (List.mem_cons_of_mem _ h1)
      · rintro (h1 | h1)
        · exact .inl h1
        · rcases List.mem_cons.mp h1 with rfl | h1
          · exact .inl h
          · exact .inr h1
    · rw [List.mem_append, List.mem_singleton, List.mem_cons]
      constructor
      · rintro ((h1 | h1) | h1)
        · exact .inl h1
        · exact .inr (.inl h1)
        · exact .inr (.inr h1)
      · rintro (h1 | h1 | h1)
        · exact .inl (.inl h1)
        · exact .inl (.inr h1)
        · exact .inr h1
theorem bfs_nodup : ∀ (nbl lot : List Nat), lot.Nodup → (bfs nbl lot).Nodup
  | [], lot, h => h
  | y :: nbl, lot, h => by
    show (bfs nbl (if y ∈ lot then lot else lot ++ [y])).Nodup
    refine bfs_nodup nbl _ ?_
    split
    · exact h
    · rename_i hy
      rw [List.nodup_append]
      exact ⟨h, by simp, fun a ha b hb => by
        rw [List.mem_singleton] at hb
        subst hb
        rintro rfl
        exact hy ha⟩
theorem nodup_len {n : Nat} {l : List Nat} (h : l.Nodup) (hl : ∀ y ∈ l, y < n) : l.length ≤ n := by
  have e : (sel n fun y => y ∈ l).Perm l := (List.perm_ext_iff_of_nodup (sel_nodup _ _) h).mpr fun a => by
    rw [mem_sel]
    exact ⟨fun h => h.2, fun h => ⟨hl a h, h⟩⟩
  rw [← e.length_eq]
  exact sel_length _ _
structure BInv (nb : Nat → List Nat) (n s at_ : Nat) (lot : List Nat) : Prop where
  nd : lot.Nodup
  lt : ∀ y ∈ lot, y < n
  st : s ∈ lot
  rch : ∀ y ∈ lot, Rn nb s y
  cl : ∀ (i x : Nat), i < at_ → lot[i]? = some x → ∀ y ∈ nb x, y ∈ lot
  le : at_ ≤ lot.length
theorem BInv.start {nb : Nat → List Nat} {n s : Nat} (h : s < n) : BInv nb n s 0 [s] :=
  ⟨by simp, fun y hy => by rw [List.mem_singleton] at hy; omega, by simp, fun y hy => by rw [List.mem_singleton] at hy; subst hy; exact .refl, fun i x hi => by omega, Nat.zero_le _⟩
theorem BInv.next {nb : Nat → List Nat} {n s k x : Nat} {lot : List Nat} (I : BInv nb n s k lot) (hnb : ∀ y z, y < n → z ∈ nb y → z < n) (hx : lot[k]? = some x) : BInv nb n s (k + 1) (bfs (nb x) lot) := by
  have hm : x ∈ lot := List.mem_of_getElem? hx
  obtain ⟨t, ht⟩ := bfs_pre (nb x) lot
  have hk : k < lot.length := (List.getElem?_eq_some_iff.mp hx).1
  refine ⟨bfs_nodup _ _ I.nd, fun y hy => ?_, (bfs_mem _ _ _).mpr (.inl I.st), fun y hy => ?_, fun i z hi hz y hy => ?_, ?_⟩
  · rcases (bfs_mem _ _ _).mp hy with h | h
    · exact I.lt y h
    · exact hnb x y (I.lt x hm) h
  · rcases (bfs_mem _ _ _).mp hy with h | h
    · exact I.rch y h
    · exact (I.rch x hm).tail h
  · have hz' : lot[i]? = some z := by
      rw [ht, List.getElem?_append_left (by omega)] at hz
      exact hz
    by_cases e : i = k
    · subst e
      rw [hx] at hz'
      cases hz'
      exact (bfs_mem _ _ _).mpr (.inr hy)
    · exact (bfs_mem _ _ _).mpr (.inl (I.cl i z (by omega) hz' y hy))
  · rw [ht, List.length_append]; omega
theorem BInv.fin {nb : Nat → List Nat} {n s : Nat} {lot : List Nat} (I : BInv nb n s lot.length lot) (y : Nat) : y ∈ lot ↔ Rn nb s y := by
  refine ⟨I.rch y, fun h => ?_⟩
  induction h with
  | refl => exact I.st
  | tail _ h2 ih =>
    obtain ⟨i, hi, he⟩ := List.mem_iff_getElem.mp ih
    exact I.cl i _ hi (by rw [List.getElem?_eq_getElem hi, he]) _ h2
/-! the loops of a walk: slot i the lot, j the neighbour, a the place -/
theorem getO_ow {env : Env'} {i : Nat} {ds : List D} (h : env[i]? = some (.ow (.lst ds))) : getO env i = .ok ds := by unfold getO; rw [h]
theorem getW_ow {env : Env'} {i : Nat} {ds : List D} (h : env[i]? = some (.ow (.lst ds))) : getW env i = .ok ds := by unfold getW; rw [h]
theorem run_chk {env : Env'} {p : Pn} {i : Nat} {ds : List D} (h : env[i]? = some (.ow (.lst ds))) : mChk i env p = .ok ((), env, p) := by
  unfold mChk; rw [getO_ow h]; rfl
theorem run_var {env : Env'} {p : Pn} {i : Nat} {d : D} (h : env[i]? = some (.pl d)) : dVar i env p = .ok (d, env, p) := by
  unfold dVar getPl; rw [h]; rfl
theorem run_append {env : Env'} {p p1 : Pn} {i : Nat} {m : M D} {d : D} {ds : List D} (h : env[i]? = some (.ow (.lst ds))) (hm : m env p = .ok (d, env, p1)) (hl : ds.length < sizeLine) : mAppend i m env p = .ok (.non, env.set i (.ow (.lst (ds ++ [d]))), p1) := by
  refine run_bind (run_chk h) (run_bind hm (run_bind (a := ds) (e1 := env) (p1 := p1) ?_ (run_bind (a := ()) (e1 := env) (p1 := p1) ?_ rfl)))
  · unfold mGetW; rw [getW_ow h]; rfl
  · refine run_res ?_
    rw [if_pos hl]
theorem run_ixO {env : Env'} {p p1 : Pn} {i : Nat} {m : M D} {k d : D} {ds : List D} (h : env[i]? = some (.ow (.lst ds))) (hm : m env p = .ok (k, env, p1)) (hx : ixD (.lst ds) k = .ok d) : mIxO i m env p = .ok (d, env, p1) := by
  refine run_bind (run_chk h) (run_bind hm (run_bind (a := ds) (e1 := env) (p1 := p1) ?_ (run_res hx)))
  unfold mGetO; rw [getO_ow h]; rfl
theorem run_lenO {env : Env'} {p : Pn} {i : Nat} {ds : List D} (h : env[i]? = some (.ow (.lst ds))) : mBor (mCB lenD (mCons (dVar i) mNil)) env p = .ok (nI ds.length, env, p) := by
  have h2 : (env.map Slot.fz)[i]? = some (.pl (.lst ds)) := by rw [List.getElem?_map, h]; rfl
  refine run_bor (e1 := env.map Slot.fz) (pCB (pOne (run_var h2)) ?_) rfl
  rfl

/-- all slots but these stand still -/
structure Frm (is : List Nat) (e0 e1 : Env') : Prop where
  len : e1.length = e0.length
  at_ : ∀ k, k ∉ is → e1[k]? = e0[k]?
theorem Frm.refl {is : List Nat} {e : Env'} : Frm is e e := ⟨rfl, fun _ _ => rfl⟩
theorem Frm.trans {is : List Nat} {a b c : Env'} (h : Frm is a b) (h2 : Frm is b c) : Frm is a c := ⟨h2.len.trans h.len, fun k hk => (h2.at_ k hk).trans (h.at_ k hk)⟩
theorem Frm.set {is : List Nat} {e : Env'} {i : Nat} {s : Slot} (h : i ∈ is) : Frm is e (e.set i s) := ⟨by simp, fun k hk => by rw [List.getElem?_set_ne]; rintro rfl; exact hk h⟩
theorem bfs_for {p : Pn} {i j n : Nat} (hij : i ≠ j) : ∀ (nbl lot : List Nat) (env : Env'), lot.Nodup → (∀ y ∈ lot, y < n) → (∀ y ∈ nbl, y < n) → n ≤ 1000 → env[i]? = some (.ow (.lst (lot.map nI))) → j < env.length →
    ∃ env', dForL (bNm j) (dIf (mBorT (mB (m2 notInD (dVar j) (dVar i)))) (dExpr (mAppend i (dVar j))) dNext) (nbl.map nI) env p = .nx env' p ∧ env'[i]? = some (.ow (.lst ((bfs nbl lot).map nI))) ∧ Frm [i, j] env env'
  | [], lot, env, _, _, _, _, hi, _ => ⟨env, rfl, hi, Frm.refl⟩
  | y :: nbl, lot, env, hn, hl, hb, h1000, hi, hj => by
    have hi1 : (env.set j (.pl (nI y)))[i]? = some (.ow (.lst (lot.map nI))) := by rw [List.getElem?_set_ne (Ne.symm hij)]; exact hi
    have hj1 : (env.set j (.pl (nI y)))[j]? = some (.pl (nI y)) := by rw [List.getElem?_set_self hj]
    have ht : mBorT (mB (m2 notInD (dVar j) (dVar i))) (env.set j (.pl (nI y))) p = .ok (decide (y ∉ lot), env.set j (.pl (nI y)), p) := by
      have a1 : ((env.set j (.pl (nI y))).map Slot.fz)[j]? = some (.pl (nI y)) := by rw [List.getElem?_map, hj1]; rfl
      have a2 : ((env.set j (.pl (nI y))).map Slot.fz)[i]? = some (.pl (.lst (lot.map nI))) := by rw [List.getElem?_map, hi1]; rfl
      exact run_borT (e1 := (env.set j (.pl (nI y))).map Slot.fz) (pB (pM2 (run_var a1) (run_var a2) (notIn_nums rfl)))
    have hstep : ∃ e2, dIf (mBorT (mB (m2 notInD (dVar j) (dVar i)))) (dExpr (mAppend i (dVar j))) dNext (env.set j (.pl (nI y))) p = .nx e2 p ∧ e2[i]? = some (.ow (.lst ((if y ∈ lot then lot else lot ++ [y]).map nI))) ∧ Frm [i, j] env e2 := by
      by_cases hy : y ∈ lot
      · rw [decide_eq_false (not_not_intro hy)] at ht
        exact ⟨_, pIfF ht rfl, by rw [if_pos hy]; exact hi1, Frm.set (by simp)⟩
      · rw [decide_eq_true hy] at ht
        have hlen : (lot.map nI).length < sizeLine := by
          rw [List.length_map]
          have := nodup_len hn hl
          show lot.length < 16777216
          omega
        refine ⟨_, pIfT ht (run_expr (run_append hi1 (run_var hj1) hlen)), ?_, (Frm.set (by simp)).trans (Frm.set (by simp))⟩
        rw [if_neg hy, List.map_append]
        have hil : i < (env.set j (.pl (nI y))).length := (List.getElem?_eq_some_iff.mp hi1).1
        rw [List.getElem?_set_self hil]
        rfl
    obtain ⟨e2, h2, h3, h4⟩ := hstep
    have hn2 : (if y ∈ lot then lot else lot ++ [y]).Nodup := bfs_nodup [y] lot hn
    have hl2 : ∀ z ∈ (if y ∈ lot then lot else lot ++ [y]), z < n := fun z hz => by
      rcases (bfs_mem [y] lot z).mp hz with h | h
      · exact hl z h
      · rw [List.mem_singleton] at h; subst h; exact hb _ (List.mem_cons_self ..)
    obtain ⟨e3, h5, h6, h7⟩ := bfs_for (p := p) hij nbl _ e2 hn2 hl2 (fun z hz => hb z (List.mem_cons_of_mem _ hz)) h1000 h3 (by rw [h4.len]; exact hj)
    refine ⟨e3, ?_, h6, h4.trans h7⟩
    rw [List.map_cons]
    unfold dForL
    show (match (dIf (mBorT (mB (m2 notInD (dVar j) (dVar i)))) (dExpr (mAppend i (dVar j))) dNext) (env.set j (.pl (nI y))) p with
      | .nx e p => dForL (bNm j) _ (nbl.map nI) e p
      | .ct e p => dForL (bNm j) _ (nbl.map nI) e p
      | .bk e p => .nx e p
      | .rt d p => .rt d p
      | .exc c xs => .exc c xs
      | .bad => .bad) = _
    rw [h2]
    exact h5
theorem bfs_while {p : Pn} {i j a n s : Nat} {nb : Nat → List Nat} {src : M (List D)} {e0 : Env'} (hij : i ≠ j) (hia : i ≠ a) (hja : j ≠ a) (hj : j < e0.length) (ha : a < e0.length) (h1000 : n ≤ 1000) (hnb : ∀ y z, y < n → z ∈ nb y → z < n)
    (hsrc : ∀ (env : Env') (lot : List Nat) (k x : Nat), Frm [i, j, a] e0 env → env[i]? = some (.ow (.lst (lot.map nI))) → env[a]? = some (.pl (nI k)) → lot[k]? = some x → x < n → src env p = .ok ((nb x).map nI, env, p))
    (hs : s < n) (hi0 : e0[i]? = some (.ow (.lst ([s].map nI)))) (ha0 : e0[a]? = some (.pl (nI 0))) :
    ∃ (env' : Env') (lot : List Nat), dWhile (mB (m2 ltD (dVar a) (mBor (mCB lenD (mCons (dVar i) mNil))))) (dSeq (dFor src (bNm j) (dIf (mBorT (mB (m2 notInD (dVar j) (dVar i)))) (dExpr (mAppend i (dVar j))) dNext)) (dAug a addI (M.ret (.int 1)))) e0 p = .nx env' p ∧
      Frm [i, j, a] e0 env' ∧ env'[i]? = some (.ow (.lst (lot.map nI))) ∧ lot.Nodup ∧ ∀ y, y ∈ lot ↔ y < n ∧ Rn nb s y := by
  obtain ⟨e', p', h1, rfl, h3, lot, h4, h5, h6⟩ := run_while (c := mB (m2 ltD (dVar a) (mBor (mCB lenD (mCons (dVar i) mNil)))))
    (body := dSeq (dFor src (bNm j) (dIf (mBorT (mB (m2 notInD (dVar j) (dVar i)))) (dExpr (mAppend i (dVar j))) dNext)) (dAug a addI (M.ret (.int 1))))
    (fun m env p1 => p1 = p ∧ Frm [i, j, a] e0 env ∧ ∃ (k : Nat) (lot : List Nat), env[i]? = some (.ow (.lst (lot.map nI))) ∧ env[a]? = some (.pl (nI k)) ∧ BInv nb n s k lot ∧ m + k = n)
    (fun env p1 => p1 = p ∧ Frm [i, j, a] e0 env ∧ ∃ (lot : List Nat), env[i]? = some (.ow (.lst (lot.map nI))) ∧ lot.Nodup ∧ ∀ y, y ∈ lot ↔ y < n ∧ Rn nb s y)
    (fun m env p1 ⟨hp, F, k, lot, hi, hk, I, hm⟩ => by
      subst hp
      have hc : mB (m2 ltD (dVar a) (mBor (mCB lenD (mCons (dVar i) mNil)))) env p1 = .ok (decide (k < lot.length), env, p1) := by
        have := lt_nat k (lot.map nI).length
        rw [List.length_map] at this
        exact pB (pM2 (run_var hk) (run_lenO hi) (by rw [List.length_map]; exact this))
      refine ⟨_, _, _, hc, fun hlt => ?_, fun hge => ⟨rfl, F, lot, hi, I.nd, ?_⟩⟩
      · have hlt : k < lot.length := of_decide_eq_true hlt
        have hx : lot[k]? = some lot[k] := List.getElem?_eq_getElem hlt
        have hxn := I.lt _ (List.getElem_mem hlt)
        have hln := nodup_len I.nd I.lt
        obtain ⟨e2, g1, g2, g3⟩ := bfs_for (p := p1) (n := n) hij (nb lot[k]) lot env I.nd I.lt (fun y hy => hnb _ y hxn hy) h1000 hi (by rw [F.len]; exact hj)
        have g3' : Frm [i, j, a] env e2 := ⟨g3.len, fun q hq => g3.at_ q (by simp at hq ⊢; exact ⟨hq.1, hq.2.1⟩)⟩
        have hk2 : e2[a]? = some (.pl (nI k)) := by rw [g3.at_ a (by simp; exact ⟨Ne.symm hia, Ne.symm hja⟩)]; exact hk
        refine ⟨m - 1, e2.set a (.pl (nI (k + 1))), p1, run_seq (run_of (hsrc env lot k _ F hi hk hx hxn) g1) ?_, by omega, rfl, F.trans (g3'.trans (Frm.set (by simp))), k + 1, bfs (nb lot[k]) lot, ?_, ?_, I.next hnb hx, by omega⟩
        · refine run_of (a := nI (k + 1)) (e1 := e2) (p1 := p1) ?_ rfl
          exact run_bind (run_var hk2) (run_bind (a := D.int 1) (e1 := e2) (p1 := p1) rfl rfl)
        · rw [List.getElem?_set_ne (Ne.symm hia)]; exact g2
        · rw [List.getElem?_set_self (by rw [g3.len, F.len]; exact ha)]
      · have hge : ¬ k < lot.length := of_decide_eq_false hge
        have e : k = lot.length := by have := I.le; omega
        subst e
        exact fun y => ⟨fun h => ⟨I.lt y h, (I.fin y).mp h⟩, fun h => (I.fin y).mpr h.2⟩)
    n e0 p ⟨rfl, Frm.refl, 0, [s], hi0, ha0, BInv.start hs, by omega⟩
  exact ⟨e', lot, h1, h3, h4, h5, h6⟩
end CS
namespace CS
open PySem L2
open Classical
theorem v_is_integer (i : Int) (p : Pn) : m_is_integer [.int i] p = .ok (.bl true, p) := run_fn rfl (pRet rfl)
theorem v_is_rowL (l : List D) (p : Pn) : m_is_row [.lst l] p = .ok (.bl true, p) := run_fn rfl (pRet rfl)
theorem v_is_rowT (l : List D) (p : Pn) : m_is_row [.tup l] p = .ok (.bl true, p) := run_fn rfl (pRet rfl)
theorem v_is_point_of (n i : Nat) (h : i < n) (p : Pn) : m_is_point_of [nI n, nI i] p = .ok (.bl true, p) := by
  refine run_fn rfl (pRet (pAndT (pCall rfl (v_is_integer _ _)) ?_))
  have h1 := le_nat 0 i
  have h2 := lt_nat i n
  rw [decide_eq_true (Nat.zero_le i)] at h1
  rw [decide_eq_true h] at h2
  exact pChain rfl rfl h1 rfl h2
theorem v_is_pair_of (n : Nat) (q : Nat × Nat) (h : q.1 < n ∧ q.2 < n) (p : Pn) : m_is_pair_of [nI n, prD q] p = .ok (.bl true, p) := by
  refine run_fn rfl (pRet (pAndT rfl (pAndT rfl ?_)))
  refine pCB (pOne (run_comp nI (fun _ => true) (fun _ => D.bl true) [q.1, q.2] rfl (fun a ha => ⟨_, rfl, _, rfl, fun _ => ⟨_, run_call rfl (v_is_point_of n a ?_ p)⟩⟩) (by show 2 ≤ sizeLine; decide))) rfl
  rcases List.mem_cons.mp ha with rfl | ha
  · exact h.1
  · rcases List.mem_cons.mp ha with rfl | ha
    · exact h.2
    · cases ha
theorem run_frz {env : Env'} {p : Pn} {i : Nat} {d : D} {s : SS} {o : Out} (h : env[i]? = some (.ow d)) (h2 : s (env.set i (.pl d)) p = o) : dFrz [i] s env p = o := by
  show s (frz1 env i) p = o
  unfold frz1
  rw [h]
  exact h2
noncomputable def nbP (ps : List (Nat × Nat)) (x : Nat) : List Nat := (ps.filter fun q => decide (q.1 = x)).map (·.2)
theorem mem_nbP {ps : List (Nat × Nat)} {x y : Nat} : y ∈ nbP ps x ↔ (x, y) ∈ ps := by
  simp only [nbP, List.mem_map, List.mem_filter, decide_eq_true_eq]
  constructor
  · rintro ⟨⟨a, b⟩, ⟨h, rfl⟩, rfl⟩; exact h
  · intro h; exact ⟨(x, y), ⟨h, rfl⟩, rfl⟩
theorem rn_rt {ps : List (Nat × Nat)} {x y : Nat} : Rn (nbP ps) x y ↔ Rt ps x y := by
  constructor
  · intro h
    induction h with
    | refl => exact .refl _
    | tail _ h2 ih => exact ih.tail (mem_nbP.mp h2)
  · intro h
    induction h with
    | refl => exact .refl
    | tail _ h2 ih => exact ih.tail (mem_nbP.mpr h2)
theorem v_led_on (n : Nat) (ps : List (Nat × Nat)) (hn : n ≤ 24) (hin : In n ps) (hl : ps.length ≤ 100000) (p : Pn) : m_led_on [nI n, .lst (ps.map prD)] p = .ok (.tup (rowsO n (Rt ps)), p) := by
  refine run_fn rfl ?_
  have hA : mComp (mRange1 (dVar 0)) [4] (bNm 4) mYes (mComp (mRow (dVar 1)) [8, 7] (bTup 2 (bCons (bNm 8) (bCons (bNm 7) bNil))) (mB (m2 eqD (dVar 8) (dVar 4))) (dVar 7)) [.pl (nI n), .pl (.lst (ps.map prD)), .un, .un, .un, .un, .un, .un, .un] p = .ok (.lst ((List.range n).map fun x => .lst ((nbP ps x).map nI)), [.pl (nI n), .pl (.lst (ps.map prD)), .un, .un, .un, .un, .un, .un, .un], p) := by
    have := run_comp (src := mRange1 (dVar 0)) (vs := [4]) (b := bNm 4) (t := mYes) (e := mComp (mRow (dVar 1)) [8, 7] (bTup 2 (bCons (bNm 8) (bCons (bNm 7) bNil))) (mB (m2 eqD (dVar 8) (dVar 4))) (dVar 7)) nI (fun _ => true) (fun x => .lst ((nbP ps x).map nI)) (List.range n) (run_range (env := [.pl (nI n), .pl (.lst (ps.map prD)), .un, .un, .un, .un, .un, .un, .un]) (p := p) rfl (by omega)) (fun x hx => ⟨_, rfl, _, rfl, fun _ => ⟨_, by
      have h2 := run_comp (src := mRow (dVar 1)) (vs := [8, 7]) (b := bTup 2 (bCons (bNm 8) (bCons (bNm 7) bNil))) (t := mB (m2 eqD (dVar 8) (dVar 4))) (e := dVar 7) prD (fun q => decide (q.1 = x)) (fun q => nI q.2) ps (env := [.pl (nI n), .pl (.lst (ps.map prD)), .un, .un, .pl (nI x), .un, .un, .un, .un]) (p := p) (run_row rfl rfl) (fun q _ => ⟨_, rfl, _, pB (pM2 rfl rfl (eq_nat _ _)), fun _ => ⟨_, rfl⟩⟩) (Nat.le_trans hl (by decide))
      rw [show (ps.filter fun q => decide (q.1 = x)).map (fun q => nI q.2) = (nbP ps x).map nI by unfold nbP; rw [List.map_map]; rfl] at h2
      exact h2⟩⟩) (by rw [List.length_range]; exact Nat.le_trans hn (by decide))
    rw [List.filter_eq_self.mpr (fun _ _ => rfl)] at this
    exact this
  refine run_seq (pSet hA) (run_seq (pSetO rfl) ?_)
  obtain ⟨e', p', h1, rfl, h2, h3⟩ := run_for (src := mRange1 (dVar 0)) (b := bNm 4) (body := (dSeq (dParO 5 6 (mLst (mCons (dVar 4) mNil)) (M.ret (.int 0))) (dSeq (dWhile (mB (m2 ltD (dVar 6) (mBor (mCB lenD (mCons (dVar 5) mNil))))) (dSeq (dFor (mRow (m2 ixD (dVar 2) (mIxO 5 (dVar 6)))) (bNm 7) (dIf (mBorT (mB (m2 notInD (dVar 7) (dVar 5)))) (dExpr (mAppend 5 (dVar 7))) (dNext))) (dAug 6 addI (M.ret (.int 1))))) (dFrz [5] (dExpr (mAppend 3 (mCB tupleD (mCons (mCB sortedB (mCons (dVar 5) mNil)) mNil))))))))
    (env := [.pl (nI n), .pl (.lst (ps.map prD)), .pl (.lst ((List.range n).map fun x => .lst ((nbP ps x).map nI))), .ow (.lst []), .un, .un, .un, .un, .un]) (p := p) nI (List.range n)
    (fun done env p1 => p1 = p ∧ env[3]? = some (.ow (.lst (done.map fun x => row n (Rt ps x)))) ∧ env.length = 9 ∧ env[2]? = some (.pl (.lst ((List.range n).map fun x => .lst ((nbP ps x).map nI)))))
    (run_range rfl (by omega)) ⟨rfl, rfl, rfl, rfl⟩ (fun done x rest env p1 hd ⟨hp, h3, hlen, h2⟩ => by
      subst hp
      have hxn : x < n := by
        have : x ∈ List.range n := by rw [hd]; simp
        exact List.mem_range.mp this
      have hdl : done.length < 24 := by
        have := congrArg List.length hd
        simp at this
        omega
      refine ⟨_, rfl, ?_⟩
      obtain ⟨e2, lot, g1, g2, g3, g4, g5⟩ := bfs_while (p := p1) (i := 5) (j := 7) (a := 6) (n := n) (s := x) (nb := nbP ps) (src := mRow (m2 ixD (dVar 2) (mIxO 5 (dVar 6)))) (e0 := ((env.set 4 (.pl (nI x))).set 5 (.ow (.lst [nI x]))).set 6 (.pl (.int 0))) (by decide) (by decide) (by decide) (by simp [hlen]) (by simp [hlen]) (by omega)
        (fun y z hy hz => (hin _ (mem_nbP.mp hz)).2)
        (fun env' lot k z F hi hk hz hzn => by
          have e2 : env'[2]? = some (.pl (.lst ((List.range n).map fun x => .lst ((nbP ps x).map nI)))) := by
            rw [F.at_ 2 (by decide)]
            rw [List.getElem?_set_ne (by decide), List.getElem?_set_ne (by decide), List.getElem?_set_ne (by decide)]
            exact h2
          refine run_row (pM2 (run_var e2) (run_ixO hi (run_var hk) (ix_nat rfl (by rw [List.getElem?_map, hz]; rfl))) (ix_nat rfl (by rw [List.getElem?_map, List.getElem?_range hzn]; rfl))) rfl)
        hxn (by rw [List.getElem?_set_ne (by decide), List.getElem?_set_self (by simp [hlen])]; rfl) (by rw [List.getElem?_set_self (by simp [hlen])]; rfl)
      have e3 : e2[3]? = some (.ow (.lst (done.map fun x => row n (Rt ps x)))) := by
        rw [g2.at_ 3 (by decide), List.getElem?_set_ne (by decide), List.getElem?_set_ne (by decide), List.getElem?_set_ne (by decide)]
        exact h3
      have e2l : e2.length = 9 := by rw [g2.len]; simp [hlen]
      have e22 : e2[2]? = some (.pl (.lst ((List.range n).map fun x => .lst ((nbP ps x).map nI)))) := by
        rw [g2.at_ 2 (by decide), List.getElem?_set_ne (by decide), List.getElem?_set_ne (by decide), List.getElem?_set_ne (by decide)]
        exact h2
      have hpar : dParO 5 6 (mLst (mCons (dVar 4) mNil)) (M.ret (.int 0)) (env.set 4 (.pl (nI x))) p1 = .nx (((env.set 4 (.pl (nI x))).set 5 (.ow (.lst [nI x]))).set 6 (.pl (.int 0))) p1 :=
        run_parO (run_lst (run_cons (run_var (List.getElem?_set_self (by rw [hlen]; decide))) rfl) (by show 1 ≤ sizeLine; decide)) rfl
      refine ⟨_, _, run_seq hpar (run_seq g1 (run_frz g3 (run_expr (run_append (p1 := p1) (d := row n (Rt ps x)) (by rw [List.getElem?_set_ne (by decide)]; exact e3) ?_ ?_)))), rfl, ?_, by simp [e2l], ?_⟩
      · refine pCB (pOne (pCB (pOne (run_var (List.getElem?_set_self (by rw [e2l]; decide)))) (sorted_sel (n := n) (P := Rt ps x) g4 fun y => ?_))) rfl
        rw [g5, rn_rt]
      · rw [List.length_map]; exact Nat.lt_trans hdl (by decide)
      · rw [List.getElem?_set_self (by simp [e2l]), List.map_append]; rfl
      · rw [List.getElem?_set_ne (by decide), List.getElem?_set_ne (by decide)]; exact e22)
  refine run_seq h1 (run_frz h2 (pRet (pCB (pOne (run_var (List.getElem?_set_self ?_))) rfl)))
  rw [h3.1]; decide
end CS
namespace CS
open PySem L2
open Classical
theorem fld_many {n : Nat} {r : Nat → Nat → Prop} : fldD ["Space"] "many" (spc n r) = .ok (nI n) := rfl
theorem fld_over {n : Nat} {r : Nat → Nat → Prop} : fldD ["Space"] "over" (spc n r) = .ok (.tup (rowsO n r)) := rfl
theorem fld_under {n : Nat} {r : Nat → Nat → Prop} : fldD ["Space"] "under" (spc n r) = .ok (.tup (rowsU n r)) := rfl
theorem rowsO_at {n x : Nat} {r : Nat → Nat → Prop} (h : x < n) : (rowsO n r)[x]? = some (row n (r x)) := by
  unfold rowsO
  rw [List.getElem?_map, List.getElem?_range h]; rfl
theorem rowsU_at {n y : Nat} {r : Nat → Nat → Prop} (h : y < n) : (rowsU n r)[y]? = some (row n fun x => r x y) := by
  unfold rowsU
  rw [List.getElem?_map, List.getElem?_range h]; rfl
def enP : Nat → List (Nat × Nat) → List (Nat × (Nat × Nat))
  | _, [] => []
  | k, q :: r => (k, q) :: enP (k + 1) r
def enD (z : Nat × (Nat × Nat)) : D := .tup [nI z.1, prD z.2]
theorem enP_eq : ∀ (k : Nat) (ps : List (Nat × Nat)), enumL k (ps.map prD) = (enP k ps).map enD
  | _, [] => rfl
  | k, q :: r => by
    show D.tup [D.int k, prD q] :: enumL (k + 1) (r.map prD) = _
    rw [enP_eq (k + 1) r]; rfl
theorem enP_mem : ∀ (k : Nat) (ps : List (Nat × Nat)) (z : Nat × (Nat × Nat)), z ∈ enP k ps → z.2 ∈ ps
  | _, [], z, h => by cases h
  | k, q :: r, z, h => by
    rcases List.mem_cons.mp h with rfl | h
    · exact List.mem_cons_self ..
    · exact List.mem_cons_of_mem _ (enP_mem _ r z h)
theorem run_fldS {env : Env'} {p p1 : Pn} {i : Nat} {cl : List Str} {f : Str} {m : M D} {d : D} {c : Str} {ns : List Str} {ds : List D} (h : m env p = .ok (d, env, p1)) (hi : env[i]? = some (.ow (.ins c ns ds))) (hc : c ∈ cl ∧ f ∉ ns ∧ ns.length < 1000 ∧ ds.length = ns.length) :
    dFldS i cl f m env p = .nx (env.set i (.ow (.ins c (ns ++ [f]) (ds ++ [d])))) p1 := by
  refine run_of h ?_
  have : getIW env i = .ok (c, ns, ds) := by unfold getIW; rw [hi]
  rw [this]
  dsimp only
  rw [if_pos hc]
theorem init_aux (n : Nat) (ps : List (Nat × Nat)) (X : D) (hX : X.row = .ok (ps.map prD)) (hrow : ∀ p, m_is_row [X] p = .ok (.bl true, p)) (hlist : listD [X] = .ok (.lst (ps.map prD))) (hn : n ≤ 24) (hin : In n ps) (hl : ps.length ≤ 100000) (p : Pn) : m_Space_init [nI n, X] p = .ok (spc n (Rt ps), p) := by
  have hb : ∃ env, b_Space_init [.ow (.ins "Space" [] []), .pl (nI n), .pl X, .un, .un, .un, .un] p = .nx env p ∧ env[0]? = some (.ow (spc n (Rt ps))) := by
    have c24 := le_nat n 24
    rw [decide_eq_true hn] at c24
    have c0 := le_nat 0 n
    rw [decide_eq_true (Nat.zero_le n)] at c0
    obtain ⟨e', p', h1, rfl, F⟩ := run_for (src := mEnum (dVar 2)) (b := bTup 2 (bCons (bNm 3) (bCons (bNm 4) bNil))) (body := dIf (mNot (mB (mCall m_is_pair_of [] (mCons (dVar 1) (mCons (dVar 4) mNil))))) (dBad) (dNext))
      (env := [.ow (.ins "Space" [] []), .pl (nI n), .pl X, .un, .un, .un, .un]) (p := p) enD (enP 0 ps) (fun _ env p1 => p1 = p ∧ Frm [3, 4] [.ow (.ins "Space" [] []), .pl (nI n), .pl X, .un, .un, .un, .un] env)
      (run_bind (a := X) (e1 := [.ow (.ins "Space" [] []), .pl (nI n), .pl X, .un, .un, .un, .un]) (p1 := p) rfl (run_res (by rw [hX]; show Res.ok _ = _; rw [enP_eq]))) ⟨rfl, Frm.refl⟩
      (fun done z rest env p1 hd ⟨hp, F⟩ => by
        subst hp
        have hz := hin z.2 (enP_mem 0 ps z (by rw [hd]; simp))
        have e1 : env[1]? = some (.pl (nI n)) := F.at_ 1 (by decide)
        have hlen : env.length = 7 := F.len
        refine ⟨(env.set 3 (.pl (nI z.1))).set 4 (.pl (prD z.2)), rfl, _, _, pIfF (pNot (b := true) (pB (pCall (pCons (run_var ?_) (pOne (run_var ?_))) (v_is_pair_of n z.2 hz p1)))) rfl, rfl, F.trans ((Frm.set (by simp)).trans (Frm.set (by simp)))⟩
        · rw [List.getElem?_set_ne (by decide), List.getElem?_set_ne (by decide)]; exact e1
        · exact List.getElem?_set_self (by simp [hlen]))
    have f0 : e'[0]? = some (.ow (.ins "Space" [] [])) := F.at_ 0 (by decide)
    have f1 : e'[1]? = some (.pl (nI n)) := F.at_ 1 (by decide)
    have f2 : e'[2]? = some (.pl X) := F.at_ 2 (by decide)
    have fl : e'.length = 7 := F.len
    refine ⟨_, run_seq (pIfF (pOrF (pNot (b := true) (pB (pCall rfl (v_is_integer _ _)))) (pNot (b := true) (pB (pChain rfl rfl c0 rfl c24)))) rfl) (run_seq (pIfF (pNot (b := true) (pB (pCall rfl (hrow _)))) rfl) (run_seq h1 (run_seq (run_fldS (run_var f1) f0 ⟨by decide, by decide, by decide, rfl⟩) (run_seq (run_fldS (d := .tup (rowsO n (Rt ps))) (pCall (pCons (run_var ?_) (pOne (pCB (pOne (run_var ?_)) hlist))) (v_led_on n ps hn hin hl _)) (List.getElem?_set_self (by rw [fl]; decide)) ⟨by decide, by decide, by decide, rfl⟩) (run_fldS (d := .tup (rowsU n (Rt ps))) (pCB (pOne (x := .lst (rowsU n (Rt ps))) ?_) rfl) (List.getElem?_set_self (by simp [fl])) ⟨by decide, by decide, by decide, rfl⟩))))), ?_⟩
    · rw [List.getElem?_set_ne (by decide)]; exact f1
    · rw [List.getElem?_set_ne (by decide)]; exact f2
    · -- under
      generalize hE : (e'.set 0 (Slot.ow (D.ins "Space" (([] : List Str) ++ (["many"] : List Str)) (([] : List D) ++ [nI n])))).set 0 (Slot.ow (D.ins "Space" ((([] : List Str) ++ (["many"] : List Str)) ++ (["over"] : List Str)) ((([] : List D) ++ [nI n]) ++ [D.tup (rowsO n (Rt ps))]))) = E
      have g0 : E[0]? = some (Slot.ow (D.ins "Space" ["many", "over"] [nI n, D.tup (rowsO n (Rt ps))])) := by rw [← hE]; exact List.getElem?_set_self (by simp [fl])
      have g1 : E[1]? = some (.pl (nI n)) := by rw [← hE, List.getElem?_set_ne (by decide), List.getElem?_set_ne (by decide)]; exact f1
      have gl : E.length = 7 := by rw [← hE]; simp [fl]
      have := run_comp (src := mRange1 (dVar 1)) (vs := [5]) (b := bNm 5) (t := mYes) (e := mCB tupleD (mCons (mComp (mRange1 (dVar 1)) [6] (bNm 6) ((mB (m2 inD (dVar 5) (m2 ixD (mFldO 0 ["Space"] "over") (dVar 6))))) (dVar 6)) mNil)) nI (fun _ => true) (fun y => row n fun x => Rt ps x y) (List.range n) (env := E) (p := p') (run_range (run_var g1) (by omega)) (fun y hy => ⟨_, rfl, _, rfl, fun _ => by
        generalize hE2 : (wipeE (E.map Slot.rd) [5]).set 5 (.pl (nI y)) = E2
        have k0 : E2[0]? = some (Slot.ro (D.ins "Space" ["many", "over"] [nI n, D.tup (rowsO n (Rt ps))])) := by
          rw [← hE2, List.getElem?_set_ne (by decide)]
          show ((wipeE (E.map Slot.rd) []).set 5 .un)[0]? = _
          rw [List.getElem?_set_ne (by decide)]
          show (E.map Slot.rd)[0]? = _
          rw [List.getElem?_map, g0]; rfl
        have k1 : E2[1]? = some (.pl (nI n)) := by
          rw [← hE2, List.getElem?_set_ne (by decide)]
          show ((wipeE (E.map Slot.rd) []).set 5 .un)[1]? = _
          rw [List.getElem?_set_ne (by decide)]
          show (E.map Slot.rd)[1]? = _
          rw [List.getElem?_map, g1]; rfl
        have kl : E2.length = 7 := by rw [← hE2, List.length_set, wipeE_length, List.length_map, gl]
        have k5 : E2[5]? = some (.pl (nI y)) := by
          rw [← hE2]; exact List.getElem?_set_self (by rw [wipeE_length, List.length_map, gl]; decide)
        refine ⟨_, pCB (pOne (x := .lst ((sel n fun x => Rt ps x y).map nI)) ?_) rfl⟩
        have h2 := run_comp (src := mRange1 (dVar 1)) (vs := [6]) (b := bNm 6) (t := mB (m2 inD (dVar 5) (m2 ixD (mFldO 0 ["Space"] "over") (dVar 6)))) (e := dVar 6) nI (fun x => decide (Rt ps x y)) nI (List.range n) (env := E2) (p := p') (run_range (run_var k1) (by omega)) (fun x hx => by
          have hxn := List.mem_range.mp hx
          have hyn := List.mem_range.mp hy
          generalize hE3 : (wipeE (E2.map Slot.rd) [6]).set 6 (.pl (nI x)) = E3
          have m0 : E3[0]? = some (Slot.ro (D.ins "Space" ["many", "over"] [nI n, D.tup (rowsO n (Rt ps))])) := by
            rw [← hE3, List.getElem?_set_ne (by decide)]
            show ((wipeE (E2.map Slot.rd) []).set 6 .un)[0]? = _
            rw [List.getElem?_set_ne (by decide)]
            show (E2.map Slot.rd)[0]? = _
            rw [List.getElem?_map, k0]; rfl
          have m5 : E3[5]? = some (.pl (nI y)) := by
            rw [← hE3, List.getElem?_set_ne (by decide)]
            show ((wipeE (E2.map Slot.rd) []).set 6 .un)[5]? = _
            rw [List.getElem?_set_ne (by decide)]
            show (E2.map Slot.rd)[5]? = _
            rw [List.getElem?_map, k5]; rfl
          have m6 : E3[6]? = some (.pl (nI x)) := by
            rw [← hE3]; exact List.getElem?_set_self (by rw [wipeE_length, List.length_map, kl]; decide)
          have hf : mFldO 0 ["Space"] "over" E3 p' = .ok (D.tup (rowsO n (Rt ps)), E3, p') := by
            unfold mFldO getI
            rw [m0]
            rfl
          refine ⟨_, by rw [← hE3]; rfl, E3, pB (pM2 (run_var m5) (pM2 hf (run_var m6) (ix_nat rfl (rowsO_at hxn))) ?_), fun _ => ⟨_, run_var m6⟩⟩
          rw [in_nums (l := sel n (Rt ps x)) rfl]
          congr 2
          exact decide_eq_decide.mpr (by rw [mem_sel]; exact ⟨fun h => h.2, fun h => ⟨hyn, h⟩⟩)) (by rw [List.length_range]; exact Nat.le_trans hn (by decide))
        exact h2⟩) (by rw [List.length_range]; exact Nat.le_trans hn (by decide))
      rw [List.filter_eq_self.mpr (fun _ _ => rfl)] at this
      exact this
    · rw [List.getElem?_set_self (by simp [fl])]
      rfl
  obtain ⟨env, h1, h2⟩ := hb
  show (if [nI n, X].length = 2 then (match b_Space_init [.ow (.ins "Space" [] []), .pl (nI n), .pl X, .un, .un, .un, .un] p with
    | .nx env p' => (ownIns env).bind fun d => .ok (d, p')
    | .exc c xs => .exc c xs
    | _ => .bad) else .bad) = _
  rw [if_pos (show ([nI n, X] : List D).length = 2 from rfl), h1]
  dsimp only
  unfold ownIns
  rw [h2]
  rfl
theorem v_Space (n : Nat) (ps : List (Nat × Nat)) (hn : n ≤ 24) (hin : In n ps) (hl : ps.length ≤ 100000) (p : Pn) : m_Space_init [nI n, .lst (ps.map prD)] p = .ok (spc n (Rt ps), p) :=
  init_aux n ps _ rfl (v_is_rowL _) rfl hn hin hl p
theorem v_SpaceT (n : Nat) (ps : List (Nat × Nat)) (hn : n ≤ 24) (hin : In n ps) (hl : ps.length ≤ 100000) (p : Pn) : m_Space_init [nI n, .tup (ps.map prD)] p = .ok (spc n (Rt ps), p) :=
  init_aux n ps _ rfl (v_is_rowT _) rfl hn hin hl p
end CS
namespace CS
open PySem L2
open Classical
theorem toBls_mapF {α : Type} (f : α → Bool) : ∀ l : List α, toBls (l.map fun a => D.bl (f a)) = .ok (l.map f)
  | [] => rfl
  | a :: l => by
    have ih := toBls_mapF f l
    rw [List.map_cons]
    unfold toBls
    show Res.bind (toBls (l.map fun a => D.bl (f a))) _ = _
    rw [ih]
    rfl
theorem any_map {α : Type} (f : α → Bool) (l : List α) : anyD [.lst (l.map fun a => D.bl (f a))] = .ok (.bl (l.any f)) := by
  unfold anyD
  dsimp only
  rw [toBls_mapF]
  show Res.ok (D.bl ((l.map f).any id)) = _
  rw [List.any_map]
  rfl
theorem filter_true {α : Type} (l : List α) : l.filter (fun _ => true) = l := List.filter_eq_self.mpr fun _ _ => rfl
section
variable {n : Nat} {r : Nat → Nat → Prop} {p : Pn}
theorem v_need_space : m_need_space [spc n r] p = .ok (.non, p) := run_fnN rfl (pIfF (pNot (b := true) (pB rfl)) rfl)
theorem prs_map : ((List.range n).flatMap fun x => ((sel n (r x)).filter fun y => decide (y ≠ x)).map fun y => prD (x, y)) = (prs n r).map prD := by
  unfold prs
  rw [List.map_flatMap]
  congr 1
  funext x
  rw [List.map_map]
  have : (sel n (r x)).filter (fun y => decide (y ≠ x)) = sel n fun y => r x y ∧ y ≠ x := by
    unfold sel
    rw [List.filter_filter]
    refine List.filter_congr fun y _ => ?_
    by_cases h1 : r x y <;> by_cases h2 : y = x <;> simp [h1, h2]
  rw [this]
  rfl
theorem v_all_pairs (hn : n ≤ 24) : m_all_pairs [spc n r] p = .ok (.lst ((prs n r).map prD), p) := by
  refine run_fn rfl (pRet ?_)
  have := run_comp2 (src := mRange1 (m1 (fldD ["Space"] "many") (dVar 0))) (vs := [1, 2]) (b := bNm 1) (t := mYes) (src1 := mRow (m2 ixD (m1 (fldD ["Space"] "over") (dVar 0)) (dVar 1))) (vs1 := [2]) (b1 := bNm 2) (t1 := mB (m2 neD (dVar 2) (dVar 1))) (e := mTup (mCons (dVar 1) (mCons (dVar 2) mNil)))
    nI (fun x => sel n (r x)) (fun _ y => nI y) (fun x y => decide (y ≠ x)) (fun x y => prD (x, y)) (List.range n) (env := [.pl (spc n r), .un, .un]) (p := p) (run_range (run_m1 rfl fld_many) (by omega))
    (fun x hx => ⟨_, rfl, _, rfl, _, run_row (pM2 (run_m1 rfl fld_over) rfl (ix_nat rfl (rowsO_at (List.mem_range.mp hx)))) rfl, fun y hy => ⟨_, rfl, _, pB (pM2 rfl rfl (ne_nat y x)), fun _ => ⟨_, run_tup rfl (by show 2 ≤ sizeLine; decide)⟩⟩⟩)
    (by rw [prs_map, List.length_map]; exact Nat.le_trans (prs_len n r) (Nat.le_trans (Nat.mul_le_mul hn hn) (by decide)))
  rw [prs_map] at this
  exact this
theorem v_parts_points (hn : n ≤ 24) (P : Po n r) : m_parts_points [spc n r] p = .ok (.bl true, p) := by
  refine run_fn rfl (pRet (pNotV (b := false) (pCB (xs := [.lst ((prs n r).map fun q => D.bl (decide (r q.2 q.1)))]) (pOne ?_) ?_)))
  · have := run_comp (src := mRow (mCall m_all_pairs [] (mCons (dVar 0) mNil))) (vs := [1, 2]) (b := bTup 2 (bCons (bNm 1) (bCons (bNm 2) bNil))) (t := mYes) (e := m2 inD (dVar 1) (m2 ixD (m1 (fldD ["Space"] "over") (dVar 0)) (dVar 2))) prD (fun _ => true) (fun q => D.bl (decide (r q.2 q.1))) (prs n r) (env := [.pl (spc n r), .un, .un]) (p := p) (run_row (pCall rfl (v_all_pairs hn)) rfl)
      (fun q hq => by
        obtain ⟨h1, h2, h3, h4⟩ := mem_prs.mp hq
        refine ⟨_, rfl, _, rfl, fun _ => ⟨_, pM2 rfl (pM2 (run_m1 rfl fld_over) rfl (ix_nat rfl (rowsO_at h2))) ?_⟩⟩
        have := in_nums (a := q.1) (y := row n (r q.2)) (l := sel n (r q.2)) rfl
        rw [show decide (q.1 ∈ sel n (r q.2)) = decide (r q.2 q.1) from decide_eq_decide.mpr (by rw [mem_sel]; exact ⟨fun h => h.2, fun h => ⟨h1, h⟩⟩)] at this
        exact this) (Nat.le_trans (prs_len n r) (Nat.le_trans (Nat.mul_le_mul hn hn) (by decide)))
    rw [filter_true] at this
    exact this
  · rw [any_map]
    congr 2
    rw [List.any_eq_false]
    intro q hq
    obtain ⟨h1, h2, h3, h4⟩ := mem_prs.mp hq
    rw [decide_eq_true_eq]
    exact fun h => h4 (P.anti _ _ h2 h1 h h3)
theorem v_need_parted (hn : n ≤ 24) (P : Po n r) : m_need_parted [spc n r] p = .ok (.non, p) :=
  run_fnN rfl (run_seq (pExpr (pCall rfl v_need_space)) (pIfF (pNot (b := true) (pB (pCall rfl (v_parts_points hn P)))) rfl))
/-- nothing stands between x and y -/
def Cov (n : Nat) (r : Nat → Nat → Prop) (x y : Nat) : Prop := ∀ z, z < n → r x z → r z y → z = x ∨ z = y
noncomputable def covs (n : Nat) (r : Nat → Nat → Prop) : List (Nat × Nat) := (prs n r).filter fun q => decide (Cov n r q.1 q.2)
theorem sq_le (hn : n ≤ 24) : (prs n r).length ≤ sizeLine := Nat.le_trans (prs_len n r) (Nat.le_trans (Nat.mul_le_mul hn hn) (by decide))
theorem sq_le' (hn : n ≤ 24) : (prs n r).length ≤ 576 := Nat.le_trans (prs_len n r) (Nat.mul_le_mul hn hn)
theorem rowsO_inj {s : Nat → Nat → Prop} : rowsO n r = rowsO n s ↔ ∀ x y, x < n → y < n → (r x y ↔ s x y) := by
  constructor
  · intro h x y hx hy
    have h1 := rowsO_at (n := n) (r := r) hx
    rw [h, rowsO_at hx] at h1
    have h2 : row n (s x) = row n (r x) := Option.some.inj h1
    unfold row at h2
    injection h2 with h2
    have h3 := map_nI_inj.mp h2
    have a := mem_sel (n := n) (P := r x) (y := y)
    have b := mem_sel (n := n) (P := s x) (y := y)
    rw [h3] at b
    exact ⟨fun h => (b.mp (a.mpr ⟨hy, h⟩)).2, fun h => (a.mp (b.mpr ⟨hy, h⟩)).2⟩
  · exact fun h => rowsO_congr h
def SameR (n : Nat) (r s : Nat → Nat → Prop) : Prop := ∀ x y, x < n → y < n → (r x y ↔ s x y)
def swp (q : Nat × Nat) : Nat × Nat := (q.2, q.1)
def flp (r : Nat → Nat → Prop) : Nat → Nat → Prop := fun x y => r y x
theorem Qo.flp (Q : Qo n r) : Qo n (flp r) := ⟨Q.refl, fun x y z hx hy hz h1 h2 => Q.trans z y x hz hy hx h2 h1⟩
theorem Po.flp (P : Po n r) : Po n (flp r) := ⟨P.refl, fun x y z hx hy hz h1 h2 => P.trans z y x hz hy hx h2 h1, fun x y hx hy a b => P.anti x y hx hy b a⟩
theorem Po.qo (P : Po n r) : Qo n r := ⟨P.refl, P.trans⟩
theorem rt_swap {ps : List (Nat × Nat)} {x y : Nat} : Rt (ps.map swp) x y ↔ Rt ps y x := by
  constructor
  · intro h
    induction h with
    | refl => exact .refl _
    | tail _ h2 ih =>
      obtain ⟨q, hq, e⟩ := List.mem_map.mp h2
      unfold swp at e
      injection e with e1 e2
      exact Rt.head (by rw [← e1, ← e2]; exact hq) ih
  · intro h
    induction h with
    | refl => exact .refl _
    | tail _ h2 ih => exact Rt.head (List.mem_map.mpr ⟨_, h2, rfl⟩) ih
end
end CS
namespace CS
open PySem L2
open Classical
/-! ## heights -/
def rlx (f : Nat → Nat) (q : Nat × Nat) : Nat → Nat := fun z => if z = q.2 then max (f q.2) (f q.1 + 1) else f z
def lapF (ps : List (Nat × Nat)) (f : Nat → Nat) : Nat → Nat := ps.foldl rlx f
def lapsF (ps : List (Nat × Nat)) : Nat → (Nat → Nat) → Nat → Nat
  | 0, f => f
  | k + 1, f => lapF ps (lapsF ps k f)
noncomputable def ht (n : Nat) (r : Nat → Nat → Prop) : Nat → Nat := lapsF (prs n r) n fun _ => 0
inductive Chn (ps : List (Nat × Nat)) : Nat → Nat → Prop
  | zero (y : Nat) : Chn ps y 0
  | succ {x y k : Nat} : Chn ps x k → (x, y) ∈ ps → Chn ps y (k + 1)
theorem rlx_le (f : Nat → Nat) (q : Nat × Nat) (z : Nat) : f z ≤ rlx f q z := by
  unfold rlx
  split
  · rename_i e; subst e; exact Nat.le_max_left ..
  · exact Nat.le_refl _
theorem lapF_le : ∀ (ps : List (Nat × Nat)) (f : Nat → Nat) (z : Nat), f z ≤ lapF ps f z
  | [], f, z => Nat.le_refl _
  | q :: ps, f, z => Nat.le_trans (rlx_le f q z) (lapF_le ps (rlx f q) z)
theorem lapF_chn {qs : List (Nat × Nat)} : ∀ (ps : List (Nat × Nat)) (f : Nat → Nat), (∀ q ∈ ps, q ∈ qs) → (∀ z, Chn qs z (f z)) → ∀ z, Chn qs z (lapF ps f z)
  | [], f, _, h, z => h z
  | q :: ps, f, hq, h, z => by
    refine lapF_chn ps (rlx f q) (fun x hx => hq x (List.mem_cons_of_mem _ hx)) (fun y => ?_) z
    unfold rlx
    split
    · rename_i e
      subst e
      rcases Nat.le_total (f q.1 + 1) (f q.2) with h1 | h1
      · rw [Nat.max_eq_left h1]; exact h _
      · rw [Nat.max_eq_right h1]; exact .succ (h q.1) (hq q (List.mem_cons_self ..))
    · exact h y
theorem lapF_get : ∀ (ps : List (Nat × Nat)) (f : Nat → Nat) (x y : Nat), (x, y) ∈ ps → f x + 1 ≤ lapF ps f y
  | q :: ps, f, x, y, h => by
    rcases List.mem_cons.mp h with e | h
    · subst e
      refine Nat.le_trans ?_ (lapF_le ps (rlx f (x, y)) y)
      unfold rlx
      rw [if_pos rfl]
      exact Nat.le_max_right ..
    · refine Nat.le_trans ?_ (lapF_get ps (rlx f q) x y h)
      have := rlx_le f q x
      omega
theorem lapsF_chn (ps : List (Nat × Nat)) : ∀ (k : Nat) (z : Nat), Chn ps z (lapsF ps k (fun _ => 0) z)
  | 0, z => .zero z
  | k + 1, z => lapF_chn ps _ (fun _ h => h) (fun z => lapsF_chn ps k z) z
theorem lapsF_ge (ps : List (Nat × Nat)) : ∀ (k : Nat) (z m : Nat), Chn ps z m → m ≤ k → m ≤ lapsF ps k (fun _ => 0) z
  | 0, z, m, _, h => by omega
  | k + 1, z, m, c, h => by
    cases c with
    | zero => omega
    | @succ x _ j c1 c2 =>
      have := lapsF_ge ps k x j c1 (by omega)
      have h2 := lapF_get ps (lapsF ps k fun _ => 0) x z c2
      show j + 1 ≤ lapF ps (lapsF ps k fun _ => 0) z
      omega
section
variable {n : Nat} {r : Nat → Nat → Prop}
theorem chn_list (P : Po n r) {y m : Nat} (hy : y < n) (c : Chn (prs n r) y m) : ∃ l : List Nat, l.length = m + 1 ∧ l.Nodup ∧ ∀ z ∈ l, z < n ∧ r z y := by
  induction c with
  | zero y => exact ⟨[y], rfl, by simp, fun z hz => by rw [List.mem_singleton] at hz; subst hz; exact ⟨hy, P.refl _ hy⟩⟩
  | @succ x y k c1 c2 ih =>
    obtain ⟨hx, _, h3, h4⟩ : x < n ∧ _ < n ∧ r x _ ∧ _ ≠ x := mem_prs.mp c2
    obtain ⟨l, l1, l2, l3⟩ := ih hx
    refine ⟨y :: l, by simp [l1], List.nodup_cons.mpr ⟨fun h => ?_, l2⟩, fun z hz => ?_⟩
    · exact h4 (P.anti _ _ hy hx (l3 y h).2 h3)
    · rcases List.mem_cons.mp hz with rfl | hz
      · exact ⟨hy, P.refl _ hy⟩
      · obtain ⟨a, b⟩ := l3 z hz
        exact ⟨a, P.trans _ _ _ a hx hy b h3⟩
theorem chn_lt (P : Po n r) {y m : Nat} (hy : y < n) (c : Chn (prs n r) y m) : m < n := by
  obtain ⟨l, l1, l2, l3⟩ := chn_list P hy c
  have := nodup_len l2 fun z hz => (l3 z hz).1
  omega
theorem ht_max (P : Po n r) {y m : Nat} (hy : y < n) (c : Chn (prs n r) y m) : m ≤ ht n r y := lapsF_ge _ n y m c (Nat.le_of_lt (chn_lt P hy c))
theorem ht_chn (y : Nat) : Chn (prs n r) y (ht n r y) := lapsF_chn _ n y
theorem ht_up (P : Po n r) {x y : Nat} (hx : x < n) (hy : y < n) (h : r x y) (hne : y ≠ x) : ht n r x + 1 ≤ ht n r y := ht_max P hy (.succ (ht_chn x) (mem_prs.mpr ⟨hx, hy, h, hne⟩))
theorem ht_down (P : Po n r) {y : Nat} (hy : y < n) : ht n r y = 0 ∨ ∃ x, x < n ∧ r x y ∧ y ≠ x ∧ ht n r y = ht n r x + 1 := by
  have c := ht_chn (n := n) (r := r) y
  generalize e : ht n r y = k at c
  cases c with
  | zero => exact .inl rfl
  | @succ x _ j c1 c2 =>
    obtain ⟨hx, _, h3, h4⟩ : x < n ∧ _ < n ∧ r x _ ∧ _ ≠ x := mem_prs.mp c2
    have h5 := ht_max P hx c1
    have h6 := ht_up P hx hy h3 h4
    exact .inr ⟨x, hx, h3, h4, by omega⟩
/-- what tells the heights -/
theorem ht_eq (P : Po n r) {g : Nat → Nat} (up : ∀ x y, x < n → y < n → r x y → y ≠ x → g x + 1 ≤ g y) (down : ∀ y, y < n → g y = 0 ∨ ∃ x, x < n ∧ r x y ∧ y ≠ x ∧ g y = g x + 1) {y : Nat} (hy : y < n) : ht n r y = g y := by
  have h1 : ∀ z m, z < n → Chn (prs n r) z m → m ≤ g z := fun z m hz c => by
    induction c with
    | zero => omega
    | @succ x y k c1 c2 ih =>
      obtain ⟨hx, _, h3, h4⟩ : x < n ∧ _ < n ∧ r x _ ∧ _ ≠ x := mem_prs.mp c2
      have := ih hx
      have := up _ _ hx hz h3 h4
      omega
  have h2 : ∀ k z, z < n → g z = k → Chn (prs n r) z k := by
    intro k
    induction k with
    | zero => exact fun z _ _ => .zero z
    | succ k ih =>
      intro z hz hk
      rcases down z hz with h | ⟨x, hx, h3, h4, h5⟩
      · omega
      · exact .succ (ih x hx (by omega)) (mem_prs.mpr ⟨hx, hz, h3, h4⟩)
  have a := h1 y _ hy (ht_chn y)
  have b := ht_max P hy (h2 _ y hy rfl)
  omega
/-! the mirror -/
def hts (n : Nat) (f : Nat → Nat) : List D := (List.range n).map fun i => nI (f i)
theorem hts_at {f : Nat → Nat} {x : Nat} (h : x < n) : (hts n f)[x]? = some (nI (f x)) := by
  unfold hts
  rw [List.getElem?_map, List.getElem?_range h]; rfl
theorem hts_len {f : Nat → Nat} : (hts n f).length = n := by simp [hts]
theorem hts_set {f : Nat → Nat} {q : Nat × Nat} : (hts n f).set q.2 (nI (max (f q.2) (f q.1 + 1))) = hts n (rlx f q) := by
  apply List.ext_getElem?
  intro i
  rw [List.getElem?_set]
  by_cases hi : i < n
  · have hR : (hts n (rlx f q))[i]? = some (nI (rlx f q i)) := hts_at hi
    rw [hR]
    unfold rlx
    by_cases e : q.2 = i
    · subst e
      rw [if_pos rfl, hts_len, if_pos hi, if_pos rfl]
    · rw [if_neg e, hts_at hi, if_neg (fun z => e z.symm)]
  · have h1 : (hts n f)[i]? = none := List.getElem?_eq_none (by rw [hts_len]; omega)
    have h2 : (hts n (rlx f q))[i]? = none := List.getElem?_eq_none (by rw [hts_len]; omega)
    rw [h1, h2]
    split
    · rw [hts_len]; split
      · omega
      · rfl
    · rfl
theorem max_nat (a b : Nat) : max2D [nI a, nI b] = .ok (nI (max a b)) := by
  show Res.ok (D.int (if (b : Int) > (a : Int) then (b : Int) else (a : Int))) = _
  unfold nI
  congr 2
  split <;> omega
theorem putAt_nat {ds : List D} {k : Nat} {d : D} (h : k < ds.length) : putAt ds (nI k) d = .ok (ds.set k d) := by
  have e : ixN ds.length (k : Int) = some k := by
    unfold ixN
    rw [if_pos (by omega), if_pos (by omega), Int.toNat_natCast]
  show (match ixN ds.length (k : Int) with
    | some n => Res.ok (ds.set n d)
    | none => .bad) = _
  rw [e]
theorem run_setItem {env : Env'} {p p1 : Pn} {i : Nat} {m k : M D} {d j : D} {ds ds' : List D} (hm : m env p = .ok (d, env, p1)) (hi : env[i]? = some (.ow (.lst ds))) (hk : k env p1 = .ok (j, env, p1)) (h : putAt ds j d = .ok ds') : dSetItem i m k env p = .nx (env.set i (.ow (.lst ds'))) p1 := by
  refine run_of (a := ()) (e1 := env.set i (.ow (.lst ds'))) (p1 := p1) ?_ rfl
  refine run_bind hm (run_bind (run_chk hi) (run_bind hk (run_bind (a := ds) (e1 := env) (p1 := p1) ?_ (run_bind (run_res h) rfl))))
  unfold mGetW; rw [getW_ow hi]; rfl
theorem mulL_gen {ds : List D} {k A B : Int} (h1 : k < A) (h2 : B ≤ k) : (if k < A ∧ B ≤ k then mkL (List.replicate k.toNat ds).flatten else .bad) = mkL (List.replicate k.toNat ds).flatten := if_pos ⟨h1, h2⟩
theorem lt63 {n : Nat} (hn : n ≤ 24) : (n : Int) < 2 ^ 63 := by omega
theorem ge63 {n : Nat} : -(2 ^ 63) ≤ (n : Int) := by omega
theorem mulL_nat (hn : n ≤ 24) : mulL (.lst [nI 0]) (nI n) = .ok (.lst (hts n fun _ => 0)) := by
  have h0 : mulL (.lst [nI 0]) (nI n) = mkL (List.replicate ((n : Int).toNat) [nI 0]).flatten := by
    show mulL (.lst [nI 0]) (.int n) = _
    unfold mulL
    dsimp only
    exact mulL_gen (lt63 hn) ge63
  have h1 : (List.replicate n [nI 0]).flatten = hts n fun _ => 0 := by
    unfold hts
    rw [List.flatten_replicate_singleton, List.map_const', List.length_range]
  rw [h0, Int.toNat_natCast, h1]
  unfold mkL
  rw [if_pos (by rw [hts_len]; exact Nat.le_trans hn (by decide))]
end
end CS
namespace CS
open PySem L2
open Classical
theorem gt_nat (a b : Nat) : gtD (nI a) (nI b) = .ok (.bl (decide (b < a))) := by
  show Res.ok (D.bl (decide ((b : Int) < (a : Int)))) = _
  congr 2
  exact decide_eq_decide.mpr Int.ofNat_lt
theorem addL_ok {a b : List D} (h : a.length + b.length ≤ 100000) : addD (.lst a) (.lst b) = .ok (.lst (a ++ b)) := by
  show mkL (a ++ b) = _
  unfold mkL
  rw [if_pos (by rw [List.length_append]; exact Nat.le_trans h (by decide))]
theorem rg2_gen {a m : Nat} {A B : Int} (h1 : (a : Int) < A) (h2 : B ≤ (a : Int)) (h3 : ((a + m : Nat) : Int) < A) (h4 : B ≤ ((a + m : Nat) : Int)) : ((asI (D.int a)).bind fun x => (asI (D.int (a + m : Nat))).bind fun y => if (x < A ∧ B ≤ x) ∧ y < A ∧ B ≤ y then Res.ok ((List.range (y - x).toNat).map fun (i : Nat) => D.int (x + i)) else Res.bad) = Res.ok ((List.range m).map fun i => nI (a + i)) := by
  have e1 : asI (D.int a) = .ok (a : Int) := rfl
  have e2 : asI (D.int (a + m : Nat)) = .ok ((a + m : Nat) : Int) := rfl
  rw [e1, e2]
  simp only [Res.bind]
  rw [if_pos ⟨⟨h1, h2⟩, h3, h4⟩]
  have e3 : (((a + m : Nat) : Int) - (a : Int)).toNat = m := by omega
  rw [e3]
  congr 1
theorem run_range2 {env : Env'} {p : Pn} {m1 m2 : M D} {a m : Nat} (h1 : m1 env p = .ok (nI a, env, p)) (h2 : m2 env p = .ok (nI (a + m), env, p)) (ha : a ≤ 16777216) (hb : a + m ≤ 16777216) : mRange2 m1 m2 env p = .ok ((List.range m).map fun i => nI (a + i), env, p) := by
  unfold mRange2
  refine run_bind h1 (run_bind h2 ?_)
  refine run_res ?_
  exact rg2_gen (le62 ha) ge62 (le62 hb) ge62
def shf (k : Nat) (q : Nat × Nat) : Nat × Nat := (q.1 + k, q.2 + k)
section
variable {n m : Nat} {r s : Nat → Nat → Prop} {p : Pn}
def sumR (n : Nat) (r s : Nat → Nat → Prop) (x y : Nat) : Prop := (x < n ∧ y < n ∧ r x y) ∨ (n ≤ x ∧ n ≤ y ∧ s (x - n) (y - n))
def stkR (n : Nat) (r s : Nat → Nat → Prop) (x y : Nat) : Prop := sumR n r s x y ∨ (x < n ∧ n ≤ y)
theorem Qo.sum (Q : Qo n r) (S : Qo m s) : Qo (n + m) (sumR n r s) := by
  refine ⟨fun x hx => ?_, fun x y z hx hy hz h1 h2 => ?_⟩
  · by_cases h : x < n
    · exact .inl ⟨h, h, Q.refl x h⟩
    · exact .inr ⟨by omega, by omega, S.refl _ (by omega)⟩
  · rcases h1 with ⟨a, b, c⟩ | ⟨a, b, c⟩ <;> rcases h2 with ⟨a', b', c'⟩ | ⟨a', b', c'⟩
    · exact .inl ⟨a, b', Q.trans _ _ _ a b b' c c'⟩
    · omega
    · omega
    · exact .inr ⟨a, b', S.trans _ _ _ (by omega) (by omega) (by omega) c c'⟩
theorem Po.sum (Q : Po n r) (S : Po m s) : Po (n + m) (sumR n r s) := by
  refine ⟨(Qo.sum Q.qo S.qo).refl, (Qo.sum Q.qo S.qo).trans, fun x y hx hy h1 h2 => ?_⟩
  rcases h1 with ⟨a, b, c⟩ | ⟨a, b, c⟩ <;> rcases h2 with ⟨a', b', c'⟩ | ⟨a', b', c'⟩
  · exact Q.anti _ _ a b c c'
  · omega
  · omega
  · have := S.anti _ _ (by omega) (by omega) c c'
    omega
theorem Po.stk (Q : Po n r) (S : Po m s) : Po (n + m) (stkR n r s) := by
  refine ⟨fun x hx => .inl ((Qo.sum Q.qo S.qo).refl x hx), fun x y z hx hy hz h1 h2 => ?_, fun x y hx hy h1 h2 => ?_⟩
  · rcases h1 with h1 | ⟨a, b⟩
    · rcases h2 with h2 | ⟨a', b'⟩
      · exact .inl ((Qo.sum Q.qo S.qo).trans x y z hx hy hz h1 h2)
      · refine .inr ⟨?_, b'⟩
        rcases h1 with ⟨a, _, _⟩ | ⟨_, b, _⟩
        · exact a
        · omega
    · refine .inr ⟨a, ?_⟩
      rcases h2 with (⟨a', _, _⟩ | ⟨_, b', _⟩) | ⟨_, b'⟩
      · omega
      · exact b'
      · exact b'
  · rcases h1 with h1 | ⟨a, b⟩
    · rcases h2 with h2 | ⟨a', b'⟩
      · exact (Po.sum Q S).anti x y hx hy h1 h2
      · rcases h1 with ⟨a, b, _⟩ | ⟨a, b, _⟩ <;> omega
    · rcases h2 with (⟨_, b', _⟩ | ⟨_, b', _⟩) | ⟨_, b'⟩ <;> omega
/-- a closure is known where the pairs lie within and lead everywhere -/
theorem rt_is {N : Nat} {ps : List (Nat × Nat)} {R : Nat → Nat → Prop} (Q : Qo N R) (h1 : ∀ x y, (x, y) ∈ ps → x < N ∧ y < N ∧ R x y) (h2 : ∀ x y, x < N → y < N → R x y → y ≠ x → Rt ps x y) {x y : Nat} (hx : x < N) (hy : y < N) : Rt ps x y ↔ R x y := by
  constructor
  · intro h
    have : y < N ∧ R x y := by
      clear hy
      induction h with
      | refl => exact ⟨hx, Q.refl _ hx⟩
      | tail _ h3 ih =>
        obtain ⟨a, b, c⟩ := h1 _ _ h3
        exact ⟨b, Q.trans _ _ _ hx a b ih.2 c⟩
    exact this.2
  · intro h
    by_cases e : y = x
    · subst e; exact .refl _
    · exact h2 x y hx hy h e
theorem mem_shf {k x y : Nat} {ps : List (Nat × Nat)} : (x, y) ∈ ps.map (shf k) ↔ ∃ a b, (a, b) ∈ ps ∧ x = a + k ∧ y = b + k := by
  rw [List.mem_map]
  constructor
  · rintro ⟨⟨a, b⟩, h, e⟩
    cases e
    exact ⟨a, b, h, rfl, rfl⟩
  · rintro ⟨a, b, h, rfl, rfl⟩
    exact ⟨(a, b), h, rfl⟩
theorem in_sum : In (n + m) (prs n r ++ (prs m s).map (shf n)) := fun q hq => by
  obtain ⟨x, y⟩ := q
  rcases List.mem_append.mp hq with h | h
  · obtain ⟨h1, h2, _⟩ := mem_prs.mp h
    exact ⟨Nat.lt_of_lt_of_le h1 (Nat.le_add_right ..), Nat.lt_of_lt_of_le h2 (Nat.le_add_right ..)⟩
  · obtain ⟨a, b, h9, rfl, rfl⟩ := mem_shf.mp h
    have hh := mem_prs.mp h9
    have h1 : a < m := hh.1
    have h2 : b < m := hh.2.1
    exact ⟨by show a + n < n + m; omega, by show b + n < n + m; omega⟩
theorem rt_sum (Q : Qo n r) (S : Qo m s) {x y : Nat} (hx : x < n + m) (hy : y < n + m) : Rt (prs n r ++ (prs m s).map (shf n)) x y ↔ sumR n r s x y := by
  refine rt_is (Qo.sum Q S) (fun x y h => ?_) (fun x y hx hy h hne => ?_) hx hy
  · refine ⟨(in_sum _ h).1, (in_sum _ h).2, ?_⟩
    rcases List.mem_append.mp h with h | h
    · obtain ⟨h1, h2, h3, _⟩ : x < n ∧ y < n ∧ r x y ∧ _ := mem_prs.mp h
      exact .inl ⟨h1, h2, h3⟩
    · obtain ⟨a, b, h9, rfl, rfl⟩ := mem_shf.mp h
      have hh := mem_prs.mp h9
      have h1 : a < m := hh.1
      have h2 : b < m := hh.2.1
      have h3 : s a b := hh.2.2.1
      exact .inr ⟨by omega, by omega, by rw [Nat.add_sub_cancel, Nat.add_sub_cancel]; exact h3⟩
  · rcases h with ⟨a, b, c⟩ | ⟨a, b, c⟩
    · exact .one (List.mem_append.mpr (.inl (mem_prs.mpr ⟨a, b, c, hne⟩)))
    · exact .one (List.mem_append.mpr (.inr (mem_shf.mpr ⟨x - n, y - n, mem_prs.mpr ⟨by show x - n < m; omega, by show y - n < m; omega, c, by show y - n ≠ x - n; omega⟩, by omega, by omega⟩)))
/-! stacked -/
def btw (n m : Nat) : List (Nat × Nat) := (List.range n).flatMap fun x => (List.range m).map fun i => (x, n + i)
theorem mem_btw {x y : Nat} : (x, y) ∈ btw n m ↔ x < n ∧ n ≤ y ∧ y < n + m := by
  simp only [btw, List.mem_flatMap, List.mem_range, List.mem_map, Prod.mk.injEq]
  constructor
  · rintro ⟨a, ha, i, hi, rfl, rfl⟩
    omega
  · rintro ⟨a, b, c⟩
    exact ⟨x, a, y - n, by omega, rfl, by omega⟩
theorem btw_len : (btw n m).length ≤ n * m := by
  have := flat_len (fun x => (List.range m).map fun i => (x, n + i)) m (List.range n) fun x _ => by simp
  simpa [btw] using this
theorem in_stk : In (n + m) (prs n r ++ (prs m s).map (shf n) ++ btw n m) := fun q hq => by
  rcases List.mem_append.mp hq with h | h
  · exact in_sum q h
  · obtain ⟨x, y⟩ := q
    obtain ⟨a, b, c⟩ := mem_btw.mp h
    exact ⟨Nat.lt_of_lt_of_le a (Nat.le_add_right ..), c⟩
theorem rt_stk (Q : Po n r) (S : Po m s) {x y : Nat} (hx : x < n + m) (hy : y < n + m) : Rt (prs n r ++ (prs m s).map (shf n) ++ btw n m) x y ↔ stkR n r s x y := by
  refine rt_is (Po.stk Q S).qo (fun x y h => ?_) (fun x y hx hy h hne => ?_) hx hy
  · refine ⟨(in_stk _ h).1, (in_stk _ h).2, ?_⟩
    rcases List.mem_append.mp h with h | h
    · exact .inl ((rt_sum Q.qo S.qo (in_sum _ h).1 (in_sum _ h).2).mp (.one h))
    · obtain ⟨a, b, c⟩ := mem_btw.mp h
      exact .inr ⟨a, b⟩
  · rcases h with h | ⟨a, b⟩
    · exact Rt.mono (fun q hq => List.mem_append.mpr (.inl hq)) ((rt_sum Q.qo S.qo hx hy).mpr h)
    · exact .one (List.mem_append.mpr (.inr (mem_btw.mpr ⟨a, b, hy⟩)))
end
end CS
namespace CS
open PySem L2
open Classical
theorem mul_gen {a b : Int} {A : Nat} (h : a.natAbs < A) : (if a.natAbs < A ∨ b.natAbs < A then Res.ok (D.int (a * b)) else .bad) = .ok (D.int (a * b)) := if_pos (.inl h)
theorem lt64 {a : Nat} (h : a ≤ 100000) : ((a : Int)).natAbs < 2 ^ 64 := by omega
theorem mul_nat {a b : Nat} (h : a ≤ 100000) : mulD (nI a) (nI b) = .ok (nI (a * b)) := by
  have h0 : mulD (nI a) (nI b) = .ok (D.int ((a : Int) * (b : Int))) := by
    show mulD (.int a) (.int b) = _
    unfold mulD
    dsimp only
    exact mul_gen (lt64 h)
  rw [h0]
  unfold nI
  rw [Int.natCast_mul]
section
variable {n m : Nat} {r s : Nat → Nat → Prop} {p : Pn}
def proR (m : Nat) (r s : Nat → Nat → Prop) (x y : Nat) : Prop := r (x / m) (y / m) ∧ s (x % m) (y % m)
theorem div_lt {x : Nat} (h : x < n * m) : x / m < n := Nat.div_lt_of_lt_mul (by rw [Nat.mul_comm]; exact h)
theorem mod_lt' {x : Nat} (h : x < n * m) : x % m < m := by
  refine Nat.mod_lt _ ?_
  cases m with
  | zero => simp at h
  | succ m => omega
theorem Qo.pro (Q : Qo n r) (S : Qo m s) : Qo (n * m) (proR m r s) :=
  ⟨fun x hx => ⟨Q.refl _ (div_lt hx), S.refl _ (mod_lt' hx)⟩, fun x y z hx hy hz h1 h2 => ⟨Q.trans _ _ _ (div_lt hx) (div_lt hy) (div_lt hz) h1.1 h2.1, S.trans _ _ _ (mod_lt' hx) (mod_lt' hy) (mod_lt' hz) h1.2 h2.2⟩⟩
theorem dm_ext {x y : Nat} (h1 : x / m = y / m) (h2 : x % m = y % m) : x = y := by
  have a := Nat.div_add_mod x m
  have b := Nat.div_add_mod y m
  rw [h1, h2] at a
  omega
theorem Po.pro (Q : Po n r) (S : Po m s) : Po (n * m) (proR m r s) :=
  ⟨(Q.qo.pro S.qo).refl, (Q.qo.pro S.qo).trans, fun x y hx hy h1 h2 => dm_ext (Q.anti _ _ (div_lt hx) (div_lt hy) h1.1 h2.1) (S.anti _ _ (mod_lt' hx) (mod_lt' hy) h1.2 h2.2)⟩
noncomputable def pr1 (n m : Nat) (r : Nat → Nat → Prop) : List (Nat × Nat) := (prs n r).flatMap fun q => (List.range m).map fun u => (q.1 * m + u, q.2 * m + u)
noncomputable def pr2 (n m : Nat) (s : Nat → Nat → Prop) : List (Nat × Nat) := (List.range n).flatMap fun x => (prs m s).map fun q => (x * m + q.1, x * m + q.2)
theorem enc_lt {a u : Nat} (ha : a < n) (hu : u < m) : a * m + u < n * m := by
  have : (a + 1) * m ≤ n * m := Nat.mul_le_mul_right m ha
  rw [Nat.add_mul] at this
  omega
theorem enc_div {a u : Nat} (hu : u < m) : (a * m + u) / m = a := by
  rw [Nat.mul_comm, Nat.mul_add_div (by omega), Nat.div_eq_of_lt hu, Nat.add_zero]
theorem enc_mod {a u : Nat} (hu : u < m) : (a * m + u) % m = u := by
  rw [Nat.mul_comm, Nat.mul_add_mod, Nat.mod_eq_of_lt hu]
theorem mem_pr1 {x y : Nat} : (x, y) ∈ pr1 n m r ↔ ∃ a b u, a < n ∧ b < n ∧ r a b ∧ b ≠ a ∧ u < m ∧ x = a * m + u ∧ y = b * m + u := by
  simp only [pr1, List.mem_flatMap, List.mem_range, List.mem_map, Prod.mk.injEq]
  constructor
  · rintro ⟨q, hq, u, hu, rfl, rfl⟩
    obtain ⟨h1, h2, h3, h4⟩ := mem_prs.mp hq
    exact ⟨q.1, q.2, u, h1, h2, h3, h4, hu, rfl, rfl⟩
  · rintro ⟨a, b, u, h1, h2, h3, h4, hu, rfl, rfl⟩
    exact ⟨(a, b), mem_prs.mpr ⟨h1, h2, h3, h4⟩, u, hu, rfl, rfl⟩
theorem mem_pr2 {x y : Nat} : (x, y) ∈ pr2 n m s ↔ ∃ a u v, a < n ∧ u < m ∧ v < m ∧ s u v ∧ v ≠ u ∧ x = a * m + u ∧ y = a * m + v := by
  simp only [pr2, List.mem_flatMap, List.mem_range, List.mem_map, Prod.mk.injEq]
  constructor
  · rintro ⟨a, ha, q, hq, rfl, rfl⟩
    obtain ⟨h1, h2, h3, h4⟩ := mem_prs.mp hq
    exact ⟨a, q.1, q.2, ha, h1, h2, h3, h4, rfl, rfl⟩
  · rintro ⟨a, u, v, ha, h1, h2, h3, h4, rfl, rfl⟩
    exact ⟨a, ha, (u, v), mem_prs.mpr ⟨h1, h2, h3, h4⟩, rfl, rfl⟩
theorem in_pro : In (n * m) (pr1 n m r ++ pr2 n m s) := fun q hq => by
  obtain ⟨x, y⟩ := q
  rcases List.mem_append.mp hq with h | h
  · obtain ⟨a, b, u, h1, h2, h3, h4, hu, rfl, rfl⟩ := mem_pr1.mp h
    exact ⟨enc_lt h1 hu, enc_lt h2 hu⟩
  · obtain ⟨a, u, v, ha, h1, h2, h3, h4, rfl, rfl⟩ := mem_pr2.mp h
    exact ⟨enc_lt ha h1, enc_lt ha h2⟩
theorem rt_pro (Q : Qo n r) (S : Qo m s) {x y : Nat} (hx : x < n * m) (hy : y < n * m) : Rt (pr1 n m r ++ pr2 n m s) x y ↔ proR m r s x y := by
  refine rt_is (Q.pro S) (fun x y h => ?_) (fun x y hx hy h hne => ?_) hx hy
  · refine ⟨(in_pro _ h).1, (in_pro _ h).2, ?_⟩
    rcases List.mem_append.mp h with h | h
    · obtain ⟨a, b, u, h1, h2, h3, h4, hu, rfl, rfl⟩ := mem_pr1.mp h
      unfold proR
      rw [enc_div hu, enc_div hu, enc_mod hu, enc_mod hu]
      exact ⟨h3, S.refl _ hu⟩
    · obtain ⟨a, u, v, ha, h1, h2, h3, h4, rfl, rfl⟩ := mem_pr2.mp h
      unfold proR
      rw [enc_div h1, enc_div h2, enc_mod h1, enc_mod h2]
      exact ⟨Q.refl _ ha, h3⟩
  · have hm := mod_lt' hx
    have hm2 := mod_lt' hy
    have h1 : Rt (pr1 n m r ++ pr2 n m s) x (y / m * m + x % m) := by
      by_cases e : y / m = x / m
      · have : y / m * m + x % m = x := by rw [e, Nat.mul_comm]; exact Nat.div_add_mod x m
        rw [this]; exact .refl _
      · refine .one (List.mem_append.mpr (.inl (mem_pr1.mpr ⟨x / m, y / m, x % m, div_lt hx, div_lt hy, h.1, e, hm, ?_, rfl⟩)))
        rw [Nat.mul_comm]; exact (Nat.div_add_mod x m).symm
    have h2 : Rt (pr1 n m r ++ pr2 n m s) (y / m * m + x % m) y := by
      by_cases e : y % m = x % m
      · have : y / m * m + x % m = y := by rw [← e, Nat.mul_comm]; exact Nat.div_add_mod y m
        rw [this]; exact .refl _
      · refine .one (List.mem_append.mpr (.inr (mem_pr2.mpr ⟨y / m, x % m, y % m, div_lt hy, hm, hm2, h.2, e, rfl, ?_⟩)))
        rw [Nat.mul_comm]; exact (Nat.div_add_mod y m).symm
    exact h1.trans h2
theorem pr1_len (hn : n ≤ 24) (hm : m ≤ 24) : (pr1 n m r).length ≤ 20000 := by
  have := flat_len (fun q : Nat × Nat => (List.range m).map fun u => (q.1 * m + u, q.2 * m + u)) m (prs n r) fun x _ => by simp
  have h2 : (prs n r).length * m ≤ 576 * 24 := Nat.mul_le_mul (sq_le' hn) hm
  unfold pr1
  omega
theorem pr2_len (hn : n ≤ 24) (hm : m ≤ 24) : (pr2 n m s).length ≤ 20000 := by
  have := flat_len (fun x : Nat => (prs m s).map fun q => (x * m + q.1, x * m + q.2)) 576 (List.range n) fun x _ => by rw [List.length_map]; exact sq_le' hm
  rw [List.length_range] at this
  have h2 : n * 576 ≤ 24 * 576 := Nat.mul_le_mul_right _ hn
  unfold pr2
  omega
end
end CS
namespace CS
open PySem L2
open Classical
theorem Rn.trans {nb : Nat → List Nat} {x y z : Nat} (h : Rn nb x y) (h2 : Rn nb y z) : Rn nb x z := by
  induction h2 with
  | refl => exact h
  | tail _ h3 ih => exact ih.tail h3
theorem Rn.lt {nb : Nat → List Nat} {n x y : Nat} (hnb : ∀ y z, y < n → z ∈ nb y → z < n) (h : Rn nb x y) (hx : x < n) : y < n := by
  induction h with
  | refl => exact hx
  | tail _ h3 ih => exact hnb _ _ ih h3
theorem Rn.symm {nb : Nat → List Nat} {n x y : Nat} (hnb : ∀ y z, y < n → z ∈ nb y → z < n) (hs : ∀ y z, y < n → z < n → z ∈ nb y → y ∈ nb z) (h : Rn nb x y) (hx : x < n) : Rn nb y x := by
  induction h with
  | refl => exact .refl
  | tail h1 h3 ih =>
    have hy := h1.lt hnb hx
    have hz := hnb _ _ hy h3
    exact Rn.trans (.tail .refl (hs _ _ hy hz h3)) ih
theorem Rn.mono {nb nb' : Nat → List Nat} {n x y : Nat} (hnb : ∀ y z, y < n → z ∈ nb y → z < n) (hs : ∀ y z, y < n → z ∈ nb y → z ∈ nb' y) (h : Rn nb x y) (hx : x < n) : Rn nb' x y := by
  induction h with
  | refl => exact .refl
  | tail h1 h3 ih => exact ih.tail (hs _ _ (h1.lt hnb hx) h3)
theorem addT_ok {a b : List D} (h0 : a ≠ []) (h : a.length + b.length ≤ 100000) : addD (.tup a) (.tup b) = .ok (.tup (a ++ b)) := by
  show (if a.isEmpty then Res.bad else mkT (a ++ b)) = _
  rw [if_neg (by cases a with
    | nil => exact absurd rfl h0
    | cons _ _ => simp)]
  unfold mkT
  rw [if_pos (by rw [List.length_append]; exact Nat.le_trans h (by decide))]
section
variable {n : Nat} {r : Nat → Nat → Prop} {p : Pn}
noncomputable def nbH (n : Nat) (r : Nat → Nat → Prop) (x : Nat) : List Nat := sel n (fun z => r z x) ++ sel n (r x)
theorem mem_nbH {x y : Nat} : y ∈ nbH n r x ↔ y < n ∧ (r y x ∨ r x y) := by
  unfold nbH
  rw [List.mem_append, mem_sel, mem_sel]
  constructor
  · rintro (⟨a, b⟩ | ⟨a, b⟩)
    · exact ⟨a, .inl b⟩
    · exact ⟨a, .inr b⟩
  · rintro ⟨a, b | b⟩
    · exact .inl ⟨a, b⟩
    · exact .inr ⟨a, b⟩
theorem nbH_lt (y z : Nat) (_ : y < n) (h : z ∈ nbH n r y) : z < n := (mem_nbH.mp h).1
theorem nbH_sym (y z : Nat) (hy : y < n) (_ : z < n) (h : z ∈ nbH n r y) : y ∈ nbH n r z := mem_nbH.mpr ⟨hy, (mem_nbH.mp h).2.symm⟩
/-- the least points of what hangs together -/
noncomputable def ldr (n : Nat) (r : Nat → Nat → Prop) (k : Nat) : List Nat := (List.range k).filter fun x => decide (∀ z, z < x → ¬ Rn (nbH n r) z x)
theorem ldr_succ (k : Nat) : ldr n r (k + 1) = ldr n r k ++ (if ∀ z, z < k → ¬ Rn (nbH n r) z k then [k] else []) := by
  unfold ldr
  rw [List.range_succ, List.filter_append]
  congr 1
  by_cases h : ∀ z, z < k → ¬ Rn (nbH n r) z k
  · rw [if_pos h, List.filter_cons, if_pos (decide_eq_true h)]; rfl
  · rw [if_neg h, List.filter_cons, if_neg (by rw [decide_eq_false h]; exact Bool.false_ne_true)]; rfl
theorem ldr_any {k : Nat} (hk : k < n) : (∃ z, z ∈ ldr n r k ∧ Rn (nbH n r) z k) ↔ ∃ z, z < k ∧ Rn (nbH n r) z k := by
  constructor
  · rintro ⟨z, h1, h2⟩
    unfold ldr at h1
    exact ⟨z, List.mem_range.mp (List.mem_filter.mp h1).1, h2⟩
  · intro h
    have main : ∀ m z, z = m → z < k → Rn (nbH n r) z k → ∃ z, z ∈ ldr n r k ∧ Rn (nbH n r) z k := by
      intro m
      induction m using Nat.strongRecOn with
      | ind m ih =>
        rintro z rfl hz h
        by_cases hl : ∀ w, w < z → ¬ Rn (nbH n r) w z
        · refine ⟨z, ?_, h⟩
          unfold ldr
          exact List.mem_filter.mpr ⟨List.mem_range.mpr hz, decide_eq_true hl⟩
        · obtain ⟨w, hw⟩ := Classical.not_forall.mp hl
          obtain ⟨h1, h2⟩ := Classical.not_imp.mp hw
          exact ih w h1 w rfl (by omega) ((Classical.not_not.mp h2).trans h)
    obtain ⟨z, h1, h2⟩ := h
    exact main z z rfl h1 h2
theorem ldr_len (k : Nat) : (ldr n r k).length ≤ k := by
  have := List.length_filter_le (fun x => decide (∀ z, z < x → ¬ Rn (nbH n r) z x)) (List.range k)
  simpa [ldr] using this
noncomputable def prt (n : Nat) (r : Nat → Nat → Prop) : D := .tup ((ldr n r n).map fun x => row n (Rn (nbH n r) x))
/-- fewer relations: no fewer parts -/
theorem ldr_mono {r' : Nat → Nat → Prop} (h : ∀ x y, x < n → y < n → r' x y → r x y) : (ldr n r n).length ≤ (ldr n r' n).length := by
  have hm : ∀ x z, x < n → z < n → Rn (nbH n r') z x → Rn (nbH n r) z x := fun x z hx hz a => a.mono nbH_lt (fun y w hy hw => by
    obtain ⟨b, c⟩ := mem_nbH.mp hw
    exact mem_nbH.mpr ⟨b, c.imp (h _ _ b hy) (h _ _ hy b)⟩) hz
  have sub : (ldr n r n) = (ldr n r' n).filter fun x => decide (∀ z, z < x → ¬ Rn (nbH n r) z x) := by
    unfold ldr
    rw [List.filter_filter]
    refine List.filter_congr fun x hx => ?_
    have hxn := List.mem_range.mp hx
    by_cases q : ∀ z, z < x → ¬ Rn (nbH n r) z x
    · have q' : ∀ z, z < x → ¬ Rn (nbH n r') z x := fun z hz a => q z hz (hm x z hxn (by omega) a)
      rw [decide_eq_true q, decide_eq_true q']; rfl
    · rw [decide_eq_false q]; simp
  rw [sub]
  exact List.length_filter_le ..
end
end CS
namespace CS
open PySem L2
open Classical
theorem Pen.Ok.mono {P : Pen} {a b : Nat} (h : P.Ok a) (hab : a ≤ b) : P.Ok b := ⟨h.f0, h.f1, Nat.le_trans h.c hab⟩
theorem lt50 {c : Nat} (h : c ≤ 1000000) : c < 2 ^ 50 := Nat.lt_of_le_of_lt h (by decide)
theorem vd {P : Pen} {c m : Nat} (h : P.Ok c) (hc : c ≤ 1000000) (hm : 0 < m) (hm2 : m ≤ 1000000) : ∃ k P', k < m ∧ drawF [.pen, nI m] (some P) = .ok (nI k, some P') ∧ P'.Ok (c + 1) := by
  obtain ⟨r, P', h1, h2, h3, h4⟩ := draw_ok (m := (m : Int)) h (by omega) (by omega) (lt50 hc)
  refine ⟨r.toNat, P', by omega, ?_, h4⟩
  have e : nI r.toNat = D.int r := by
    unfold nI
    rw [Int.toNat_of_nonneg h2]
  rw [e]
  exact h1
theorem v_pick {P : Pen} {c : Nat} {X : D} {ds : List D} (h : P.Ok c) (hc : c ≤ 1000000) (hr : X.row = .ok ds) (hlen : lenD [X] = .ok (nI ds.length)) (h0 : ds ≠ []) (h1 : ds.length ≤ 1000000) : ∃ d P', d ∈ ds ∧ m_law_pick [.pen, X] (some P) = .ok (d, some P') ∧ P'.Ok (c + 1) := by
  obtain ⟨k, P', hk, hd, ho⟩ := vd h hc (m := ds.length) (List.length_pos_iff.mpr h0) h1
  refine ⟨ds[k], P', List.getElem_mem hk, ?_, ho⟩
  exact run_fn rfl (pRet (pM2 rfl (pCall (pCons rfl (pOne (pCB rfl hlen))) hd) (ix_nat hr (List.getElem?_eq_getElem hk))))
theorem at_gen {ds : List D} {k : Nat} {d : D} {A : Int} (h : ds[k]? = some d) (hA : (k : Int) < A) : ((asI (D.int k)).bind fun k => if 0 ≤ k ∧ k < A then (match ds[k.toNat]? with
  | some d => Res.ok (d, k.toNat)
  | none => .bad) else .bad) = .ok (d, k) := by
  have h0 : asI (D.int k) = .ok (k : Int) := rfl
  rw [h0]
  simp only [Res.bind]
  rw [if_pos ⟨by omega, hA⟩, Int.toNat_natCast, h]
theorem lt63' {n : Nat} (hn : n ≤ 1000000) : (n : Int) < 2 ^ 63 := by omega
theorem atD_nat {ds : List D} {k : Nat} {d : D} (h : ds[k]? = some d) (hk : k ≤ 1000000) : atD ds (nI k) = .ok (d, k) := by
  unfold atD
  exact at_gen h (lt63' hk)
theorem run_popAt {env : Env'} {p p1 : Pn} {i : Nat} {m : M D} {k : Nat} {d : D} {ds : List D} (h : env[i]? = some (.ow (.lst ds))) (hm : m env p = .ok (nI k, env, p1)) (hx : ds[k]? = some d) (hk : k ≤ 1000000) : mPopAt i m env p = .ok (d, env.set i (.ow (.lst (ds.eraseIdx k))), p1) := by
  refine run_bind (run_chk h) (run_bind hm (run_bind (a := ds) (e1 := env) (p1 := p1) ?_ (run_bind (run_res (atD_nat hx hk)) (run_bind (a := ()) (e1 := env.set i (.ow (.lst (ds.eraseIdx k)))) (p1 := p1) rfl rfl))))
  unfold mGetW; rw [getW_ow h]; rfl
theorem erase_perm {α : Type} : ∀ (l : List α) (k : Nat) (d : α), l[k]? = some d → (d :: l.eraseIdx k).Perm l
  | [], k, d, h => by simp at h
  | a :: l, 0, d, h => by
    simp at h; subst h; exact .refl _
  | a :: l, k + 1, d, h => by
    have := erase_perm l k d (by simpa using h)
    rw [List.eraseIdx_cons_succ]
    exact (List.Perm.swap a d _).trans (this.cons a)
theorem v_shuffled {P : Pen} {c : Nat} {X : D} {ds : List D} (h : P.Ok c) (hc : c ≤ 100000) (hr : listD [X] = .ok (.lst ds)) (hlen : lenD [X] = .ok (nI ds.length)) (hl : ds.length ≤ 1000) :
    ∃ ds' P', ds'.Perm ds ∧ m_law_shuffled [.pen, X] (some P) = .ok (.lst ds', some P') ∧ P'.Ok (c + ds.length) := by
  have hpar : dParOO 2 3 (mCB listD (mCons (dVar 1) mNil)) (mLst mNil) [.pl .pen, .pl X, .un, .un, .un] (some P) = .nx (([Slot.pl .pen, .pl X, .un, .un, .un].set 2 (.ow (.lst ds))).set 3 (.ow (.lst []))) (some P) := run_parOO (pCB rfl hr) rfl
  obtain ⟨e', p', h1, P', rest, found, rfl, hO, g2, g3, hp, hL, F⟩ := run_for (src := mRange1 (mCB lenD (mCons (dVar 1) mNil))) (b := bNm 4) (body := dExpr (mAppend 3 (mPopAt 2 (mCall drawF [] (mCons (dVar 0) (mCons (mBor (mCB lenD (mCons (dVar 2) mNil))) mNil))))))
    (env := [.pl .pen, .pl X, .ow (.lst ds), .ow (.lst []), .un]) (p := some P) nI (List.range ds.length)
    (fun done env p1 => ∃ (P1 : Pen) (rest found : List D), p1 = some P1 ∧ P1.Ok (c + done.length) ∧ env[2]? = some (.ow (.lst rest)) ∧ env[3]? = some (.ow (.lst found)) ∧ (found ++ rest).Perm ds ∧ rest.length + done.length = ds.length ∧ Frm [2, 3, 4] [.pl .pen, .pl X, .ow (.lst ds), .ow (.lst []), .un] env)
    (run_range (pCB rfl hlen) (by omega)) ⟨P, ds, [], rfl, h, rfl, rfl, .refl _, rfl, Frm.refl⟩ (fun done x rs env p1 hd ⟨P1, rest, found, hp1, hO, g2, g3, hp, hL, F⟩ => by
      subst hp1
      have hdl : done.length < ds.length := by
        have := congrArg List.length hd
        simp at this
        omega
      refine ⟨env.set 4 (.pl (nI x)), rfl, ?_⟩
      have fl : env.length = 5 := F.len
      generalize hE : env.set 4 (.pl (nI x)) = E
      have E0 : E[0]? = some (.pl .pen) := by rw [← hE, List.getElem?_set_ne (by decide)]; exact F.at_ 0 (by decide)
      have E2 : E[2]? = some (.ow (.lst rest)) := by rw [← hE, List.getElem?_set_ne (by decide)]; exact g2
      have E3 : E[3]? = some (.ow (.lst found)) := by rw [← hE, List.getElem?_set_ne (by decide)]; exact g3
      have El : E.length = 5 := by rw [← hE]; simp [fl]
      have FE : Frm [2, 3, 4] [.pl .pen, .pl X, .ow (.lst ds), .ow (.lst []), .un] E := by rw [← hE]; exact F.trans (Frm.set (by simp))
      obtain ⟨k, P2, hk, hdr, hO2⟩ := vd hO (by omega) (m := rest.length) (by omega) (by omega)
      have hx := List.getElem?_eq_getElem hk
      have hpop := run_popAt E2 (m := mCall drawF [] (mCons (dVar 0) (mCons (mBor (mCB lenD (mCons (dVar 2) mNil))) mNil))) (p := some P1) (pCall (pCons (run_var E0) (pOne (run_lenO E2))) hdr) hx (by omega)
      have E3' : (E.set 2 (.ow (.lst (rest.eraseIdx k))))[3]? = some (.ow (.lst found)) := by rw [List.getElem?_set_ne (by decide)]; exact E3
      have happ : mAppend 3 (mPopAt 2 (mCall drawF [] (mCons (dVar 0) (mCons (mBor (mCB lenD (mCons (dVar 2) mNil))) mNil)))) E (some P1) = .ok (.non, (E.set 2 (.ow (.lst (rest.eraseIdx k)))).set 3 (.ow (.lst (found ++ [rest[k]]))), some P2) := by
        refine run_bind (run_chk E3) (run_bind hpop (run_bind (a := found) (e1 := E.set 2 (.ow (.lst (rest.eraseIdx k)))) (p1 := some P2) ?_ (run_bind (a := ()) (e1 := E.set 2 (.ow (.lst (rest.eraseIdx k)))) (p1 := some P2) (run_res ?_) rfl)))
        · unfold mGetW; rw [getW_ow E3']; rfl
        · have := hp.length_eq
          rw [List.length_append] at this
          exact if_pos (show found.length < 16777216 by omega)
      have hpe := erase_perm rest k _ hx
      refine ⟨_, _, run_expr happ, P2, rest.eraseIdx k, found ++ [rest[k]], rfl, ?_, ?_, ?_, ?_, ?_, FE.trans ((Frm.set (by simp)).trans (Frm.set (by simp)))⟩
      · rw [List.length_append]; exact hO2
      · rw [List.getElem?_set_ne (by decide)]; exact List.getElem?_set_self (by rw [El]; decide)
      · exact List.getElem?_set_self (by simp [El])
      · rw [List.append_assoc]
        exact (List.Perm.append_left found hpe).trans hp
      · have := hpe.length_eq
        rw [List.length_cons] at this
        rw [List.length_append, List.length_singleton]
        omega)
  rw [List.length_range] at hO hL
  have hr0 : rest = [] := List.eq_nil_of_length_eq_zero (by omega)
  subst hr0
  rw [List.append_nil] at hp
  refine ⟨found, P', hp, run_fn rfl (run_seq hpar (run_seq h1 (run_frz g3 (pRet (run_var (List.getElem?_set_self ?_)))))), hO⟩
  rw [F.len]; show 3 < 5; decide
def unI : D → Nat
  | .int i => i.toNat
  | _ => 0
theorem perm_nums {ds : List D} {l0 : List Nat} (h : ds.Perm (l0.map nI)) : ∃ l : List Nat, ds = l.map nI ∧ l.Perm l0 := by
  refine ⟨ds.map unI, ?_, ?_⟩
  · rw [List.map_map]
    conv => lhs; rw [← List.map_id ds]
    refine List.map_congr_left fun d hd => ?_
    obtain ⟨i, _, rfl⟩ := List.mem_map.mp (h.mem_iff.mp hd)
    rfl
  · have := h.map unI
    rw [List.map_map] at this
    rwa [show l0.map (unI ∘ nI) = l0 from by
      conv => rhs; rw [← List.map_id l0]
      exact List.map_congr_left fun i _ => rfl] at this
theorem rgL_gen {n : Nat} {B : Int} (hn : n ≤ 16777216) (h3 : B ≤ (n : Int)) : (if (n : Int) ≤ 16777216 ∧ B ≤ (n : Int) then Res.ok (D.lst ((List.range (n : Int).toNat).map fun (i : Nat) => D.int i)) else .bad) = .ok (.lst ((List.range n).map nI)) := by
  rw [if_pos ⟨by omega, h3⟩, Int.toNat_natCast]
  rfl
theorem rgL_nat {n : Nat} (hn : n ≤ 16777216) : rgL (nI n) = .ok (.lst ((List.range n).map nI)) := by
  have h0 : asI (nI n) = .ok (n : Int) := rfl
  unfold rgL
  rw [h0]
  simp only [Res.bind]
  exact rgL_gen hn ge62
/-- an order of the points below n -/
theorem v_order {P : Pen} {c n : Nat} (h : P.Ok c) (hc : c ≤ 100000) (hn : n ≤ 1000) : ∃ (l : List Nat) (P' : Pen), l.Perm (List.range n) ∧ m_law_shuffled [.pen, .lst ((List.range n).map nI)] (some P) = .ok (.lst (l.map nI), some P') ∧ P'.Ok (c + n) := by
  obtain ⟨ds, P', h1, h2, h3⟩ := v_shuffled (X := .lst ((List.range n).map nI)) (ds := (List.range n).map nI) h hc rfl rfl (by simpa using hn)
  obtain ⟨l, rfl, hl⟩ := perm_nums h1
  exact ⟨l, P', hl, h2, by simpa using h3⟩
theorem nodup_inj {l : List Nat} (h : l.Nodup) {i j : Nat} (hi : i < l.length) (hj : j < l.length) (e : l[i] = l[j]) : i = j := by
  have h2 := List.pairwise_iff_getElem.mp h
  rcases Nat.lt_trichotomy i j with q | q | q
  · exact absurd e (h2 i j hi hj q)
  · exact q
  · exact absurd e.symm (h2 j i hj hi q)
theorem pos_ex {n : Nat} {l : List Nat} (h : l.Perm (List.range n)) : ∃ f : Nat → Nat, ∀ i x, l[i]? = some x → f x = i := by
  have nd : l.Nodup := h.nodup_iff.mpr List.nodup_range
  refine ⟨fun x => if q : ∃ i, l[i]? = some x then q.choose else 0, fun i x hx => ?_⟩
  have q : ∃ i, l[i]? = some x := ⟨i, hx⟩
  show (if q : ∃ i, l[i]? = some x then q.choose else 0) = i
  rw [dif_pos q]
  have h2 := q.choose_spec
  obtain ⟨a1, a2⟩ := List.getElem?_eq_some_iff.mp h2
  obtain ⟨b1, b2⟩ := List.getElem?_eq_some_iff.mp hx
  exact nodup_inj nd a1 b1 (a2.trans b2.symm)
theorem ord_at {n i : Nat} {l : List Nat} (h : l.Perm (List.range n)) (hi : i < n) : ∃ x, l[i]? = some x ∧ x < n := by
  have hl : i < l.length := by rw [h.length_eq, List.length_range]; exact hi
  exact ⟨l[i], List.getElem?_eq_getElem hl, List.mem_range.mp (h.mem_iff.mp (List.getElem_mem hl))⟩
end CS
namespace CS
open PySem L2
open Classical
theorem sub_nat {a b : Nat} (h : b ≤ a) : subD (nI a) (nI b) = .ok (nI (a - b)) := by
  show Res.ok (D.int ((a : Int) - (b : Int))) = _
  unfold nI
  congr 2
  omega
structure Good (n : Nat) (ps : List (Nat × Nat)) : Prop where
  pos : 1 ≤ n
  inn : In n ps
  rk : ∃ f : Nat → Nat, ∀ q ∈ ps, f q.1 < f q.2
  len : ps.length ≤ 100
theorem v_some_pairs {P : Pen} {c n m : Nat} (h : P.Ok c) (hc : c ≤ 50000) (h1 : 1 ≤ n) (hn : n ≤ 24) (hm : m ≤ 100) : ∃ (ps : List (Nat × Nat)) (P' : Pen), m_law_some_pairs [.pen, nI n, nI m] (some P) = .ok (.lst (ps.map prD), some P') ∧ Good n ps ∧ P'.Ok (c + 300) := by
  obtain ⟨l, P0, hl, ho, hO0⟩ := v_order h (by omega) (n := n) (by omega)
  obtain ⟨f, hf⟩ := pos_ex hl
  have hsrc : ∃ (K : Nat) (P1 : Pen), K ≤ m ∧ (0 < K → 1 < n) ∧ P1.Ok (c + n + 1) ∧ mRange1 (mIf (mB (m2 gtD (dVar 1) (M.ret (.int 1)))) (mCall drawF [] (mCons (dVar 0) (mCons (m2 addD (dVar 2) (M.ret (.int 1))) mNil))) (M.ret (.int 0))) [.pl .pen, .pl (nI n), .pl (nI m), .pl (.lst (l.map nI)), .ow (.lst []), .un, .un, .un] (some P0) = .ok ((List.range K).map nI, [.pl .pen, .pl (nI n), .pl (nI m), .pl (.lst (l.map nI)), .ow (.lst []), .un, .un, .un], some P1) := by
    have hg := gt_nat n 1
    by_cases h2 : 1 < n
    · rw [decide_eq_true h2] at hg
      obtain ⟨K, P1, hK, hd, hO1⟩ := vd hO0 (by omega) (m := m + 1) (by omega) (by omega)
      exact ⟨K, P1, by omega, fun _ => h2, hO1, run_range (run_bind (run_B (run_m2 rfl rfl hg)) (pCall (pCons rfl (pOne (pM2 rfl rfl (add_nat _ 1)))) hd)) (by omega)⟩
    · rw [decide_eq_false h2] at hg
      exact ⟨0, P0, by omega, fun h => by omega, hO0.mono (by omega), run_range (n := 0) (run_bind (run_B (run_m2 rfl rfl hg)) rfl) (by omega)⟩
  obtain ⟨K, P1, hK, hK1, hO1, hS⟩ := hsrc
  obtain ⟨e', p', g1, P2, ps, rfl, hO2, k4, kl, kin, krk, F⟩ := run_for (b := bNm 5) (body := dSeq (dSet 6 (mCall drawF [] (mCons (dVar 0) (mCons (m2 subD (dVar 1) (M.ret (.int 1))) mNil)))) (dSeq (dSet 7 (m2 addD (m2 addD (dVar 6) (M.ret (.int 1))) (mCall drawF [] (mCons (dVar 0) (mCons (m2 subD (m2 subD (dVar 1) (M.ret (.int 1))) (dVar 6)) mNil))))) (dExpr (mAppend 4 (mTup (mCons (m2 ixD (dVar 3) (dVar 6)) (mCons (m2 ixD (dVar 3) (dVar 7)) mNil)))))))
    nI (List.range K) (fun done env p1 => ∃ (P2 : Pen) (ps : List (Nat × Nat)), p1 = some P2 ∧ P2.Ok (c + n + 1 + 2 * done.length) ∧ env[4]? = some (.ow (.lst (ps.map prD))) ∧ ps.length = done.length ∧ In n ps ∧ (∀ q ∈ ps, f q.1 < f q.2) ∧ Frm [4, 5, 6, 7] [.pl .pen, .pl (nI n), .pl (nI m), .pl (.lst (l.map nI)), .ow (.lst []), .un, .un, .un] env)
    hS ⟨P1, [], rfl, hO1, rfl, rfl, (fun _ h => nomatch h), (fun _ h => nomatch h), Frm.refl⟩ (fun done x rs env p1 hd ⟨P2, ps, hp1, hO2, k4, kl, kin, krk, F⟩ => by
      subst hp1
      have hdl : done.length < K := by
        have := congrArg List.length hd
        simp at this
        omega
      have h2 : 1 < n := hK1 (by omega)
      refine ⟨env.set 5 (.pl (nI x)), rfl, ?_⟩
      have fl : env.length = 8 := F.len
      obtain ⟨a, P3, ha, hda, hO3⟩ := vd hO2 (by omega) (m := n - 1) (by omega) (by omega)
      obtain ⟨b, P4, hb, hdb, hO4⟩ := vd hO3 (by omega) (m := n - 1 - a) (by omega) (by omega)
      obtain ⟨u, hu, hun⟩ := ord_at hl (i := a) (by omega)
      obtain ⟨v, hv, hvn⟩ := ord_at hl (i := a + 1 + b) (by omega)
      generalize hE : env.set 5 (.pl (nI x)) = E
      have E0 : E[0]? = some (.pl .pen) := by rw [← hE, List.getElem?_set_ne (by decide)]; exact F.at_ 0 (by decide)
      have E1 : E[1]? = some (.pl (nI n)) := by rw [← hE, List.getElem?_set_ne (by decide)]; exact F.at_ 1 (by decide)
      have E3 : E[3]? = some (.pl (.lst (l.map nI))) := by rw [← hE, List.getElem?_set_ne (by decide)]; exact F.at_ 3 (by decide)
      have E4 : E[4]? = some (.ow (.lst (ps.map prD))) := by rw [← hE, List.getElem?_set_ne (by decide)]; exact k4
      have El : E.length = 8 := by rw [← hE]; simp [fl]
      have FE : Frm [4, 5, 6, 7] [.pl .pen, .pl (nI n), .pl (nI m), .pl (.lst (l.map nI)), .ow (.lst []), .un, .un, .un] E := by rw [← hE]; exact F.trans (Frm.set (by simp))
      have hA : dSet 6 (mCall drawF [] (mCons (dVar 0) (mCons (m2 subD (dVar 1) (M.ret (.int 1))) mNil))) E (some P2) = .nx (E.set 6 (.pl (nI a))) (some P3) := pSet (pCall (pCons (run_var E0) (pOne (pM2 (run_var E1) rfl (sub_nat (b := 1) h1)))) hda)
      generalize hG : E.set 6 (.pl (nI a)) = G at hA
      have G0 : G[0]? = some (.pl .pen) := by rw [← hG, List.getElem?_set_ne (by decide)]; exact E0
      have G1 : G[1]? = some (.pl (nI n)) := by rw [← hG, List.getElem?_set_ne (by decide)]; exact E1
      have G3 : G[3]? = some (.pl (.lst (l.map nI))) := by rw [← hG, List.getElem?_set_ne (by decide)]; exact E3
      have G4 : G[4]? = some (.ow (.lst (ps.map prD))) := by rw [← hG, List.getElem?_set_ne (by decide)]; exact E4
      have G6 : G[6]? = some (.pl (nI a)) := by rw [← hG]; exact List.getElem?_set_self (by rw [El]; decide)
      have Gl : G.length = 8 := by rw [← hG]; simp [El]
      have hB : dSet 7 (m2 addD (m2 addD (dVar 6) (M.ret (.int 1))) (mCall drawF [] (mCons (dVar 0) (mCons (m2 subD (m2 subD (dVar 1) (M.ret (.int 1))) (dVar 6)) mNil)))) G (some P3) = .nx (G.set 7 (.pl (nI (a + 1 + b)))) (some P4) :=
        pSet (pM2 (pM2 (run_var G6) rfl (add_nat _ 1)) (pCall (pCons (run_var G0) (pOne (pM2 (pM2 (run_var G1) rfl (sub_nat (b := 1) h1)) (run_var G6) (sub_nat (by omega))))) hdb) (add_nat _ _))
      generalize hJ : G.set 7 (.pl (nI (a + 1 + b))) = J at hB
      have J3 : J[3]? = some (.pl (.lst (l.map nI))) := by rw [← hJ, List.getElem?_set_ne (by decide)]; exact G3
      have J4 : J[4]? = some (.ow (.lst (ps.map prD))) := by rw [← hJ, List.getElem?_set_ne (by decide)]; exact G4
      have J6 : J[6]? = some (.pl (nI a)) := by rw [← hJ, List.getElem?_set_ne (by decide)]; exact G6
      have J7 : J[7]? = some (.pl (nI (a + 1 + b))) := by rw [← hJ]; exact List.getElem?_set_self (by rw [Gl]; decide)
      have Jl : J.length = 8 := by rw [← hJ]; simp [Gl]
      refine ⟨_, _, run_seq hA (run_seq hB (run_expr (run_append (d := prD (u, v)) J4 (run_tup (run_cons (pM2 (run_var J3) (run_var J6) (ix_nat rfl (by rw [List.getElem?_map, hu]; rfl))) (run_cons (pM2 (run_var J3) (run_var J7) (ix_nat rfl (by rw [List.getElem?_map, hv]; rfl))) rfl)) (by show 2 ≤ sizeLine; decide)) ?_))), P4, ps ++ [(u, v)], rfl, ?_, ?_, ?_, ?_, ?_, ?_⟩
      · rw [List.length_map]
        show _ < 16777216
        omega
      · rw [List.length_append, List.length_singleton]
        exact hO4.mono (by omega)
      · rw [List.getElem?_set_self (by rw [Jl]; decide), List.map_append]; rfl
      · rw [List.length_append, List.length_append, kl]; rfl
      · intro q hq
        rcases List.mem_append.mp hq with hq | hq
        · exact kin q hq
        · rw [List.mem_singleton] at hq; subst hq; exact ⟨hun, hvn⟩
      · intro q hq
        rcases List.mem_append.mp hq with hq | hq
        · exact krk q hq
        · rw [List.mem_singleton] at hq; subst hq
          show f u < f v
          rw [hf a u hu, hf (a + 1 + b) v hv]
          omega
      · refine FE.trans (Frm.trans ?_ (Frm.set (by simp)))
        rw [← hJ, ← hG]
        exact (Frm.set (by simp)).trans (Frm.set (by simp)))
  rw [List.length_range] at hO2 kl
  refine ⟨ps, P2, run_fn rfl (run_seq (pSet (pCall (pCons rfl (pOne (run_m1 rfl (rgL_nat (by omega))))) ho)) (run_seq (pSetO rfl) (run_seq g1 (run_frz k4 (pRet (run_var (List.getElem?_set_self ?_))))))), ⟨h1, kin, ⟨f, krk⟩, by omega⟩, hO2.mono (by omega)⟩
  rw [F.len]; show 4 < 8; decide
end CS
namespace CS
open PySem L2
def kD (z : Nat × List (Nat × Nat)) : D := .tup [nI z.1, .lst (z.2.map prD)]
def kn1 : List (Nat × List (Nat × Nat)) := [(4, [(0, 2), (0, 3), (1, 2), (1, 3)]), (6, [(0, 3), (0, 4), (1, 4), (1, 5), (2, 5), (2, 3)])]
def kn2 : List (Nat × List (Nat × Nat)) := kn1 ++ [(5, [(0, 1), (2, 1), (2, 3), (4, 3)]), (3, [(0, 1), (1, 2)]), (3, [])]
def kn3 : List (Nat × List (Nat × Nat)) := kn2 ++ [(5, [(0, 1), (0, 2), (1, 3), (2, 3), (4, 3)]), (1, []), (2, [(0, 1)])]
def kn4 : List (Nat × List (Nat × Nat)) := kn3 ++ [(6, [(0, 2), (0, 3), (1, 2), (1, 3), (2, 4), (2, 5), (3, 4), (3, 5)])]
/-- the known ones with ranks of their points -/
def knR : List (Nat × List (Nat × Nat) × List Nat) := [(4, [(0, 2), (0, 3), (1, 2), (1, 3)], [0, 0, 1, 1]), (6, [(0, 3), (0, 4), (1, 4), (1, 5), (2, 5), (2, 3)], [0, 0, 0, 1, 1, 1]),
  (5, [(0, 1), (2, 1), (2, 3), (4, 3)], [0, 1, 0, 1, 0]), (3, [(0, 1), (1, 2)], [0, 1, 2]), (3, [], []), (5, [(0, 1), (0, 2), (1, 3), (2, 3), (4, 3)], [0, 1, 1, 2, 0]), (1, [], []), (2, [(0, 1)], [0, 1]),
  (6, [(0, 2), (0, 3), (1, 2), (1, 3), (2, 4), (2, 5), (3, 4), (3, 5)], [0, 0, 1, 1, 2, 2])]
theorem knR_eq : knR.map (fun z => (z.1, z.2.1)) = kn4 := by rfl
theorem knR_ok : ∀ z ∈ knR, 1 ≤ z.1 ∧ (∀ q ∈ z.2.1, q.1 < z.1 ∧ q.2 < z.1) ∧ (∀ q ∈ z.2.1, z.2.2.getD q.1 0 < z.2.2.getD q.2 0) ∧ z.2.1.length ≤ 100 := by decide +kernel
theorem kn_good {z : Nat × List (Nat × Nat)} (h : z ∈ kn4) : Good z.1 z.2 := by
  rw [← knR_eq] at h
  obtain ⟨w, hw, rfl⟩ := List.mem_map.mp h
  obtain ⟨a, b, c, d⟩ := knR_ok w hw
  exact ⟨a, b, ⟨fun i => w.2.2.getD i 0, c⟩, d⟩
theorem v_known {P : Pen} {c m : Nat} (h : P.Ok c) (hc : c ≤ 100000) (hm : 1 ≤ m) (hm2 : m ≤ 100) : ∃ (z : Nat × List (Nat × Nat)) (P' : Pen), m_law_known [.pen, nI m] (some P) = .ok (kD z, some P') ∧ Good z.1 z.2 ∧ z.1 ≤ m ∧ P'.Ok (c + 1) := by
  have hmem : ((1, []) : Nat × List (Nat × Nat)) ∈ kn4.filter fun z => decide (z.1 ≤ m) := List.mem_filter.mpr ⟨by decide, decide_eq_true hm⟩
  have hl : (kn4.filter fun z => decide (z.1 ≤ m)).length ≤ 9 := List.length_filter_le ..
  obtain ⟨d, P', hd, hp, hO⟩ := v_pick (X := .lst ((kn4.filter fun z => decide (z.1 ≤ m)).map kD)) (ds := (kn4.filter fun z => decide (z.1 ≤ m)).map kD) h (by omega) rfl rfl (fun e => by
    rw [List.map_eq_nil_iff.mp e] at hmem
    cases hmem) (by rw [List.length_map]; omega)
  obtain ⟨z, hz, rfl⟩ := List.mem_map.mp hd
  obtain ⟨hz1, hz2⟩ := List.mem_filter.mp hz
  refine ⟨z, P', ?_, kn_good hz1, of_decide_eq_true hz2, hO⟩
  have hcomp : mComp (mRow (dVar 2)) [3] (bNm 3) (mB (m2 leD (m2 ixD (dVar 3) (M.ret (.int 0))) (dVar 1))) (dVar 3) [.pl .pen, .pl (nI m), .pl (.lst (kn4.map kD)), .un] (some P) = .ok (.lst ((kn4.filter fun z => decide (z.1 ≤ m)).map kD), [.pl .pen, .pl (nI m), .pl (.lst (kn4.map kD)), .un], some P) :=
    run_comp kD (fun z => decide (z.1 ≤ m)) kD kn4 (run_row rfl rfl) (fun z _ => ⟨_, rfl, _, pB (pM2 (pM2 rfl rfl (ix_nat (i := 0) rfl rfl)) rfl (le_nat _ _)), fun _ => ⟨_, rfl⟩⟩) (by show 9 ≤ sizeLine; decide)
  refine run_fn rfl (run_seq (pSet (d := .lst (kn1.map kD)) rfl) (run_seq (pSet (d := .lst (kn2.map kD)) rfl) (run_seq (pSet (d := .lst (kn3.map kD)) rfl) (run_seq (pSet (d := .lst (kn4.map kD)) rfl) (pRet (pCall (pCons rfl (pOne hcomp)) hp))))))
def nmd (l : List Nat) (q : Nat × Nat) : Nat × Nat := (l.getD q.1 0, l.getD q.2 0)
theorem v_some_space {P : Pen} {c m : Nat} (h : P.Ok c) (hc : c ≤ 10000) (hm : 1 ≤ m) (hm2 : m ≤ 24) : ∃ (n : Nat) (ps : List (Nat × Nat)) (P' : Pen), m_law_some_space [.pen, nI m] (some P) = .ok (.tup [nI n, .lst (ps.map prD)], some P') ∧ Good n ps ∧ n ≤ m ∧ P'.Ok (c + 1000) := by
  obtain ⟨a, P1, ha, hda, hO1⟩ := vd h (by omega) (m := m) (by omega) (by omega)
  obtain ⟨b, P2, hb, hdb, hO2⟩ := vd hO1 (by omega) (m := 3) (by omega) (by omega)
  have hpar : dPar 2 3 (m2 addD (M.ret (.int 1)) (mCall drawF [] (mCons (dVar 0) (mCons (dVar 1) mNil)))) (M.ret .non) [.pl .pen, .pl (nI m), .un, .un, .un, .un, .un] (some P) = .nx (([Slot.pl .pen, .pl (nI m), .un, .un, .un, .un, .un].set 2 (.pl (nI (1 + a)))).set 3 (.pl .non)) (some P1) :=
    run_par (run_m2 rfl (pCall rfl hda) (add_nat 1 a)) rfl
  have htest : mB (m2 eqD (mCall drawF [] (mCons (dVar 0) (mCons (M.ret (.int 3)) mNil))) (M.ret (.int 0))) [.pl .pen, .pl (nI m), .pl (nI (1 + a)), .pl .non, .un, .un, .un] (some P1) = .ok (decide (b = 0), [.pl .pen, .pl (nI m), .pl (nI (1 + a)), .pl .non, .un, .un, .un], some P2) :=
    pB (pM2 (pCall rfl hdb) rfl (eq_nat b 0))
  by_cases hb0 : b = 0
  · rw [decide_eq_true hb0] at htest
    obtain ⟨z, P3, hk, hg, hzm, hO3⟩ := v_known hO2 (by omega) (m := m) (by omega) (by omega)
    have hzn : z.1 ≤ 24 := by omega
    obtain ⟨l, P4, hl, ho, hO4⟩ := v_order hO3 (by omega) (n := z.1) (by omega)
    obtain ⟨f, hf⟩ := pos_ex hl
    obtain ⟨g, hgk⟩ := hg.rk
    have hat : ∀ i, i < z.1 → l[i]? = some (l.getD i 0) ∧ l.getD i 0 < z.1 ∧ f (l.getD i 0) = i := fun i hi => by
      obtain ⟨x, hx, hxn⟩ := ord_at hl hi
      have e : l.getD i 0 = x := by rw [List.getD_eq_getElem?_getD, hx]; rfl
      rw [e]
      exact ⟨hx, hxn, hf i x hx⟩
    refine ⟨z.1, z.2.map (nmd l), P4, ?_, ⟨hg.pos, fun q hq => ?_, ⟨fun x => g (f x), fun q hq => ?_⟩, by rw [List.length_map]; exact hg.len⟩, hzm, hO4.mono (by omega)⟩
    · have hcomp := run_comp (src := mRow (dVar 3)) (vs := [5, 6]) (b := bTup 2 (bCons (bNm 5) (bCons (bNm 6) bNil))) (t := mYes) (e := mTup (mCons (m2 ixD (dVar 4) (dVar 5)) (mCons (m2 ixD (dVar 4) (dVar 6)) mNil))) prD (fun _ => true) (fun q => prD (nmd l q)) z.2 (env := [.pl .pen, .pl (nI m), .pl (nI z.1), .pl (.lst (z.2.map prD)), .pl (.lst (l.map nI)), .un, .un]) (p := some P4) (run_row rfl rfl) (fun q hq => by
        obtain ⟨q1, q2⟩ := hg.inn q hq
        exact ⟨_, rfl, _, rfl, fun _ => ⟨_, run_tup (run_cons (pM2 rfl rfl (ix_nat rfl (by rw [List.getElem?_map, (hat _ q1).1]; rfl))) (run_cons (pM2 rfl rfl (ix_nat rfl (by rw [List.getElem?_map, (hat _ q2).1]; rfl))) rfl)) (by show 2 ≤ sizeLine; decide)⟩⟩) (Nat.le_trans hg.len (by decide))
      rw [filter_true] at hcomp
      refine run_fn rfl (run_seq hpar (run_seqR (pIfT htest (run_seq (run_asg (pCall rfl hk) rfl) (run_seq (pSet (pCall (pCons rfl (pOne (run_m1 rfl (rgL_nat (by omega))))) ho)) (pRet (run_tup (xs := [nI z.1, .lst ((z.2.map (nmd l)).map prD)]) (run_cons rfl (run_cons ?_ rfl)) (by show 2 ≤ sizeLine; decide))))))))
      rw [List.map_map]
      exact hcomp
    · obtain ⟨w, hw, rfl⟩ := List.mem_map.mp hq
      obtain ⟨q1, q2⟩ := hg.inn w hw
      exact ⟨(hat _ q1).2.1, (hat _ q2).2.1⟩
    · obtain ⟨w, hw, rfl⟩ := List.mem_map.mp hq
      obtain ⟨q1, q2⟩ := hg.inn w hw
      show g (f (l.getD w.1 0)) < g (f (l.getD w.2 0))
      rw [(hat _ q1).2.2, (hat _ q2).2.2]
      exact hgk w hw
  · rw [decide_eq_false hb0] at htest
    obtain ⟨ps, P3, h1, h2, h3⟩ := v_some_pairs hO2 (by omega) (n := 1 + a) (m := 2 * (1 + a)) (by omega) (by omega) (by omega)
    refine ⟨1 + a, ps, P3, run_fn rfl (run_seq hpar (run_seq (pIfF htest rfl) (pRet (run_tup (xs := [nI (1 + a), .lst (ps.map prD)]) (run_cons rfl (run_cons (pCall (pCons rfl (pCons rfl (pOne (pM2 rfl rfl (mul_nat (a := 2) (by decide)))))) h1) rfl)) (by show 2 ≤ sizeLine; decide))))), h2, by omega, h3.mono (by omega)⟩
end CS
namespace CS
open PySem L2
/-! ## running mirrors by simp -/
/-- an equation that is not to be looked through -/
theorem nr {α : Type} {a b : α} (h : a = b) : a = b := h
section
variable {α β γ : Type} {env e1 e2 e3 : Env'} {p p1 p2 p3 : Pn}
@[simp] theorem xb_ok {a : α} {f : α → Res β} : (Res.ok a).bind f = f a := nr rfl
@[simp] theorem xb_bad {f : α → Res β} : (Res.bad : Res α).bind f = .bad := nr rfl
@[simp] theorem xb_ite {c : Prop} [Decidable c] {x y : Res α} {f : α → Res β} : (if c then x else y).bind f = if c then x.bind f else y.bind f := by split <;> rfl
@[simp] theorem x_iteOk {c : Prop} [Decidable c] {x y : α} : (if c then Res.ok x else Res.ok y) = Res.ok (if c then x else y) := by split <;> rfl
@[simp] theorem x_itePr {c : Prop} [Decidable c] {x y : α} {z : β} : (if c then (x, z) else (y, z)) = (if c then x else y, z) := by split <;> rfl
@[simp] theorem x_iteBl {c : Prop} [Decidable c] {x y : Bool} : (if c then D.bl x else D.bl y) = D.bl (if c then x else y) := by split <;> rfl
@[simp] theorem x_ret {a : α} : (M.ret a : M α) env p = .ok (a, env, p) := nr rfl
@[simp] theorem x_bind {m : M α} {k : α → M β} : (m >>= k) env p = (m env p).bind fun r => k r.1 r.2.1 r.2.2 := nr rfl
@[simp] theorem x_res {r : Res α} : (M.res r) env p = r.bind fun a => .ok (a, env, p) := nr rfl
@[simp] theorem gp0 {d : D} {e : Env'} : getPl (.pl d :: e) 0 = .ok d := nr rfl
@[simp] theorem gpS {s : Slot} {e : Env'} {i : Nat} : getPl (s :: e) (i + 1) = getPl e i := by simp [getPl]
@[simp] theorem x_var {i : Nat} : dVar i env p = (getPl env i).bind fun d => .ok (d, env, p) := nr rfl
@[simp] theorem x_m2 {f : D → D → Res D} {m n : M D} : m2 f m n env p = (m env p).bind fun x => (n x.2.1 x.2.2).bind fun y => (f x.1 y.1).bind fun z => .ok (z, y.2.1, y.2.2) := nr rfl
@[simp] theorem x_m1 {f : D → Res D} {m : M D} : m1 f m env p = (m env p).bind fun x => (f x.1).bind fun z => .ok (z, x.2.1, x.2.2) := nr rfl
@[simp] theorem x_cons {m : M D} {ms : M (List D)} : mCons m ms env p = (m env p).bind fun x => (ms x.2.1 x.2.2).bind fun y => .ok (x.1 :: y.1, y.2.1, y.2.2) := nr rfl
@[simp] theorem x_nil : mNil env p = .ok ([], env, p) := nr rfl
@[simp] theorem x_CB {f : List D → Res D} {ms : M (List D)} : mCB f ms env p = (ms env p).bind fun x => (f x.1).bind fun z => .ok (z, x.2.1, x.2.2) := nr rfl
@[simp] theorem x_call {mf : FD} {ms : M (List D)} : mCall mf [] ms env p = (ms env p).bind fun x => (mf x.1 x.2.2).bind fun z => .ok (z.1, x.2.1, z.2) := by
  show (ms env p).bind (fun x => (M.fn (mf (x.1 ++ []))) x.2.1 x.2.2) = _
  simp only [List.append_nil]; rfl
@[simp] theorem x_B {m : M D} : mB m env p = (m env p).bind fun x => (asB x.1).bind fun c => .ok (c, x.2.1, x.2.2) := nr rfl
@[simp] theorem asB_bl {b : Bool} : asB (.bl b) = .ok b := nr rfl
@[simp] theorem x_not {m : M Bool} : mNot m env p = (m env p).bind fun x => .ok (!x.1, x.2.1, x.2.2) := nr rfl
@[simp] theorem x_notV {m : M D} : mNotV m env p = (m env p).bind fun x => (asB x.1).bind fun c => .ok (.bl (!c), x.2.1, x.2.2) := by
  show (m env p).bind (fun x => ((asB x.1).bind fun c => .ok (c, x.2.1, x.2.2)).bind fun z => Res.ok (D.bl (!z.1), z.2.1, z.2.2)) = _
  congr 1; funext x
  cases asB x.1 <;> rfl
@[simp] theorem x_and {a b : M Bool} : mAnd a b env p = (a env p).bind fun x => if x.1 = true then b x.2.1 x.2.2 else .ok (false, x.2.1, x.2.2) := by
  show (a env p).bind (fun x => (if x.1 = true then b else M.ret false) x.2.1 x.2.2) = _
  congr 1; funext x; split <;> rfl
@[simp] theorem x_or {a b : M Bool} : mOr a b env p = (a env p).bind fun x => if x.1 = true then .ok (true, x.2.1, x.2.2) else b x.2.1 x.2.2 := by
  show (a env p).bind (fun x => (if x.1 = true then M.ret true else b) x.2.1 x.2.2) = _
  congr 1; funext x; split <;> rfl
@[simp] theorem x_andV {a b : M D} : mAndV a b env p = (a env p).bind fun x => (asB x.1).bind fun c => if c = true then b x.2.1 x.2.2 else .ok (.bl false, x.2.1, x.2.2) := by
  show (a env p).bind (fun x => ((asB x.1).bind fun c => .ok (c, x.2.1, x.2.2)).bind fun z => (if z.1 = true then b else M.ret (.bl false)) z.2.1 z.2.2) = _
  congr 1; funext x
  cases asB x.1 with
  | ok c => simp only [xb_ok]; split <;> rfl
  | exc _ _ => rfl
  | bad => rfl
@[simp] theorem x_orV {a b : M D} : mOrV a b env p = (a env p).bind fun x => (asB x.1).bind fun c => if c = true then .ok (.bl true, x.2.1, x.2.2) else b x.2.1 x.2.2 := by
  show (a env p).bind (fun x => ((asB x.1).bind fun c => .ok (c, x.2.1, x.2.2)).bind fun z => (if z.1 = true then M.ret (.bl true) else b) z.2.1 z.2.2) = _
  congr 1; funext x
  cases asB x.1 with
  | ok c => simp only [xb_ok]; split <;> rfl
  | exc _ _ => rfl
  | bad => rfl
@[simp] theorem x_if {t : M Bool} {a b : M D} : mIf t a b env p = (t env p).bind fun x => if x.1 = true then a x.2.1 x.2.2 else b x.2.1 x.2.2 := by
  show (t env p).bind (fun x => (if x.1 = true then a else b) x.2.1 x.2.2) = _
  congr 1; funext x; split <;> rfl
@[simp] theorem x_chain {f g : D → D → Res D} {m n l : M D} : mChain f g m n l env p = (m env p).bind fun x => (n x.2.1 x.2.2).bind fun y => (f x.1 y.1).bind fun z => (asB z).bind fun k => if k = true then (l y.2.1 y.2.2).bind fun w => (g y.1 w.1).bind fun u => .ok (u, w.2.1, w.2.2) else .ok (.bl false, y.2.1, y.2.2) := by
  unfold mChain
  simp only [x_bind]
  congr 1; funext x
  congr 1; funext y
  simp only [x_res]
  cases f x.1 y.1 with
  | ok c =>
    simp only [xb_ok]
    cases asB c with
    | ok k => simp only [xb_ok]; split <;> rfl
    | exc _ _ => rfl
    | bad => rfl
  | exc _ _ => rfl
  | bad => rfl
/-- a row that is no longer than rows can be -/
def Sz {α : Type} (l : List α) : Prop := l.length ≤ sizeLine
def capL {α β : Type} (l : List α) (x : Res β) : Res β := if l.length ≤ sizeLine then x else .bad
theorem capL_sz {l : List α} {x : Res β} (h : Sz l) : capL l x = x := if_pos h
theorem Sz.of {l : List α} (h : l.length ≤ 100000) : Sz l := Nat.le_trans h (by decide)
@[simp] theorem x_tup {ms : M (List D)} : mTup ms env p = (ms env p).bind fun x => capL x.1 (.ok (.tup x.1, x.2.1, x.2.2)) := by
  show (ms env p).bind (fun x => (mkT x.1).bind fun a => .ok (a, x.2.1, x.2.2)) = _
  congr 1; funext x; unfold mkT capL; split <;> rfl
@[simp] theorem x_lst {ms : M (List D)} : mLst ms env p = (ms env p).bind fun x => capL x.1 (.ok (.lst x.1, x.2.1, x.2.2)) := by
  show (ms env p).bind (fun x => (mkL x.1).bind fun a => .ok (a, x.2.1, x.2.2)) = _
  congr 1; funext x; unfold mkL capL; split <;> rfl
@[simp] theorem cap0 {x : Res β} : capL ([] : List α) x = x := if_pos (Nat.zero_le _)
@[simp] theorem cap1 {a : α} {x : Res β} : capL [a] x = x := if_pos (by show 1 ≤ sizeLine; decide)
@[simp] theorem cap2 {a b : α} {x : Res β} : capL [a, b] x = x := if_pos (by show 2 ≤ sizeLine; decide)
@[simp] theorem cap3 {a b c : α} {x : Res β} : capL [a, b, c] x = x := if_pos (by show 3 ≤ sizeLine; decide)
@[simp] theorem cap4 {a b c d : α} {x : Res β} : capL [a, b, c, d] x = x := if_pos (by show 4 ≤ sizeLine; decide)
@[simp] theorem cap5 {a b c d e : α} {x : Res β} : capL [a, b, c, d, e] x = x := if_pos (by show 5 ≤ sizeLine; decide)
/-! statements -/
def Res.out (r : Res (α × Env' × Pn)) (k : α → Env' → Pn → Out) : Out := match r with
  | .ok (a, e, p) => k a e p
  | .exc c xs => .exc c xs
  | .bad => .bad
@[simp] theorem xo_ok {a : α} {k : α → Env' → Pn → Out} : Res.out (.ok (a, env, p)) k = k a env p := nr rfl
@[simp] theorem xo_bad {k : α → Env' → Pn → Out} : Res.out .bad k = .bad := nr rfl
@[simp] theorem xo_ite {c : Prop} [Decidable c] {x y : Res (α × Env' × Pn)} {k : α → Env' → Pn → Out} : (if c then x else y).out k = if c then x.out k else y.out k := by split <;> rfl
@[simp] theorem xt_nx {k : SS} : (Out.nx env p).then k = k env p := nr rfl
@[simp] theorem xt_rt {k : SS} {d : D} : (Out.rt d p).then k = .rt d p := nr rfl
@[simp] theorem xt_bk {k : SS} : (Out.bk env p).then k = .bk env p := nr rfl
@[simp] theorem xt_ct {k : SS} : (Out.ct env p).then k = .ct env p := nr rfl
@[simp] theorem xt_bad {k : SS} : (Out.bad).then k = .bad := nr rfl
@[simp] theorem xt_ite {c : Prop} [Decidable c] {x y : Out} {k : SS} : (if c then x else y).then k = if c then x.then k else y.then k := by split <;> rfl
@[simp] theorem x_seq {a b : SS} : dSeq a b env p = (a env p).then b := nr rfl
@[simp] theorem x_of {m : M α} {k : α → SS} : dOf m k env p = (m env p).out fun a e p => k a e p := by
  unfold dOf Res.out
  cases m env p with
  | ok a => rfl
  | exc _ _ => rfl
  | bad => rfl
@[simp] theorem x_next : dNext env p = .nx env p := nr rfl
@[simp] theorem x_expr {m : M D} : dExpr m env p = (m env p).out fun _ e p => .nx e p := x_of
@[simp] theorem x_set {i : Nat} {m : M D} : dSet i m env p = (m env p).out fun d e p => .nx (e.set i (.pl d)) p := x_of
@[simp] theorem x_setO {i : Nat} {m : M D} : dSetO i m env p = (m env p).out fun d e p => .nx (e.set i (.ow d)) p := x_of
@[simp] theorem x_dret {m : M D} : dRet m env p = (m env p).out fun d _ p => .rt d p := x_of
@[simp] theorem x_dretN : dRetN env p = .rt .non p := nr rfl
@[simp] theorem x_dif {t : M Bool} {a b : SS} : dIf t a b env p = (t env p).out fun c e p => if c = true then a e p else b e p := by
  unfold dIf; rw [x_of]; congr 1; funext c e p; split <;> rfl
@[simp] theorem x_brk : dBrk env p = .bk env p := nr rfl
@[simp] theorem x_ct : dCt env p = .ct env p := nr rfl
@[simp] theorem x_dbad : dBad env p = .bad := nr rfl
/-- the end of a def -/
def Out.fin : Out → Res (D × Pn)
  | .nx _ p => .ok (.non, p)
  | .rt d p => .ok (d, p)
  | .exc c xs => .exc c xs
  | _ => .bad
@[simp] theorem xf_nx : (Out.nx env p).fin = .ok (.non, p) := nr rfl
@[simp] theorem xf_rt {d : D} : (Out.rt d p).fin = .ok (d, p) := nr rfl
@[simp] theorem xf_ite {c : Prop} [Decidable c] {x y : Out} : (if c then x else y).fin = if c then x.fin else y.fin := by split <;> rfl
@[simp] theorem x_fn {n N : Nat} {body : SS} {ds : List D} : fnD n N body ds p = if ds.length = n then (body (ds.map Slot.pl ++ List.replicate (N - n) Slot.un) p).fin else .bad := by
  unfold fnD
  split
  · unfold Out.fin
    cases body (ds.map Slot.pl ++ List.replicate (N - n) Slot.un) p <;> rfl
  · rfl
/-! sources, targets -/
@[simp] theorem x_row {m : M D} : mRow m env p = (m env p).bind fun x => x.1.row.bind fun l => .ok (l, x.2.1, x.2.2) := nr rfl
@[simp] theorem row_l {l : List D} : (D.lst l).row = .ok l := nr rfl
@[simp] theorem row_t {l : List D} : (D.tup l).row = .ok l := nr rfl
def rg1 (d : D) : Res (List D) := (asI d).bind fun n => if n < 2 ^ 62 ∧ -(2 ^ 62) ≤ n then .ok ((List.range n.toNat).map fun (i : Nat) => D.int i) else .bad
@[simp] theorem x_range {m : M D} : mRange1 m env p = (m env p).bind fun x => (rg1 x.1).bind fun l => .ok (l, x.2.1, x.2.2) := nr rfl
theorem rg1_nat {n : Nat} (h : n ≤ 16777216) : rg1 (nI n) = .ok ((List.range n).map nI) := rg_gen (le62 h) ge62
@[simp] theorem x_enum {m : M D} : mEnum m env p = (m env p).bind fun x => (x.1.row.bind fun l => .ok (enumL 0 l)).bind fun l => .ok (l, x.2.1, x.2.2) := nr rfl
@[simp] theorem x_zip {m n : M D} : mZip m n env p = (m env p).bind fun x => (n x.2.1 x.2.2).bind fun y => (zipR x.1 y.1).bind fun l => .ok (l, y.2.1, y.2.2) := nr rfl
@[simp] theorem x_nm {i : Nat} {d : D} : bNm i d env = .ok (env.set i (.pl d)) := nr rfl
@[simp] theorem rd_pl {d : D} : Slot.rd (.pl d) = .pl d := nr rfl
@[simp] theorem rd_un : Slot.rd .un = .un := nr rfl
@[simp] theorem rd_ow {d : D} : Slot.rd (.ow d) = .ro d := nr rfl
@[simp] theorem rd_ro {d : D} : Slot.rd (.ro d) = .ro d := nr rfl
@[simp] theorem fz_pl {d : D} : Slot.fz (.pl d) = .pl d := nr rfl
@[simp] theorem fz_un : Slot.fz .un = .un := nr rfl
@[simp] theorem fz_ow {d : D} : Slot.fz (.ow d) = .pl d := nr rfl
@[simp] theorem fz_ro {d : D} : Slot.fz (.ro d) = .pl d := nr rfl
@[simp] theorem wipe0 : wipeE env [] = env := nr rfl
@[simp] theorem wipe1 {v : Nat} {vs : List Nat} : wipeE env (v :: vs) = (wipeE env vs).set v .un := nr rfl
@[simp] theorem x_borT {m : M Bool} : mBorT m env p = (m (env.map Slot.fz) p).bind fun r => .ok (r.1, env, r.2.2) := nr rfl
@[simp] theorem x_bor {m : M D} : mBor m env p = (m (env.map Slot.fz) p).bind fun r => if r.1.flat = true then .ok (r.1, env, r.2.2) else .bad := nr rfl
@[simp] theorem flat_bl {b : Bool} : (D.bl b).flat = true := nr rfl
@[simp] theorem flat_nI {b : Nat} : (nI b).flat = true := nr rfl
/-! ### comprehensions -/
def stepC (b : Bd) (t : M Bool) (e : M D) (env : Env') (d : D) (p : Pn) : Res (Option D × Pn) := (b d env).bind fun e1 => (t e1 p).bind fun c => if c.1 = true then (e c.2.1 c.2.2).bind fun y => .ok (some y.1, y.2.2) else .ok (none, c.2.2)
def seqP (f : α → Pn → Res (Option D × Pn)) : List α → Pn → Res (List D × Pn)
  | [], p => .ok ([], p)
  | a :: l, p => (f a p).bind fun r => (seqP f l r.2).bind fun z => .ok (r.1.toList ++ z.1, z.2)
@[simp] theorem seqP_nil {f : α → Pn → Res (Option D × Pn)} : seqP f [] p = .ok ([], p) := nr rfl
@[simp] theorem seqP_cons {f : α → Pn → Res (Option D × Pn)} {a : α} {l : List α} : seqP f (a :: l) p = (f a p).bind fun r => (seqP f l r.2).bind fun z => .ok (r.1.toList ++ z.1, z.2) := nr rfl
@[simp] theorem sz0 : Sz ([] : List α) := Nat.zero_le _
@[simp] theorem sz1 {a : α} : Sz [a] := by show 1 ≤ sizeLine; decide
@[simp] theorem sz2 {a b : α} : Sz [a, b] := by show 2 ≤ sizeLine; decide
@[simp] theorem sz3 {a b c : α} : Sz [a, b, c] := by show 3 ≤ sizeLine; decide
@[simp] theorem sz4 {a b c d : α} : Sz [a, b, c, d] := by show 4 ≤ sizeLine; decide
@[simp] theorem sz5 {a b c d e : α} : Sz [a, b, c, d, e] := by show 5 ≤ sizeLine; decide
theorem compL_seq {b : Bd} {t : M Bool} {e : M D} {h : α → D} : ∀ {l : List α} {p : Pn}, compL b t e env (l.map h) p = seqP (fun a p => stepC b t e env (h a) p) l p
  | [], p => rfl
  | a :: l, p => by
    simp only [List.map_cons, compL, seqP, stepC]
    cases b (h a) env with
    | bad => rfl
    | exc _ _ => rfl
    | ok e1 =>
      simp only [xb_ok]
      cases t e1 p with
      | bad => rfl
      | exc _ _ => rfl
      | ok c =>
        simp only [xb_ok]
        split
        · cases e c.2.1 c.2.2 with
          | bad => rfl
          | exc _ _ => rfl
          | ok y =>
            simp only [xb_ok]
            rw [compL_seq]
            rfl
        · simp only [xb_ok]
          rw [compL_seq]
          show seqP (fun a p => stepC b t e env (h a) p) l c.2.2 = Res.bind (seqP (fun a p => stepC b t e env (h a) p) l c.2.2) _
          generalize seqP (fun a p => stepC b t e env (h a) p) l c.2.2 = z
          cases z <;> rfl
theorem compL_seq' {b : Bd} {t : M Bool} {e : M D} {l : List D} {p : Pn} : compL b t e env l p = seqP (fun a p => stepC b t e env a p) l p := by
  have := compL_seq (env := env) (b := b) (t := t) (e := e) (h := id) (l := l) (p := p)
  simpa using this
theorem seqP_map {δ : Type} {f : δ → Pn → Res (Option D × Pn)} {h : α → δ} : ∀ {l : List α} {p : Pn}, seqP f (l.map h) p = seqP (fun a p => f (h a) p) l p
  | [], _ => rfl
  | a :: l, p => by
    simp only [List.map_cons, seqP]
    congr 1; funext r
    rw [seqP_map]
@[simp] theorem seqP_pure {g : α → Option D} : ∀ {l : List α} {p : Pn}, seqP (fun a p => .ok (g a, p)) l p = .ok (l.filterMap g, p)
  | [], _ => rfl
  | a :: l, p => by
    simp only [seqP, xb_ok, seqP_pure (l := l)]
    cases h : g a with
    | none => simp [h]
    | some d => simp [h]
theorem seqP_congr {f g : α → Pn → Res (Option D × Pn)} {l l' : List α} {p p' : Pn} (h : l = l') (h2 : ∀ a, a ∈ l' → ∀ p, f a p = g a p) (hp : p = p') : seqP f l p = seqP g l' p' := by
  subst h hp
  induction l generalizing p with
  | nil => rfl
  | cons a l ih =>
    simp only [seqP]
    rw [h2 a (List.mem_cons_self ..)]
    congr 1; funext r
    rw [ih fun x hx => h2 x (List.mem_cons_of_mem _ hx)]
@[simp] theorem x_comp {src : M (List D)} {vs : List Nat} {b : Bd} {t : M Bool} {e : M D} : mComp src vs b t e env p = (src env p).bind fun r => (seqP (fun a p => stepC b t e (wipeE (r.2.1.map Slot.rd) vs) a p) r.1 r.2.2).bind fun z => capL z.1 (.ok (.lst z.1, r.2.1, z.2)) := by
  show (src env p).bind _ = _
  congr 1; funext r
  rw [← compL_seq']
  rfl
@[simp] theorem seq_map {δ : Type} {f : δ → Pn → Res (Option D × Pn)} {h : α → δ} {l : List α} {p : Pn} : seqP f (l.map h) p = seqP (fun a p => f (h a) p) l p := seqP_map
@[simp] theorem x_stepC {b : Bd} {t : M Bool} {e : M D} {d : D} : stepC b t e env d p = (b d env).bind fun e1 => (t e1 p).bind fun c => if c.1 = true then (e c.2.1 c.2.2).bind fun y => .ok (some y.1, y.2.2) else .ok (none, c.2.2) := nr rfl
@[simp] theorem fm_if {c : α → Prop} [∀ a, Decidable (c a)] {g : α → D} {l : List α} : (l.filterMap fun a => if c a then some (g a) else none) = (l.filter fun a => decide (c a)).map g := by
  induction l with
  | nil => rfl
  | cons a l ih =>
    by_cases h : c a
    · simp [h, ih]
    · simp [h, ih]
@[simp] theorem fm_some {g : α → D} {l : List α} : (l.filterMap fun a => some (g a)) = l.map g := by
  induction l with
  | nil => rfl
  | cons a l ih => simp [ih]
@[simp] theorem cap_map {g : α → γ} {l : List α} {x : Res β} : capL (l.map g) x = capL l x := by unfold capL; rw [List.length_map]
theorem cap_filter {c : α → Bool} {l : List α} {x : Res β} (h : Sz l) : capL (l.filter c) x = x := if_pos (Nat.le_trans (List.length_filter_le _ _) h)
/-! ### what is to hold so that all goes well -/
open Classical in
noncomputable def grd (c : Prop) (x : Res α) : Res α := if c then x else .bad
open Classical in
noncomputable def grdO (c : Prop) (x : Out) : Out := if c then x else .bad
theorem grd_pos {c : Prop} {x : Res α} (h : c) : grd c x = x := if_pos h
@[simp] theorem grd_true {x : Res α} : grd True x = x := if_pos trivial
@[simp] theorem grdO_true {x : Out} : grdO True x = x := if_pos trivial
@[simp] theorem grd_bind {c : Prop} {x : Res α} {f : α → Res β} : (grd c x).bind f = grd c (x.bind f) := by unfold grd; split <;> rfl
@[simp] theorem grd_grd {c d : Prop} {x : Res α} : grd c (grd d x) = grd (c ∧ d) x := by
  unfold grd
  by_cases h : c <;> by_cases h2 : d <;> simp [h, h2]
@[simp] theorem grdO_grdO {c d : Prop} {x : Out} : grdO c (grdO d x) = grdO (c ∧ d) x := by
  unfold grdO
  by_cases h : c <;> by_cases h2 : d <;> simp [h, h2]
@[simp] theorem ite_grd2 {b c d : Prop} [Decidable b] {x y : Res α} : (if b then grd c x else grd d y) = grd ((b → c) ∧ (¬ b → d)) (if b then x else y) := by
  by_cases h : b
  · rw [if_pos h, if_pos h, show ((b → c) ∧ (¬ b → d)) = c from propext ⟨fun q => q.1 h, fun q => ⟨fun _ => q, fun z => absurd h z⟩⟩]
  · rw [if_neg h, if_neg h, show ((b → c) ∧ (¬ b → d)) = d from propext ⟨fun q => q.2 h, fun q => ⟨fun z => absurd z h, fun _ => q⟩⟩]
@[simp] theorem ite_grd1 {b c : Prop} [Decidable b] {x : Res α} {y : α} : (if b then grd c x else .ok y) = grd (b → c) (if b then x else .ok y) := by
  by_cases h : b
  · rw [if_pos h, if_pos h, show (b → c) = c from propext ⟨fun q => q h, fun q _ => q⟩]
  · rw [if_neg h, if_neg h, grd_pos fun z => absurd z h]
@[simp] theorem ite_grdR {b c : Prop} [Decidable b] {x : Res α} {y : α} : (if b then .ok y else grd c x) = grd (¬ b → c) (if b then .ok y else x) := by
  by_cases h : b
  · rw [if_pos h, if_pos h, grd_pos fun z => absurd h z]
  · rw [if_neg h, if_neg h, show (¬ b → c) = c from propext ⟨fun q => q h, fun q _ => q⟩]
theorem grdO_pos {c : Prop} {x : Out} (h : c) : grdO c x = x := if_pos h
@[simp] theorem ite_grdO2 {b c d : Prop} [Decidable b] {x y : Out} : (if b then grdO c x else grdO d y) = grdO ((b → c) ∧ (¬ b → d)) (if b then x else y) := by
  by_cases h : b
  · rw [if_pos h, if_pos h, show ((b → c) ∧ (¬ b → d)) = c from propext ⟨fun q => q.1 h, fun q => ⟨fun _ => q, fun z => absurd h z⟩⟩]
  · rw [if_neg h, if_neg h, show ((b → c) ∧ (¬ b → d)) = d from propext ⟨fun q => q.2 h, fun q => ⟨fun z => absurd z h, fun _ => q⟩⟩]
@[simp] theorem grd_out {c : Prop} {x : Res (α × Env' × Pn)} {k : α → Env' → Pn → Out} : (grd c x).out k = grdO c (x.out k) := by unfold grd grdO; split <;> rfl
@[simp] theorem grdO_then {c : Prop} {x : Out} {k : SS} : (grdO c x).then k = grdO c (x.then k) := by unfold grdO; split <;> rfl
@[simp] theorem grdO_fin {c : Prop} {x : Out} : (grdO c x).fin = grd c x.fin := by unfold grdO grd; split <;> rfl
@[simp low] theorem capL_grd {l : List α} {x : Res β} : capL l x = grd (Sz l) x := by
  unfold capL grd Sz
  by_cases h : l.length ≤ sizeLine <;> simp [h]
@[simp] theorem Sz_map {g : α → γ} {l : List α} : Sz (l.map g) ↔ Sz l := by unfold Sz; rw [List.length_map]
theorem Sz.filter {c : α → Bool} {l : List α} (h : Sz l) : Sz (l.filter c) := Nat.le_trans (List.length_filter_le _ _) h
theorem Sz.filterMap {g : α → Option γ} {l : List α} (h : Sz l) : Sz (l.filterMap g) := Nat.le_trans (List.length_filterMap_le _ _) h
@[simp] theorem Sz_filter {c : α → Bool} {l : List α} (h : Sz l) : Sz (l.filter c) ↔ True := ⟨fun _ => trivial, fun _ => h.filter⟩
@[simp] theorem Sz_range {n : Nat} (h : n ≤ 100000) : Sz (List.range n) ↔ True := ⟨fun _ => trivial, fun _ => .of (by rw [List.length_range]; exact h)⟩
theorem seqP_grd {c : α → Prop} {g : α → Option D} : ∀ {l : List α} {p : Pn}, seqP (fun a p => grd (c a) (.ok (g a, p))) l p = grd (∀ a, a ∈ l → c a) (.ok (l.filterMap g, p))
  | [], _ => by simp [seqP]
  | a :: l, p => by
    simp only [seqP, grd_bind, xb_ok, seqP_grd (l := l), grd_grd]
    have e : (g a).toList ++ l.filterMap g = (a :: l).filterMap g := by
      cases h : g a <;> simp [h]
    rw [e]
    congr 1
    simp
@[simp] theorem seqP_grd' {c : α → Prop} {g : α → Option D} {l : List α} {p : Pn} : seqP (fun a p => grd (c a) (.ok (g a, p))) l p = grd (∀ a, a ∈ l → c a) (.ok (l.filterMap g, p)) := seqP_grd
@[simp] theorem bl_inj {a b : Bool} : D.bl a = D.bl b ↔ a = b := ⟨fun h => by injection h, fun h => by rw [h]⟩
@[simp] theorem ii0 : D.int 0 = nI 0 := nr rfl
@[simp] theorem ii1 : D.int 1 = nI 1 := nr rfl
@[simp] theorem ii2 : D.int 2 = nI 2 := nr rfl
@[simp] theorem ii_lit {k : Nat} : D.int (no_index (OfNat.ofNat k)) = nI (OfNat.ofNat k) := nr rfl
@[simp] theorem len_l {l : List D} : lenD [.lst l] = .ok (nI l.length) := nr rfl
@[simp] theorem len_t {l : List D} : lenD [.tup l] = .ok (nI l.length) := nr rfl
@[simp] theorem e_nat {a b : Nat} : eqD (nI a) (nI b) = .ok (.bl (decide (a = b))) := eq_nat a b
@[simp] theorem n_nat {a b : Nat} : neD (nI a) (nI b) = .ok (.bl (decide (a ≠ b))) := ne_nat a b
@[simp] theorem g_nat {a b : Nat} : gtD (nI a) (nI b) = .ok (.bl (decide (b < a))) := lt_nat b a
@[simp] theorem l_nat {a b : Nat} : ltD (nI a) (nI b) = .ok (.bl (decide (a < b))) := lt_nat a b
open Classical in
@[simp] theorem in_l {a : Nat} {l : List Nat} : inD (nI a) (.lst (l.map nI)) = .ok (.bl (decide (a ∈ l))) := by
  rw [inD_pl (ds := l.map nI) rfl (pl_nI 9 a) (pl_nums l 9)]
  congr 2
  exact decide_eq_decide.mpr mem_nI
open Classical in
@[simp] theorem in_t {a : Nat} {l : List Nat} : inD (nI a) (.tup (l.map nI)) = .ok (.bl (decide (a ∈ l))) := by
  rw [inD_pl (ds := l.map nI) rfl (pl_nI 9 a) (pl_nums l 9)]
  congr 2
  exact decide_eq_decide.mpr mem_nI
@[simp low] theorem ix_l {i : Nat} {l : List D} : ixD (.lst l) (nI i) = grd (i < l.length) (.ok (l.getD i .non)) := by
  by_cases h : i < l.length
  · rw [grd_pos h]
    exact ix_nat rfl (by rw [List.getD_eq_getElem?_getD, List.getElem?_eq_getElem h]; rfl)
  · unfold grd
    rw [if_neg h]
    show (match atI l (i : Int) with
      | some d => Res.ok d
      | none => .bad) = _
    have : atI l (i : Int) = none := by
      unfold atI ixN
      rw [if_pos (by omega), if_neg (by omega)]; rfl
    rw [this]
@[simp low] theorem ix_t {i : Nat} {l : List D} : ixD (.tup l) (nI i) = grd (i < l.length) (.ok (l.getD i .non)) := ix_l
theorem getD_map {h : α → D} {l : List α} {i : Nat} {d : α} (hi : i < l.length) : (l.map h).getD i .non = h (l.getD i d) := by
  rw [List.getD_eq_getElem?_getD, List.getD_eq_getElem?_getD, List.getElem?_map, List.getElem?_eq_getElem hi]; rfl
end
end CS
namespace CS
open PySem L2
section
variable {cl : List Str}
@[simp] theorem ia_non_int  : isA cl .non (.ty "int") = .ok false := nr rfl
@[simp] theorem ia_non_bool  : isA cl .non (.ty "bool") = .ok false := nr rfl
@[simp] theorem ia_non_str  : isA cl .non (.ty "str") = .ok false := nr rfl
@[simp] theorem ia_non_tuple  : isA cl .non (.ty "tuple") = .ok false := nr rfl
@[simp] theorem ia_non_list  : isA cl .non (.ty "list") = .ok false := nr rfl
@[simp] theorem ia_bl_int {b : Bool} : isA cl (.bl b) (.ty "int") = .ok true := nr rfl
@[simp] theorem ia_bl_bool {b : Bool} : isA cl (.bl b) (.ty "bool") = .ok true := nr rfl
@[simp] theorem ia_bl_str {b : Bool} : isA cl (.bl b) (.ty "str") = .ok false := nr rfl
@[simp] theorem ia_bl_tuple {b : Bool} : isA cl (.bl b) (.ty "tuple") = .ok false := nr rfl
@[simp] theorem ia_bl_list {b : Bool} : isA cl (.bl b) (.ty "list") = .ok false := nr rfl
@[simp] theorem ia_int_int {i : Int} : isA cl (.int i) (.ty "int") = .ok true := nr rfl
@[simp] theorem ia_int_bool {i : Int} : isA cl (.int i) (.ty "bool") = .ok false := nr rfl
@[simp] theorem ia_int_str {i : Int} : isA cl (.int i) (.ty "str") = .ok false := nr rfl
@[simp] theorem ia_int_tuple {i : Int} : isA cl (.int i) (.ty "tuple") = .ok false := nr rfl
@[simp] theorem ia_int_list {i : Int} : isA cl (.int i) (.ty "list") = .ok false := nr rfl
@[simp] theorem ia_nI_int {k : Nat} : isA cl (nI k) (.ty "int") = .ok true := nr rfl
@[simp] theorem ia_nI_bool {k : Nat} : isA cl (nI k) (.ty "bool") = .ok false := nr rfl
@[simp] theorem ia_nI_str {k : Nat} : isA cl (nI k) (.ty "str") = .ok false := nr rfl
@[simp] theorem ia_nI_tuple {k : Nat} : isA cl (nI k) (.ty "tuple") = .ok false := nr rfl
@[simp] theorem ia_nI_list {k : Nat} : isA cl (nI k) (.ty "list") = .ok false := nr rfl
@[simp] theorem ia_str_int {s : Str} : isA cl (.str s) (.ty "int") = .ok false := nr rfl
@[simp] theorem ia_str_bool {s : Str} : isA cl (.str s) (.ty "bool") = .ok false := nr rfl
@[simp] theorem ia_str_str {s : Str} : isA cl (.str s) (.ty "str") = .ok true := nr rfl
@[simp] theorem ia_str_tuple {s : Str} : isA cl (.str s) (.ty "tuple") = .ok false := nr rfl
@[simp] theorem ia_str_list {s : Str} : isA cl (.str s) (.ty "list") = .ok false := nr rfl
@[simp] theorem ia_tup_int {l : List D} : isA cl (.tup l) (.ty "int") = .ok false := nr rfl
@[simp] theorem ia_tup_bool {l : List D} : isA cl (.tup l) (.ty "bool") = .ok false := nr rfl
@[simp] theorem ia_tup_str {l : List D} : isA cl (.tup l) (.ty "str") = .ok false := nr rfl
@[simp] theorem ia_tup_tuple {l : List D} : isA cl (.tup l) (.ty "tuple") = .ok true := nr rfl
@[simp] theorem ia_tup_list {l : List D} : isA cl (.tup l) (.ty "list") = .ok false := nr rfl
@[simp] theorem ia_lst_int {l : List D} : isA cl (.lst l) (.ty "int") = .ok false := nr rfl
@[simp] theorem ia_lst_bool {l : List D} : isA cl (.lst l) (.ty "bool") = .ok false := nr rfl
@[simp] theorem ia_lst_str {l : List D} : isA cl (.lst l) (.ty "str") = .ok false := nr rfl
@[simp] theorem ia_lst_tuple {l : List D} : isA cl (.lst l) (.ty "tuple") = .ok false := nr rfl
@[simp] theorem ia_lst_list {l : List D} : isA cl (.lst l) (.ty "list") = .ok true := nr rfl
@[simp] theorem isa1_eq {x k : D} : isa1 cl [x, k] = (isA cl x k).bind fun b => .ok (.bl b) := nr rfl
@[simp] theorem isaAny0 {x : D} : isaAny cl x [] = .ok false := nr rfl
@[simp] theorem isaAnyS {x k : D} {ks : List D} : isaAny cl x (k :: ks) = (isA cl x k).bind fun b => (isaAny cl x ks).bind fun b' => .ok (b || b') := nr rfl
@[simp] theorem x_isaT {m : M D} {ks : M (List D)} {env : Env'} {p : Pn} : mIsaT cl m ks env p = (m env p).bind fun x => (ks x.2.1 x.2.2).bind fun y => (if y.1.isEmpty = false ∧ y.1.length ≤ sizeLine then (isaAny cl x.1 y.1).bind fun b => .ok (.bl b) else .bad).bind fun z => .ok (z, y.2.1, y.2.2) := nr rfl
@[simp] theorem one_sz : 1 ≤ sizeLine := by decide
@[simp] theorem two_sz : 2 ≤ sizeLine := by decide
@[simp] theorem three_sz : 3 ≤ sizeLine := by decide
end
section
variable {α β γ : Type} {env e1 : Env'} {p p1 : Pn}
/-! own lists -/
@[simp] theorem gw0 {ds : List D} {e : Env'} : getW (.ow (.lst ds) :: e) 0 = .ok ds := nr rfl
@[simp] theorem gwS {s : Slot} {e : Env'} {i : Nat} : getW (s :: e) (i + 1) = getW e i := by simp [getW]
@[simp] theorem go0 {ds : List D} {e : Env'} : getO (.ow (.lst ds) :: e) 0 = .ok ds := nr rfl
@[simp] theorem go0r {ds : List D} {e : Env'} : getO (.ro (.lst ds) :: e) 0 = .ok ds := nr rfl
@[simp] theorem goS {s : Slot} {e : Env'} {i : Nat} : getO (s :: e) (i + 1) = getO e i := by simp [getO]
@[simp] theorem x_append {i : Nat} {m : M D} : mAppend i m env p = (getO env i).bind fun _ => (m env p).bind fun d => (getW d.2.1 i).bind fun ds => grd (ds.length < sizeLine) (.ok (.non, d.2.1.set i (.ow (.lst (ds ++ [d.1]))), d.2.2)) := by
  show ((getO env i).bind fun _ => .ok ((), env, p)).bind (fun x => _) = _
  cases getO env i with
  | bad => rfl
  | exc _ _ => rfl
  | ok ds0 =>
    simp only [xb_ok]
    show (m env p).bind _ = _
    congr 1; funext d
    show ((getW d.2.1 i).bind fun ds => .ok (ds, d.2.1, d.2.2)).bind (fun x => _) = _
    cases getW d.2.1 i with
    | bad => rfl
    | exc _ _ => rfl
    | ok ds =>
      simp only [xb_ok]
      unfold grd
      show ((if ds.length < sizeLine then Res.ok () else Res.bad).bind fun a => .ok (a, d.2.1, d.2.2)).bind _ = _
      by_cases h : ds.length < sizeLine
      · rw [if_pos h, if_pos h]; rfl
      · rw [if_neg h, if_neg h]; rfl
@[simp] theorem x_ixO {i : Nat} {m : M D} : mIxO i m env p = (getO env i).bind fun _ => (m env p).bind fun k => (getO k.2.1 i).bind fun ds => (ixD (.lst ds) k.1).bind fun z => .ok (z, k.2.1, k.2.2) := by
  show ((getO env i).bind fun _ => .ok ((), env, p)).bind (fun x => _) = _
  cases getO env i with
  | bad => rfl
  | exc _ _ => rfl
  | ok ds0 =>
    simp only [xb_ok]
    show (m env p).bind _ = _
    congr 1; funext d
    show ((getO d.2.1 i).bind fun ds => .ok (ds, d.2.1, d.2.2)).bind (fun x => _) = _
    cases getO d.2.1 i <;> rfl
/-- own lists are given up: on written names -/
theorem frz_def {l : List Nat} {s : SS} : dFrz l s env p = s (l.foldl frz1 env) p := rfl
@[simp] theorem frz_nil {s : SS} : dFrz [] s env p = s env p := nr rfl
@[simp] theorem frz_cons {i : Nat} {l : List Nat} {s : SS} : dFrz (i :: l) s env p = dFrz l s (frz1 env i) p := nr rfl
@[simp] theorem fz1_0 {d : D} {e : Env'} : frz1 (.ow d :: e) 0 = .pl d :: e := nr rfl
@[simp] theorem fz1_S {s : Slot} {e : Env'} {i : Nat} : frz1 (s :: e) (i + 1) = s :: frz1 e i := by
  unfold frz1
  rw [List.getElem?_cons_succ]
  split <;> simp_all
/-! targets -/
@[simp] theorem x_bnil : bNil [] env = .ok env := nr rfl
@[simp] theorem x_bcons {b : Bd} {bs : Bds} {d : D} {r : List D} : bCons b bs (d :: r) env = (b d env).bind (bs r) := nr rfl
@[simp] theorem x_btup {n : Nat} {bs : Bds} {ds : List D} : bTup n bs (.tup ds) env = if ds.length = n then bs ds env else .bad := nr rfl
@[simp] theorem bprD {n : Nat} {bs : Bds} {q : Nat × Nat} : bTup n bs (prD q) env = if 2 = n then bs [nI q.1, nI q.2] env else .bad := nr rfl
def Res.out2 (r : Res Env') (p : Pn) : Out := match r with
  | .ok e => .nx e p
  | _ => .bad
@[simp] theorem o2_ok {e : Env'} : Res.out2 (.ok e) p = .nx e p := nr rfl
@[simp] theorem x_asg {m : M D} {b : Bd} : dAsg m b env p = (m env p).out fun d e p => (b d e).out2 p := by
  unfold dAsg; rw [x_of]; rfl
/-! loops -/
def Out.cont : Out → Out
  | .ct e p => .nx e p
  | o => o
def stepF (b : Bd) (body : SS) (d : D) : SS := fun env p => match b d env with
  | .ok e => (body e p).cont
  | _ => .bad
@[simp] theorem x_stepF {b : Bd} {body : SS} {d : D} : stepF b body d env p = match b d env with
  | .ok e => (body e p).cont
  | _ => .bad := rfl
@[simp] theorem oc_nx : (Out.nx env p).cont = .nx env p := nr rfl
@[simp] theorem oc_ct : (Out.ct env p).cont = .nx env p := nr rfl
@[simp] theorem oc_rt {d : D} : (Out.rt d p).cont = .rt d p := nr rfl
@[simp] theorem oc_ite {c : Prop} [Decidable c] {x y : Out} : (if c then x else y).cont = if c then x.cont else y.cont := by split <;> rfl
@[simp] theorem oc_grd {c : Prop} {x : Out} : (grdO c x).cont = grdO c x.cont := by unfold grdO; split <;> rfl
/-- a loop: to each item what comes of it, a return or a new state -/
def foldE (F : Nat → β → α → D ⊕ β) : Nat → β → List α → D ⊕ β
  | _, s, [] => .inr s
  | k, s, a :: l => match F k s a with
    | .inl d => .inl d
    | .inr s' => foldE F (k + 1) s' l
theorem forL_ret {b : Bd} {body : SS} (h : Nat → α → D) (E : β → γ → Env') (F : Nat → β → α → D ⊕ β) (I : Nat → β → Prop) : ∀ (l : List α) (k : Nat) (s : β) (j : γ), I k s →
    (∀ (i : Nat) (a : α) (s : β) (j : γ), l[i]? = some a → I (k + i) s → match F (k + i) s a with
      | .inl d => stepF b body (h (k + i) a) (E s j) p = .rt d p
      | .inr s' => I (k + i + 1) s' ∧ ∃ j', stepF b body (h (k + i) a) (E s j) p = .nx (E s' j') p) →
    match foldE F k s l with
    | .inl d => dForL b body ((l.zipIdx k).map fun z => h z.2 z.1) (E s j) p = .rt d p
    | .inr s' => I (k + l.length) s' ∧ ∃ j', dForL b body ((l.zipIdx k).map fun z => h z.2 z.1) (E s j) p = .nx (E s' j') p
  | [], k, s, j, hI, _ => ⟨hI, j, rfl⟩
  | a :: l, k, s, j, hI, H => by
    have h0 := H 0 a s j rfl hI
    have hrest : ∀ s' j', I (k + 1) s' → _ := fun s' j' hI' => forL_ret h E F I l (k + 1) s' j' hI' fun i a s j hi hs => by
      have := H (i + 1) a s j (by simpa using hi) (by rw [show k + (i + 1) = k + 1 + i by omega]; exact hs)
      rw [show k + (i + 1) = k + 1 + i by omega] at this
      exact this
    simp only [Nat.add_zero] at h0
    unfold foldE
    simp only [List.zipIdx_cons, List.map_cons]
    cases hF : F k s a with
    | inl d =>
      rw [hF] at h0
      dsimp only at h0 ⊢
      unfold stepF at h0
      unfold dForL
      cases hb : b (h k a) (E s j) with
      | ok e1 =>
        rw [hb] at h0
        dsimp only at h0 ⊢
        cases ho : body e1 p <;> rw [ho] at h0 <;> first | (cases h0; rfl) | cases h0
      | bad => rw [hb] at h0; cases h0
      | exc _ _ => rw [hb] at h0; cases h0
    | inr s' =>
      rw [hF] at h0
      obtain ⟨hI', j', h0⟩ := h0
      have hr := hrest s' j' hI'
      have e : dForL b body (h k a :: (l.zipIdx (k + 1)).map fun z => h z.2 z.1) (E s j) p = dForL b body ((l.zipIdx (k + 1)).map fun z => h z.2 z.1) (E s' j') p := by
        unfold stepF at h0
        conv => lhs; unfold dForL
        cases hb : b (h k a) (E s j) with
        | ok e1 =>
          rw [hb] at h0
          dsimp only at h0 ⊢
          cases ho : body e1 p <;> rw [ho] at h0 <;> first | (cases h0; rfl) | cases h0
        | bad => rw [hb] at h0; cases h0
        | exc _ _ => rw [hb] at h0; cases h0
      dsimp only
      rw [e, List.length_cons, show k + (l.length + 1) = k + 1 + l.length by omega]
      exact hr
theorem zipIdx_fst {h : α → D} {l : List α} {k : Nat} : ((l.zipIdx k).map fun z => h z.1) = l.map h := by
  induction l generalizing k with
  | nil => rfl
  | cons a l ih => simp [ih]
@[simp] theorem enumL_map {h : α → D} : ∀ {l : List α} {k : Nat}, enumL k (l.map h) = (l.zipIdx k).map fun z => D.tup [nI z.2, h z.1]
  | [], _ => rfl
  | a :: l, k => by
    simp only [List.map_cons, enumL, List.zipIdx_cons]
    rw [enumL_map]; rfl
theorem forL_st {b : Bd} {body : SS} (h : α → D) (E : β → γ → Env') (I : List α → β → Prop) (l : List α) (s0 : β) (j0 : γ) (h0 : I [] s0)
    (hs : ∀ done a rest s j, l = done ++ a :: rest → I done s → ∃ s' j', stepF b body (h a) (E s j) p = .nx (E s' j') p ∧ I (done ++ [a]) s') : ∃ s j, dForL b body (l.map h) (E s0 j0) p = .nx (E s j) p ∧ I l s := by
  have go : ∀ (rest done : List α) (s : β) (j : γ), l = done ++ rest → I done s → ∃ s' j', dForL b body (rest.map h) (E s j) p = .nx (E s' j') p ∧ I l s' := by
    intro rest
    induction rest with
    | nil => intro done s j e hi; exact ⟨s, j, rfl, by rw [e, List.append_nil]; exact hi⟩
    | cons a rest ih =>
      intro done s j e hi
      obtain ⟨s1, j1, h1, h2⟩ := hs done a rest s j e hi
      obtain ⟨s2, j2, h3, h4⟩ := ih (done ++ [a]) s1 j1 (by rw [e]; simp) h2
      refine ⟨s2, j2, ?_, h4⟩
      rw [← h3]
      unfold stepF at h1
      rw [List.map_cons]
      conv => lhs; unfold dForL
      cases hb : b (h a) (E s j) with
      | ok e1 =>
        rw [hb] at h1
        dsimp only at h1 ⊢
        cases ho : body e1 p <;> rw [ho] at h1 <;> first | (cases h1; rfl) | cases h1
      | bad => rw [hb] at h1; cases h1
      | exc _ _ => rw [hb] at h1; cases h1
  exact go l [] s0 j0 rfl h0
@[simp] theorem x_for {src : M (List D)} {b : Bd} {body : SS} : dFor src b body env p = (src env p).out fun ds e p => dForL b body ds e p := x_of
theorem lt_size {n : Nat} (h : n ≤ 100000) : n < sizeLine := Nat.lt_of_le_of_lt h (by decide)
/-- it goes well, and what comes of it is so -/
def Ev (X : Res (D × Pn)) (Q : D → Pn → Prop) : Prop := ∃ v p', X = .ok (v, p') ∧ Q v p'
@[simp] theorem ev_ok {v : D} {Q : D → Pn → Prop} : Ev (.ok (v, p)) Q ↔ Q v p := ⟨fun ⟨_, _, e, h⟩ => by cases e; exact h, fun h => ⟨_, _, rfl, h⟩⟩
@[simp] theorem ev_bad {Q : D → Pn → Prop} : Ev .bad Q ↔ False := ⟨fun ⟨_, _, e, _⟩ => (by cases e), fun h => False.elim h⟩
@[simp] theorem ev_grd {c : Prop} {X : Res (D × Pn)} {Q : D → Pn → Prop} : Ev (grd c X) Q ↔ c ∧ Ev X Q := by
  unfold grd
  by_cases h : c
  · rw [if_pos h]; exact ⟨fun q => ⟨h, q⟩, fun q => q.2⟩
  · rw [if_neg h]; exact ⟨fun q => (ev_bad.mp q).elim, fun q => absurd q.1 h⟩
theorem ev_ite {c : Prop} [Decidable c] {x y : Res (D × Pn)} {Q : D → Pn → Prop} : Ev (if c then x else y) Q ↔ (c → Ev x Q) ∧ (¬ c → Ev y Q) := by
  by_cases h : c
  · rw [if_pos h]; exact ⟨fun q => ⟨fun _ => q, fun z => absurd h z⟩, fun q => q.1 h⟩
  · rw [if_neg h]; exact ⟨fun q => ⟨fun z => absurd z h, fun _ => q⟩, fun q => q.2 h⟩
theorem Ev.imp {X : Res (D × Pn)} {Q Q' : D → Pn → Prop} (h : Ev X Q) (k : ∀ v p, Q v p → Q' v p) : Ev X Q' := by
  obtain ⟨v, p', e, q⟩ := h; exact ⟨v, p', e, k _ _ q⟩
theorem forL_ev {b : Bd} {body k : SS} {Q : D → Pn → Prop} (h : α → D) (E : β → γ → Env') (I : List α → β → Prop) (l : List α) (s0 : β) (j0 : γ) (hE : env = E s0 j0) (h0 : I [] s0)
    (hs : ∀ done a rest s j, l = done ++ a :: rest → I done s → ∃ s' j', stepF b body (h a) (E s j) p = .nx (E s' j') p ∧ I (done ++ [a]) s') (hk : ∀ s j, I l s → Ev (k (E s j) p).fin Q) : Ev ((dForL b body (l.map h) env p).then k).fin Q := by
  subst hE
  obtain ⟨s, j, h1, h2⟩ := forL_st h E I l s0 j0 h0 hs
  rw [h1]
  exact hk s j h2
/-- a loop that may return -/
theorem forL_evR {b : Bd} {body k : SS} {Q : D → Pn → Prop} (h : Nat → α → D) (E : β → γ → Env') (F : Nat → β → α → D ⊕ β) (I : Nat → β → Prop) (l : List α) (s0 : β) (j0 : γ) (hE : env = E s0 j0) (h0 : I 0 s0)
    (hs : ∀ (i : Nat) (a : α) (s : β) (j : γ), l[i]? = some a → I i s → match F i s a with
      | .inl d => stepF b body (h i a) (E s j) p = .rt d p
      | .inr s' => I (i + 1) s' ∧ ∃ j', stepF b body (h i a) (E s j) p = .nx (E s' j') p)
    (hk : match foldE F 0 s0 l with
      | .inl d => Q d p
      | .inr s' => ∀ j, I l.length s' → Ev (k (E s' j) p).fin Q) : Ev ((dForL b body (l.zipIdx.map fun z => h z.2 z.1) env p).then k).fin Q := by
  subst hE
  have := forL_ret (p := p) h E F I l 0 s0 j0 h0 (fun i a s j hi hI => by
    have := hs i a s j hi (by simpa using hI)
    simp only [Nat.zero_add]
    exact this)
  cases hF : foldE F 0 s0 l with
  | inl d =>
    rw [hF] at this hk
    dsimp only at this hk
    rw [this]
    exact ev_ok.mpr hk
  | inr s' =>
    rw [hF] at this hk
    dsimp only at this hk
    obtain ⟨h1, j', h2⟩ := this
    rw [h2]
    exact hk j' (by simpa using h1)
@[simp] theorem fm_ifN {c : α → Prop} [∀ a, Decidable (c a)] {g : α → D} {l : List α} : (l.filterMap fun a => if c a then none else some (g a)) = (l.filter fun a => !decide (c a)).map g := by
  induction l with
  | nil => rfl
  | cons a l ih =>
    by_cases h : c a
    · simp [h, ih]
    · simp [h, ih]
@[simp] theorem Sz_fm {g : α → Option γ} {l : List α} (h : Sz l) : Sz (l.filterMap g) ↔ True := ⟨fun _ => trivial, fun _ => h.filterMap⟩
@[simp] theorem add_ll {a b : List D} : addD (.lst a) (.lst b) = grd ((a ++ b).length ≤ sizeLine) (.ok (.lst (a ++ b))) := by
  show mkL (a ++ b) = _
  unfold mkL grd
  by_cases h : (a ++ b).length ≤ sizeLine
  · rw [if_pos h, if_pos h]
  · rw [if_neg h, if_neg h]
open Classical in
@[simp] theorem e_nil {l : List Nat} : eqD (.lst (l.map nI)) (.lst []) = .ok (.bl (decide (l = []))) := by
  rw [eqD_pl (pl_mono (pl_lst (pl_nums l 0)) 9 (by decide)) (by rfl)]
  congr 2
  exact decide_eq_decide.mpr (by simp)
open Classical in
@[simp] theorem n_nil {l : List Nat} : neD (.lst (l.map nI)) (.lst []) = .ok (.bl (decide (l ≠ []))) := by
  rw [neD_pl (pl_mono (pl_lst (pl_nums l 0)) 9 (by decide)) (by rfl)]
  congr 2
  exact decide_eq_decide.mpr (by simp)
end
end CS
namespace CS
open PySem L2
open Classical
/-! ## the law's own table: the relation that the pairs span -/
def bm (M : BM) (x y : Nat) : Prop := (M.getD x []).getD y false = true
def stepR (R : Nat → Nat → Prop) (z : Nat) : Nat → Nat → Prop := fun x y => R x y ∨ (R x z ∧ R z y)
theorem getD_set {α : Type} {l : List α} {i j : Nat} {a d : α} (h : i < l.length) : (l.set i a).getD j d = if j = i then a else l.getD j d := by
  rw [List.getD_eq_getElem?_getD, List.getD_eq_getElem?_getD, List.getElem?_set]
  by_cases e : i = j
  · subst e; simp [h]
  · rw [if_neg e, if_neg (fun z => e z.symm)]
theorem zipW_getD {a b : List Bool} {y : Nat} (h : a.length = b.length) : (List.zipWith (· || ·) a b).getD y false = (a.getD y false || b.getD y false) := by
  rw [List.getD_eq_getElem?_getD, List.getD_eq_getElem?_getD, List.getD_eq_getElem?_getD, List.getElem?_zipWith]
  by_cases hy : y < a.length
  · rw [List.getElem?_eq_getElem hy, List.getElem?_eq_getElem (by omega : y < b.length)]; rfl
  · rw [List.getElem?_eq_none (by omega : a.length ≤ y), List.getElem?_eq_none (by omega : b.length ≤ y)]; rfl
theorem bm_or {n : Nat} {M : BM} (sh : Shp n M) {z x : Nat} (hz : z < n) (hx : x < n) (u y : Nat) : bm (tabOr z M x) u y ↔ if u = x then bm M x y ∨ (bm M x z ∧ bm M z y) else bm M u y := by
  unfold tabOr
  obtain ⟨mx, _, ex, lx⟩ := sh.at hx
  obtain ⟨mz, _, ez, lz⟩ := sh.at hz
  split
  · rename_i h
    unfold bm
    rw [getD_set (by rw [sh.len]; exact hx)]
    by_cases e : u = x
    · subst e
      rw [if_pos rfl, if_pos rfl, zipW_getD (by rw [ex, ez, lx, lz]), Bool.or_eq_true]
      constructor
      · rintro (h1 | h1)
        · exact .inl h1
        · exact .inr ⟨h, h1⟩
      · rintro (h1 | h1)
        · exact .inl h1
        · exact .inr h1.2
    · rw [if_neg e, if_neg e]
  · rename_i h
    by_cases e : u = x
    · subst e
      rw [if_pos rfl]
      exact ⟨.inl, fun h1 => h1.elim id fun h2 => absurd h2.1 h⟩
    · rw [if_neg e]
theorem bm_pass {n : Nat} {z : Nat} (hz : z < n) : ∀ (k : Nat) (M : BM), k ≤ n → Shp n M → Shp n ((List.range k).foldl (tabOr z) M) ∧ ∀ u y, (bm ((List.range k).foldl (tabOr z) M) u y ↔ if u < k then stepR (bm M) z u y else bm M u y)
  | 0, M, _, sh => ⟨sh, fun u y => by simp⟩
  | k + 1, M, hk, sh => by
    obtain ⟨s1, h1⟩ := bm_pass hz k M (by omega) sh
    rw [foldl_range]
    refine ⟨s1.tabOr hz (by omega), fun u y => ?_⟩
    rw [bm_or s1 hz (by omega)]
    have hzz : ∀ y, (bm ((List.range k).foldl (tabOr z) M) z y ↔ bm M z y) := fun y => by
      rw [h1]
      split
      · exact ⟨fun h => h.elim id fun h => h.2, .inl⟩
      · rfl
    by_cases e : u = k
    · subst e
      rw [if_pos rfl, if_pos (by omega), h1, h1, hzz, if_neg (by omega), if_neg (by omega)]
      rfl
    · rw [if_neg e, h1]
      by_cases e2 : u < k
      · rw [if_pos e2, if_pos (by omega)]
      · rw [if_neg e2, if_neg (by omega)]
def passes (R : Nat → Nat → Prop) : Nat → Nat → Nat → Prop
  | 0 => R
  | k + 1 => stepR (passes R k) k
theorem bm_passes {n : Nat} (M : BM) (sh : Shp n M) : ∀ (k : Nat), k ≤ n → Shp n ((List.range k).foldl (fun M z => (List.range n).foldl (tabOr z) M) M) ∧ ∀ u y, u < n → (bm ((List.range k).foldl (fun M z => (List.range n).foldl (tabOr z) M) M) u y ↔ passes (bm M) k u y)
  | 0, _ => ⟨sh, fun _ _ _ => Iff.rfl⟩
  | k + 1, hk => by
    obtain ⟨s1, h1⟩ := bm_passes M sh k (by omega)
    rw [foldl_range]
    obtain ⟨s2, h2⟩ := bm_pass (z := k) (by omega) n _ (Nat.le_refl _) s1
    refine ⟨s2, fun u y hu => ?_⟩
    rw [h2, if_pos hu]
    unfold passes stepR
    rw [h1 u y hu, h1 u k hu, h1 k y (by omega)]
/-- led through all points below k -/
def Thr (R : Nat → Nat → Prop) (k : Nat) : Prop := ∀ z, z < k → ∀ x y, R x z → R z y → R x y
theorem thr_step {R : Nat → Nat → Prop} {k : Nat} (h : Thr R k) : Thr (stepR R k) (k + 1) := fun z hz x y h1 h2 => by
  by_cases e : z = k
  · subst e
    have a : R x z := h1.elim id fun h => h.1
    have b : R z y := h2.elim id fun h => h.2
    exact .inr ⟨a, b⟩
  · have hzk : z < k := by omega
    rcases h1 with a | ⟨a1, a2⟩
    · rcases h2 with b | ⟨b1, b2⟩
      · exact .inl (h z hzk _ _ a b)
      · exact .inr ⟨h z hzk _ _ a b1, b2⟩
    · rcases h2 with b | ⟨b1, b2⟩
      · exact .inr ⟨a1, h z hzk _ _ a2 b⟩
      · exact .inr ⟨a1, b2⟩
theorem thr_passes {R : Nat → Nat → Prop} : ∀ k, Thr (passes R k) k
  | 0 => fun _ h => absurd h (Nat.not_lt_zero _)
  | k + 1 => thr_step (thr_passes k)
theorem passes_le {R : Nat → Nat → Prop} {x y : Nat} (h : R x y) : ∀ k, passes R k x y
  | 0 => h
  | k + 1 => .inl (passes_le h k)
theorem passes_in {R S : Nat → Nat → Prop} (h : ∀ x y, R x y → S x y) (ht : ∀ x y z, S x y → S y z → S x z) : ∀ k x y, passes R k x y → S x y
  | 0, x, y, q => h x y q
  | k + 1, x, y, q => q.elim (passes_in h ht k x y) fun q => ht _ _ _ (passes_in h ht k _ _ q.1) (passes_in h ht k _ _ q.2)
theorem bm_tab0 {n x y : Nat} (hx : x < n) (hy : y < n) : bm (tab0 n) x y ↔ x = y := by
  unfold bm tab0
  simp [List.getD_eq_getElem?_getD, hx, hy]
theorem bm_tab0' {n x y : Nat} (h : bm (tab0 n) x y) : x = y ∧ x < n ∧ y < n := by
  unfold bm tab0 at h
  by_cases hx : x < n
  · by_cases hy : y < n
    · simp [List.getD_eq_getElem?_getD, hx, hy] at h
      exact ⟨h, hx, hy⟩
    · simp [List.getD_eq_getElem?_getD, hx, List.getElem?_range, hy] at h
  · simp [List.getD_eq_getElem?_getD, hx] at h
theorem bm_set {n : Nat} {M : BM} (sh : Shp n M) {q : Nat × Nat} (h1 : q.1 < n) (h2 : q.2 < n) (u y : Nat) : bm (tabSet M q) u y ↔ bm M u y ∨ (u = q.1 ∧ y = q.2) := by
  obtain ⟨m, _, e, l⟩ := sh.at h1
  unfold bm tabSet
  rw [getD_set (by rw [sh.len]; exact h1)]
  by_cases e1 : u = q.1
  · subst e1
    rw [if_pos rfl, getD_set (by rw [e, l]; exact h2)]
    by_cases e2 : y = q.2
    · simp [e2]
    · simp [e2]
  · rw [if_neg e1]
    exact ⟨.inl, fun h => h.elim id fun h => absurd h.1 e1⟩
theorem bm_sets {n : Nat} : ∀ (ps : List (Nat × Nat)) (M : BM), In n ps → Shp n M → Shp n (ps.foldl tabSet M) ∧ ∀ u y, (bm (ps.foldl tabSet M) u y ↔ bm M u y ∨ (u, y) ∈ ps)
  | [], M, _, sh => ⟨sh, fun u y => by simp⟩
  | q :: ps, M, hin, sh => by
    obtain ⟨q1, q2⟩ := hin q (List.mem_cons_self ..)
    obtain ⟨s1, h1⟩ := bm_sets ps (tabSet M q) (fun x hx => hin x (List.mem_cons_of_mem _ hx)) (sh.tabSet q1)
    refine ⟨s1, fun u y => ?_⟩
    rw [List.foldl_cons, h1, bm_set sh q1 q2, List.mem_cons]
    constructor
    · rintro ((h | ⟨rfl, rfl⟩) | h)
      · exact .inl h
      · exact .inr (.inl rfl)
      · exact .inr (.inr h)
    · rintro (h | h | h)
      · exact .inl (.inl h)
      · exact .inl (.inr ⟨by rw [← h], by rw [← h]⟩)
      · exact .inr h
theorem tabM_rt {n : Nat} {ps : List (Nat × Nat)} (hin : In n ps) : Shp n (tabM n ps) ∧ ∀ x y, x < n → y < n → (bm (tabM n ps) x y ↔ Rt ps x y) := by
  obtain ⟨s0, h0⟩ := bm_sets ps (tab0 n) hin (Shp.tab0 n)
  obtain ⟨s1, h1⟩ := bm_passes _ s0 n (Nat.le_refl _)
  refine ⟨s1, fun x y hx hy => ?_⟩
  unfold tabM
  rw [h1 x y hx]
  constructor
  · refine passes_in (S := Rt ps) (fun x y q => ?_) (fun x y z => Rt.trans) n x y
    rcases (h0 x y).mp q with h | h
    · obtain ⟨rfl, _, _⟩ := bm_tab0' h
      exact .refl _
    · exact .one h
  · intro r
    clear hy
    induction r with
    | refl => exact passes_le ((h0 x x).mpr (.inl ((bm_tab0 hx hx).mpr rfl))) n
    | @tail y z r1 h3 ih => exact thr_passes n y (r1.lt hin hx) _ _ ih (passes_le ((h0 y z).mpr (.inr h3)) n)
/-- the table of a relation -/
noncomputable def rowT (n : Nat) (P : Nat → Prop) : D := .lst ((List.range n).map fun y => .bl (decide (P y)))
noncomputable def tblD (n : Nat) (r : Nat → Nat → Prop) : D := .lst ((List.range n).map fun x => rowT n (r x))
theorem toPrs_map {n : Nat} : ∀ {ps : List (Nat × Nat)}, In n ps → toPrs n (ps.map prD) = .ok ps
  | [], _ => rfl
  | q :: ps, h => by
    obtain ⟨q1, q2⟩ := h q (List.mem_cons_self ..)
    show (if (0 : Int) ≤ (q.1 : Int) ∧ (q.1 : Int) < n ∧ (0 : Int) ≤ (q.2 : Int) ∧ (q.2 : Int) < n then (toPrs n (ps.map prD)).bind fun l => Res.ok (((q.1 : Int).toNat, (q.2 : Int).toNat) :: l) else Res.bad) = _
    rw [if_pos (by omega), toPrs_map fun x hx => h x (List.mem_cons_of_mem _ hx)]
    rfl
theorem tblD_eq {n : Nat} {ps : List (Nat × Nat)} (hin : In n ps) : D.lst ((tabM n ps).map rowB) = tblD n (Rt ps) := by
  obtain ⟨sh, h⟩ := tabM_rt hin
  unfold tblD
  congr 1
  apply List.ext_getElem?
  intro x
  rw [List.getElem?_map, List.getElem?_map]
  by_cases hx : x < n
  · obtain ⟨m, hm, e, hl⟩ := sh.at hx
    rw [hm, List.getElem?_range hx]
    show some (D.lst (m.map D.bl)) = some (rowT n (Rt ps x))
    unfold rowT
    congr 2
    apply List.ext_getElem?
    intro y
    rw [List.getElem?_map, List.getElem?_map]
    by_cases hy : y < n
    · rw [List.getElem?_range hy]
      have := h x y hx hy
      unfold bm at this
      rw [e, List.getD_eq_getElem?_getD, List.getElem?_eq_getElem (by omega : y < m.length)] at this
      rw [List.getElem?_eq_getElem (by omega : y < m.length)]
      show some (D.bl m[y]) = some (D.bl _)
      congr 2
      exact bool_iff this
    · rw [List.getElem?_eq_none (by omega), List.getElem?_eq_none (by simp; omega)]; rfl
  · rw [List.getElem?_eq_none (by rw [sh.len]; omega), List.getElem?_eq_none (by simp; omega)]; rfl
theorem v_table {n : Nat} {ps : List (Nat × Nat)} (hn : n ≤ 24) (hin : In n ps) (p : Pn) : tableF [nI n, .lst (ps.map prD)] p = .ok (tblD n (Rt ps), p) := by
  show (if (0 : Int) ≤ (n : Int) ∧ (n : Int) ≤ 1000 then (D.row (.lst (ps.map prD))).bind fun l => (toPrs (n : Int).toNat l).bind fun ps => Res.ok (D.lst ((tabM (n : Int).toNat ps).map rowB), p) else Res.bad) = _
  rw [if_pos (by omega), row_l, Int.toNat_natCast]
  simp only [xb_ok]
  rw [toPrs_map hin]
  simp only [xb_ok]
  rw [tblD_eq hin]
section
variable {n x y : Nat} {r : Nat → Nat → Prop} {P : Nat → Prop}
theorem tbl_ix (h : x < n) : ixD (tblD n r) (nI x) = .ok (rowT n (r x)) := ix_nat rfl (by rw [List.getElem?_map, List.getElem?_range h]; rfl)
theorem rowT_ix (h : x < n) : ixD (rowT n P) (nI x) = .ok (.bl (decide (P x))) := ix_nat rfl (by rw [List.getElem?_map, List.getElem?_range h]; rfl)
theorem tbl_len : lenD [tblD n r] = .ok (nI n) := by
  show Res.ok (D.int (((List.range n).map fun x => rowT n (r x)).length : Nat)) = _
  rw [List.length_map, List.length_range]; rfl
theorem tblD_congr {r s : Nat → Nat → Prop} (h : ∀ x y, x < n → y < n → (r x y ↔ s x y)) : tblD n r = tblD n s := by
  unfold tblD rowT
  congr 1
  refine List.map_congr_left fun x hx => ?_
  congr 1
  refine List.map_congr_left fun y hy => ?_
  congr 1
  exact decide_eq_decide.mpr (h x y (List.mem_range.mp hx) (List.mem_range.mp hy))
end
end CS
namespace CS
open PySem L2
open Classical
section
variable {n : Nat} {r : Nat → Nat → Prop} {p : Pn}
@[simp] theorem under_ix {x : Nat} : ixD (.tup (rowsU n r)) (nI x) = grd (x < n) (.ok (row n fun y => r y x)) := by
  have hl : (rowsU n r).length = n := by simp [rowsU]
  by_cases h : x < n
  · rw [grd_pos h]; exact ix_nat rfl (rowsU_at h)
  · rw [ix_t, hl]; unfold grd; rw [if_neg h, if_neg h]
@[simp] theorem over_ix {x : Nat} : ixD (.tup (rowsO n r)) (nI x) = grd (x < n) (.ok (row n (r x))) := by
  have hl : (rowsO n r).length = n := by simp [rowsO]
  by_cases h : x < n
  · rw [grd_pos h]; exact ix_nat rfl (rowsO_at h)
  · rw [ix_t, hl]; unfold grd; rw [if_neg h, if_neg h]
@[simp] theorem in_row {x : Nat} {P : Nat → Prop} : inD (nI x) (row n P) = .ok (.bl (decide (x < n ∧ P x))) := by
  rw [in_nums (l := sel n P) rfl]
  congr 2
  exact decide_eq_decide.mpr mem_sel
@[simp] theorem tbl_ix' {x : Nat} : ixD (tblD n r) (nI x) = grd (x < n) (.ok (rowT n (r x))) := by
  by_cases h : x < n
  · rw [grd_pos h]; exact tbl_ix h
  · unfold tblD; rw [ix_l]; unfold grd; rw [if_neg h, if_neg (by simpa using h)]
@[simp] theorem rowT_ix' {x : Nat} {P : Nat → Prop} : ixD (rowT n P) (nI x) = grd (x < n) (.ok (.bl (decide (P x)))) := by
  by_cases h : x < n
  · rw [grd_pos h]; exact rowT_ix h
  · unfold rowT; rw [ix_l]; unfold grd; rw [if_neg h, if_neg (by simpa using h)]
@[simp] theorem fld_many' : fldD ["Space"] "many" (spc n r) = .ok (nI n) := nr rfl
@[simp] theorem fld_over' : fldD ["Space"] "over" (spc n r) = .ok (.tup (rowsO n r)) := nr rfl
@[simp] theorem fld_under' : fldD ["Space"] "under" (spc n r) = .ok (.tup (rowsU n r)) := nr rfl
@[simp] theorem row_row {P : Nat → Prop} : (row n P).row = .ok ((sel n P).map nI) := nr rfl
@[simp] theorem tbl_len' : lenD [tblD n r] = .ok (nI n) := tbl_len
@[simp] theorem all_map {α : Type} (f : α → Bool) (l : List α) : allD [.lst (l.map fun a => D.bl (f a))] = .ok (.bl (l.all f)) := by
  unfold allD
  dsimp only
  rw [toBls_mapF]
  show Res.ok (D.bl ((l.map f).all id)) = _
  rw [List.all_map]
  rfl
def optD : Option Nat → D
  | none => .non
  | some x => nI x
theorem grd_fin {α : Type} {c : Prop} {x y : α} (h : c) (e : x = y) : grd c (.ok (x, p)) = .ok (y, p) := by rw [grd_pos h, e]
theorem opt_if {l : List Nat} {P : Nat → Prop} (i1 i2 : ∀ a, Decidable (P a)) [i3 : Decidable (∃ x, x ∈ l ∧ P x)] : (if ∃ x, x ∈ l ∧ P x then (Option.map nI (l.filter fun a => @decide (P a) (i1 a))[0]?).getD D.non else D.non) = optD (l.filter fun a => @decide (P a) (i2 a))[0]? := by
  cases Subsingleton.elim i1 i2
  split
  · cases (l.filter fun a => @decide (P a) (i1 a))[0]? <;> rfl
  · rename_i h
    have : (l.filter fun a => @decide (P a) (i1 a)) = [] := List.filter_eq_nil_iff.mpr fun x hx => by
      rw [decide_eq_true_eq]; exact fun q => h ⟨x, hx, q⟩
    rw [this]; rfl
noncomputable def gsel (r : Nat → Nat → Prop) (l : List Nat) : Option Nat := (l.filter fun a => decide (∀ x, x ∈ l → r x a))[0]?
noncomputable def lsel (r : Nat → Nat → Prop) (l : List Nat) : Option Nat := (l.filter fun a => decide (∀ x, x ∈ l → r a x))[0]?
theorem v_greatest_in {l : List Nat} (hl : ∀ x ∈ l, x < n) (hz : l.length ≤ 1000) : m_greatest_in [spc n r, .lst (l.map nI)] p = .ok (optD (gsel r l), p) := by
  have sz : Sz l := Nat.le_trans hz (by decide)
  unfold m_greatest_in b_greatest_in
  simp (config := { contextual := true }) [hl, sz]
  exact opt_if _ _
theorem v_least_in {l : List Nat} (hl : ∀ x ∈ l, x < n) (hz : l.length ≤ 1000) : m_least_in [spc n r, .lst (l.map nI)] p = .ok (optD (lsel r l), p) := by
  have sz : Sz l := Nat.le_trans hz (by decide)
  unfold m_least_in b_least_in
  simp (config := { contextual := true }) [hl, sz]
  exact opt_if _ _
noncomputable def ptn (n : Nat) (r : Nat → Nat → Prop) (l : List Nat) (x : Nat) : List Nat := (gsel r (sel n fun y => r y x ∧ y ≠ x ∧ y ∈ l)).toList ++ (lsel r (sel n fun y => r x y ∧ y ≠ x ∧ y ∈ l)).toList
@[simp] theorem nn_non : notN .non .non = .ok (.bl false) := nr rfl
@[simp] theorem nn_nI {x : Nat} : notN (nI x) .non = .ok (.bl true) := nr rfl
theorem sel_filter (n : Nat) (P Q : Nat → Prop) (c : Nat → Bool) (h : ∀ y, c y = true ↔ Q y) : (sel n P).filter c = sel n fun y => P y ∧ Q y := by
  unfold sel
  rw [List.filter_filter]
  refine List.filter_congr fun y _ => ?_
  rw [Bool.eq_iff_iff]
  simp [h, and_comm]
theorem v_partners {l : List Nat} {x : Nat} (hn : n ≤ 24) (hx : x < n) : m_partners [spc n r, .lst (l.map nI), nI x] p = .ok (.lst ((ptn n r l x).map nI), p) := by
  have sz : ∀ P, Sz (sel n P) := fun P => .of (Nat.le_trans (sel_length _ _) (by omega))
  have hg := v_greatest_in (n := n) (r := r) (p := p) (l := sel n fun y => r y x ∧ y ≠ x ∧ y ∈ l) (fun y hy => (mem_sel.mp hy).1) (Nat.le_trans (sel_length _ _) (by omega))
  have hl := v_least_in (n := n) (r := r) (p := p) (l := sel n fun y => r x y ∧ y ≠ x ∧ y ∈ l) (fun y hy => (mem_sel.mp hy).1) (Nat.le_trans (sel_length _ _) (by omega))
  have e1 : (sel n fun y => r y x).filter (fun a => !decide (a = x) && decide (a ∈ l)) = sel n fun y => r y x ∧ y ≠ x ∧ y ∈ l := sel_filter _ _ _ _ fun y => by simp
  have e2 : (sel n fun y => r x y).filter (fun a => !decide (a = x) && decide (a ∈ l)) = sel n fun y => r x y ∧ y ≠ x ∧ y ∈ l := sel_filter _ _ _ _ fun y => by simp
  unfold m_partners b_partners ptn
  revert hg hl
  generalize gsel r (sel n fun y => r y x ∧ y ≠ x ∧ y ∈ l) = o1
  generalize lsel r (sel n fun y => r x y ∧ y ≠ x ∧ y ∈ l) = o2
  intro hg hl
  rw [← e1] at hg
  rw [← e2] at hl
  cases o1 <;> cases o2 <;> simp [sz, hx, hg, hl, optD]
theorem v_all_beats {l : List Nat} (hn : n ≤ 24) (hl : ∀ x ∈ l, x < n) (hz : l.length ≤ 1000) : Ev (m_all_beats [spc n r, .lst (l.map nI)] p) fun v p' => p' = p ∧ ∃ s : List (Nat × Nat), v = .lst (s.map prD) ∧ (s = [] ↔ ∀ x, x ∈ l → ptn n r l x = []) := by
  have hp : ∀ x, x ∈ l → m_partners [spc n r, .lst (l.map nI), nI x] p = .ok (.lst ((ptn n r l x).map nI), p) := fun x hx => v_partners hn (hl x hx)
  unfold m_all_beats b_all_beats
  simp
  refine forL_ev nI (fun (s : List (Nat × Nat)) (j : Slot × Slot) => [.pl (spc n r), .pl (.lst (l.map nI)), .ow (.lst (s.map prD)), j.1, j.2]) (fun done s => s.length ≤ done.length ∧ (s = [] ↔ ∀ x, x ∈ done → ptn n r l x = [])) l [] (.un, .un) rfl (by simp) (fun done a rest s j hd ⟨hs, he⟩ => ?_) fun s j ⟨h1, h2⟩ => by simp; exact ⟨s, rfl, h2⟩
  have ha : a ∈ l := by rw [hd]; simp
  have hk : done.length < 1000 := by
    have := congrArg List.length hd
    simp at this; omega
  have hz := lt_size (n := s.length) (by omega)
  simp [hp a ha]
  cases hq : ptn n r l a with
  | nil =>
    refine ⟨s, ⟨_, _, by simp; exact ⟨rfl, rfl⟩⟩, by omega, ?_⟩
    rw [he]
    exact ⟨fun h x hx => hx.elim (h x) fun e => by rw [e]; exact hq, fun h x hx => h x (.inl hx)⟩
  | cons y t =>
    refine ⟨s ++ [(a, y)], ⟨_, _, by simp [grdO_pos, hz]; exact ⟨rfl, rfl, rfl⟩⟩, by simp; omega, ?_⟩
    constructor
    · intro h; simp at h
    · intro h
      have := h a (.inr rfl)
      rw [hq] at this; cases this
end
end CS
namespace CS
open PySem L2
open Classical
section
variable {n : Nat} {r : Nat → Nat → Prop} {p : Pn}
noncomputable def btd (r : Nat → Nat → Prop) (l : List Nat) (a : Nat) : List Nat := l.filter fun y => decide (∀ z, z ∈ l → ¬ r z y → ¬ z = a → ¬ r z a) && (!decide (y = a) && decide (r y a))
noncomputable def btu (r : Nat → Nat → Prop) (l : List Nat) (a : Nat) : List Nat := l.filter fun y => decide (∀ z, z ∈ l → ¬ r y z → ¬ z = a → ¬ r a z) && (!decide (y = a) && decide (r a y))
noncomputable def bt1 (r : Nat → Nat → Prop) (l : List Nat) (a : Nat) : List (Nat × Nat) := (btd r l a).map (fun y => (a, y)) ++ (btu r l a).map fun y => (a, y)
noncomputable def bts (r : Nat → Nat → Prop) (l : List Nat) : List (Nat × Nat) := l.flatMap (bt1 r l)
theorem btd_len {l : List Nat} {a : Nat} : (btd r l a).length ≤ l.length := List.length_filter_le _ _
theorem btu_len {l : List Nat} {a : Nat} : (btu r l a).length ≤ l.length := List.length_filter_le _ _
theorem v_beats {l : List Nat} (hl : ∀ x ∈ l, x < n) (hz : l.length ≤ 24) : m_law_beats [tblD n r, .lst (l.map nI)] p = .ok (.lst ((bts r l).map prD), p) := by
  suffices h : Ev (m_law_beats [tblD n r, .lst (l.map nI)] p) fun v p' => p' = p ∧ v = .lst ((bts r l).map prD) by
    obtain ⟨v, p', e, rfl, rfl⟩ := h
    exact e
  have sz : Sz l := .of (by omega)
  unfold m_law_beats b_law_beats
  simp
  refine forL_ev nI (fun (s : List (Nat × Nat)) (j : Slot × Slot × Slot) => [.pl (tblD n r), .pl (.lst (l.map nI)), .pl (.lst (s.map prD)), j.1, j.2.1, j.2.2, .un, .un]) (fun done s => s = done.flatMap (bt1 r l) ∧ s.length ≤ done.length * 48) l [] (.un, .un, .un) rfl (by simp) (fun done a rest s j hd ⟨he, hs⟩ => ?_) fun s j h1 => by simp; rw [h1.1]; rfl
  have hdl : done.length < l.length := by
    have := congrArg List.length hd
    simp at this; omega
  have ha : a < n := hl a (by rw [hd]; simp)
  have l1 := btd_len (r := r) (l := l) (a := a)
  have l2 := btu_len (r := r) (l := l) (a := a)
  simp [sz]
  have e : (s ++ bt1 r l a).map prD = s.map prD ++ ((btd r l a).map (fun y => D.tup [nI a, nI y]) ++ (btu r l a).map fun y => D.tup [nI a, nI y]) := by
    unfold bt1
    rw [List.map_append, List.map_append, List.map_map, List.map_map]
    rfl
  rw [grdO_pos]
  · refine ⟨s ++ bt1 r l a, ?_, by rw [he], ?_⟩
    · rw [e]; exact ⟨_, _, _, rfl⟩
    · unfold bt1
      simp
      omega
  · refine ⟨fun x hx _ => ⟨hl x hx, ha⟩, fun x hx _ => ⟨ha, hl x hx⟩, ⟨fun x hx _ _ y hy _ _ => ⟨hl y hy, hl x hx⟩, Nat.le_of_lt (lt_size ?_)⟩, fun x hx _ _ y hy _ _ => ⟨hl x hx, hl y hy⟩, Nat.le_of_lt (lt_size ?_)⟩
    · show s.length + (btd r l a).length ≤ _
      omega
    · show s.length + ((btd r l a).length + (btu r l a).length) ≤ _
      omega
end
end CS
namespace CS
open PySem L2
open Classical
section
variable {n : Nat} {r : Nat → Nat → Prop} {p : Pn}
/-! ## who is a partner -/
def Bt (r : Nat → Nat → Prop) (l : List Nat) (x y : Nat) : Prop := x ∈ l ∧ y ∈ l ∧ y ≠ x ∧ ((r y x ∧ ∀ z, z ∈ l → z ≠ x → r z x → r z y) ∨ (r x y ∧ ∀ z, z ∈ l → z ≠ x → r x z → r y z))
theorem mem_bts {l : List Nat} {q : Nat × Nat} : q ∈ bts r l ↔ Bt r l q.1 q.2 := by
  obtain ⟨x, y⟩ := q
  simp only [bts, List.mem_flatMap, bt1, List.mem_append, List.mem_map, btd, btu, List.mem_filter, Prod.mk.injEq, Bool.and_eq_true, decide_eq_true_eq, Bool.not_eq_true', decide_eq_false_iff_not]
  constructor
  · rintro ⟨a, ha, ⟨b, ⟨hb, h1, h2, h3⟩, rfl, rfl⟩ | ⟨b, ⟨hb, h1, h2, h3⟩, rfl, rfl⟩⟩
    · exact ⟨ha, hb, h2, .inl ⟨h3, fun z hz hza hr => Classical.byContradiction fun q => h1 z hz q hza hr⟩⟩
    · exact ⟨ha, hb, h2, .inr ⟨h3, fun z hz hza hr => Classical.byContradiction fun q => h1 z hz q hza hr⟩⟩
  · rintro ⟨hx, hy, hne, ⟨h1, h2⟩ | ⟨h1, h2⟩⟩
    · exact ⟨x, hx, .inl ⟨y, ⟨hy, fun z hz q hza hr => q (h2 z hz hza hr), hne, h1⟩, rfl, rfl⟩⟩
    · exact ⟨x, hx, .inr ⟨y, ⟨hy, fun z hz q hza hr => q (h2 z hz hza hr), hne, h1⟩, rfl, rfl⟩⟩
theorem head_iff {S : List Nat} {c : Nat → Prop} {i : ∀ a, Decidable (c a)} (hu : ∀ a b, a ∈ S → b ∈ S → c a → c b → a = b) {y : Nat} : y ∈ (S.filter fun a => @decide (c a) (i a))[0]?.toList ↔ y ∈ S ∧ c y := by
  cases h : S.filter fun a => @decide (c a) (i a) with
  | nil =>
    have := List.filter_eq_nil_iff.mp h
    simp
    intro hy hc
    exact this y hy (decide_eq_true hc)
  | cons a t =>
    have ha : a ∈ S.filter fun a => @decide (c a) (i a) := by rw [h]; exact List.mem_cons_self ..
    obtain ⟨h1, h2⟩ := List.mem_filter.mp ha
    have h2 := of_decide_eq_true h2
    simp
    constructor
    · rintro rfl; exact ⟨h1, h2⟩
    · rintro ⟨h3, h4⟩; exact hu _ _ h3 h1 h4 h2
theorem mem_ptn {l : List Nat} {x y : Nat} (P : Po n r) (hl : ∀ x ∈ l, x < n) (hx : x ∈ l) : y ∈ ptn n r l x ↔ Bt r l x y := by
  have hxn := hl x hx
  unfold ptn gsel lsel
  rw [List.mem_append, head_iff (c := fun a => ∀ z, z ∈ sel n (fun y => r y x ∧ y ≠ x ∧ y ∈ l) → r z a), head_iff (c := fun a => ∀ z, z ∈ sel n (fun y => r x y ∧ y ≠ x ∧ y ∈ l) → r a z)]
  · simp only [mem_sel]
    constructor
    · rintro (⟨⟨h0, h1, h2, h3⟩, h4⟩ | ⟨⟨h0, h1, h2, h3⟩, h4⟩)
      · exact ⟨hx, h3, h2, .inl ⟨h1, fun z hz hne hr => h4 z ⟨hl z hz, hr, hne, hz⟩⟩⟩
      · exact ⟨hx, h3, h2, .inr ⟨h1, fun z hz hne hr => h4 z ⟨hl z hz, hr, hne, hz⟩⟩⟩
    · rintro ⟨_, h3, h2, ⟨h1, h4⟩ | ⟨h1, h4⟩⟩
      · exact .inl ⟨⟨hl y h3, h1, h2, h3⟩, fun z ⟨_, hr, hne, hz⟩ => h4 z hz hne hr⟩
      · exact .inr ⟨⟨hl y h3, h1, h2, h3⟩, fun z ⟨_, hr, hne, hz⟩ => h4 z hz hne hr⟩
  · exact fun a b ha hb h1 h2 => P.anti _ _ (mem_sel.mp ha).1 (mem_sel.mp hb).1 (h1 b hb) (h2 a ha)
  · exact fun a b ha hb h1 h2 => P.anti _ _ (mem_sel.mp ha).1 (mem_sel.mp hb).1 (h2 a ha) (h1 b hb)
theorem beats_nil {l : List Nat} (P : Po n r) (hl : ∀ x ∈ l, x < n) : (∀ x, x ∈ l → ptn n r l x = []) ↔ bts r l = [] := by
  constructor
  · intro h
    apply List.eq_nil_iff_forall_not_mem.mpr
    intro q hq
    have hb := mem_bts.mp hq
    have := (mem_ptn P hl hb.1).mpr hb
    rw [h _ hb.1] at this; cases this
  · intro h x hx
    apply List.eq_nil_iff_forall_not_mem.mpr
    intro y hy
    have : (x, y) ∈ bts r l := mem_bts.mpr ((mem_ptn P hl hx).mp hy)
    rw [h] at this; cases this
/-! ## values that are kept -/
@[simp] theorem v_rowL {l : List D} : m_is_row [.lst l] p = .ok (.bl true, p) := by unfold m_is_row b_is_row; simp
@[simp] theorem v_rowT {l : List D} : m_is_row [.tup l] p = .ok (.bl true, p) := by unfold m_is_row b_is_row; simp
@[simp] theorem v_rowN : m_is_row [.non] p = .ok (.bl false, p) := by unfold m_is_row b_is_row; simp
@[simp] theorem v_rowI {i : Nat} : m_is_row [nI i] p = .ok (.bl false, p) := by unfold m_is_row b_is_row; simp
def itD : Option (List Nat) → D
  | none => .non
  | some l => .tup (l.map nI)
@[simp] theorem tup_l {l : List D} : tupleD [.lst l] = .ok (.tup l) := nr rfl
@[simp] theorem kept_I {k i : Nat} : m_kept (k + 1) [nI i] p = .ok (nI i, p) := by unfold m_kept b_kept; simp
@[simp] theorem kept_N {k : Nat} : m_kept (k + 1) [.non] p = .ok (.non, p) := by unfold m_kept b_kept; simp
theorem kept_T {k : Nat} {l : List Nat} (h : Sz l) : m_kept (k + 2) [.tup (l.map nI)] p = .ok (.tup (l.map nI), p) := by unfold m_kept b_kept; simp [h]
theorem kept_L {k : Nat} {l : List Nat} (h : Sz l) : m_kept (k + 2) [.lst (l.map nI)] p = .ok (.tup (l.map nI), p) := by unfold m_kept b_kept; simp [h]
theorem kept_it {k : Nat} {o : Option (List Nat)} (h : ∀ l, o = some l → Sz l) : m_kept (k + 2) [itD o] p = .ok (itD o, p) := by
  cases o with
  | none => exact kept_N
  | some l => exact kept_T (h l rfl)
theorem kept_R {k : Nat} {l : List (Option (List Nat))} (h : Sz l) (h2 : ∀ o ∈ l, ∀ u, o = some u → Sz u) : m_kept (k + 3) [.lst (l.map itD)] p = .ok (.tup (l.map itD), p) := by
  have hk : ∀ o, o ∈ l → ∀ p, m_kept (k + 2) [itD o] p = .ok (itD o, p) := fun o ho p => kept_it (h2 o ho)
  unfold m_kept b_kept
  simp only [x_fn]
  simp [h]
  rw [seqP_congr (g := fun o p => .ok (some (itD o), p)) rfl (fun o ho p => by rw [hk o ho p]; rfl) rfl]
  simp [h]
end
end CS
namespace CS
open PySem L2
open Classical
section
variable {n : Nat} {r : Nat → Nat → Prop} {p : Pn}
@[simp] theorem v_intI {i : Nat} : m_is_integer [nI i] p = .ok (.bl true, p) := by unfold m_is_integer b_is_integer; simp
@[simp] theorem v_intN : m_is_integer [.non] p = .ok (.bl false, p) := by unfold m_is_integer b_is_integer; simp
@[simp] theorem le_nn {a b : Nat} : leD (nI a) (nI b) = .ok (.bl (decide (a ≤ b))) := le_nat a b
@[simp] theorem v_point_of {n i : Nat} : m_is_point_of [nI n, nI i] p = .ok (.bl (decide (i < n)), p) := by
  unfold m_is_point_of b_is_point_of; simp
noncomputable def pairB (n : Nat) : Option (List Nat) → Bool
  | some [x, y] => decide (x < n ∧ y < n)
  | _ => false
@[simp] theorem all_bls {l : List Bool} : allD [.lst (l.map D.bl)] = .ok (.bl (l.all id)) := by
  exact all_map (fun b => b) l
@[simp] theorem all2 {a b : Bool} : allD [.lst [.bl a, .bl b]] = .ok (.bl (a && b)) := by
  have := all_bls (l := [a, b])
  simpa using this
@[simp] theorem v_pair_of {n : Nat} {o : Option (List Nat)} : m_is_pair_of [nI n, itD o] p = .ok (.bl (pairB n o), p) := by
  unfold m_is_pair_of b_is_pair_of
  match o with
  | none => simp [itD, pairB]
  | some [] => simp [itD, pairB]
  | some [a] => simp [itD, pairB]
  | some [a, b] => simp [itD, pairB]
  | some (a :: b :: c :: t) => simp [itD, pairB]
@[simp] theorem e_nil1 {a : Nat} : eqD (.lst [nI a]) (.lst []) = .ok (.bl false) := e_nil (l := [a])
@[simp] theorem e_nil2 {a b : Nat} : eqD (.lst [nI a, nI b]) (.lst []) = .ok (.bl false) := e_nil (l := [a, b])
@[simp] theorem e_nil0 : eqD (.lst []) (.lst []) = .ok (.bl true) := e_nil (l := [])
@[simp] theorem v_law_pair {n : Nat} {o : Option (List Nat)} : m_law_is_pair [itD o, nI n] p = .ok (.bl (pairB n o), p) := by
  unfold m_law_is_pair b_law_is_pair
  match o with
  | none => simp [itD, pairB]
  | some [] => simp [itD, pairB]
  | some [a] => simp [itD, pairB]
  | some [a, b] =>
    by_cases h1 : n ≤ a <;> by_cases h2 : n ≤ b <;> simp [itD, pairB, h1, h2, Nat.not_lt.mpr, Nat.lt_of_not_le] <;> omega
  | some (a :: b :: c :: t) => simp [itD, pairB]
@[simp] theorem notIn_l {a : Nat} {l : List Nat} : notInD (nI a) (.lst (l.map nI)) = .ok (.bl (decide (a ∉ l))) := notIn_nums rfl
def remD (ds : List D) (d : D) : Res (List D) := ((asI d).bind fun k => (toInts ds).bind fun is => if k ∈ is then .ok (is.erase k) else .bad).bind fun is => .ok (is.map D.int)
theorem toInts_nI : ∀ l : List Nat, toInts (l.map nI) = .ok (l.map fun (i : Nat) => (i : Int))
  | [] => rfl
  | a :: l => by
    show (toInts (l.map nI)).bind _ = _
    rw [toInts_nI l]; rfl
theorem erase_cast (x : Nat) : ∀ l : List Nat, ((l.map fun (i : Nat) => (i : Int)).erase (x : Int)).map D.int = (l.erase x).map nI
  | [] => rfl
  | a :: l => by
    by_cases h : a = x
    · subst h; simp; exact fun _ _ => rfl
    · have h2 : ((a : Int) == (x : Int)) = false := by simp; omega
      have h3 : (a == x) = false := by simp [h]
      rw [List.map_cons, List.erase_cons, List.erase_cons, h2, h3]
      simp only [Bool.false_eq_true, if_false, List.map_cons]
      rw [erase_cast x l]; rfl
@[simp] theorem remD_nI {l : List Nat} {x : Nat} : remD (l.map nI) (nI x) = grd (x ∈ l) (.ok ((l.erase x).map nI)) := by
  unfold remD
  show ((toInts (l.map nI)).bind fun is => if (x : Int) ∈ is then Res.ok (is.erase x) else .bad).bind _ = _
  rw [toInts_nI]
  simp only [xb_ok]
  by_cases h : x ∈ l
  · rw [if_pos (by simp; exact ⟨x, h, rfl⟩), grd_pos h]
    show Res.ok _ = _
    rw [erase_cast]
  · rw [if_neg (by simp; exact fun y hy e => h (by rw [← Int.ofNat_inj.mp e]; exact hy))]
    unfold grd; rw [if_neg h]; rfl
@[simp] theorem x_remove {i : Nat} {m : M D} {env : Env'} : mRemove i m env p = (getO env i).bind fun _ => (m env p).bind fun k => (getW k.2.1 i).bind fun ds => (remD ds k.1).bind fun ds' => .ok (.non, k.2.1.set i (.ow (.lst ds')), k.2.2) := by
  show ((getO env i).bind fun _ => .ok ((), env, p)).bind (fun x => _) = _
  cases getO env i with
  | bad => rfl
  | exc _ _ => rfl
  | ok ds0 =>
    simp only [xb_ok]
    show (m env p).bind _ = _
    congr 1; funext d
    show ((getW d.2.1 i).bind fun ds => .ok (ds, d.2.1, d.2.2)).bind (fun x => _) = _
    cases getW d.2.1 i with
    | bad => rfl
    | exc _ _ => rfl
    | ok ds =>
      simp only [xb_ok]
      unfold remD
      show ((Res.bind _ _).bind _).bind _ = _
      generalize ((asI d.1).bind fun k => (toInts ds).bind fun is => if k ∈ is then Res.ok (is.erase k) else Res.bad) = z
      cases z <;> rfl
/-! ## the steps, one after the other -/
noncomputable def runF (r : Nat → Nat → Prop) (w : D → D) (k : Nat) (l : List Nat) (q : Nat × Nat) : D ⊕ List Nat := if Bt r l q.1 q.2 then .inr (l.filter fun y => decide (y ≠ q.1)) else .inl (w (.tup [.str "step", nI k]))
theorem runF_map (w : D → D) : ∀ (qs : List (Nat × Nat)) (k : Nat) (l : List Nat), foldE (runF r w) k l qs = (foldE (runF r id) k l qs).elim (fun d => .inl (w d)) .inr
  | [], k, l => rfl
  | q :: qs, k, l => by
    unfold foldE runF
    by_cases h : Bt r l q.1 q.2
    · rw [if_pos h, if_pos h]
      exact runF_map w qs (k + 1) _
    · rw [if_neg h, if_neg h]; rfl
/-- what is said of a row of points that are left -/
structure Lft (n : Nat) (l : List Nat) : Prop where
  nd : l.Nodup
  lt : ∀ x ∈ l, x < n
  len : l.length ≤ 24
theorem Lft.filter {l : List Nat} (h : Lft n l) (c : Nat → Bool) : Lft n (l.filter c) := ⟨h.nd.filter _, fun x hx => h.lt x (List.mem_filter.mp hx).1, Nat.le_trans (List.length_filter_le _ _) h.len⟩
theorem Lft.all (hn : n ≤ 24) : Lft n (List.range n) := ⟨List.nodup_range, fun x hx => List.mem_range.mp hx, by rw [List.length_range]; exact hn⟩
theorem Lft.erase {l : List Nat} (h : Lft n l) (x : Nat) : l.erase x = l.filter fun y => decide (y ≠ x) := by
  rw [h.nd.erase_eq_filter]
  refine List.filter_congr fun y _ => ?_
  by_cases e : y = x <;> simp [e]
def prO (q : Nat × Nat) : Option (List Nat) := some [q.1, q.2]
theorem it_prO {q : Nat × Nat} : itD (prO q) = prD q := rfl
end
end CS
namespace CS
open PySem L2
open Classical
section
variable {n : Nat} {r : Nat → Nat → Prop} {p : Pn}
@[simp] theorem v_pair_prD {n : Nat} {q : Nat × Nat} : m_is_pair_of [nI n, prD q] p = .ok (.bl (decide (q.1 < n ∧ q.2 < n)), p) := v_pair_of (o := prO q)
@[simp] theorem v_lpair_prD {n : Nat} {q : Nat × Nat} : m_law_is_pair [prD q, nI n] p = .ok (.bl (decide (q.1 < n ∧ q.2 < n)), p) := v_law_pair (o := prO q)
@[simp] theorem pr_0 {q : Nat × Nat} : ixD (prD q) (nI 0) = .ok (nI q.1) := ix_nat (i := 0) rfl rfl
@[simp] theorem pr_1 {q : Nat × Nat} : ixD (prD q) (nI 1) = .ok (nI q.2) := ix_nat (i := 1) rfl rfl
@[simp] theorem rgL_nat' {n : Nat} (h : n ≤ 16777216) : rgL (nI n) = .ok (.lst ((List.range n).map nI)) := rgL_nat h
theorem v_steps_run (P : Po n r) (hn : n ≤ 24) {qs : List (Nat × Nat)} (hin : In n qs) (hz : qs.length ≤ 1000) :
    Ev (m_steps_fault [spc n r, .tup (qs.map prD)] p) fun v p' => p' = p ∧ (foldE (runF r fun d => .tup [d, .non]) 0 (List.range n) qs).elim (fun d => v = d) fun l => Lft n l ∧ v = .tup [.non, .lst (l.map nI)] := by
  have sz : Sz qs := .of (by omega)
  have hall : ∀ q, q ∈ qs → q.1 < n ∧ q.2 < n := hin
  have hn2 : n ≤ 16777216 := by omega
  unfold m_steps_fault b_steps_fault
  simp [sz, hn2]
  rw [if_neg (by rintro ⟨a, b, h1, h2⟩; have := hall _ h1; have := h2 this.1; omega)]
  refine forL_evR (fun k q => .tup [nI k, prD q]) (fun (l : List Nat) (j : Slot × Slot) => [.pl (spc n r), .pl (.tup (qs.map prD)), .ow (.lst (l.map nI)), j.1, j.2]) (runF r fun d => .tup [d, .non]) (fun _ l => Lft n l) qs (List.range n) (.un, .un) rfl (Lft.all hn) (fun i q l j hq hI => ?_) ?_
  · have hq1 := hall q (List.mem_of_getElem? hq)
    have hp := v_partners (n := n) (r := r) (p := p) (l := l) (x := q.1) hn hq1.1
    have he := hI.erase q.1
    unfold runF
    by_cases hb : Bt r l q.1 q.2
    · rw [if_pos hb]
      have h1 : q.1 ∈ l := hb.1
      have h2 : q.2 ∈ ptn n r l q.1 := (mem_ptn P hI.lt h1).mpr hb
      refine ⟨hI.filter _, ?_⟩
      simp [hp, h1, h2, he]
    · rw [if_neg hb]
      by_cases h1 : q.1 ∈ l
      · have h2 : ¬ q.2 ∈ ptn n r l q.1 := fun h => hb ((mem_ptn P hI.lt h1).mp h)
        simp [hp, h1, h2]
      · simp [h1]
  · cases hF : foldE (runF r fun d => D.tup [d, .non]) 0 (List.range n) qs with
    | inl d => simp
    | inr l => intro j hl; simp; exact hl
theorem v_steps_bad (hn : n ≤ 24) {l : List (Option (List Nat))} (hz : l.length ≤ 1000) (hb : ∃ o, o ∈ l ∧ pairB n o = false) : m_steps_fault [spc n r, .tup (l.map itD)] p = .ok (.tup [.tup [.str "steps"], .non], p) := by
  have sz : Sz l := .of (by omega)
  have : (l.all fun o => pairB n o) = false := by
    obtain ⟨o, h1, h2⟩ := hb
    rw [List.all_eq_false]
    exact ⟨o, h1, by rw [h2]; exact Bool.false_ne_true⟩
  unfold m_steps_fault b_steps_fault
  simp [sz, hb]
@[simp] theorem v_steps_N : m_steps_fault [spc n r, .non] p = .ok (.tup [.tup [.str "steps"], .non], p) := by
  unfold m_steps_fault b_steps_fault
  simp
@[simp] theorem v_steps_I {k : Nat} : m_steps_fault [spc n r, nI k] p = .ok (.tup [.tup [.str "steps"], .non], p) := by
  unfold m_steps_fault b_steps_fault
  simp
end
end CS
namespace CS
open PySem L2
open Classical
section
variable {n : Nat} {r : Nat → Nat → Prop} {p : Pn} {env : Env'}
@[simp] theorem x_noPart : mNoPart env p = .ok (none, env, p) := nr rfl
@[simp] theorem x_part {m : M D} : mPart m env p = (m env p).bind fun x => (asI x.1).bind fun i => .ok (some i, x.2.1, x.2.2) := by
  show (m env p).bind (fun x => ((asI x.1).bind fun i => .ok (i, x.2.1, x.2.2)).bind fun z => .ok (some z.1, z.2.1, z.2.2)) = _
  congr 1; funext x
  cases asI x.1 <;> rfl
@[simp] theorem x_slice {m : M D} {l h : M (Option Int)} : mSlice m l h env p = (m env p).bind fun x => (l x.2.1 x.2.2).bind fun lo => (h lo.2.1 lo.2.2).bind fun hi => (sliceD x.1 lo.1 hi.1).bind fun z => .ok (z, hi.2.1, hi.2.2) := nr rfl
@[simp] theorem asI_nI {k : Nat} : asI (nI k) = .ok (k : Int) := nr rfl
@[simp] theorem slice3 {a b c : D} : sliceD (.tup [a, b, c]) (some 1) none = .ok (.tup [b, c]) := nr rfl
@[simp] theorem t3_0 {a b c : D} : ixD (.tup [a, b, c]) (nI 0) = .ok a := ix_nat (i := 0) rfl rfl
@[simp] theorem t3_1 {a b c : D} : ixD (.tup [a, b, c]) (nI 1) = .ok b := ix_nat (i := 1) rfl rfl
@[simp] theorem t3_2 {a b c : D} : ixD (.tup [a, b, c]) (nI 2) = .ok c := ix_nat (i := 2) rfl rfl
@[simp] theorem t2_0 {a b : D} : ixD (.tup [a, b]) (nI 0) = .ok a := ix_nat (i := 0) rfl rfl
@[simp] theorem t2_1 {a b : D} : ixD (.tup [a, b]) (nI 1) = .ok b := ix_nat (i := 1) rfl rfl
theorem sh_str {a : Str} (h : (PyData.str a).canLay0 = true) : (D.str a).sh 40 = true := by simpa [D.sh] using h
theorem e_str {a b : Str} (ha : (D.str a).sh 40 = true) (hb : (D.str b).sh 40 = true) : eqD (.str a) (.str b) = .ok (.bl (decide (a = b))) := by
  unfold eqD D.eqv
  rw [ha, hb]
  simp only [D.py, PyData.eqv, Bool.and_true, if_true]
  congr 2
theorem n_str {a b : Str} (ha : (D.str a).sh 40 = true) (hb : (D.str b).sh 40 = true) : neD (.str a) (.str b) = .ok (.bl (decide (a ≠ b))) := by
  unfold neD D.eqv
  rw [ha, hb]
  simp only [D.py, PyData.eqv, Bool.and_true, if_true]
  congr 2
  by_cases h : a = b <;> simp [h]
theorem s_co : (Str.ofString "core" : Str) ≠ Str.ofString "other" := by decide
@[simp] theorem e_co : eqD (.str "core") (.str "other") = .ok (.bl false) := by rw [e_str (sh_str (by decide +kernel)) (sh_str (by decide +kernel)), decide_eq_false s_co]
@[simp] theorem e_oo : eqD (.str "other") (.str "other") = .ok (.bl true) := by rw [e_str (sh_str (by decide +kernel)) (sh_str (by decide +kernel)), decide_eq_true rfl]
@[simp] theorem n_co : neD (.str "core") (.str "other") = .ok (.bl true) := by rw [n_str (sh_str (by decide +kernel)) (sh_str (by decide +kernel)), decide_eq_true s_co]
@[simp] theorem n_oo : neD (.str "other") (.str "other") = .ok (.bl false) := by rw [n_str (sh_str (by decide +kernel)) (sh_str (by decide +kernel)), decide_eq_false (by simp)]
theorem prs_pl (l : List (Nat × Nat)) : ∀ d ∈ l.map prD, d.pl 9 = true := fun d h => by
  obtain ⟨q, _, rfl⟩ := List.mem_map.mp h
  exact pl_mono (pl_prD q) 9 (by decide)
theorem mem_prD {q : Nat × Nat} {l : List (Nat × Nat)} : prD q ∈ l.map prD ↔ q ∈ l := by
  rw [List.mem_map]
  exact ⟨fun ⟨b, h, e⟩ => by rw [← prD_inj.mp e]; exact h, fun h => ⟨q, h, rfl⟩⟩
@[simp] theorem notIn_pr {q : Nat × Nat} {l : List (Nat × Nat)} : notInD (prD q) (.lst (l.map prD)) = .ok (.bl (decide (q ∉ l))) := by
  rw [notInD_pl (ds := l.map prD) rfl (pl_mono (pl_prD q) 9 (by decide)) (prs_pl l)]
  congr 2
  exact decide_eq_decide.mpr (not_congr mem_prD)
@[simp] theorem n_nilK {α : Type} {k : Nat} {l : List α} : neD (.lst (l.map fun _ => nI k)) (.lst []) = .ok (.bl (decide (l ≠ []))) := by
  have := n_nil (l := l.map fun _ => k)
  rw [List.map_map] at this
  rw [show (l.map fun _ => nI k) = l.map (nI ∘ fun _ => k) from rfl, this]
  congr 2
  exact decide_eq_decide.mpr (by simp)
@[simp] theorem n_nilP {l : List (Nat × Nat)} : neD (.lst (l.map prD)) (.lst []) = .ok (.bl (decide (l ≠ []))) := by
  rw [neD_pl (pl_mono (pl_lst (n := 1) fun d h => by obtain ⟨q, _, rfl⟩ := List.mem_map.mp h; exact pl_prD q) 9 (by decide)) (by rfl)]
  congr 2
  exact decide_eq_decide.mpr (by simp)
@[simp] theorem e_nilP {l : List (Nat × Nat)} : eqD (.lst (l.map prD)) (.lst []) = .ok (.bl (decide (l = []))) := by
  rw [eqD_pl (pl_mono (pl_lst (n := 1) fun d h => by obtain ⟨q, _, rfl⟩ := List.mem_map.mp h; exact pl_prD q) 9 (by decide)) (by rfl)]
  congr 2
  exact decide_eq_decide.mpr (by simp)
@[simp] theorem n_nil0 : neD (.lst []) (.lst []) = .ok (.bl false) := by
  have := n_nil (l := [])
  simpa using this
@[simp] theorem n_ll {a b : List Nat} : neD (.lst (a.map nI)) (.lst (b.map nI)) = .ok (.bl (decide (a ≠ b))) := by
  rw [neD_pl (pl_mono (pl_lst (pl_nums a 0)) 9 (by decide)) (pl_mono (pl_lst (pl_nums b 0)) 9 (by decide))]
  congr 2
  exact decide_eq_decide.mpr (not_congr (by simp [map_nI_inj]))
@[simp] theorem n_tt {a b : List Nat} : neD (.tup (a.map nI)) (.tup (b.map nI)) = .ok (.bl (decide (a ≠ b))) := by
  rw [neD_pl (pl_mono (pl_tup (pl_nums a 0)) 9 (by decide)) (pl_mono (pl_tup (pl_nums b 0)) 9 (by decide))]
  congr 2
  exact decide_eq_decide.mpr (not_congr (by simp [map_nI_inj]))
@[simp] theorem n_nt {b : List Nat} : neD .non (.tup (b.map nI)) = .ok (.bl true) := by
  unfold neD
  rw [if_pos (by rw [pl_sh 9 40 _ (by decide) (pl_mono (pl_tup (pl_nums b 0)) 9 (by decide))]; rfl)]
  rfl
@[simp] theorem list_l' {l : List D} : listD [.lst l] = .ok (.lst l) := nr rfl
@[simp] theorem list_t' {l : List D} : listD [.tup l] = .ok (.lst l) := nr rfl
def ptD : Option (List Nat) → D
  | none => .non
  | some l => .lst (l.map nI)
def ptK : Option (List Nat) → D
  | none => .non
  | some l => .tup (l.map nI)
/-- what is said of the end -/
noncomputable def finD (r : Nat → Nat → Prop) (pt : Option (List Nat)) (l : List Nat) : D := if pt = some l then (if bts r l = [] then .non else .tup [.str "beat"]) else .tup [.str "points"]
theorem v_due_run (hn : n ≤ 24) {qs : List (Nat × Nat)} (hin : In n qs) (hz : qs.length ≤ 1000) {pt : Option (List Nat)} :
    m_law_due [tblD n r, .tup [.str "core", .lst (qs.map prD), ptD pt]] p = .ok ((foldE (runF r id) 0 (List.range n) qs).elim id (finD r pt), p) := by
  suffices h : Ev (m_law_due [tblD n r, .tup [.str "core", .lst (qs.map prD), ptD pt]] p) fun v p' => p' = p ∧ v = (foldE (runF r id) 0 (List.range n) qs).elim id (finD r pt) by
    obtain ⟨v, p', e, rfl, rfl⟩ := h
    exact e
  have sz : Sz qs := .of (by omega)
  have hall : ∀ q, q ∈ qs → q.1 < n ∧ q.2 < n := hin
  have hn2 : n ≤ 16777216 := by omega
  unfold m_law_due b_law_due
  simp [sz, hn2]
  rw [if_neg (by rintro ⟨a, b, h1, h2⟩; have := hall _ h1; have := h2 this.1; omega)]
  refine forL_evR (fun k q => .tup [nI k, prD q]) (fun (l : List Nat) (j : Slot × Slot) => [.pl (tblD n r), .pl (.tup [.str "core", .lst (qs.map prD), ptD pt]), .pl (.lst (qs.map prD)), .pl (ptD pt), .pl (.lst (l.map nI)), j.1, j.2, .un]) (runF r id) (fun _ l => Lft n l) qs (List.range n) (.un, .un) rfl (Lft.all hn) (fun i q l j hq hI => ?_) ?_
  · have hb := v_beats (n := n) (r := r) (p := p) hI.lt hI.len
    have sl : Sz l := .of (by have := hI.len; omega)
    unfold runF
    by_cases hB : Bt r l q.1 q.2
    · rw [if_pos hB]
      have h2 : q ∈ bts r l := mem_bts.mpr hB
      refine ⟨hI.filter _, ?_⟩
      simp [hb, h2, sl]
    · rw [if_neg hB]
      have h2 : ¬ q ∈ bts r l := fun h => hB (mem_bts.mp h)
      simp [hb, h2]
  · cases hF : foldE (runF r id) 0 (List.range n) qs with
    | inl d => simp
    | inr l =>
      intro j hl
      have hb := v_beats (n := n) (r := r) (p := p) hl.lt hl.len
      unfold finD
      cases pt with
      | none => simp [ptD]
      | some u =>
        by_cases e : u = l
        · subst e
          by_cases e2 : bts r u = [] <;> simp [ptD, hb, e2]
        · simp [ptD, e]
theorem v_due_bad (hn : n ≤ 24) {l : List (Option (List Nat))} (hz : l.length ≤ 1000) (hb : ∃ o, o ∈ l ∧ pairB n o = false) {pt : D} : m_law_due [tblD n r, .tup [.str "core", .lst (l.map itD), pt]] p = .ok (.tup [.str "steps"], p) := by
  have sz : Sz l := .of (by omega)
  unfold m_law_due b_law_due
  simp [sz, hb]
theorem v_due_N {pt : D} : m_law_due [tblD n r, .tup [.str "core", .non, pt]] p = .ok (.tup [.str "steps"], p) := by
  unfold m_law_due b_law_due
  simp
theorem v_due_I {k : Nat} {pt : D} : m_law_due [tblD n r, .tup [.str "core", nI k, pt]] p = .ok (.tup [.str "steps"], p) := by
  unfold m_law_due b_law_due
  simp
theorem slice2 {a b : D} : sliceD (.tup [a, b]) (some 1) none = .ok (.tup [b]) := rfl
theorem v_due_O {v : D} : m_law_due [tblD n r, .tup [.str "other", v]] p = .ok (.tup [.str "answer"], p) := by
  unfold m_law_due b_law_due
  simp
end
end CS
namespace CS
open PySem L2
open Classical
section
variable {n : Nat} {r : Nat → Nat → Prop} {p : Pn} {env : Env'}
/-! making objects -/
def Out.finI : Out → Res (D × Pn)
  | .nx env p' => (ownIns env).bind fun d => .ok (d, p')
  | .exc c xs => .exc c xs
  | _ => .bad
@[simp] theorem fi_nx : (Out.nx env p).finI = (ownIns env).bind fun d => .ok (d, p) := nr rfl
@[simp] theorem x_init {c : Str} {n N : Nat} {body : SS} {ds : List D} : initD c n N body ds p = if ds.length = n then (body (Slot.ow (.ins c [] []) :: ds.map Slot.pl ++ List.replicate (N - (n + 1)) Slot.un) p).finI else .bad := by
  unfold initD
  split
  · unfold Out.finI
    cases body (Slot.ow (.ins c [] []) :: ds.map Slot.pl ++ List.replicate (N - (n + 1)) Slot.un) p <;> rfl
  · rfl
@[simp] theorem oi_0 {c : Str} {ns : List Str} {xs : List D} {e : Env'} : ownIns (.ow (.ins c ns xs) :: e) = .ok (.ins c ns xs) := nr rfl
@[simp] theorem giw0 {c : Str} {ns : List Str} {xs : List D} {e : Env'} : getIW (.ow (.ins c ns xs) :: e) 0 = .ok (c, ns, xs) := nr rfl
@[simp] theorem x_fldS {i : Nat} {cl : List Str} {f : Str} {m : M D} : dFldS i cl f m env p = (m env p).out fun d e p => match getIW e i with
  | .ok (c, ns, ds) => if c ∈ cl ∧ f ∉ ns ∧ ns.length < 1000 ∧ ds.length = ns.length then .nx (e.set i (.ow (.ins c (ns ++ [f]) (ds ++ [d])))) p else .bad
  | _ => .bad := x_of
@[simp] theorem ia_ins {cl : List Str} {c k : Str} {ns : List Str} {xs : List D} : isA cl (.ins c ns xs) (.cls k) = if k ∈ cl then (if c ∈ cl then .ok (decide (c = k)) else .bad) else .bad := by cases cl <;> rfl
@[simp] theorem ia_nonC {cl : List Str} {k : Str} : isA cl .non (.cls k) = if k ∈ cl then .ok false else .bad := by cases cl <;> rfl
@[simp] theorem ia_tupC {cl : List Str} {k : Str} {l : List D} : isA cl (.tup l) (.cls k) = if k ∈ cl then .ok false else .bad := by cases cl <;> rfl
@[simp] theorem ia_strC {cl : List Str} {k s : Str} : isA cl (.str s) (.cls k) = if k ∈ cl then .ok false else .bad := by cases cl <;> rfl
@[simp] theorem ia_nIC {cl : List Str} {k : Str} {i : Nat} : isA cl (nI i) (.cls k) = if k ∈ cl then .ok false else .bad := by cases cl <;> rfl
/-! the law's own answers -/
inductive St where
  | non
  | num (k : Nat)
  | rows (l : List (Option (List Nat)))
def St.D : St → D
  | .non => .non
  | .num k => nI k
  | .rows l => .lst (l.map itD)
def St.K : St → CS.D
  | .non => .non
  | .num k => nI k
  | .rows l => .tup (l.map itD)
def St.Ok (m : Nat) : St → Prop
  | .rows l => l.length ≤ m ∧ ∀ o ∈ l, ∀ u, o = some u → u.length ≤ 3
  | _ => True
theorem St.ok_rows {m : Nat} {l : List (Option (List Nat))} (h : St.Ok m (.rows l)) : l.length ≤ m := h.1
theorem St.ok_it {m : Nat} {l : List (Option (List Nat))} (h : St.Ok m (.rows l)) : ∀ o ∈ l, ∀ u, o = some u → u.length ≤ 3 := h.2
def coreD (st : St) (pt : Option (List Nat)) : CS.D := .ins "Core" ["steps", "points"] [st.K, ptK pt]
theorem kept_st {st : St} (h : st.Ok 1000) : m_kept 12 [st.D] p = .ok (st.K, p) := by
  cases st with
  | non => exact kept_N
  | num k => exact kept_I
  | rows l => exact kept_R (.of (by have := St.ok_rows h; omega)) fun o ho u hu => .of (by have := St.ok_it h o ho u hu; omega)
theorem kept_pt {pt : Option (List Nat)} (h : ∀ l, pt = some l → l.length ≤ 1000) : m_kept 12 [ptD pt] p = .ok (ptK pt, p) := by
  cases pt with
  | none => exact kept_N
  | some l => exact kept_L (.of (by have := h l rfl; omega))
theorem s_sp : (Str.ofString "points" : Str) ≠ Str.ofString "steps" := by decide
theorem v_Core {st : St} {pt : Option (List Nat)} (h : st.Ok 1000) (h2 : ∀ l, pt = some l → l.length ≤ 1000) : m_Core_init [st.D, ptD pt] p = .ok (coreD st pt, p) := by
  unfold m_Core_init b_Core_init
  simp [kept_st h, kept_pt h2, s_sp]
  rfl
theorem pairs_of : ∀ {l : List (Option (List Nat))}, (∀ o, o ∈ l → pairB n o = true) → ∃ qs : List (Nat × Nat), l = qs.map prO ∧ In n qs
  | [], _ => ⟨[], rfl, fun _ h => nomatch h⟩
  | o :: l, h => by
    obtain ⟨qs, rfl, hin⟩ := pairs_of fun o ho => h o (List.mem_cons_of_mem _ ho)
    have ho := h o (List.mem_cons_self ..)
    match o, ho with
    | some [x, y], ho =>
      simp [pairB] at ho
      exact ⟨(x, y) :: qs, rfl, fun q hq => by
        rcases List.mem_cons.mp hq with rfl | hq
        · exact ho
        · exact hin q hq⟩
    | none, ho => simp [pairB] at ho
    | some [], ho => simp [pairB] at ho
    | some [_], ho => simp [pairB] at ho
    | some (_ :: _ :: _ :: _), ho => simp [pairB] at ho
/-- a told fault -/
def FlD (d : CS.D) : Prop := d = .non ∨ (∃ s : Str, (PyData.str s).canLay0 = true ∧ d = .tup [.str s]) ∨ ∃ (s : Str) (k : Nat), (PyData.str s).canLay0 = true ∧ d = .tup [.str s, nI k]
theorem fl_ne {d : CS.D} (h : FlD d) : neD d d = .ok (.bl false) := by
  rcases h with rfl | ⟨s, hs, rfl⟩ | ⟨s, k, hs, rfl⟩
  · unfold neD D.eqv; simp [D.sh, D.py, PyData.eqv]
  · unfold neD D.eqv; simp [D.sh, D.shs, D.py, D.pys, PyData.eqv, PyData.eqvAll, hs]
  · unfold neD D.eqv; simp [D.sh, D.shs, D.py, D.pys, PyData.eqv, PyData.eqvAll, hs, nI]
theorem fin_fl {pt : Option (List Nat)} {l : List Nat} : FlD (finD r pt l) := by
  unfold finD
  split
  · split
    · exact .inl rfl
    · exact .inr (.inl ⟨_, by decide +kernel, rfl⟩)
  · exact .inr (.inl ⟨_, by decide +kernel, rfl⟩)
theorem run_fl {pt : Option (List Nat)} : ∀ (qs : List (Nat × Nat)) (k : Nat) (l : List Nat), FlD ((foldE (runF r id) k l qs).elim id (finD r pt))
  | [], k, l => fin_fl
  | q :: qs, k, l => by
    unfold foldE runF
    by_cases h : Bt r l q.1 q.2
    · rw [if_pos h]
      exact run_fl qs (k + 1) _
    · rw [if_neg h]
      exact .inr (.inr ⟨_, k, by decide +kernel, rfl⟩)
theorem run_inl : ∀ (qs : List (Nat × Nat)) (k : Nat) (l : List Nat) {d : CS.D}, foldE (runF r id) k l qs = .inl d → ∃ ds, d = .tup ds
  | [], k, l, d, h => by cases h
  | q :: qs, k, l, d, h => by
    unfold foldE runF at h
    by_cases hb : Bt r l q.1 q.2
    · rw [if_pos hb] at h
      exact run_inl qs (k + 1) _ h
    · rw [if_neg hb] at h
      cases h
      exact ⟨_, rfl⟩
@[simp] theorem nn_tup {l : List CS.D} : notN (.tup l) .non = .ok (.bl true) := nr rfl
theorem v_core1 (P : Po n r) (hn : n ≤ 24) {a b : CS.D} : m_core_fault [spc n r, .ins "Core" ["steps", "points"] [a, b]] p = m_right_core_fault [spc n r, .ins "Core" ["steps", "points"] [a, b]] p := by
  have np := v_need_parted (p := p) hn P
  unfold m_core_fault b_core_fault
  generalize m_need_parted = f at np ⊢
  simp [np]
  cases m_right_core_fault [spc n r, .ins "Core" ["steps", "points"] [a, b]] p <;> rfl
theorem v_core0 (P : Po n r) (hn : n ≤ 24) {v : CS.D} (hv : v = .non ∨ v = .tup [] ∨ v = .str "core" ∨ v = nI 3) : m_core_fault [spc n r, v] p = .ok (.tup [.str "answer"], p) := by
  have np := v_need_parted (p := p) hn P
  unfold m_core_fault b_core_fault
  generalize m_need_parted = f at np ⊢
  rcases hv with rfl | rfl | rfl | rfl <;> simp [np]
theorem v_fault (P : Po n r) (hn : n ≤ 24) {st : St} {pt : Option (List Nat)} (h : st.Ok 1000) (h2 : ∀ l, pt = some l → l.length ≤ 1000) :
    ∃ d, FlD d ∧ m_core_fault [spc n r, coreD st pt] p = .ok (d, p) ∧ m_law_due [tblD n r, .tup [.str "core", st.D, ptD pt]] p = .ok (d, p) := by
  have hs : FlD (.tup [.str "steps"]) := .inr (.inl ⟨_, by decide +kernel, rfl⟩)
  have f1 : ∀ {a b : CS.D}, fldD ["Core"] "steps" (.ins "Core" ["steps", "points"] [a, b]) = .ok a := fun {a b} => rfl
  have f2 : ∀ {a b : CS.D}, fldD ["Core"] "points" (.ins "Core" ["steps", "points"] [a, b]) = .ok b := fun {a b} => rfl
  cases st with
  | non =>
    refine ⟨_, hs, ?_, v_due_N⟩
    unfold coreD St.K
    rw [v_core1 P hn]
    unfold m_right_core_fault b_right_core_fault
    simp [f1]
  | num k =>
    refine ⟨_, hs, ?_, v_due_I⟩
    unfold coreD St.K
    rw [v_core1 P hn]
    unfold m_right_core_fault b_right_core_fault
    simp [f1]
  | rows l =>
    by_cases hb : ∃ o, o ∈ l ∧ pairB n o = false
    · refine ⟨_, hs, ?_, v_due_bad hn (St.ok_rows h) hb⟩
      have := v_steps_bad (r := r) (p := p) hn (St.ok_rows h) hb
      unfold coreD St.K
      rw [v_core1 P hn]
      unfold m_right_core_fault b_right_core_fault
      simp [f1, this]
    · obtain ⟨qs, rfl, hin⟩ := pairs_of (n := n) (l := l) fun o ho => by
        cases hq : pairB n o with
        | true => rfl
        | false => exact absurd ⟨o, ho, hq⟩ hb
      have hz : qs.length ≤ 1000 := by have := St.ok_rows h; rw [List.length_map] at this; exact this
      have em : (qs.map prO).map itD = qs.map prD := by rw [List.map_map]; rfl
      refine ⟨_, run_fl qs 0 (List.range n), ?_, by show m_law_due [tblD n r, .tup [.str "core", .lst ((qs.map prO).map itD), ptD pt]] p = _; rw [em]; exact v_due_run hn hin hz⟩
      obtain ⟨v, p', e, rfl, hv⟩ := v_steps_run (r := r) (p := p) P hn hin hz
      rw [runF_map] at hv
      have ek : coreD (.rows (qs.map prO)) pt = .ins "Core" ["steps", "points"] [.tup (qs.map prD), ptK pt] := by rw [← em]; rfl
      rw [ek, v_core1 P hn]
      unfold m_right_core_fault b_right_core_fault
      generalize m_steps_fault = f at e ⊢
      cases hF : foldE (runF r id) 0 (List.range n) qs with
      | inl d =>
        rw [hF] at hv
        have hv : v = .tup [d, .non] := hv
        have hd := run_fl (r := r) (pt := pt) qs 0 (List.range n)
        rw [hF] at hd
        have hne : notN d .non = .ok (.bl true) := by obtain ⟨ds, rfl⟩ := run_inl _ _ _ hF; rfl
        simp [f1, e, hv, hne]
      | inr l =>
        rw [hF] at hv
        obtain ⟨hl, hv⟩ := hv
        obtain ⟨v2, p2, e2, rfl, s, hs, he⟩ := v_all_beats (n := n) (r := r) (p := p') hn hl.lt (by have := hl.len; omega)
        rw [beats_nil P hl.lt] at he
        have hs2 : (s.length = 0) ↔ bts r l = [] := by rw [← he]; exact List.length_eq_zero_iff
        unfold finD
        generalize m_all_beats = g at e2 ⊢
        cases pt with
        | none => simp [f1, f2, e, hv, ptK]
        | some u =>
          by_cases h3 : u = l
          · subst h3
            by_cases h4 : bts r u = []
            · have := hs2.mpr h4
              simp [f1, f2, e, hv, ptK, e2, hs, h4, this]
            · have := mt hs2.mp h4
              simp [f1, f2, e, hv, ptK, e2, hs, h4, this]
          · simp [f1, f2, e, hv, ptK, h3]
end
end CS
namespace CS
open PySem L2
open Classical
/-- a loop that draws and may break -/
theorem forL_dr {α : Type} {b : Bd} {body : SS} (h : α → D) (Inv : List α → Env' → Pn → Prop) (Post : Env' → Pn → Prop) (l : List α)
    (hs : ∀ done a rest env p, l = done ++ a :: rest → Inv done env p → (∃ e2 p2, stepF b body (h a) env p = .nx e2 p2 ∧ Inv (done ++ [a]) e2 p2) ∨ ∃ e2 p2, stepF b body (h a) env p = .bk e2 p2 ∧ Post e2 p2)
    (he : ∀ env p, Inv l env p → Post env p) {env : Env'} {p : Pn} (h0 : Inv [] env p) : ∃ e' p', dForL b body (l.map h) env p = .nx e' p' ∧ Post e' p' := by
  have go : ∀ (rest done : List α) (env : Env') (p : Pn), l = done ++ rest → Inv done env p → ∃ e' p', dForL b body (rest.map h) env p = .nx e' p' ∧ Post e' p' := by
    intro rest
    induction rest with
    | nil => intro done env p e hi; exact ⟨env, p, rfl, he _ _ (by rw [e, List.append_nil]; exact hi)⟩
    | cons a rest ih =>
      intro done env p e hi
      rcases hs done a rest env p e hi with ⟨e2, p2, h1, h2⟩ | ⟨e2, p2, h1, h2⟩
      · obtain ⟨e3, p3, h3, h4⟩ := ih (done ++ [a]) e2 p2 (by rw [e]; simp) h2
        refine ⟨e3, p3, ?_, h4⟩
        rw [← h3]
        unfold stepF at h1
        rw [List.map_cons]
        conv => lhs; unfold dForL
        cases hb : b (h a) env with
        | ok e1 =>
          rw [hb] at h1
          dsimp only at h1 ⊢
          cases ho : body e1 p <;> rw [ho] at h1 <;> first | (cases h1; rfl) | cases h1
        | bad => rw [hb] at h1; cases h1
        | exc _ _ => rw [hb] at h1; cases h1
      · refine ⟨e2, p2, ?_, h2⟩
        unfold stepF at h1
        rw [List.map_cons]
        conv => lhs; unfold dForL
        cases hb : b (h a) env with
        | ok e1 =>
          rw [hb] at h1
          dsimp only at h1 ⊢
          cases ho : body e1 p <;> rw [ho] at h1 <;> first | (cases h1; rfl) | cases h1
        | bad => rw [hb] at h1; cases h1
        | exc _ _ => rw [hb] at h1; cases h1
  exact go l [] env p rfl h0
@[simp] theorem oc_bk {e : Env'} {p : Pn} : (Out.bk e p).cont = .bk e p := nr rfl
/-- a loop that draws, with what follows it -/
theorem forL_evD {α : Type} {b : Bd} {body k : SS} {Q : D → Pn → Prop} (h : α → D) (Inv : List α → Env' → Pn → Prop) (Post : Env' → Pn → Prop) (l : List α)
    (hs : ∀ done a rest env p, l = done ++ a :: rest → Inv done env p → (∃ e2 p2, stepF b body (h a) env p = .nx e2 p2 ∧ Inv (done ++ [a]) e2 p2) ∨ ∃ e2 p2, stepF b body (h a) env p = .bk e2 p2 ∧ Post e2 p2)
    (he : ∀ env p, Inv l env p → Post env p) {env : Env'} {p : Pn} (h0 : Inv [] env p) (hk : ∀ e p, Post e p → Ev (k e p).fin Q) : Ev ((dForL b body (l.map h) env p).then k).fin Q := by
  obtain ⟨e', p', h1, h2⟩ := forL_dr h Inv Post l hs he h0
  rw [h1]
  exact hk _ _ h2
@[simp] theorem neg_1 : negD (nI 1) = .ok (.int (-1)) := nr rfl
@[simp] theorem ix_last {l : List D} {d : D} : ixD (.lst (l ++ [d])) (.int (-1)) = .ok d := by
  show (match atI (l ++ [d]) (-1) with
    | some d => Res.ok d
    | none => .bad) = _
  rw [atI_last]
section
variable {n : Nat} {r : Nat → Nat → Prop}
theorem bts_lt {l : List Nat} {q : Nat × Nat} (hl : ∀ x ∈ l, x < n) (h : q ∈ bts r l) : q.1 < n ∧ q.2 < n := by
  have := mem_bts.mp h
  exact ⟨hl _ this.1, hl _ this.2.1⟩
theorem bts_len {l : List Nat} (hl : l.length ≤ 24) : (bts r l).length ≤ 24 * 48 := by
  have := flat_len (bt1 r l) 48 l fun a _ => by
    unfold bt1
    have h1 := btd_len (r := r) (l := l) (a := a)
    have h2 := btu_len (r := r) (l := l) (a := a)
    simp; omega
  unfold bts
  omega
theorem v_way {P : Pen} {c : Nat} (hP : P.Ok c) (hc : c ≤ 500000) (hn : n ≤ 24) : ∃ (qs : List (Nat × Nat)) (l : List Nat) (P' : Pen), m_law_way [.pen, tblD n r] (some P) = .ok (.tup [.str "core", .lst (qs.map prD), .lst (l.map nI)], some P') ∧ qs.length ≤ 24 ∧ Lft n l ∧ P'.Ok (c + 100) := by
  suffices h : Ev (m_law_way [.pen, tblD n r] (some P)) fun v p' => ∃ (qs : List (Nat × Nat)) (l : List Nat) (P' : Pen), v = .tup [.str "core", .lst (qs.map prD), .lst (l.map nI)] ∧ p' = some P' ∧ qs.length ≤ 24 ∧ Lft n l ∧ P'.Ok (c + 100) by
    obtain ⟨v, p', e, qs, l, P', rfl, rfl, h⟩ := h
    exact ⟨qs, l, P', e, h⟩
  have hn2 : n ≤ 16777216 := by omega
  unfold m_law_way b_law_way
  simp only [x_fn, x_seq]
  rw [show dTwPO 2 3 (m1 rgL (mCB lenD (mCons (dVar 1) mNil))) (mLst mNil) (List.map Slot.pl [D.pen, tblD n r] ++ List.replicate (7 - 2) Slot.un) (some P) = .nx [.pl .pen, .pl (tblD n r), .pl (.lst ((List.range n).map nI)), .ow (.lst []), .un, .un, .un] (some P) by unfold dTwPO; simp [hn2]]
  simp [rg1_nat hn2]
  refine forL_evD nI (fun done env p => ∃ (qs : List (Nat × Nat)) (l : List Nat) (P' : Pen) (j1 j2 : Slot), env = [.pl .pen, .pl (tblD n r), .pl (.lst (l.map nI)), .ow (.lst (qs.map prD)), j1, j2, .un] ∧ p = some P' ∧ qs.length = done.length ∧ Lft n l ∧ P'.Ok (c + 2 * done.length))
    (fun env p => ∃ (qs : List (Nat × Nat)) (l : List Nat) (P' : Pen) (j1 j2 : Slot), env = [.pl .pen, .pl (tblD n r), .pl (.lst (l.map nI)), .ow (.lst (qs.map prD)), j1, j2, .un] ∧ p = some P' ∧ qs.length ≤ 24 ∧ Lft n l ∧ P'.Ok (c + 100)) (List.range n)
    (fun done a rest env p hd ⟨qs, l, P', j1, j2, he, hp, hq, hl, hO⟩ => ?_) (fun env p ⟨qs, l, P', j1, j2, he, hp, hq, hl, hO⟩ => ⟨qs, l, P', j1, j2, he, hp, by rw [hq]; simp; exact hn, hl, hO.mono (by simp; omega)⟩) ⟨[], List.range n, P, .un, .un, rfl, rfl, rfl, Lft.all hn, hP⟩
    (fun env p ⟨qs, l, P', j1, j2, he, hp, hq, hl, hO⟩ => by subst he hp; simp; exact ⟨qs, l, ⟨rfl, rfl⟩, hq, hl, hO⟩)
  subst he hp
  have hdl : done.length < n := by
    have := congrArg List.length hd
    simp at this; omega
  have hb := v_beats (n := n) (r := r) (p := some P') hl.lt hl.len
  by_cases h0 : bts r l = []
  · right
    refine ⟨_, _, by simp [hb, h0]; first | exact ⟨rfl, rfl⟩ | rfl, qs, l, P', _, _, rfl, rfl, by omega, hl, hO.mono (by omega)⟩
  · obtain ⟨k, P1, hk, hdr, hO1⟩ := vd hO (by omega) (m := 12) (by omega) (by omega)
    by_cases hk0 : k = 0
    · right
      subst hk0
      refine ⟨_, _, by simp [hb, h0, hdr]; first | exact ⟨rfl, rfl⟩ | rfl, qs, l, P1, _, _, rfl, rfl, by omega, hl, hO1.mono (by omega)⟩
    · left
      have hbl := bts_len (r := r) hl.len
      obtain ⟨d, P2, hd2, hpk, hO2⟩ := v_pick (X := .lst ((bts r l).map prD)) (ds := (bts r l).map prD) hO1 (by omega) rfl rfl (by simpa using h0) (by simp; omega)
      obtain ⟨q, hq2, rfl⟩ := List.mem_map.mp hd2
      have sz : Sz l := .of (by have := hl.len; omega)
      have hz := lt_size (n := qs.length) (by omega)
      refine ⟨_, _, by simp [hb, h0, hdr, hk0, hpk, sz, grdO_pos, hq, lt_size (n := done.length) (by omega)]; first | exact ⟨rfl, rfl⟩ | rfl, qs ++ [q], l.filter fun y => decide (y ≠ q.1), P2, .pl (nI a), .pl (.lst ((bts r l).map prD)), ?_, rfl, by simp [hq], hl.filter _, hO2.mono (by simp; omega)⟩
      simp
end
end CS
namespace CS
open PySem L2
open Classical
theorem x_parD {env : Env'} {p : Pn} {i j : Nat} {m n : M D} : dPar i j m n env p = (m env p).out fun x e p => (n e p).out fun y e p => .nx ((e.set i (.pl x)).set j (.pl y)) p := by
  unfold dPar
  rw [x_of]
  simp only [x_bind]
  cases m env p with
  | ok a =>
    simp only [xb_ok]
    obtain ⟨a, e, p⟩ := a
    show Res.out ((n e p).bind _) _ = (n e p).out _
    cases n e p <;> rfl
  | bad => rfl
  | exc _ _ => rfl
@[simp] theorem add_nn {a b : Nat} : addD (nI a) (nI b) = .ok (nI (a + b)) := add_nat a b
@[simp] theorem cut_to {l : List D} {k : Nat} : sliceD (.lst l) none (some (k : Int)) = .ok (.lst (l.take k)) := by
  show Res.ok (D.lst ((l.drop 0).take (HT.sIx l.length l.length (some (k : Int)) - 0))) = _
  rw [HT.sIx_nat, List.drop_zero, Nat.sub_zero]
  congr 2
  rw [List.take_eq_take_iff]; omega
@[simp] theorem cut_from {l : List D} {k : Nat} : sliceD (.lst l) (some (k : Int)) none = .ok (.lst (l.drop k)) := by
  show Res.ok (D.lst ((l.drop (HT.sIx l.length 0 (some (k : Int)))).take (l.length - HT.sIx l.length 0 (some (k : Int))))) = _
  rw [HT.sIx_nat]
  congr 2
  rw [List.take_of_length_le (by rw [List.length_drop]; omega)]
  by_cases h : k ≤ l.length
  · rw [Nat.min_eq_left h]
  · rw [Nat.min_eq_right (by omega), List.drop_length, List.drop_of_length_le (by omega)]
@[simp] theorem rev_l {l : List D} : revD (.lst l) = .ok (.lst l.reverse) := nr rfl
@[simp] theorem x_setItem {env : Env'} {p : Pn} {i : Nat} {m k : M D} : dSetItem i m k env p = (m env p).out fun d e p => ((getO e i).bind fun _ => (k e p).bind fun j => (getW j.2.1 i).bind fun ds => (putAt ds j.1 d).bind fun ds' => .ok ((), j.2.1.set i (.ow (.lst ds')), j.2.2)).out fun _ e p => .nx e p := by
  unfold dSetItem
  rw [x_of]
  simp only [x_bind]
  cases m env p with
  | ok a =>
    simp only [xb_ok]
    obtain ⟨d, e, p⟩ := a
    show Res.out (((getO e i).bind fun _ => .ok ((), e, p)).bind _) _ = _
    simp only [xo_ok]
    cases getO e i with
    | ok ds0 =>
      simp only [xb_ok]
      show Res.out ((k e p).bind _) _ = _
      cases k e p with
      | ok j =>
        simp only [xb_ok]
        show Res.out (((getW j.2.1 i).bind fun ds => .ok (ds, j.2.1, j.2.2)).bind _) _ = _
        cases getW j.2.1 i with
        | ok ds =>
          simp only [xb_ok]
          show Res.out (((putAt ds j.1 d).bind fun a => .ok (a, j.2.1, j.2.2)).bind _) _ = _
          cases putAt ds j.1 d <;> rfl
        | bad => rfl
        | exc _ _ => rfl
      | bad => rfl
      | exc _ _ => rfl
    | bad => rfl
    | exc _ _ => rfl
  | bad => rfl
  | exc _ _ => rfl
@[simp] theorem put_nI {ds : List D} {k : Nat} {d : D} : putAt ds (nI k) d = grd (k < ds.length) (.ok (ds.set k d)) := by
  unfold putAt
  rw [asI_nI]
  simp only [xb_ok]
  by_cases h : k < ds.length
  · rw [ixN_nat' h, grd_pos h]
  · unfold grd ixN
    rw [if_pos (by omega), if_neg (by omega), if_neg h]
@[simp] theorem it_tup {cl : List Str} {o : Option (List Nat)} : isA cl (itD o) (.ty "tuple") = .ok o.isSome := by cases o <;> rfl
@[simp] theorem it_len {u : List Nat} : lenD [itD (some u)] = .ok (nI u.length) := by
  unfold itD; rw [len_t, List.length_map]
@[simp] theorem it_at0 {a b : Nat} : ixD (itD (some [a, b])) (nI 0) = .ok (nI a) := ix_nat (i := 0) rfl rfl
@[simp] theorem cut_from1 {l : List D} {k : Nat} : sliceD (.lst l) (some ((k : Int) + 1)) none = .ok (.lst (l.drop (k + 1))) := cut_from (k := k + 1)
/-- the law's own answers, right and bent -/
inductive An where
  | oth (v : D)
  | core (st : St) (pt : Option (List Nat))
def An.D : An → CS.D
  | .oth v => .tup [.str "other", v]
  | .core st pt => .tup [.str "core", st.D, ptD pt]
def OthV (v : D) : Prop := v = .non ∨ v = .tup [] ∨ v = .str "core" ∨ v = nI 3
def An.Ok (m : Nat) : An → Prop
  | .oth v => OthV v
  | .core st pt => st.Ok m ∧ ∀ l, pt = some l → l.length ≤ 100
section
variable {n : Nat}
def St.lst : St → List (Option (List Nat))
  | .rows l => l
  | _ => []
theorem St.Ok.mono {a b : Nat} (h : a ≤ b) {st : St} (o : st.Ok a) : st.Ok b := by
  cases st with
  | rows l => exact ⟨Nat.le_trans o.1 h, o.2⟩
  | _ => trivial
theorem v_bent {P : Pen} {c m : Nat} (hP : P.Ok c) (hc : c ≤ 500000) (hn : n ≤ 24) (h0 : 1 ≤ n) (hm : m ≤ 500) {st : St} {pt : Option (List Nat)} (hst : st.Ok m) (hpt : ∀ l, pt = some l → l.length ≤ 100) :
    ∃ (a : An) (P' : Pen), m_law_bent [.pen, nI n, .tup [.str "core", st.D, ptD pt]] (some P) = .ok (a.D, some P') ∧ a.Ok (m + 1) ∧ P'.Ok (c + 20) := by
  obtain ⟨way, P1, hway, hd1, hO1⟩ := vd hP (by omega) (m := 7) (by omega) (by omega)
  by_cases w0 : way = 0
  · subst w0
    obtain ⟨v, P2, hv, hpk, hO2⟩ := v_pick (X := .lst [.non, .tup [], .str "core", nI 3]) (ds := [.non, .tup [], .str "core", nI 3]) hO1 (by omega) rfl rfl (by simp) (by simp)
    refine ⟨.oth v, P2, ?_, ?_, hO2.mono (by omega)⟩
    · unfold m_law_bent b_law_bent
      simp [x_parD, hd1, hpk]
      rfl
    · simpa [An.Ok, OthV] using hv
  -- rows
  have hrows : mIf (mB (mIsaT ["Space", "Core"] (dVar 3) (mCons (M.ret (.ty "list")) (mCons (M.ret (.ty "tuple")) mNil)))) (mCB listD (mCons (dVar 3) mNil)) (mLst mNil) [.pl .pen, .pl (nI n), .pl (.tup [.str "core", st.D, ptD pt]), .pl st.D, .pl (ptD pt), .pl (nI way), .un, .un, .un] (some P1) = .ok (.lst (st.lst.map itD), [.pl .pen, .pl (nI n), .pl (.tup [.str "core", st.D, ptD pt]), .pl st.D, .pl (ptD pt), .pl (nI way), .un, .un, .un], some P1) := by
    cases st <;> simp [St.D, St.lst]
  have hL : st.lst.length ≤ m ∧ ∀ o ∈ st.lst, ∀ u, o = some u → u.length ≤ 3 := by
    cases st with
    | rows l => exact hst
    | _ => exact ⟨Nat.zero_le _, fun o h => nomatch h⟩
  generalize hLe : st.lst = L at hrows hL
  obtain ⟨at_, P2, hat, hd2, hO2⟩ := vd hO1 (by omega) (m := L.length + 1) (by omega) (by omega)
  obtain ⟨x, P3, hx, hdx, hO3⟩ := vd hO2 (by omega) (m := n) (by omega) (by omega)
  obtain ⟨y, P4, hy, hdy, hO4⟩ := vd hO3 (by omega) (m := n) (by omega) (by omega)
  obtain ⟨nw, P5, hnw, hd5, hO5⟩ := v_pick (X := .lst [itD (some [x, y]), itD (some [0, 0, 0]), itD (some [0, n]), itD none, itD (some [0])]) (ds := [itD (some [x, y]), itD (some [0, 0, 0]), itD (some [0, n]), itD none, itD (some [0])]) hO4 (by omega) rfl rfl (by simp) (by simp)
  have hnw : ∃ o : Option (List Nat), nw = itD o ∧ ∀ u, o = some u → u.length ≤ 3 := by
    simp at hnw
    rcases hnw with rfl | rfl | rfl | rfl | rfl <;> exact ⟨_, rfl, fun u hu => by cases hu <;> simp⟩
  obtain ⟨o, rfl, ho⟩ := hnw
  have hd5 : m_law_pick [.pen, .lst [.tup [nI x, nI y], .tup [nI 0, nI 0, nI 0], .tup [nI 0, nI n], .non, .tup [nI 0]]] (some P4) = .ok (itD o, some P5) := hd5
  obtain ⟨v, P7, hv, hdp, hO7⟩ := v_pick (X := .lst [.non, .lst [], .lst [nI 0], .lst ((List.range n).map nI), ptD pt]) (ds := [.non, .lst [], .lst [nI 0], .lst ((List.range n).map nI), ptD pt]) hO5 (by omega) rfl rfl (by simp) (by simp)
  have hv : ∃ pt' : Option (List Nat), v = ptD pt' ∧ ∀ l, pt' = some l → l.length ≤ 100 := by
    simp at hv
    rcases hv with rfl | rfl | rfl | rfl | rfl
    · exact ⟨none, rfl, fun l h => nomatch h⟩
    · exact ⟨some [], rfl, fun l h => by cases h; simp⟩
    · exact ⟨some [0], rfl, fun l h => by cases h; simp⟩
    · exact ⟨some (List.range n), rfl, fun l h => by cases h; simp; omega⟩
    · exact ⟨pt, rfl, hpt⟩
  obtain ⟨pt', rfl, hpt'⟩ := hv
  have hOp := hO7.mono (b := c + 20) (by omega)
  have hn2 : n ≤ 16777216 := by omega
  have hst' := hst.mono (Nat.le_succ m)
  have sz1 : L.length + 1 ≤ sizeLine := Nat.le_of_lt (lt_size (by omega))
  suffices h : Ev (m_law_bent [.pen, nI n, .tup [.str "core", st.D, ptD pt]] (some P)) fun v p' => ∃ (a : An) (P' : Pen), v = a.D ∧ p' = some P' ∧ a.Ok (m + 1) ∧ P'.Ok (c + 20) by
    obtain ⟨v, p', e, a, P', rfl, rfl, h⟩ := h
    exact ⟨a, P', e, h⟩
  have hway2 : way = 1 ∨ way = 2 ∨ way = 3 ∨ way = 4 ∨ way = 5 ∨ way = 6 := by omega
  unfold m_law_bent b_law_bent
  simp [x_parD, hd1, w0, hrows, -x_if, hd2, hdx, hdy, hd5]
  rcases hway2 with rfl | rfl | rfl | rfl | rfl | rfl
  · have hs := sz1
    have hO := hO5.mono (b := c + 20) (by omega)
    simp
    refine ⟨⟨by omega, by omega⟩, .core (.rows (L.take at_ ++ o :: L.drop at_)) pt, by simp [An.D, St.D], ⟨⟨by simp; omega, fun z hz u hu => ?_⟩, hpt⟩, hO⟩
    rcases List.mem_append.mp hz with hz | hz
    · exact hL.2 z (List.mem_of_mem_take hz) u hu
    · rcases List.mem_cons.mp hz with rfl | hz
      · exact ho u hu
      · exact hL.2 z (List.mem_of_mem_drop hz) u hu
  · have hO := hO5.mono (b := c + 20) (by omega)
    simp
    refine ⟨by omega, .core (.rows (L.take at_ ++ L.drop (at_ + 1))) pt, by simp [An.D, St.D], ⟨⟨by simp; omega, fun z hz u hu => ?_⟩, hpt⟩, hO⟩
    rcases List.mem_append.mp hz with hz | hz
    · exact hL.2 z (List.mem_of_mem_take hz) u hu
    · exact hL.2 z (List.mem_of_mem_drop hz) u hu
  · obtain ⟨v, P6, hv, hd6, hO6⟩ := v_pick (X := .lst [.non, nI 4, .lst (L.map itD).reverse]) (ds := [.non, nI 4, .lst (L.map itD).reverse]) hO5 (by omega) rfl rfl (by simp) (by simp)
    have hO := hO6.mono (b := c + 20) (by omega)
    simp [hd6]
    simp at hv
    rcases hv with rfl | rfl | rfl
    · exact ⟨.core .non pt, rfl, ⟨trivial, hpt⟩, hO⟩
    · exact ⟨.core (.num 4) pt, rfl, ⟨trivial, hpt⟩, hO⟩
    · exact ⟨.core (.rows L.reverse) pt, by simp [An.D, St.D], ⟨⟨by simp; omega, fun z hz u hu => hL.2 z (List.mem_reverse.mp hz) u hu⟩, hpt⟩, hO⟩
  · by_cases h4 : ∃ (h : at_ < L.length) (a b : Nat), L[at_] = some [a, b]
    · obtain ⟨h41, a, b, h42⟩ := h4
      obtain ⟨z, P6, hz, hd6, hO6⟩ := vd hO5 (by omega) (m := n) (by omega) (by omega)
      have hO := hO6.mono (b := c + 20) (by omega)
      simp [h41, h42, hd6]
      refine ⟨.core (.rows (L.set at_ (some [a, z]))) pt, by simp [An.D, St.D, List.map_set]; rfl, ⟨⟨by simp; omega, fun w hw u hu => ?_⟩, hpt⟩, hO⟩
      rcases List.mem_or_eq_of_mem_set hw with hw | rfl
      · exact hL.2 w hw u hu
      · cases hu; simp
    · by_cases h5 : at_ < L.length
      · cases h6 : L[at_] with
        | none =>
          simp [h5, h6, hdp, hn2]
          exact ⟨.core st pt', rfl, ⟨hst', hpt'⟩, hOp⟩
        | some u =>
          have h7 : ¬ u.length = 2 := fun z => by
            match u, z with
            | [a, b], _ => exact h4 ⟨h5, a, b, h6⟩
          simp [h5, h6, h7, hdp, hn2]
          exact ⟨.core st pt', rfl, ⟨hst', hpt'⟩, hOp⟩
      · simp [h5, hdp, hn2]
        exact ⟨.core st pt', rfl, ⟨hst', hpt'⟩, hOp⟩
  · simp [hdp, hn2]
    exact ⟨.core st pt', rfl, ⟨hst', hpt'⟩, hOp⟩
  · simp [hdp, hn2]
    exact ⟨.core st pt', rfl, ⟨hst', hpt'⟩, hOp⟩
end
end CS
namespace CS
open PySem L2
open Classical
/-! ## what is the same -/
mutual
theorem eqv_refl : ∀ (n : Nat) (d : D), D.sh n d = true → PyData.eqv d.py d.py = true
  | n, .non, _ => by simp [D.py, PyData.eqv]
  | n, .bl b, _ => by simp [D.py, PyData.eqv]
  | n, .int i, _ => by simp [D.py, PyData.eqv]
  | n, .str s, _ => by simp [D.py, PyData.eqv]
  | 0, .tup ds, h => by simp [D.sh] at h
  | 0, .lst ds, h => by simp [D.sh] at h
  | n + 1, .tup ds, h => by
    simp only [D.py, PyData.eqv]
    exact eqvs_refl n ds (by simpa [D.sh] using h)
  | n + 1, .lst ds, h => by
    simp only [D.py, PyData.eqv]
    exact eqvs_refl n ds (by simpa [D.sh] using h)
  | n, .ins _ _ _, h => by simp [D.sh] at h
  | n, .pen, h => by simp [D.sh] at h
  | n, .ty _, h => by simp [D.sh] at h
  | n, .cls _, h => by simp [D.sh] at h
theorem eqvs_refl : ∀ (n : Nat) (ds : List D), D.shs n ds = true → PyData.eqvAll (D.pys ds) (D.pys ds) = true
  | n, [], _ => by simp [D.pys, PyData.eqvAll]
  | n, d :: ds, h => by
    simp only [D.shs, Bool.and_eq_true] at h
    simp only [D.pys, PyData.eqvAll, Bool.and_eq_true]
    exact ⟨eqv_refl n d h.1, eqvs_refl n ds h.2⟩
end
theorem eqD_refl {d : D} (h : d.sh 40 = true) : eqD d d = .ok (.bl true) := by
  unfold eqD D.eqv
  rw [h, if_pos (by rfl), eqv_refl 40 d h]
theorem sh_mono : ∀ (n k : Nat) (d : D), n ≤ k → D.sh n d = true → D.sh k d = true := by
  intro n
  induction n with
  | zero =>
    intro k d _ h
    cases d <;> simp [D.sh] at h ⊢
    exact h
  | succ n ih =>
    intro k d hk h
    obtain ⟨k, rfl⟩ : ∃ j, k = j + 1 := ⟨k - 1, by omega⟩
    cases d <;> simp only [D.sh] at h ⊢ <;> first | exact h | (rw [shs_all, List.all_eq_true] at h ⊢; exact fun x hx => ih k x (by omega) (h x hx))
theorem sh_tup {n : Nat} {ds : List D} (h : ∀ d ∈ ds, D.sh n d = true) : D.sh (n + 1) (.tup ds) = true := by
  simp only [D.sh]; rw [shs_all, List.all_eq_true]; exact h
theorem sh_nI (n k : Nat) : D.sh n (nI k) = true := by unfold nI; cases n <;> simp [D.sh]
theorem sh_non (n : Nat) : D.sh n .non = true := by cases n <;> simp [D.sh]
theorem sh_nums (n : Nat) (l : List Nat) : ∀ d ∈ l.map nI, D.sh n d = true := fun d h => by
  obtain ⟨k, _, rfl⟩ := List.mem_map.mp h
  exact sh_nI n k
theorem sh_it (o : Option (List Nat)) : D.sh 1 (itD o) = true := by
  cases o with
  | none => exact sh_non 1
  | some l => exact sh_tup (sh_nums 0 l)
theorem sh_K (st : St) : D.sh 2 st.K = true := by
  cases st with
  | non => exact sh_non 2
  | num k => exact sh_nI 2 k
  | rows l =>
    refine sh_tup (n := 1) fun d h => ?_
    obtain ⟨o, _, rfl⟩ := List.mem_map.mp h
    exact sh_it o
theorem sh_ptK (pt : Option (List Nat)) : D.sh 2 (ptK pt) = true := by
  cases pt with
  | none => exact sh_non 2
  | some l => exact sh_tup (n := 1) (sh_nums 1 l)
theorem sh_pair (st : St) (pt : Option (List Nat)) : D.sh 40 (.tup [st.K, ptK pt]) = true := sh_mono 3 40 _ (by decide) (sh_tup (n := 2) fun d h => by
  rcases List.mem_cons.mp h with rfl | h
  · exact sh_K st
  · rcases List.mem_cons.mp h with rfl | h
    · exact sh_ptK pt
    · cases h)
section
variable {p : Pn} {env : Env'}
@[simp] theorem cf_steps {a b : D} : fldD ["Core"] "steps" (.ins "Core" ["steps", "points"] [a, b]) = .ok a := nr rfl
@[simp] theorem cf_points {a b : D} : fldD ["Core"] "points" (.ins "Core" ["steps", "points"] [a, b]) = .ok b := nr rfl
theorem v_Core_eq {a b a2 b2 : D} {k : Bool} (h : eqD (.tup [a, b]) (.tup [a2, b2]) = .ok (.bl k)) : m_Core_eq [.ins "Core" ["steps", "points"] [a, b], .ins "Core" ["steps", "points"] [a2, b2]] p = .ok (.bl k, p) := by
  unfold m_Core_eq b_Core_eq
  simp [h]
@[simp] theorem x_m2M {f : D → D → M D} {a b : M D} : m2M f a b env p = (a env p).bind fun x => (b x.2.1 x.2.2).bind fun y => f x.1 y.1 y.2.1 y.2.2 := nr rfl
theorem x_eqM {neg : Bool} {a b a2 b2 : D} {k : Bool} (h : eqD (.tup [a, b]) (.tup [a2, b2]) = .ok (.bl k)) : eqM neg "Core" m_Core_eq (.ins "Core" ["steps", "points"] [a, b]) (.ins "Core" ["steps", "points"] [a2, b2]) env p = .ok (.bl (if neg then !k else k), env, p) := by
  unfold eqM
  dsimp only
  rw [if_pos ⟨rfl, rfl⟩]
  show ((m_Core_eq _ p).bind fun r => .ok (r.1, env, r.2)).bind _ = _
  rw [v_Core_eq h]
  rfl
@[simp] theorem x_bor2 {m : M D} : mBor2 m env p = (m (env.map Slot.fz) p).bind fun r => if r.1.noL = true ∧ env.all Slot.ownL = true then .ok (r.1, env, r.2.2) else .bad := nr rfl
theorem kept_RT {k : Nat} {l : List (Option (List Nat))} (h : Sz l) (h2 : ∀ o ∈ l, ∀ u, o = some u → Sz u) : m_kept (k + 3) [.tup (l.map itD)] p = .ok (.tup (l.map itD), p) := by
  have hk : ∀ o, o ∈ l → ∀ p, m_kept (k + 2) [itD o] p = .ok (itD o, p) := fun o ho p => kept_it (h2 o ho)
  unfold m_kept b_kept
  simp only [x_fn]
  simp [h]
  rw [seqP_congr (g := fun o p => .ok (some (itD o), p)) rfl (fun o ho p => by rw [hk o ho p]; rfl) rfl]
  simp [h]
theorem v_CoreT {l : List (Option (List Nat))} {u : List Nat} (h : l.length ≤ 1000) (h1 : ∀ o ∈ l, ∀ u, o = some u → u.length ≤ 3) (h2 : u.length ≤ 1000) : m_Core_init [.tup (l.map itD), .tup (u.map nI)] p = .ok (coreD (.rows l) (some u), p) := by
  have e1 : m_kept 12 [.tup (l.map itD)] p = .ok (.tup (l.map itD), p) := kept_RT (.of (by omega)) fun o ho u hu => .of (by have := h1 o ho u hu; omega)
  have e2 : m_kept 12 [.tup (u.map nI)] p = .ok (.tup (u.map nI), p) := kept_T (.of (by omega))
  unfold m_Core_init b_Core_init
  simp [e1, e2, s_sp]
  rfl
end
theorem ev_true {o : Out} (h : Ev o.fin fun v _ => v = .bl true) : ∃ p', o = .rt (.bl true) p' := by
  obtain ⟨v, p', e, rfl⟩ := h
  cases o with
  | nx e2 p2 => cases e
  | rt d p2 => cases e; exact ⟨_, rfl⟩
  | bk _ _ => cases e
  | ct _ _ => cases e
  | exc _ _ => cases e
  | bad => cases e
end CS
namespace CS
open PySem L2
open Classical
theorem an_0 (a : An) : ixD a.D (nI 0) = .ok (match a with | .oth _ => .str "other" | .core _ _ => .str "core") := by
  cases a <;> exact ix_nat (i := 0) rfl rfl
/-- answers are bent -/
theorem An.Ok.mono {a b : Nat} (h : a ≤ b) {x : An} (o : x.Ok a) : x.Ok b := by
  cases x with
  | oth v => exact o
  | core st pt => exact ⟨o.1.mono h, o.2⟩
theorem s_bend {n m : Nat} (hn : n ≤ 7) (h0 : 1 ≤ n) {k : Nat} (hk : k ≤ 2) (hm : m ≤ 400) {A B C : D} {j6 j8 j9 : Slot} {a : An} {c : Nat} {P : Pen} (ha : a.Ok m) (o8 : j8.ownL = true) (hP : P.Ok c) (hc : c ≤ 400000) :
    ∃ e' p', dForL (bNm 8) (dSet 7 (mIf (mB (m2 eqD (m2 ixD (dVar 7) (M.ret (nI 0))) (M.ret (.str "other")))) (dVar 7) (mCall m_law_bent [] (mCons (dVar 1) (mCons (dVar 2) (mCons (dVar 7) mNil)))))) ((List.range k).map nI)
      [.un, .pl .pen, .pl (nI n), .pl A, .pl B, .pl C, j6, .pl a.D, j8, j9, .un, .un] (some P) = .nx e' p' ∧ ∃ (a' : An) (P' : Pen) (j8 : Slot), e' = [.un, .pl .pen, .pl (nI n), .pl A, .pl B, .pl C, j6, .pl a'.D, j8, j9, .un, .un] ∧ p' = some P' ∧ a'.Ok (m + 2) ∧ P'.Ok (c + 50) ∧ j8.ownL = true := by
  refine forL_dr nI (fun done env p => ∃ (a' : An) (P' : Pen) (j8 : Slot), env = [.un, .pl .pen, .pl (nI n), .pl A, .pl B, .pl C, j6, .pl a'.D, j8, j9, .un, .un] ∧ p = some P' ∧ a'.Ok (m + done.length) ∧ P'.Ok (c + 20 * done.length) ∧ j8.ownL = true)
    (fun e' p' => ∃ (a' : An) (P' : Pen) (j8 : Slot), e' = [.un, .pl .pen, .pl (nI n), .pl A, .pl B, .pl C, j6, .pl a'.D, j8, j9, .un, .un] ∧ p' = some P' ∧ a'.Ok (m + 2) ∧ P'.Ok (c + 50) ∧ j8.ownL = true) (List.range k) (fun done x rest env p hd ⟨a', P', j, he, hp, hO, hP', oj⟩ => ?_) (fun env p ⟨a', P', j, he, hp, hO, hP', oj⟩ => ⟨a', P', j, he, hp, hO.mono (by simp; omega), hP'.mono (by simp; omega), oj⟩) ⟨a, P, j8, rfl, rfl, ha, hP, o8⟩
  subst he hp
  left
  have hdl : done.length < k := by
    have := congrArg List.length hd
    simp at this; omega
  cases a' with
  | oth v =>
    refine ⟨_, _, by simp [An.D] <;> exact ⟨rfl, rfl⟩, .oth v, P', .pl (nI x), rfl, rfl, hO.mono (by simp <;> omega), hP'.mono (by simp <;> omega), rfl⟩
  | core st pt =>
    obtain ⟨a2, P2, h1, h2, h3⟩ := v_bent (n := n) hP' (by omega) (by omega) h0 (by omega) hO.1 hO.2
    refine ⟨_, _, by simp [An.D, h1] <;> exact ⟨rfl, rfl⟩, a2, P2, .pl (nI x), rfl, rfl, h2.mono (by simp <;> omega), h3.mono (by simp <;> omega), rfl⟩
theorem law_true (ns : List Int) (_ : ns.length ≤ 63) : ∃ p', b_law (.un :: .pl .pen :: List.replicate 10 .un) (some (pen0 ns)) = .rt (.bl true) p' := by
  obtain ⟨n, ps, P1, h1, g1, hn, hO1⟩ := v_some_space (pen0_ok ns) (by omega) (m := 7) (by omega) (by omega)
  obtain ⟨f, hf⟩ := g1.rk
  have P : Po n (Rt ps) := Po.rt hf
  have hlen := g1.len
  have hpos := g1.pos
  have hS := v_Space n ps (by omega) g1.inn (by omega) (some P1)
  have hT := v_table (n := n) (by omega) g1.inn (some P1)
  apply ev_true
  unfold b_law
  simp [x_parD, h1, hS, hT, rg1_nat]
  refine forL_evD nI (fun done env p => ∃ (P' : Pen) (j6 j7 j8 j9 : Slot), env = [.un, .pl .pen, .pl (nI n), .pl (.lst (ps.map prD)), .pl (spc n (Rt ps)), .pl (tblD n (Rt ps)), j6, j7, j8, j9, .un, .un] ∧ p = some P' ∧ P'.Ok (1000 + 200 * done.length) ∧ j6.ownL = true ∧ j7.ownL = true ∧ j8.ownL = true ∧ j9.ownL = true)
    (fun env p => ∃ (P' : Pen) (j6 j7 j8 j9 : Slot), env = [.un, .pl .pen, .pl (nI n), .pl (.lst (ps.map prD)), .pl (spc n (Rt ps)), .pl (tblD n (Rt ps)), j6, j7, j8, j9, .un, .un] ∧ j6.ownL = true ∧ j7.ownL = true ∧ j8.ownL = true ∧ j9.ownL = true) (List.range 9)
    (fun done x rest env p hd ⟨P', j6, j7, j8, j9, he, hp, hO, o6, o7, o8, o9⟩ => ?_) (fun env p ⟨P', j6, j7, j8, j9, he, hp, hO, oo⟩ => ⟨P', j6, j7, j8, j9, he, oo⟩) ⟨P1, .un, .un, .un, .un, rfl, rfl, hO1, rfl, rfl, rfl, rfl⟩ fun env p ⟨P', j6, j7, j8, j9, he, o6, o7, o8, o9⟩ => ?_
  · subst he hp
    left
    have hdl : done.length < 9 := by
      have := congrArg List.length hd
      simp at this; omega
    obtain ⟨qs, l, P2, hw, hq, hl, hO2⟩ := v_way (n := n) (r := Rt ps) hO (by omega) (by omega)
    obtain ⟨k, P3, hk, hpk, hO3⟩ := v_pick (X := .lst [nI 0, nI 1, nI 1, nI 2]) (ds := [nI 0, nI 1, nI 1, nI 2]) hO2 (by omega) rfl rfl (by simp) (by simp)
    have hk : ∃ i, i ≤ 2 ∧ k = nI i := by
      simp at hk
      rcases hk with rfl | rfl | rfl
      · exact ⟨0, by omega, rfl⟩
      · exact ⟨1, by omega, rfl⟩
      · exact ⟨2, by omega, rfl⟩
    obtain ⟨i, hi, rfl⟩ := hk
    have ha : An.Ok 24 (.core (.rows (qs.map prO)) (some l)) := ⟨⟨by simpa using hq, fun o ho u hu => by
      obtain ⟨q, _, rfl⟩ := List.mem_map.mp ho
      cases hu; simp⟩, fun u hu => by cases hu; have := hl.len; omega⟩
    have ea : An.D (.core (.rows (qs.map prO)) (some l)) = .tup [.str "core", .lst (qs.map prD), .lst (l.map nI)] := by
      show D.tup [.str "core", .lst ((qs.map prO).map itD), .lst (l.map nI)] = _
      rw [List.map_map]; rfl
    obtain ⟨e4, p4, hb, a, P4, j8', rfl, rfl, ha', hO4, o8'⟩ := s_bend (n := n) hn hpos hi (m := 24) (by omega) (A := .lst (ps.map prD)) (B := spc n (Rt ps)) (C := tblD n (Rt ps)) (j6 := .pl (nI x)) (j8 := j8) (j9 := j9) ha o8 hO3 (by omega)
    rw [ea] at hb
    simp [hw, hpk, rg1_nat (n := i) (by omega), hb]
    cases a with
    | oth v =>
      have f1 := v_core0 (n := n) (r := Rt ps) (p := some P4) P (by omega) ha'
      have f2 := v_due_O (n := n) (r := Rt ps) (p := some P4) (v := v)
      have f3 : neD (.tup [.str "answer"]) (.tup [.str "answer"]) = .ok (.bl false) := fl_ne (.inr (.inl ⟨_, by decide +kernel, rfl⟩))
      simp [An.D, f1, f2, f3, o8']
      exact ⟨_, _, ⟨rfl, rfl⟩, P4, _, _, _, _, rfl, rfl, hO4.mono (by omega), rfl, rfl, o8', rfl⟩
    | core st pt =>
      obtain ⟨hst, hpt⟩ := ha'
      have hpt2 : ∀ u, pt = some u → u.length ≤ 1000 := fun u hu => by have := hpt u hu; omega
      have c1 := v_Core (p := some P4) (hst.mono (b := 1000) (by omega)) hpt2
      obtain ⟨d, fd, f1, f2⟩ := v_fault (n := n) (r := Rt ps) (p := some P4) P (by omega) (hst.mono (b := 1000) (by omega)) hpt2
      have f3 := fl_ne fd
      have f4 : ∀ env p, eqM true "Core" m_Core_eq (coreD st pt) (coreD st pt) env p = .ok (.bl false, env, p) := fun env p => x_eqM (neg := true) (k := true) (eqD_refl (sh_pair st pt))
      simp [An.D, c1, f1, f2, f3, f4, o8']
      exact ⟨_, _, ⟨rfl, rfl⟩, P4, _, _, _, _, rfl, rfl, hO4.mono (by omega), rfl, rfl, o8', rfl⟩
  · subst he
    have k1 : m_Core_init [.lst [.tup [nI 0, nI 1]], .lst [nI 1]] p = .ok (coreD (.rows [some [0, 1]]) (some [1]), p) := v_Core (st := .rows [some [0, 1]]) (pt := some [1]) ⟨by simp, fun o ho u hu => by simp at ho; subst ho; cases hu; simp⟩ (fun u hu => by cases hu; simp)
    have k2 : m_Core_init [.tup [.tup [nI 0, nI 1]], .tup [nI 1]] p = .ok (coreD (.rows [some [0, 1]]) (some [1]), p) := v_CoreT (l := [some [0, 1]]) (u := [1]) (by simp) (fun o ho u hu => by simp at ho; subst ho; cases hu; simp) (by simp)
    have k3 : m_Core_init [.tup [], .tup [nI 0]] p = .ok (coreD (.rows []) (some [0]), p) := v_CoreT (l := []) (u := [0]) (by simp) (fun o ho => nomatch ho) (by simp)
    have k4 : m_Core_init [.tup [], .tup [nI 1]] p = .ok (coreD (.rows []) (some [1]), p) := v_CoreT (l := []) (u := [1]) (by simp) (fun o ho => nomatch ho) (by simp)
    have k5 : m_Core_init [.tup [.tup [nI 0, nI 1]], .tup []] p = .ok (coreD (.rows [some [0, 1]]) (some []), p) := v_CoreT (l := [some [0, 1]]) (u := []) (by simp) (fun o ho u hu => by simp at ho; subst ho; cases hu; simp) (by simp)
    have k6 : m_Core_init [.tup [], .tup []] p = .ok (coreD (.rows []) (some []), p) := v_CoreT (l := []) (u := []) (by simp) (fun o ho => nomatch ho) (by simp)
    have e1 : ∀ env p, eqM false "Core" m_Core_eq (coreD (.rows [some [0, 1]]) (some [1])) (coreD (.rows [some [0, 1]]) (some [1])) env p = .ok (.bl true, env, p) := fun env p => x_eqM (neg := false) (k := true) (eqD_refl (sh_pair _ _))
    have e2 : ∀ env p, eqM true "Core" m_Core_eq (coreD (.rows []) (some [0])) (coreD (.rows []) (some [1])) env p = .ok (.bl true, env, p) := fun env p => x_eqM (neg := true) (k := false) (by
      rw [eqD_pl (by rfl) (by rfl), decide_eq_false (by intro h; cases h)])
    have e3 : ∀ env p, eqM true "Core" m_Core_eq (coreD (.rows [some [0, 1]]) (some [])) (coreD (.rows []) (some [])) env p = .ok (.bl true, env, p) := fun env p => x_eqM (neg := true) (k := false) (by
      rw [eqD_pl (by rfl) (by rfl), decide_eq_false (by intro h; cases h)])
    have n1 : (coreD (.rows [some [0, 1]]) (some [1])).noL = true := by
      have hn : ∀ k, (nI k).noL = true := fun k => by unfold nI; simp only [D.noL]
      simp [coreD, St.K, ptK, D.noL, D.noLs, itD, hn]
    have pl : ∀ d, (Slot.pl d).ownL = true := fun d => rfl
    have un : Slot.un.ownL = true := rfl
    have ow : ∀ ds, (Slot.ow (.lst ds)).ownL = true := fun d => rfl
    have hz : 1 < sizeLine := by decide
    generalize m_Core_init = f at k1 k2 k3 k4 k5 k6 ⊢
    simp [k1, k2, k3, k4, k5, k6, e1, e2, e3, n1, pl, un, ow, o6, o7, o8, o9, hz]
end CS
open PySem PySem.W PyProof.Rows
set_option maxRecDepth 100000 in
set_option maxHeartbeats 0 in
theorem PySem.Challenge.cw_corespaces_k18_whole_cores_judged_holds : PySem.Challenge.rw_corespaces_k18_whole_cores_judged.Holds := by
  w_on; o_law; k_head; (case hw => w_witness2)
  k_fill
  refine CS.walk (l := PySem.Challenge.rw_corespaces_k18_whole_cores_judged) rfl rfl (fun w h Y => PySem.W.kIn_of Y) ?F
  case F =>
    intro w mg fa h KX G hmg
    refine' CS.all_mk KX G hmg ?a15 ?a21 ?a30 ?l30 ?c30 ?k30 ?a31 ?l31 ?c31 ?k31 ?a32 ?l32 ?c32 ?k32 ?a36 ?l36 ?c36 ?k36 ?a33 ?l33 ?c33 ?k33 ?a35 ?l35 ?c35 ?k35 ?a37 ?l37 ?c37 ?k37 ?a1 ?l1 ?c1 ?k1 ?a2 ?l2 ?c2 ?k2 ?a12 ?l12 ?c12 ?k12 ?a13 ?l13 ?c13 ?k13 ?a14 ?l14 ?c14 ?k14 ?a1300 ?i1300 ?l1300 ?c1300 ?k1300 ?t1300l ?a34 ?l34 ?c34 ?k34 ?a38 ?l38 ?c38 ?k38 ?a41 ?l41 ?c41 ?k41 ?a42 ?l42 ?c42 ?k42 ?a3 ?l3 ?c3 ?k3 ?a1420 ?i1420 ?l1420 ?c1420 ?k1420 ?a16 ?l16 ?c16 ?k16 ?a17 ?l17 ?c17 ?k17 ?a18 ?l18 ?c18 ?k18 ?a19 ?l19 ?c19 ?k19 ?a22 ?l22 ?c22 ?k22 ?a23 ?l23 ?c23 ?k23 ?a24 ?l24 ?c24 ?k24 ?a26 ?l26 ?c26 ?k26 ?a25 ?l25 ?c25 ?k25 ?a27 ?l27 ?c27 ?k27 ?a28 ?l28 ?c28 ?k28 ?a39 ?l39 ?c39 ?k39 ?a40 ?l40 ?c40 ?k40 ?a1421 ?i1421 ?l1421 ?c1421 ?k1421 ?a43 ?l43 ?c43 ?k43 ?pg15 ?hd15 ?po15 ?sa15 ?mk15 ?kc15 ?n15_many ?n15_over ?n15_under ?pg21 ?hd21 ?po21 ?sa21 ?mk21 ?kc21 ?en21 ?n21_points ?n21_steps ?sg ?tk ?ic15 ?mo15 ?cs15 ?ty15 ?kt15_NoneType ?kt15_bool ?kt15_int ?kt15_str ?kt15_tuple ?kt15_list ?ku15_int ?ku15_bool ?ku15_str ?ku15_tuple ?ku15_list ?kk15_21 ?ne15_21 ?ic21 ?mo21 ?cs21 ?ty21 ?kt21_NoneType ?kt21_bool ?kt21_int ?kt21_str ?kt21_tuple ?kt21_list ?ku21_int ?ku21_bool ?ku21_str ?ku21_tuple ?ku21_list ?kk21_15 ?ne21_15 ?z_all ?z_any ?z_bool ?z_enumerate ?z_int ?z_isinstance ?z_len ?z_list ?z_range ?z_sorted ?z_tuple ?z_zip ?y_MOST_POINTS CS.law_true
    (case a15 => k_is)
    (case a21 => k_is)
    (case a30 => k_is)
    (case l30 => k_is)
    (case c30 => k_is)
    (case k30 => k_is)
    (case a31 => k_is)
    (case l31 => k_is)
    (case c31 => k_is)
    (case k31 => k_is)
    (case a32 => k_is)
    (case l32 => k_is)
    (case c32 => k_is)
    (case k32 => k_is)
    (case a36 => k_is)
    (case l36 => k_is)
    (case c36 => k_is)
    (case k36 => k_is)
    (case a33 => k_is)
    (case l33 => k_is)
    (case c33 => k_is)
    (case k33 => k_is)
    (case a35 => k_is)
    (case l35 => k_is)
    (case c35 => k_is)
    (case k35 => k_is)
    (case a37 => k_is)
    (case l37 => k_is)
    (case c37 => k_is)
    (case k37 => k_is)
    (case a1 => k_is)
    (case l1 => k_is)
    (case c1 => k_is)
    (case k1 => k_is)
    (case a2 => k_is)
    (case l2 => k_is)
    (case c2 => k_is)
    (case k2 => k_is)
    (case a12 => k_is)
    (case l12 => k_is)
    (case c12 => k_is)
    (case k12 => k_is)
    (case a13 => k_is)
    (case l13 => k_is)
    (case c13 => k_is)
    (case k13 => k_is)
    (case a14 => k_is)
    (case l14 => k_is)
    (case c14 => k_is)
    (case k14 => k_is)
    (case a1300 => k_is)
    (case i1300 => k_is)
    (case l1300 => k_is)
    (case c1300 => k_is)
    (case k1300 => k_is)
    (case t1300l => k_is)
    (case a34 => k_is)
    (case l34 => k_is)
    (case c34 => k_is)
    (case k34 => k_is)
    (case a38 => k_is)
    (case l38 => k_is)
    (case c38 => k_is)
    (case k38 => k_is)
    (case a41 => k_is)
    (case l41 => k_is)
    (case c41 => k_is)
    (case k41 => k_is)
    (case a42 => k_is)
    (case l42 => k_is)
    (case c42 => k_is)
    (case k42 => k_is)
    (case a3 => k_is)
    (case l3 => k_is)
    (case c3 => k_is)
    (case k3 => k_is)
    (case a1420 => k_is)
    (case i1420 => k_is)
    (case l1420 => k_is)
    (case c1420 => k_is)
    (case k1420 => k_is)
    (case a16 => k_is)
    (case l16 => k_is)
    (case c16 => k_is)
    (case k16 => k_is)
    (case a17 => k_is)
    (case l17 => k_is)
    (case c17 => k_is)
    (case k17 => k_is)
    (case a18 => k_is)
    (case l18 => k_is)
    (case c18 => k_is)
    (case k18 => k_is)
    (case a19 => k_is)
    (case l19 => k_is)
    (case c19 => k_is)
    (case k19 => k_is)
    (case a22 => k_is)
    (case l22 => k_is)
    (case c22 => k_is)
    (case k22 => k_is)
    (case a23 => k_is)
    (case l23 => k_is)
    (case c23 => k_is)
    (case k23 => k_is)
    (case a24 => k_is)
    (case l24 => k_is)
    (case c24 => k_is)
    (case k24 => k_is)
    (case a26 => k_is)
    (case l26 => k_is)
    (case c26 => k_is)
    (case k26 => k_is)
    (case a25 => k_is)
    (case l25 => k_is)
    (case c25 => k_is)
    (case k25 => k_is)
    (case a27 => k_is)
    (case l27 => k_is)
    (case c27 => k_is)
    (case k27 => k_is)
    (case a28 => k_is)
    (case l28 => k_is)
    (case c28 => k_is)
    (case k28 => k_is)
    (case a39 => k_is)
    (case l39 => k_is)
    (case c39 => k_is)
    (case k39 => k_is)
    (case a40 => k_is)
    (case l40 => k_is)
    (case c40 => k_is)
    (case k40 => k_is)
    (case a1421 => k_is)
    (case i1421 => k_is)
    (case l1421 => k_is)
    (case c1421 => k_is)
    (case k1421 => k_is)
    (case a43 => k_is)
    (case l43 => k_is)
    (case c43 => k_is)
    (case k43 => k_is)
    (case pg15 => k_is)
    (case hd15 => k_is)
    (case po15 => k_is)
    (case sa15 => k_is)
    (case mk15 => k_is)
    (case kc15 => k_is)
    (case n15_many => k_is)
    (case n15_over => k_is)
    (case n15_under => k_is)
    (case pg21 => k_is)
    (case hd21 => k_is)
    (case po21 => k_is)
    (case sa21 => k_is)
    (case mk21 => k_is)
    (case kc21 => k_is)
    (case en21 => k_is)
    (case n21_points => k_is)
    (case n21_steps => k_is)
    (case sg => k_is)
    (case tk => k_is)
    (case ic15 => k_is)
    (case mo15 => k_is)
    (case cs15 => k_is)
    (case ty15 => k_is)
    (case kt15_NoneType => k_is)
    (case kt15_bool => k_is)
    (case kt15_int => k_is)
    (case kt15_str => k_is)
    (case kt15_tuple => k_is)
    (case kt15_list => k_is)
    (case ku15_int => k_is)
    (case ku15_bool => k_is)
    (case ku15_str => k_is)
    (case ku15_tuple => k_is)
    (case ku15_list => k_is)
    (case kk15_21 => k_is)
    (case ne15_21 => decide)
    (case ic21 => k_is)
    (case mo21 => k_is)
    (case cs21 => k_is)
    (case ty21 => k_is)
    (case kt21_NoneType => k_is)
    (case kt21_bool => k_is)
    (case kt21_int => k_is)
    (case kt21_str => k_is)
    (case kt21_tuple => k_is)
    (case kt21_list => k_is)
    (case ku21_int => k_is)
    (case ku21_bool => k_is)
    (case ku21_str => k_is)
    (case ku21_tuple => k_is)
    (case ku21_list => k_is)
    (case kk21_15 => k_is)
    (case ne21_15 => decide)
    (case z_all => k_is)
    (case z_any => k_is)
    (case z_bool => k_is)
    (case z_enumerate => k_is)
    (case z_int => k_is)
    (case z_isinstance => k_is)
    (case z_len => k_is)
    (case z_list => k_is)
    (case z_range => k_is)
    (case z_sorted => k_is)
    (case z_tuple => k_is)
    (case z_zip => k_is)
    (case y_MOST_POINTS => k_is)
#print axioms PySem.Challenge.cw_corespaces_k18_whole_cores_judged_holds
