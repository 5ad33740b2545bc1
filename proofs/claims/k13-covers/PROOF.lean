import PyProof.Rows.All
import Wide.All
import OpenK.AllK
import Wide.FinOn
import HandS.ForMost
import HandS.IsInst
import HandS.SortInts
import HandS.Zip
import HandS.SetFor
import PyProof.InstNe
import HandS.ForDict
import KE.GoesEnum
import HandS.Conv
import HandS.TupSets
import PyProof.TupleOfSeq
import HandS.List
import PySem.Challenge.RW_corespaces_k13_whole_covers_and_heights
import HandS.Defaults
set_option Elab.async false
set_option linter.all false
set_option maxRecDepth 100000
set_option maxHeartbeats 4000000
namespace CS
open PySem L2

/-! ## plain data -/
/-- a Python value without addresses -/
inductive D where
  | non
  | bl (b : Bool)
  | int (i : Int)
  | str (s : Str)
  | tup (xs : List D)
  | lst (xs : List D)
  | ins (c : Str) (ns : List Str) (xs : List D)
  | pen
  /-- a built-in class, one of the program's own -/
  | ty (n : String)
  | cls (c : Str)
  deriving Inhabited

/-- the source of draws -/
structure Pen where
  cells : List Int
  at_ : Nat
  digits : Int
  count : Nat
  fold : Int

abbrev Pn := Option Pen

inductive Res (α : Type) where
  | ok (a : α)
  | exc (c : Str) (xs : List D)
  | bad
def Res.bind {α β : Type} : Res α → (α → Res β) → Res β
  | .ok a, f => f a
  | .exc c xs, _ => .exc c xs
  | .bad, _ => .bad

/-- what a name holds: nothing told, a value, an own list (free to change), an own list that is only read meanwhile -/
inductive Slot where
  | un
  | pl (d : D)
  | ow (d : D)
  | ro (d : D)
  deriving Inhabited
abbrev Env' := List Slot

def M (α : Type) := Env' → Pn → Res (α × Env' × Pn)
def M.ret {α : Type} (a : α) : M α := fun e p => .ok (a, e, p)
def M.bind {α β : Type} (m : M α) (k : α → M β) : M β := fun e p => (m e p).bind fun r => k r.1 r.2.1 r.2.2
def M.res {α : Type} (r : Res α) : M α := fun e p => r.bind fun a => .ok (a, e, p)
instance : Bind M := ⟨M.bind⟩

/-! ## how data lies in a heap -/
structure RC where
  K : PySem.W.Frag
  cls : Str → Addr
  /-- the pen, its list of cells -/
  q : Addr
  ca : Addr
  cells : List Int
  /-- the object that an __init__ makes -/
  sf : Addr

mutual
def Rep (R : RC) (F : Hp) : D → V → Prop
  | .non, v => v = .non
  | .bl b, v => v = .bl b
  | .int i, v => v = .int i
  | .str s, v => v = .str s
  | .tup ds, v => ∃ a vs, v = .ref a ∧ SqT R.K F a vs ∧ Reps R F ds vs
  | .lst ds, v => ∃ a vs, v = .ref a ∧ F a = some (.lst vs) ∧ Reps R F ds vs
  | .ins c ns ds, v => ∃ a dx vs, v = .ref a ∧ F a = some (.ins (R.cls c) dx (ns.zip vs)) ∧ vs.length = ns.length ∧ Reps R F ds vs
  | .pen, v => v = .ref R.q
  | .ty n, v => v = .ty n
  | .cls c, v => v = .ref (R.cls c)
def Reps (R : RC) (F : Hp) : List D → List V → Prop
  | [], vs => vs = []
  | d :: ds, vs => ∃ v r, vs = v :: r ∧ Rep R F d v ∧ Reps R F ds r
end

theorem Same.sqt {K : PySem.W.Frag} {F F' : Hp} {a : Addr} {xs : List V} (e : Same F F') (h : SqT K F a xs) : SqT K F' a xs := by
  rcases h with (h | ⟨o, h⟩) | h
  · exact .inl (.inl (e _ _ h))
  · exact .inl (.inr ⟨o, e _ _ h⟩)
  · exact .inr h

mutual
theorem Rep.mono {R : RC} {F F' : Hp} (s : Same F F') : ∀ {d : D} {v : V}, Rep R F d v → Rep R F' d v
  | .non, _, h => by simpa [Rep] using h
  | .bl _, _, h => by simpa [Rep] using h
  | .int _, _, h => by simpa [Rep] using h
  | .str _, _, h => by simpa [Rep] using h
  | .tup ds, v, h => by
    simp only [Rep] at h ⊢
    obtain ⟨a, vs, e, q, r⟩ := h
    exact ⟨a, vs, e, Same.sqt s q, Reps.mono s r⟩
  | .lst ds, v, h => by
    simp only [Rep] at h ⊢
    obtain ⟨a, vs, e, q, r⟩ := h
    exact ⟨a, vs, e, s _ _ q, Reps.mono s r⟩
  | .ins c ns ds, v, h => by
    simp only [Rep] at h ⊢
    obtain ⟨a, dx, vs, e, q, l, r⟩ := h
    exact ⟨a, dx, vs, e, s _ _ q, l, Reps.mono s r⟩
  | .pen, _, h => by simpa [Rep] using h
  | .ty _, _, h => by simpa [Rep] using h
  | .cls _, _, h => by simpa [Rep] using h
theorem Reps.mono {R : RC} {F F' : Hp} (s : Same F F') : ∀ {ds : List D} {vs : List V}, Reps R F ds vs → Reps R F' ds vs
  | [], _, h => by simpa [Reps] using h
  | d :: ds, _, h => by
    simp only [Reps] at h ⊢
    obtain ⟨v, r, e, h1, h2⟩ := h
    exact ⟨v, r, e, Rep.mono s h1, Reps.mono s h2⟩
end
theorem Reps.length {R : RC} {F : Hp} : ∀ {ds : List D} {vs : List V}, Reps R F ds vs → vs.length = ds.length
  | [], vs, h => by simp only [Reps] at h; subst h; rfl
  | d :: ds, vs, h => by
    simp only [Reps] at h
    obtain ⟨v, r, rfl, _, h2⟩ := h
    simp [Reps.length h2]
theorem Reps.get {R : RC} {F : Hp} : ∀ {ds : List D} {vs : List V} {i : Nat} {d : D}, Reps R F ds vs → ds[i]? = some d → ∃ v, vs[i]? = some v ∧ Rep R F d v
  | [], _, _, _, _, h => by simp at h
  | d :: ds, vs, 0, d', h, e => by
    simp only [Reps] at h
    obtain ⟨v, r, rfl, h1, h2⟩ := h
    simp at e; subst e
    exact ⟨v, rfl, h1⟩
  | d :: ds, vs, i + 1, d', h, e => by
    simp only [Reps] at h
    obtain ⟨v, r, rfl, h1, h2⟩ := h
    obtain ⟨w, q1, q2⟩ := Reps.get (i := i) h2 (by simpa using e)
    exact ⟨w, by simpa using q1, q2⟩
theorem Reps.append {R : RC} {F : Hp} : ∀ {ds es : List D} {vs ws : List V}, Reps R F ds vs → Reps R F es ws → Reps R F (ds ++ es) (vs ++ ws)
  | [], es, vs, ws, h, h' => by simp only [Reps] at h; subst h; exact h'
  | d :: ds, es, vs, ws, h, h' => by
    simp only [Reps] at h
    obtain ⟨v, r, rfl, h1, h2⟩ := h
    simp only [List.cons_append, Reps]
    exact ⟨v, r ++ ws, rfl, h1, Reps.append h2 h'⟩
theorem Reps.nil {R : RC} {F : Hp} : Reps R F [] [] := by simp [Reps]
theorem Reps.cons {R : RC} {F : Hp} {d : D} {ds : List D} {v : V} {vs : List V} (h : Rep R F d v) (hs : Reps R F ds vs) : Reps R F (d :: ds) (v :: vs) := by
  simp only [Reps]; exact ⟨v, vs, rfl, h, hs⟩
theorem Reps.one {R : RC} {F : Hp} {d : D} {v : V} (h : Rep R F d v) : Reps R F [d] [v] := .cons h .nil
theorem Reps.set {R : RC} {F : Hp} {d : D} {v : V} (h : Rep R F d v) : ∀ {ds : List D} {vs : List V} (i : Nat), Reps R F ds vs → Reps R F (ds.set i d) (vs.set i v)
  | [], vs, i, h' => by simp only [Reps] at h'; subst h'; simp [Reps]
  | e :: ds, vs, 0, h' => by
    simp only [Reps] at h'
    obtain ⟨w, r, rfl, h1, h2⟩ := h'
    simp only [List.set_cons_zero]; exact .cons h h2
  | e :: ds, vs, i + 1, h' => by
    simp only [Reps] at h'
    obtain ⟨w, r, rfl, h1, h2⟩ := h'
    simp only [List.set_cons_succ]; exact .cons h1 (Reps.set h i h2)
theorem Reps.erase {R : RC} {F : Hp} : ∀ {ds : List D} {vs : List V} (i : Nat), Reps R F ds vs → Reps R F (ds.eraseIdx i) (vs.eraseIdx i)
  | [], vs, i, h' => by simp only [Reps] at h'; subst h'; simp [Reps]
  | e :: ds, vs, 0, h' => by
    simp only [Reps] at h'
    obtain ⟨w, r, rfl, h1, h2⟩ := h'
    simpa using h2
  | e :: ds, vs, i + 1, h' => by
    simp only [Reps] at h'
    obtain ⟨w, r, rfl, h1, h2⟩ := h'
    simp only [List.eraseIdx_cons_succ]; exact .cons h1 (Reps.erase i h2)
theorem Reps.take {R : RC} {F : Hp} : ∀ {ds : List D} {vs : List V} (n : Nat), Reps R F ds vs → Reps R F (ds.take n) (vs.take n)
  | [], vs, n, h' => by simp only [Reps] at h'; subst h'; simp [Reps]
  | e :: ds, vs, 0, h' => by simp [Reps]
  | e :: ds, vs, n + 1, h' => by
    simp only [Reps] at h'
    obtain ⟨w, r, rfl, h1, h2⟩ := h'
    simp only [List.take_succ_cons]; exact .cons h1 (Reps.take n h2)
theorem Reps.drop {R : RC} {F : Hp} : ∀ {ds : List D} {vs : List V} (n : Nat), Reps R F ds vs → Reps R F (ds.drop n) (vs.drop n)
  | [], vs, n, h' => by simp only [Reps] at h'; subst h'; simp [Reps]
  | e :: ds, vs, 0, h' => by simpa using h'
  | e :: ds, vs, n + 1, h' => by
    simp only [Reps] at h'
    obtain ⟨w, r, rfl, h1, h2⟩ := h'
    simp only [List.drop_succ_cons]; exact Reps.drop n h2
theorem Reps.reverse {R : RC} {F : Hp} : ∀ {ds : List D} {vs : List V}, Reps R F ds vs → Reps R F ds.reverse vs.reverse
  | [], vs, h' => by simp only [Reps] at h'; subst h'; simp [Reps]
  | e :: ds, vs, h' => by
    simp only [Reps] at h'
    obtain ⟨w, r, rfl, h1, h2⟩ := h'
    simp only [List.reverse_cons]; exact (Reps.reverse h2).append (.one h1)

/-! ## the state -/
structure Bs where
  F0 : Hp
  H0 : Hp
  pn : Bool

def penK (P : Pen) (ca : Addr) : List (Key × V) :=
  [(.inr "cells", .ref ca), (.inr "at", .int P.at_), (.inr "digits", .int P.digits), (.inr "count", .int P.count), (.inr "fold", .int P.fold)]
def PenRel (R : RC) (F H : Hp) : Pn → Prop
  | none => True
  | some P => F R.q = none ∧ H R.q = some (.dK (penK P R.ca)) ∧ P.cells = R.cells

/-- an own list, an own object that is being made -/
def Own (R : RC) (F H : Hp) (d : D) (a : Addr) : Prop :=
  (∃ ds vs, d = .lst ds ∧ H a = some (.lst vs) ∧ Reps R F ds vs) ∨
  (∃ c ns ds dx vs, a = R.sf ∧ d = .ins c ns ds ∧ H a = some (.ins (R.cls c) dx (ns.zip vs)) ∧ vs.length = ns.length ∧ Reps R F ds vs)
theorem Own.there {R : RC} {F H : Hp} {d : D} {a : Addr} (o : Own R F H d a) : H a ≠ none := by
  rcases o with ⟨ds, vs, _, h, _⟩ | ⟨c, ns, ds, dx, vs, _, _, h, _⟩ <;> rw [h] <;> simp
theorem Own.keep {R : RC} {F F' H H' : Hp} {d : D} {a : Addr} (o : Own R F H d a) (s : Same F F') (h : H' a = H a) : Own R F' H' d a := by
  rcases o with ⟨ds, vs, e, h1, r⟩ | ⟨c, ns, ds, dx, vs, e0, e, h1, l, r⟩
  · exact .inl ⟨ds, vs, e, h.trans h1, r.mono s⟩
  · exact .inr ⟨c, ns, ds, dx, vs, e0, e, h.trans h1, l, r.mono s⟩

def SlotRel (R : RC) (B : Bs) (F H : Hp) : Slot → Option (Option V) → Prop
  | .un, _ => True
  | .pl d, o => ∃ v, o = some (some v) ∧ Rep R F d v
  | .ow d, o => ∃ a, o = some (some (.ref a)) ∧ F a = none ∧ B.H0 a = none ∧ (a ≠ R.q ∨ B.pn = false) ∧ Own R F H d a
  | .ro d, o => ∃ a, o = some (some (.ref a)) ∧ F a = none ∧ (a ≠ R.q ∨ B.pn = false) ∧ Own R F H d a

def Slot.isO : Slot → Bool
  | .ow _ => true
  | .ro _ => true
  | _ => false
/-- the i-th name holds the own list at a -/
def OwnAt (env : Env') (σ : St) (i : Nat) (a : Addr) : Prop := (∃ s, env[i]? = some s ∧ s.isO = true) ∧ σ[i]? = some (some (.ref a))

structure SRel (R : RC) (B : Bs) (env : Env') (p : Pn) (σ : St) (F H : Hp) : Prop where
  fh : Same F H
  f0 : Same B.F0 F
  h0 : ∀ b o, (b ≠ R.q ∨ B.pn = false) → B.H0 b = some o → H b = some o
  fresh : ∀ a, F a ≠ none → B.F0 a ≠ none ∨ B.H0 a = none
  pnb : p.isSome = B.pn
  pen : PenRel R F H p
  cel : B.pn = true → SqL R.K B.F0 R.ca (R.cells.map V.int)
  len : env.length = σ.length
  slots : ∀ (i : Nat) (s : Slot), env[i]? = some s → SlotRel R B F H s σ[i]?
  dis : ∀ (i j : Nat) (a : Addr), i ≠ j → OwnAt env σ i a → OwnAt env σ j a → False

/-- a step that keeps all that was there (but the pen), new things may be frozen -/
structure Ext (R : RC) (F H : Hp) (p : Pn) (F' H' : Hp) (p' : Pn) : Prop where
  ff : Same F F'
  fh : Same F' H'
  hh : ∀ b o, (b ≠ R.q ∨ p = none) → H b = some o → H' b = some o
  fresh : ∀ a, F' a ≠ none → F a ≠ none ∨ H a = none
  pnb : p'.isSome = p.isSome
  pen : PenRel R F' H' p'

theorem isSome_false {α : Type} {o : Option α} (h : o.isSome = false) : o = none := by cases o <;> simp_all
section
variable {R : RC} {B : Bs} {env : Env'} {p p' : Pn} {σ : St} {F F' H H' : Hp}

theorem SRel.pnone (S : SRel R B env p σ F H) : B.pn = false ↔ p = none := by
  rw [← S.pnb]; cases p <;> simp
theorem SRel.hq (S : SRel R B env p σ F H) {a : Addr} (h : H a = none) : B.H0 a = none := by
  cases e : B.H0 a with
  | none => rfl
  | some o =>
    by_cases hb : a ≠ R.q ∨ B.pn = false
    · rw [S.h0 a o hb e] at h; cases h
    · have h1 : a = R.q := Classical.byContradiction fun z => hb (.inl z)
      have h2 : ¬ p = none := fun z => hb (.inr (S.pnone.mpr z))
      cases p with
      | none => exact absurd rfl h2
      | some P =>
        obtain ⟨_, e1, _⟩ := S.pen
        rw [← h1, h] at e1; cases e1
theorem Own.ext {d : D} {a : Addr} (o : Own R F H d a) (e : Ext R F H p F' H' p') (hq : a ≠ R.q ∨ p = none) : Own R F' H' d a := by
  refine o.keep e.ff ?_
  cases z : H a with
  | none => exact absurd z o.there
  | some u => exact e.hh _ _ hq z
theorem SRel.ext (S : SRel R B env p σ F H) (e : Ext R F H p F' H' p') : SRel R B env p' σ F' H' where
  fh := e.fh
  f0 := S.f0.trans e.ff
  h0 := fun b o hb h => e.hh b o (hb.imp id S.pnone.mp) (S.h0 b o hb h)
  fresh := fun a h => by
    rcases e.fresh a h with h1 | h1
    · exact S.fresh a h1
    · exact .inr (S.hq h1)
  pnb := by rw [e.pnb]; exact S.pnb
  pen := e.pen
  cel := S.cel
  len := S.len
  slots := fun i s hi => by
    have := S.slots i s hi
    cases s with
    | un => trivial
    | pl d => obtain ⟨v, h1, h2⟩ := this; exact ⟨v, h1, h2.mono e.ff⟩
    | ow d =>
      obtain ⟨a, h1, h2, h3, h4, h5⟩ := this
      refine ⟨a, h1, ?_, h3, h4, h5.ext e (h4.imp id S.pnone.mp)⟩
      cases z : F' a with
      | none => rfl
      | some o =>
        rcases e.fresh a (by rw [z]; simp) with h | h
        · exact absurd h2 h
        · exact absurd h h5.there
    | ro d =>
      obtain ⟨a, h1, h2, h4, h5⟩ := this
      refine ⟨a, h1, ?_, h4, h5.ext e (h4.imp id S.pnone.mp)⟩
      cases z : F' a with
      | none => rfl
      | some o =>
        rcases e.fresh a (by rw [z]; simp) with h | h
        · exact absurd h2 h
        · exact absurd h h5.there
  dis := S.dis
theorem Ext.refl (S : SRel R B env p σ F H) : Ext R F H p F H p := ⟨Same.refl _, S.fh, fun _ _ _ h => h, fun _ h => .inl h, rfl, S.pen⟩
theorem PenRel.mono (h : PenRel R F H p) (ff : Same F F') (hh : ∀ o, H R.q = some o → H' R.q = some o) (nq : p ≠ none → F' R.q = none) : PenRel R F' H' p := by
  cases p with
  | none => trivial
  | some P =>
    obtain ⟨_, h1, h2⟩ := h
    exact ⟨nq (by simp), hh _ h1, h2⟩
theorem same_upd {o : HO} {a : Addr} (h : F a = none) : Same F (upd F a o) := fun b o e => by rw [upd_ne (ne_of_none e h)]; exact e
theorem same_upd2 {o : HO} {a : Addr} (s : Same F H) : Same (upd F a o) (upd H a o) := fun b o e => by
  by_cases hb : b = a
  · subst hb; rw [upd_same] at e ⊢; exact e
  · rw [upd_ne hb] at e ⊢; exact s _ _ e
/-- a new frozen object -/
theorem SRel.alloc (S : SRel R B env p σ F H) {a : Addr} {o : HO} (hn : H a = none) : Ext R F H p (upd F a o) (upd H a o) p := by
  have fn : F a = none := S.fh.free hn
  refine ⟨same_upd fn, same_upd2 S.fh, fun b o _ e => by rw [upd_ne (ne_of_none e hn)]; exact e, fun b h => ?_, rfl, S.pen.mono (same_upd fn) (fun o e => by rw [upd_ne (ne_of_none e hn)]; exact e) fun hp => ?_⟩
  · by_cases hb : b = a
    · subst hb; exact .inr hn
    · rw [upd_ne hb] at h; exact .inl h
  · cases p with
    | none => exact absurd rfl hp
    | some P =>
      obtain ⟨h1, h2, _⟩ := S.pen
      rw [upd_ne (ne_of_none h2 hn)]; exact h1
/-- a new object that stays unfrozen -/
theorem SRel.allocO (S : SRel R B env p σ F H) {a : Addr} {o : HO} (hn : H a = none) : Ext R F H p F (upd H a o) p := by
  refine ⟨Same.refl _, fun b o e => ?_, fun b o _ e => by rw [upd_ne (ne_of_none e hn)]; exact e, fun b h => .inl h, rfl, S.pen.mono (Same.refl _) (fun o e => by rw [upd_ne (ne_of_none e hn)]; exact e) fun hp => ?_⟩
  · rw [upd_ne (ne_of_none (S.fh _ _ e) hn)]; exact S.fh _ _ e
  · cases p with
    | none => exact absurd rfl hp
    | some P => exact S.pen.1
theorem Ext.trans {F2 H2 : Hp} {p2 : Pn} (S : SRel R B env p σ F H) (a : Ext R F H p F' H' p') (b : Ext R F' H' p' F2 H2 p2) : Ext R F H p F2 H2 p2 where
  ff := a.ff.trans b.ff
  fh := b.fh
  hh := fun c o hc h => b.hh c o (hc.imp id fun e => by
    have := a.pnb
    rw [e] at this
    exact isSome_false this) (a.hh c o hc h)
  fresh := fun c h => by
    rcases b.fresh c h with h1 | h1
    · exact a.fresh c h1
    · have S' := S.ext a
      cases e : H c with
      | none => exact .inr rfl
      | some o =>
        by_cases hc : c ≠ R.q ∨ p = none
        · rw [a.hh c o hc e] at h1; cases h1
        · have e1 : c = R.q := Classical.byContradiction fun z => hc (.inl z)
          have e2 : p ≠ none := fun z => hc (.inr z)
          cases p' with
          | none => exact absurd (isSome_false a.pnb.symm) e2
          | some P =>
            obtain ⟨_, z, _⟩ := a.pen
            rw [← e1, h1] at z; cases z
  pnb := b.pnb.trans a.pnb
  pen := b.pen
end
end CS
namespace CS
open PySem L2

/-! ## readings from plain programs -/
def Cn (R : RC) {α β : Type} (Rl : Hp → α → β → Prop) (m : M α) (Q : β → Hp → Prop) (σ : St) (B : Bs) (env : Env') (p : Pn) (F H : Hp) : Prop :=
  SRel R B env p σ F H ∧ ∃ a env' p', m env p = .ok (a, env', p') ∧ ∀ b F' H', Same F F' → SRel R B env' p' σ F' H' → Rl F' a b → Q b H'
def lM (R : RC) {α β : Type} (Rl : Hp → α → β → Prop) (m : M α) : St → Hp → (β → Hp → Prop) → Prop := fun σ H Q => ∃ B env p F, Cn R Rl m Q σ B env p F H
abbrev REq {α : Type} : Hp → α → α → Prop := fun _ a b => a = b
abbrev lE (R : RC) (m : M D) : TE := lM R (Rep R) m
abbrev lT (R : RC) (m : M Bool) : TT := lM R REq m
abbrev lA (R : RC) (m : M (List D)) : TA := lM R (Reps R) m
abbrev lO (R : RC) (m : M (Option Int)) : TO := lM R REq m

theorem Res.bind_ok {α β : Type} {r : Res α} {f : α → Res β} {b : β} (h : r.bind f = .ok b) : ∃ a, r = .ok a ∧ f a = .ok b := by
  cases r with
  | ok a => exact ⟨a, rfl, h⟩
  | exc c xs => cases h
  | bad => cases h
theorem bind_ok {α β : Type} {m : M α} {k : α → M β} {env : Env'} {p : Pn} {r : β × Env' × Pn} (h : (m >>= k) env p = .ok r) : ∃ a env1 p1, m env p = .ok (a, env1, p1) ∧ k a env1 p1 = .ok r := by
  obtain ⟨⟨a, env1, p1⟩, h1, h2⟩ := Res.bind_ok (show (m env p).bind _ = _ from h)
  exact ⟨a, env1, p1, h1, h2⟩

section
variable {R : RC} {α β γ δ : Type} {Rl : Hp → α → β → Prop} {Rl2 : Hp → γ → δ → Prop} {m : M α} {k : α → M γ} {Q : δ → Hp → Prop} {σ : St} {B : Bs} {env : Env'} {p : Pn} {F H : Hp}
theorem Cn.seq {Q1 : β → Hp → Prop} (h : Cn R Rl2 (m >>= k) Q σ B env p F H)
    (hq : ∀ a b env1 p1 F1 H1, Same F F1 → Rl F1 a b → Cn R Rl2 (k a) Q σ B env1 p1 F1 H1 → Q1 b H1) : Cn R Rl m Q1 σ B env p F H := by
  obtain ⟨S, c, env', p', e, q⟩ := h
  obtain ⟨a, env1, p1, e1, e2⟩ := bind_ok e
  exact ⟨S, a, env1, p1, e1, fun b F1 H1 s1 S1 r1 => hq a b env1 p1 F1 H1 s1 r1 ⟨S1, c, env', p', e2, fun d F' H' s2 => q d F' H' (s1.trans s2)⟩⟩
theorem Cn.lm {m : M γ} (h : Cn R Rl2 m Q σ B env p F H) : lM R Rl2 m σ H Q := ⟨B, env, p, F, h⟩
theorem Cn.sq {Q1 : β → Hp → Prop} (h : Cn R Rl2 (m >>= k) Q σ B env p F H)
    (hq : ∀ a b env1 p1 F1 H1, Same F F1 → Rl F1 a b → Cn R Rl2 (k a) Q σ B env1 p1 F1 H1 → Q1 b H1) : lM R Rl m σ H Q1 := (h.seq hq).lm
/-- the last step: the value is there -/
theorem Cn.res {r : Res γ} (h : Cn R Rl2 (M.res r) Q σ B env p F H) : ∃ a, r = .ok a ∧ ∀ b F' H', Same F F' → SRel R B env p σ F' H' → Rl2 F' a b → Q b H' := by
  obtain ⟨S, c, env', p', e, q⟩ := h
  obtain ⟨a, e1, e2⟩ := Res.bind_ok (show r.bind _ = _ from e)
  cases e2
  exact ⟨c, e1, q⟩
theorem Cn.ret {a : γ} (h : Cn R Rl2 (M.ret a) Q σ B env p F H) : ∀ b F' H', Same F F' → SRel R B env p σ F' H' → Rl2 F' a b → Q b H' := by
  obtain ⟨S, c, env', p', e, q⟩ := h
  cases e
  exact q
theorem Cn.S {m : M γ} (h : Cn R Rl2 m Q σ B env p F H) : SRel R B env p σ F H := h.1
end

section
variable {X : Cx} {e : Expr}
theorem PE.imp {t t' : TE} (h : PE X e t) (w : ∀ σ H Q, t' σ H Q → t σ H Q) : PE X e t' := ⟨fun pins s σ H Q I q => h.run pins s σ H Q I (w _ _ _ q)⟩
theorem PT.imp {t t' : TT} (h : PT X e t) (w : ∀ σ H Q, t' σ H Q → t σ H Q) : PT X e t' := ⟨fun pins s σ H Q I q => h.run pins s σ H Q I (w _ _ _ q)⟩
theorem PW.imp {t t' : TT} (h : PW X e t) (w : ∀ σ H Q, t' σ H Q → t σ H Q) : PW X e t' := ⟨fun wh pins s σ H Q I q => h.run wh pins s σ H Q I (w _ _ _ q)⟩
theorem PA.imp {es : List Expr} {t t' : TA} (h : PA X es t) (w : ∀ σ H Q, t' σ H Q → t σ H Q) : PA X es t' := ⟨fun pos pins s σ H Q I q => h.run pos pins s σ H Q I (w _ _ _ q)⟩
theorem PS.imp {st : Stmt} {t t' : TS} (h : PS X st t) (w : ∀ σ H Q, t' σ H Q → t σ H Q) : PS X st t' := ⟨fun pins s σ H D I q => h.run pins s σ H D I (w _ _ _ q)⟩
theorem PSs.imp {st : List Stmt} {t t' : TS} (h : PSs X st t) (w : ∀ σ H Q, t' σ H Q → t σ H Q) : PSs X st t' := ⟨fun pins s σ H D I q => h.run pins s σ H D I (w _ _ _ q)⟩
theorem PI.imp {tg : Expr} {t t' : TI} (h : PI X tg e t) (w : ∀ σ H Q, t' σ H Q → t σ H Q) : PI X tg e t' := ⟨fun pins s σ H Q I q => h.run pins s σ H Q I (w _ _ _ q)⟩
theorem PG.imp {t t' : TG} (h : PG X e t) (w : ∀ v σ H Q, t' v σ H Q → t v σ H Q) : PG X e t' := ⟨fun pins s σ H v u Q I r q => h.run pins s σ H v u Q I r (w _ _ _ _ q)⟩
theorem PO.imp {e : Option Expr} {t t' : TO} (h : PO X e t) (w : ∀ σ H Q, t' σ H Q → t σ H Q) : PO X e t' := by
  refine ⟨fun pins s σ H Q I q => ?_⟩
  exact h.run pins s σ H Q I (w _ _ _ q)
end

/-! ## names, constants -/
def getPl (env : Env') (i : Nat) : Res D := match env[i]? with
  | some (.pl d) => .ok d
  | _ => .bad
def dVar (i : Nat) : M D := fun env p => (getPl env i).bind fun d => .ok (d, env, p)
theorem getPl_ok {env : Env'} {i : Nat} {d : D} (h : getPl env i = .ok d) : env[i]? = some (.pl d) := by
  unfold getPl at h
  split at h
  · rename_i e; cases h; exact e
  · cases h
section
variable {X : Cx} {R : RC}
theorem de_var {i : Nat} {x : Str} {pos : Pos} (h : PE X (.Name x pos) (tVar i)) : PE X (.Name x pos) (lE R (dVar i)) := by
  refine PE.imp h fun σ H Q ⟨B, env, p, F, S, a, env', p', e, q⟩ => ?_
  obtain ⟨d, e1, e2⟩ := Res.bind_ok (show (getPl env i).bind _ = _ from e)
  cases e2
  obtain ⟨v, h1, h2⟩ := S.slots _ _ (getPl_ok e1)
  exact ⟨v, h1, q v F H (Same.refl _) S h2⟩
theorem de_const {e : Expr} {v : V} {d : D} (h : PE X e (tC v)) (hd : ∀ F, Rep R F d v) : PE X e (lE R (M.ret d)) := by
  refine PE.imp h fun σ H Q ⟨B, env, p, F, c⟩ => ?_
  exact c.ret v F H (Same.refl _) c.S (hd F)
theorem de_int {i : Int} {j pos} : PE X (.Constant (.int i) j pos) (lE R (M.ret (.int i))) := de_const pe_int fun _ => by simp [Rep]
theorem de_bl {b : Bool} {j pos} : PE X (.Constant (.bool b) j pos) (lE R (M.ret (.bl b))) := de_const pe_bl fun _ => by simp [Rep]
theorem de_non {j pos} : PE X (.Constant .none j pos) (lE R (M.ret .non)) := de_const pe_non fun _ => by simp [Rep]
theorem de_str {x : Str} {j pos} : PE X (.Constant (.str x) j pos) (lE R (M.ret (.str x))) := de_const pe_str fun _ => by simp [Rep]
end

/-! ## operators -/
def m2 (f : D → D → Res D) (a b : M D) : M D := a >>= fun x => b >>= fun y => M.res (f x y)
def m1 (f : D → Res D) (a : M D) : M D := a >>= fun x => M.res (f x)
/-- what is to be shown of a value: it may be new -/
def Wn (R : RC) (B : Bs) (env : Env') (p : Pn) (σ : St) (F : Hp) (z : D) (Q : VK) : Prop := ∀ u F' H', Same F F' → SRel R B env p σ F' H' → Rep R F' z u → Q u H'
structure OpD (R : RC) (r : R2) (f : D → D → Res D) : Prop where
  run : ∀ {B : Bs} {env : Env'} {p : Pn} {σ : St} {F H : Hp} {x y z : D} {v w : V} {Q : VK},
  SRel R B env p σ F H → Rep R F x v → Rep R F y w → f x y = .ok z → Wn R B env p σ F z Q → r v w H Q
structure UnD (R : RC) (r : V → Hp → VK → Prop) (f : D → Res D) : Prop where
  run : ∀ {B : Bs} {env : Env'} {p : Pn} {σ : St} {F H : Hp} {x z : D} {v : V} {Q : VK},
  SRel R B env p σ F H → Rep R F x v → f x = .ok z → Wn R B env p σ F z Q → r v H Q
structure CallD (R : RC) (r : List V → Hp → VK → Prop) (f : List D → Res D) : Prop where
  run : ∀ {B : Bs} {env : Env'} {p : Pn} {σ : St} {F H : Hp} {xs : List D} {z : D} {vs : List V} {Q : VK},
  SRel R B env p σ F H → Reps R F xs vs → f xs = .ok z → Wn R B env p σ F z Q → r vs H Q
section
variable {X : Cx} {R : RC} {a b c : Expr} {m n l : M D} {f g : D → D → Res D} {r r' : R2} {pos : Pos}
theorem op2 (hd : OpD R r f) {σ : St} {H : Hp} {Q : VK} (h : lE R (m2 f m n) σ H Q) : tOp r (lE R m) (lE R n) σ H Q := by
  obtain ⟨B, env, p, F, c⟩ := h
  refine c.sq fun x v env1 p1 F1 H1 s1 r1 c1 => c1.sq fun y w env2 p2 F2 H2 s2 r2 c2 => ?_
  obtain ⟨z, e, q⟩ := c2.res
  exact hd.run c2.S (r1.mono s2) r2 e q
theorem de_op {op : Operator} (ho : OpR X (binaryOp op) r) (hd : OpD R r f) (ha : PE X a (lE R m)) (hb : PE X b (lE R n)) : PE X (.BinOp a op b pos) (lE R (m2 f m n)) :=
  PE.imp (pe_op ho ha hb) fun _ _ _ h => op2 hd h
theorem de_cmp {op : CmpOp} (ho : OpR X (compareOp op) r) (hd : OpD R r f) (ha : PE X a (lE R m)) (hb : PE X b (lE R n)) (hm : behindInMarks op b = false) : PE X (.Compare a [op] [b] pos) (lE R (m2 f m n)) :=
  PE.imp (pe_cmpR ho ha hb hm) fun _ _ _ h => op2 hd h
def asB : D → Res Bool
  | .bl b => .ok b
  | _ => .bad
def mB (m : M D) : M Bool := m >>= fun x => M.res (asB x)
theorem asB_ok {d : D} {b : Bool} (h : asB d = .ok b) : d = .bl b := by
  unfold asB at h
  split at h
  · cases h; rfl
  · cases h
theorem tst {te : TE} (w : ∀ {σ H Q}, lE R m σ H Q → te σ H Q) {σ : St} {H : Hp} {Q : Bool → Hp → Prop} (h : lT R (mB m) σ H Q) : te σ H fun x H1 => ∃ c, x = .bl c ∧ Q c H1 := by
  obtain ⟨B, env, p, F, c⟩ := h
  refine w (c.sq fun x v env1 p1 F1 H1 s1 r1 c1 => ?_)
  obtain ⟨z, e, q⟩ := c1.res
  cases asB_ok e
  simp only [Rep] at r1
  exact ⟨z, r1, q z F1 H1 (Same.refl _) c1.S rfl⟩
theorem dt_cmp {op : CmpOp} (ho : OpR X (compareOp op) r) (hd : OpD R r f) (ha : PE X a (lE R m)) (hb : PE X b (lE R n)) (hm : behindInMarks op b = false) : PT X (.Compare a [op] [b] pos) (lT R (mB (m2 f m n))) :=
  PT.imp (pt_cmpR ho ha hb hm) fun _ _ _ h => tst (te := tOp r (lE R m) (lE R n)) (fun h => op2 hd h) h
theorem dt_val {e : Expr} (h : PE X e (lE R m)) (he : ∀ whole, isTrue e X.env whole = (do let v ← whole; standAt e.pos; holding [v] (truthy v)) := by intro _; rfl) : PT X e (lT R (mB m)) :=
  PT.imp (pt_val h he) fun _ _ _ h => tst (te := lE R m) (fun h => h) h
/-- a < b < c -/
def mChain (f g : D → D → Res D) (m n l : M D) : M D := m >>= fun x => n >>= fun y => M.res (f x y) >>= fun z => M.res (asB z) >>= fun k => if k = true then l >>= fun w => M.res (g y w) else M.ret (.bl false)
theorem chain2 (hd : OpD R r f) (hd' : OpD R r' g) {σ : St} {H : Hp} {Q : VK} (h : lE R (mChain f g m n l) σ H Q) : tChain r r' (lE R m) (lE R n) (lE R l) σ H Q := by
  obtain ⟨B, env, p, F, c⟩ := h
  refine c.sq fun x v env1 p1 F1 H1 s1 r1 c1 => c1.sq fun y w env2 p2 F2 H2 s2 r2 c2 => ?_
  obtain ⟨S, z, env', p', e, q⟩ := c2
  obtain ⟨z1, env3, p3, e1, e2⟩ := bind_ok e
  obtain ⟨z1', g1, g1'⟩ := Res.bind_ok (show (f x y).bind _ = _ from e1)
  cases g1'
  obtain ⟨k, env4, p4, e3, e4⟩ := bind_ok e2
  obtain ⟨k', g3, g3'⟩ := Res.bind_ok (show (asB z1).bind _ = _ from e3)
  cases g3'
  cases asB_ok g3
  refine hd.run S (r1.mono s2) r2 g1 fun u F' H' s3 S3 r3 => ⟨k, by simpa [Rep] using r3, ?_⟩
  cases k with
  | true =>
    rw [if_pos rfl] at e4 ⊢
    refine Cn.sq ⟨S3, z, env', p', e4, fun d F' H' s4 => q d F' H' (s3.trans s4)⟩ fun w2 u2 env5 p5 F5 H5 s5 r5 c5 => ?_
    obtain ⟨z5, e5, q5⟩ := c5.res
    exact hd'.run c5.S (r2.mono (s3.trans s5)) r5 e5 q5
  | false =>
    rw [if_neg Bool.false_ne_true] at e4 ⊢
    cases e4
    exact q _ F' H' s3 S3 (by simp [Rep])
theorem de_chain {op op' : CmpOp} (ho : OpR X (compareOp op) r) (ho' : OpR X (compareOp op') r') (hd : OpD R r f) (hd' : OpD R r' g) (ha : PE X a (lE R m)) (hb : PE X b (lE R n)) (hc : PE X c (lE R l))
    (hm : lastMarks [op, op'] [b, c] = false := by with_unfolding_all rfl) : PE X (.Compare a [op, op'] [b, c] pos) (lE R (mChain f g m n l)) :=
  PE.imp (pe_chain ho ho' ha hb hc hm) fun _ _ _ h => chain2 hd hd' h
theorem dt_chain {op op' : CmpOp} (ho : OpR X (compareOp op) r) (ho' : OpR X (compareOp op') r') (hd : OpD R r f) (hd' : OpD R r' g) (ha : PE X a (lE R m)) (hb : PE X b (lE R n)) (hc : PE X c (lE R l))
    (hm : lastMarks [op, op'] [b, c] = false := by with_unfolding_all rfl) : PT X (.Compare a [op, op'] [b, c] pos) (lT R (mB (mChain f g m n l))) :=
  PT.imp (pt_chain ho ho' ha hb hc hm) fun _ _ _ h => tst (te := tChain r r' (lE R m) (lE R n) (lE R l)) (fun h => chain2 hd hd' h) h
end

/-! ## tests -/
def mAnd (a b : M Bool) : M Bool := a >>= fun c => if c = true then b else M.ret false
def mOr (a b : M Bool) : M Bool := a >>= fun c => if c = true then M.ret true else b
def mNot (a : M Bool) : M Bool := a >>= fun c => M.ret (!c)
def mIf (t : M Bool) (a b : M D) : M D := t >>= fun c => if c = true then a else b
def mAndV (a b : M D) : M D := a >>= fun x => M.res (asB x) >>= fun c => if c = true then b else M.ret (.bl false)
def mOrV (a b : M D) : M D := a >>= fun x => M.res (asB x) >>= fun c => if c = true then M.ret (.bl true) else b
def mNotV (a : M D) : M D := a >>= fun x => M.res (asB x) >>= fun c => M.ret (.bl (!c))
section
variable {X : Cx} {R : RC} {a b : Expr} {rest : List Expr} {s t : M Bool} {m n : M D} {pos : Pos}
theorem Cn.bres {r : Res Bool} {k : Bool → M D} {Q : VK} {σ : St} {B : Bs} {env : Env'} {p : Pn} {F H : Hp} (h : Cn R (Rep R) (M.res r >>= k) Q σ B env p F H) : ∃ b, r = .ok b ∧ Cn R (Rep R) (k b) Q σ B env p F H := by
  obtain ⟨S, z, env', p', e, q⟩ := h
  obtain ⟨k1, env1, p1, e1, e2⟩ := bind_ok e
  obtain ⟨k', e3, e3'⟩ := Res.bind_ok (show r.bind _ = _ from e1)
  cases e3'
  exact ⟨k1, e3, S, z, env', p', e2, q⟩
theorem dw_and1 (ha : PT X a (lT R s)) : PW X (.BoolOp .And [a] pos) (lT R s) := pw_and1 ha
theorem dw_or1 (ha : PT X a (lT R s)) : PW X (.BoolOp .Or [a] pos) (lT R s) := pw_or1 ha
theorem dw_and (ha : PT X a (lT R s)) (hb : PW X (.BoolOp .And (b :: rest) pos) (lT R t)) : PW X (.BoolOp .And (a :: b :: rest) pos) (lT R (mAnd s t)) :=
  PW.imp (pw_and ha hb) fun σ H Q ⟨B, env, p, F, c⟩ => c.sq fun x v env1 p1 F1 H1 s1 r1 c1 => by
    cases r1
    cases x with
    | true => exact c1.lm
    | false => exact c1.ret _ F1 H1 (Same.refl _) c1.S rfl
theorem dw_or (ha : PT X a (lT R s)) (hb : PW X (.BoolOp .Or (b :: rest) pos) (lT R t)) : PW X (.BoolOp .Or (a :: b :: rest) pos) (lT R (mOr s t)) :=
  PW.imp (pw_or ha hb) fun σ H Q ⟨B, env, p, F, c⟩ => c.sq fun x v env1 p1 F1 H1 s1 r1 c1 => by
    cases r1
    cases x with
    | false => exact c1.lm
    | true => exact c1.ret _ F1 H1 (Same.refl _) c1.S rfl
theorem dt_bool (h : PW X a (lT R s)) : PT X a (lT R s) := h.pt
theorem dt_not (ha : PT X a (lT R s)) : PT X (.UnaryOp .Not a pos) (lT R (mNot s)) :=
  PT.imp (pt_not ha) fun σ H Q ⟨B, env, p, F, c⟩ => c.sq fun x v env1 p1 F1 H1 s1 r1 c1 => by
    cases r1
    exact c1.ret _ F1 H1 (Same.refl _) c1.S rfl
theorem de_ifExp {c : Expr} (hc : PT X c (lT R s)) (ha : PE X a (lE R m)) (hb : PE X b (lE R n)) : PE X (.IfExp c a b pos) (lE R (mIf s m n)) :=
  PE.imp (pe_ifExp hc ha hb) fun σ H Q ⟨B, env, p, F, c⟩ => c.sq fun x v env1 p1 F1 H1 s1 r1 c1 => by
    cases r1
    cases x with
    | true => exact c1.lm
    | false => exact c1.lm
theorem de_one {op} (h : PE X a (lE R m)) : PE X (.BoolOp op [a] pos) (lE R m) := pe_one h
theorem de_and (ha : PE X a (lE R m)) (hb : PE X (.BoolOp .And (b :: rest) pos) (lE R n)) : PE X (.BoolOp .And (a :: b :: rest) pos) (lE R (mAndV m n)) :=
  PE.imp (pe_and ha hb) fun σ H Q ⟨B, env, p, F, c⟩ => c.sq fun x v env1 p1 F1 H1 s1 r1 c1 => by
    obtain ⟨k, e, c2⟩ := c1.bres
    cases asB_ok e
    simp only [Rep] at r1
    refine ⟨k, r1, ?_⟩
    cases k with
    | true => exact c2.lm
    | false => exact c2.ret _ F1 H1 (Same.refl _) c2.S (by simp [Rep])
theorem de_or (ha : PE X a (lE R m)) (hb : PE X (.BoolOp .Or (b :: rest) pos) (lE R n)) : PE X (.BoolOp .Or (a :: b :: rest) pos) (lE R (mOrV m n)) :=
  PE.imp (pe_or ha hb) fun σ H Q ⟨B, env, p, F, c⟩ => c.sq fun x v env1 p1 F1 H1 s1 r1 c1 => by
    obtain ⟨k, e, c2⟩ := c1.bres
    cases asB_ok e
    simp only [Rep] at r1
    refine ⟨k, r1, ?_⟩
    cases k with
    | false => exact c2.lm
    | true => exact c2.ret _ F1 H1 (Same.refl _) c2.S (by simp [Rep])
theorem de_not (ha : PE X a (lE R m)) : PE X (.UnaryOp .Not a pos) (lE R (mNotV m)) :=
  PE.imp (pe_not ha) fun σ H Q ⟨B, env, p, F, c⟩ => c.sq fun x v env1 p1 F1 H1 s1 r1 c1 => by
    obtain ⟨k, e, c2⟩ := c1.bres
    cases asB_ok e
    simp only [Rep] at r1
    exact ⟨k, r1, c2.ret _ F1 H1 (Same.refl _) c2.S (by simp [Rep])⟩
end

/-! ## arguments, displays -/
def mNil : M (List D) := M.ret []
def mCons (m : M D) (ms : M (List D)) : M (List D) := m >>= fun x => ms >>= fun xs => M.ret (x :: xs)
def mkT (xs : List D) : Res D := if xs.length ≤ sizeLine then .ok (.tup xs) else .bad
def mkL (xs : List D) : Res D := if xs.length ≤ sizeLine then .ok (.lst xs) else .bad
theorem mkT_ok {xs : List D} {z : D} (h : mkT xs = .ok z) : z = .tup xs ∧ xs.length ≤ sizeLine := by
  unfold mkT at h
  split at h
  · rename_i q; cases h; exact ⟨rfl, q⟩
  · cases h
theorem mkL_ok {xs : List D} {z : D} (h : mkL xs = .ok z) : z = .lst xs ∧ xs.length ≤ sizeLine := by
  unfold mkL at h
  split at h
  · rename_i q; cases h; exact ⟨rfl, q⟩
  · cases h
def mTup (ms : M (List D)) : M D := ms >>= fun xs => M.res (mkT xs)
def mLst (ms : M (List D)) : M D := ms >>= fun xs => M.res (mkL xs)
def mCB (f : List D → Res D) (ms : M (List D)) : M D := ms >>= fun xs => M.res (f xs)
section
variable {X : Cx} {R : RC} {e : Expr} {es : List Expr} {m : M D} {ms : M (List D)} {pos : Pos} {B : Bs} {env : Env'} {p : Pn} {σ : St} {F H : Hp}
/-- a new frozen tuple, list -/
theorem Wn.tup {xs : List D} {vs : List V} {Q : VK} (S : SRel R B env p σ F H) (r : Reps R F xs vs) (q : Wn R B env p σ F (.tup xs) Q) : ∀ a, H a = none → Q (.ref a) (upd H a (.tup vs)) := fun a hn => by
  have e := S.alloc (o := .tup vs) hn
  exact q _ _ _ e.ff (S.ext e) (by simp only [Rep]; exact ⟨a, vs, rfl, SqT.of upd_same, r.mono e.ff⟩)
theorem Wn.lst {xs : List D} {vs : List V} {Q : VK} (S : SRel R B env p σ F H) (r : Reps R F xs vs) (q : Wn R B env p σ F (.lst xs) Q) : ∀ a, H a = none → Q (.ref a) (upd H a (.lst vs)) := fun a hn => by
  have e := S.alloc (o := .lst vs) hn
  exact q _ _ _ e.ff (S.ext e) (by simp only [Rep]; exact ⟨a, vs, rfl, upd_same, r.mono e.ff⟩)
theorem Wn.flat {z : D} {u : V} {Q : VK} (S : SRel R B env p σ F H) (q : Wn R B env p σ F z Q) (r : Rep R F z u) : Q u H := q u F H (Same.refl _) S r
theorem da_nil : PA X [] (lA R mNil) := PA.imp pa_nil fun σ H Q ⟨B, env, p, F, c⟩ => c.ret _ F H (Same.refl _) c.S .nil
theorem da_cons (ha : PE X e (lE R m)) (hr : PA X es (lA R ms)) (hs : starEach (e :: es) X.env = (false, eval e X.env) :: starEach es X.env := by rfl) : PA X (e :: es) (lA R (mCons m ms)) :=
  PA.imp (pa_cons ha hr hs) fun σ H Q ⟨B, env, p, F, c⟩ => c.sq fun x v env1 p1 F1 H1 s1 r1 c1 => c1.sq fun xs vs env2 p2 F2 H2 s2 r2 c2 =>
    c2.ret _ F2 H2 (Same.refl _) c2.S (.cons (r1.mono s2) r2)
theorem de_tup {x1} (h : PA X es (lA R ms)) : PE X (.Tuple es x1 pos) (lE R (mTup ms)) :=
  PE.imp (pe_tup h) fun σ H Q ⟨B, env, p, F, c⟩ => c.sq fun xs vs env2 p2 F2 H2 s2 r2 c2 => by
    obtain ⟨z, e, q⟩ := c2.res
    obtain ⟨rfl, hz⟩ := mkT_ok e
    exact ⟨by rw [r2.length]; exact hz, Wn.tup c2.S r2 q⟩
theorem de_lst (h : PA X es (lA R ms)) : PE X (.List es pos) (lE R (mLst ms)) :=
  PE.imp (pe_lst h) fun σ H Q ⟨B, env, p, F, c⟩ => c.sq fun xs vs env2 p2 F2 H2 s2 r2 c2 => by
    obtain ⟨z, e, q⟩ := c2.res
    obtain ⟨rfl, hz⟩ := mkL_ok e
    exact ⟨by rw [r2.length]; exact hz, Wn.lst c2.S r2 q⟩
theorem cb2 {r : List V → Hp → VK → Prop} {f : List D → Res D} (hd : CallD R r f) {σ : St} {H : Hp} {Q : VK} (h : lE R (mCB f ms) σ H Q) : tCB r (lA R ms) σ H Q := by
  obtain ⟨B, env, p, F, c⟩ := h
  refine c.sq fun xs vs env2 p2 F2 H2 s2 r2 c2 => ?_
  obtain ⟨z, e, q⟩ := c2.res
  exact hd.run c2.S r2 e q
theorem de_callB {r : List V → Hp → VK → Prop} {f : List D → Res D} {id : String} {x : Str} {ps : Pos} (hc : CallR X (.builtin id) r) (hd : CallD R r f) (hg : Gl X x) (hm : X.mg x = none) (hv : bootBuiltins x = some (.builtin id)) (ha : PA X (e :: es) (lA R ms)) (hn : x ≠ "__name__" := by decide) (hdb : (x == ("__debug__" : Str)) = false := by decide)
    (he : starEach (e :: es) X.env = (false, eval e X.env) :: starEach es X.env := by rfl) (hpl : (backTo pos (starEach es X.env)).any (·.1) = false := by rfl) : PE X (.Call (.Name x ps) (e :: es) [] pos) (lE R (mCB f ms)) :=
  PE.imp (pe_callB hc hg hm hv ha hn hdb he hpl) fun _ _ _ h => cb2 hd h
theorem de_callTy {r : List V → Hp → VK → Prop} {f : List D → Res D} {T : String} {x : Str} {ps : Pos} (hc : CallR X (.type T) r) (hd : CallD R r f) (hg : Gl X x) (hm : X.mg x = none) (hv : bootBuiltins x = some (.type T)) (ha : PA X (e :: es) (lA R ms)) (hn : x ≠ "__name__" := by decide) (hdb : (x == ("__debug__" : Str)) = false := by decide)
    (he : starEach (e :: es) X.env = (false, eval e X.env) :: starEach es X.env := by rfl) (hpl : (backTo pos (starEach es X.env)).any (·.1) = false := by rfl) : PE X (.Call (.Name x ps) (e :: es) [] pos) (lE R (mCB f ms)) :=
  PE.imp (pe_callTy hc hg hm hv ha hn hdb he hpl) fun _ _ _ h => cb2 hd h
end
end CS
namespace CS
open PySem L2

/-! ## data without objects; ==; in -/
mutual
def D.py : D → PyData
  | .non => .none
  | .bl b => .bool b
  | .int i => .int i
  | .str s => .str s
  | .tup ds => .tuple (D.pys ds)
  | .lst ds => .list (D.pys ds)
  | .ins _ _ _ => .none
  | .pen => .none
  | .ty _ => .none
  | .cls _ => .none
def D.pys : List D → List PyData
  | [] => []
  | d :: ds => D.py d :: D.pys ds
end
mutual
/-- n levels of rows at most, no objects within -/
def D.sh : Nat → D → Bool
  | _, .non => true
  | _, .bl _ => true
  | _, .int _ => true
  | _, .str s => PyData.canLay0 (.str s)
  | 0, .tup _ => false
  | 0, .lst _ => false
  | n + 1, .tup ds => D.shs n ds
  | n + 1, .lst ds => D.shs n ds
  | _, .ins _ _ _ => false
  | _, .pen => false
  | _, .ty _ => false
  | _, .cls _ => false
def D.shs : Nat → List D → Bool
  | _, [] => true
  | n, d :: ds => D.sh n d && D.shs n ds
end
theorem pys_map : ∀ ds : List D, D.pys ds = ds.map D.py
  | [] => by simp [D.pys]
  | d :: ds => by simp [D.pys, pys_map ds]
theorem shs_all (n : Nat) : ∀ ds : List D, D.shs n ds = ds.all (D.sh n)
  | [] => by simp [D.shs]
  | d :: ds => by simp [D.shs, shs_all n ds]
mutual
theorem sh_can : ∀ (n : Nat) (d : D), D.sh n d = true → (D.py d).canLay0 = true ∧ (D.py d).depth ≤ n + 1
  | n, .non, _ => by simp [D.py, PyData.canLay0, PyData.depth]
  | n, .bl _, _ => by simp [D.py, PyData.canLay0, PyData.depth]
  | n, .int _, _ => by simp [D.py, PyData.canLay0, PyData.depth]
  | n, .str s, h => by
    refine ⟨by simpa [D.py, D.sh] using h, by simp [D.py, PyData.depth]⟩
  | 0, .tup _, h => by simp [D.sh] at h
  | 0, .lst _, h => by simp [D.sh] at h
  | n + 1, .tup ds, h => by
    have := shs_can n ds (by simpa [D.sh] using h)
    simp only [D.py, PyData.canLay0, PyData.depth]
    exact ⟨this.1, by omega⟩
  | n + 1, .lst ds, h => by
    have := shs_can n ds (by simpa [D.sh] using h)
    simp only [D.py, PyData.canLay0, PyData.depth]
    exact ⟨this.1, by omega⟩
  | n, .ins _ _ _, h => by simp [D.sh] at h
  | n, .pen, h => by simp [D.sh] at h
  | n, .ty _, h => by simp [D.sh] at h
  | n, .cls _, h => by simp [D.sh] at h
theorem shs_can : ∀ (n : Nat) (ds : List D), D.shs n ds = true → PyData.canLayAll0 (D.pys ds) = true ∧ PyData.depthAll (D.pys ds) ≤ n + 1
  | n, [], _ => by simp [D.pys, PyData.canLayAll0, PyData.depthAll]
  | n, d :: ds, h => by
    simp only [D.shs, Bool.and_eq_true] at h
    have h1 := sh_can n d h.1
    have h2 := shs_can n ds h.2
    simp only [D.pys, PyData.canLayAll0, PyData.depthAll, Bool.and_eq_true]
    exact ⟨⟨h1.1, h2.1⟩, by omega⟩
end
theorem sh_shaped {n : Nat} {d : D} (h : D.sh n d = true) (hn : n ≤ 63) : SeqAt.shaped (D.py d) = true := by
  obtain ⟨h1, h2⟩ := sh_can n d h
  simp only [SeqAt.shaped, h1, Bool.true_and, decide_eq_true_eq]; omega
mutual
theorem Rep.dp {R : RC} {F H : Hp} (s : Same F H) : ∀ (n : Nat) (d : D) (v : V), D.sh n d = true → Rep R F d v → Dp R.K H v (D.py d)
  | n, .non, v, _, h => by simp only [Rep] at h; subst h; exact .non
  | n, .bl _, v, _, h => by simp only [Rep] at h; subst h; exact .bl _
  | n, .int _, v, _, h => by simp only [Rep] at h; subst h; exact .int _
  | n, .str _, v, _, h => by simp only [Rep] at h; subst h; exact .str _
  | 0, .tup _, _, h, _ => by simp [D.sh] at h
  | 0, .lst _, _, h, _ => by simp [D.sh] at h
  | n + 1, .tup ds, v, h, r => by
    simp only [Rep] at r
    obtain ⟨a, vs, rfl, q, r⟩ := r
    exact .tup (Same.sqt s q) (Reps.dp s n ds vs (by simpa [D.sh] using h) r)
  | n + 1, .lst ds, v, h, r => by
    simp only [Rep] at r
    obtain ⟨a, vs, rfl, q, r⟩ := r
    exact .lst (SqL.of (s _ _ q)) (Reps.dp s n ds vs (by simpa [D.sh] using h) r)
  | n, .ins _ _ _, _, h, _ => by simp [D.sh] at h
  | n, .pen, _, h, _ => by simp [D.sh] at h
  | n, .ty _, _, h, _ => by simp [D.sh] at h
  | n, .cls _, _, h, _ => by simp [D.sh] at h
theorem Reps.dp {R : RC} {F H : Hp} (s : Same F H) : ∀ (n : Nat) (ds : List D) (vs : List V), D.shs n ds = true → Reps R F ds vs → DpAll R.K H vs (D.pys ds)
  | n, [], vs, _, h => by simp only [Reps] at h; subst h; exact .nil
  | n, d :: ds, vs, h, r => by
    simp only [D.shs, Bool.and_eq_true] at h
    simp only [Reps] at r
    obtain ⟨v, r', rfl, r1, r2⟩ := r
    exact .cons (Rep.dp s n d v h.1 r1) (Reps.dp s n ds r' h.2 r2)
end
/-- == of data -/
def D.eqv (a b : D) : Bool := PyData.eqv a.py b.py
def eqD (a b : D) : Res D := if (a.sh 40 && b.sh 40) = true then .ok (.bl (a.eqv b)) else .bad
def neD (a b : D) : Res D := if (a.sh 40 && b.sh 40) = true then .ok (.bl (!a.eqv b)) else .bad
section
variable {R : RC}
theorem eq_d : OpD R (rEqD R.K) eqD := ⟨fun {B env p σ F H x y z v w Q} S rx ry h q => by
  unfold eqD at h
  split at h
  · rename_i hs
    rw [Bool.and_eq_true] at hs
    cases h
    exact ⟨x.py, y.py, rx.dp S.fh 40 x v hs.1, ry.dp S.fh 40 y w hs.2, sh_shaped hs.1 (by decide), sh_shaped hs.2 (by decide), Wn.flat S q (by simp [Rep, D.eqv])⟩
  · cases h⟩
theorem ne_d : OpD R (rNeD R.K) neD := ⟨fun {B env p σ F H x y z v w Q} S rx ry h q => by
  unfold neD at h
  split at h
  · rename_i hs
    rw [Bool.and_eq_true] at hs
    cases h
    exact ⟨x.py, y.py, rx.dp S.fh 40 x v hs.1, ry.dp S.fh 40 y w hs.2, sh_shaped hs.1 (by decide), sh_shaped hs.2 (by decide), Wn.flat S q (by simp [Rep, D.eqv])⟩
  · cases h⟩
end
/-- x in a row of data -/
def rInD (K : PySem.W.Frag) (neg : Bool) : R2 := fun x y H Q => ∃ p xs d ds, y = .ref p ∧ (SqL K H p xs ∨ SqT K H p xs) ∧ Dp K H x d ∧ DpAll K H xs ds ∧ SeqAt.shaped d = true ∧ (∀ e ∈ ds, SeqAt.shaped e = true) ∧
  Q (.bl (if neg then !(ds.any fun e => PyData.eqv e d) else ds.any fun e => PyData.eqv e d)) H
open Classical in
noncomputable def eqR (h : Heap) (d : PyData) (u : Value) : Bool := if ∃ e as, e.canLay0 = true ∧ Reads h u e as ∧ PyData.eqv e d = true then true else false
theorem eqR_of {h : Heap} {d e : PyData} {u : Value} {as : List Addr} (r : Reads h u e as) (c : e.canLay0 = true) : eqR h d u = PyData.eqv e d := by
  unfold eqR
  cases q : PyData.eqv e d with
  | true => rw [if_pos ⟨e, as, c, r, q⟩]
  | false =>
    rw [if_neg]
    rintro ⟨e', as', c', r', q'⟩
    rw [SeqAt.Reads.unique _ _ _ _ _ c r r'] at q
    rw [q] at q'; cases q'
theorem any_eqR {h : Heap} {d : PyData} : ∀ {ds : List PyData} {us : List Value} {as : List Addr}, ReadsAll h us ds as → (∀ e ∈ ds, e.canLay0 = true) → us.any (eqR h d) = ds.any fun e => PyData.eqv e d
  | _, _, _, .nil, _ => rfl
  | e :: ds, u :: us, _, .cons r rs, c => by
    rw [List.any_cons, List.any_cons, eqR_of r (c e List.mem_cons_self), any_eqR rs fun e' he => c e' (List.mem_cons_of_mem _ he)]
theorem mem_eqR {h : Heap} {P : PyData → Prop} : ∀ {ds : List PyData} {us : List Value} {as : List Addr}, ReadsAll h us ds as → (∀ e ∈ ds, P e) → ∀ u ∈ us, ∃ e as, Reads h u e as ∧ P e
  | _, _, _, .nil, _, u, hu => by cases hu
  | e :: ds, u :: us, _, .cons r rs, c, u', hu => by
    rcases List.mem_cons.mp hu with rfl | hu
    · exact ⟨e, _, r, c e List.mem_cons_self⟩
    · exact mem_eqR rs (fun e' he => c e' (List.mem_cons_of_mem _ he)) u' hu
section
variable {X : Cx}
theorem in_eqAt {A : Around} {s : Shared} {u v : Value} {d e : PyData} {as bs : List Addr} (hu : A.units + 64 < cLine) (r : Reads s.heap u e as) (r' : Reads s.heap v d bs) (he : SeqAt.shaped e = true) (hd : SeqAt.shaped d = true) : SeqAt.EqAt A s u v (eqR s.heap d u) := by
  rw [eqR_of r (SeqAt.canLay_of_shaped he)]
  exact SeqAt.eqAt_reads _ _ _ _ _ _ _ _ r r' (SeqAt.canLay_of_shaped he) (SeqAt.canLay_of_shaped hd) (SeqAt.room_of_shaped he hu)
theorem op_inD (hu : X.A.units + 65 < cLine) : OpR X (compareOp .In) (rInD X.K false) := by
  intro pins s σ H x y v u Q I rx ry h
  obtain ⟨p, xs, d, ds, rfl, hq, hd, hds, sd, sds, q⟩ := h
  cases ry
  obtain ⟨bs, r'⟩ := Dp.reads I d x v hd rx
  have hu1 : X.A.in1.units + 64 < cLine := by show X.A.units + 1 + 64 < cLine; omega
  rcases hq with hq | hq
  · obtain ⟨its, r, pl, hz⟩ := I.list hq
    obtain ⟨as, ra⟩ := Dp.readsAll I ds xs its hds r
    refine SeqAt.in_listAt (eqR s.heap d) pl.isList (fun w hw => ?_) ⟨.bl _, H, I, rfl, ?_⟩
    · obtain ⟨e, as', r1, he⟩ := mem_eqR ra sds w (by simpa using hw)
      exact in_eqAt hu1 r1 r' he sd
    · rw [show its.toArray.any (eqR s.heap d) = its.any (eqR s.heap d) by simp, any_eqR ra fun e he => SeqAt.canLay_of_shaped (sds e he)]
      exact q
  · obtain ⟨its, r, pl, hz⟩ := I.tuple hq
    obtain ⟨as, ra⟩ := Dp.readsAll I ds xs its hds r
    refine SeqAt.in_tupleAt (eqR s.heap d) pl (fun w hw => ?_) ⟨.bl _, H, I, rfl, ?_⟩
    · obtain ⟨e, as', r1, he⟩ := mem_eqR ra sds w (by simpa using hw)
      exact in_eqAt hu1 r1 r' he sd
    · rw [show its.toArray.any (eqR s.heap d) = its.any (eqR s.heap d) by simp, any_eqR ra fun e he => SeqAt.canLay_of_shaped (sds e he)]
      exact q
theorem op_notInD (hu : X.A.units + 65 < cLine) : OpR X (compareOp .NotIn) (rInD X.K true) := by
  intro pins s σ H x y v u Q I rx ry h
  obtain ⟨p, xs, d, ds, rfl, hq, hd, hds, sd, sds, q⟩ := h
  cases ry
  obtain ⟨bs, r'⟩ := Dp.reads I d x v hd rx
  have hu1 : X.A.in1.units + 64 < cLine := by show X.A.units + 1 + 64 < cLine; omega
  rcases hq with hq | hq
  · obtain ⟨its, r, pl, hz⟩ := I.list hq
    obtain ⟨as, ra⟩ := Dp.readsAll I ds xs its hds r
    refine SeqAt.notIn_listAt (eqR s.heap d) pl.isList (fun w hw => ?_) ⟨.bl _, H, I, rfl, ?_⟩
    · obtain ⟨e, as', r1, he⟩ := mem_eqR ra sds w (by simpa using hw)
      exact in_eqAt hu1 r1 r' he sd
    · rw [show its.toArray.any (eqR s.heap d) = its.any (eqR s.heap d) by simp, any_eqR ra fun e he => SeqAt.canLay_of_shaped (sds e he)]
      exact q
  · obtain ⟨its, r, pl, hz⟩ := I.tuple hq
    obtain ⟨as, ra⟩ := Dp.readsAll I ds xs its hds r
    refine SeqAt.notIn_tupleAt (eqR s.heap d) pl (fun w hw => ?_) ⟨.bl _, H, I, rfl, ?_⟩
    · obtain ⟨e, as', r1, he⟩ := mem_eqR ra sds w (by simpa using hw)
      exact in_eqAt hu1 r1 r' he sd
    · rw [show its.toArray.any (eqR s.heap d) = its.any (eqR s.heap d) by simp, any_eqR ra fun e he => SeqAt.canLay_of_shaped (sds e he)]
      exact q
end
/-- the items of a row -/
def D.row : D → Res (List D)
  | .lst ds => .ok ds
  | .tup ds => .ok ds
  | _ => .bad
def inD (x y : D) : Res D := y.row.bind fun ds => if (x.sh 40 && ds.all (D.sh 40)) = true then .ok (.bl (ds.any fun e => e.eqv x)) else .bad
def notInD (x y : D) : Res D := y.row.bind fun ds => if (x.sh 40 && ds.all (D.sh 40)) = true then .ok (.bl (!(ds.any fun e => e.eqv x))) else .bad
theorem Rep.row {R : RC} {F H : Hp} {d : D} {ds : List D} {v : V} (s : Same F H) (r : Rep R F d v) (h : d.row = .ok ds) : ∃ a vs, v = .ref a ∧ (SqL R.K H a vs ∨ SqT R.K H a vs) ∧ Reps R F ds vs := by
  unfold D.row at h
  split at h
  · cases h
    simp only [Rep] at r
    obtain ⟨a, vs, e, q, r⟩ := r
    exact ⟨a, vs, e, .inl (SqL.of (s _ _ q)), r⟩
  · cases h
    simp only [Rep] at r
    obtain ⟨a, vs, e, q, r⟩ := r
    exact ⟨a, vs, e, .inr (Same.sqt s q), r⟩
  · cases h
section
variable {R : RC}
theorem any_py (x : D) : ∀ ds : List D, ((D.pys ds).any fun e => PyData.eqv e x.py) = ds.any fun e => e.eqv x
  | [] => by simp [D.pys]
  | d :: ds => by simp only [D.pys, List.any_cons, any_py x ds]; rfl
theorem in_aux {neg : Bool} {f : D → D → Res D} (hf : ∀ x y, f x y = y.row.bind fun ds => if (x.sh 40 && ds.all (D.sh 40)) = true then .ok (.bl (if neg then !(ds.any fun e => e.eqv x) else ds.any fun e => e.eqv x)) else .bad) : OpD R (rInD R.K neg) f := ⟨fun {B env p σ F H x y z v w Q} S rx ry h q => by
  rw [hf] at h
  obtain ⟨ds, h1, h2⟩ := Res.bind_ok h
  split at h2
  · rename_i hs
    rw [Bool.and_eq_true] at hs
    obtain ⟨a, vs, e, hq, rs⟩ := ry.row S.fh h1
    cases h2
    refine ⟨a, vs, x.py, D.pys ds, e, hq, rx.dp S.fh 40 x v hs.1, rs.dp S.fh 40 ds vs (by rw [shs_all]; exact hs.2), sh_shaped hs.1 (by decide), fun e' he' => ?_, ?_⟩
    · rw [pys_map] at he'
      obtain ⟨d, hd, rfl⟩ := List.mem_map.mp he'
      exact sh_shaped (List.all_eq_true.mp hs.2 d hd) (by decide)
    · rw [any_py]
      exact Wn.flat S q (by simp [Rep])
  · cases h2⟩
theorem in_d : OpD R (rInD R.K false) inD := in_aux fun _ _ => rfl
theorem notIn_d : OpD R (rInD R.K true) notInD := in_aux fun _ _ => rfl
end
end CS
namespace CS
open PySem L2

/-! ## numbers and rows by operators -/
theorem OpD.or {R : RC} {r r' : R2} {f g : D → D → Res D} {h : D → D → Res D} (hf : OpD R r f) (hg : OpD R r' g) (e : ∀ x y z, h x y = .ok z → f x y = .ok z ∨ g x y = .ok z) :
    OpD R (fun x y H Q => r x y H Q ∨ r' x y H Q) h := ⟨fun S rx ry q w => (e _ _ _ q).imp (fun q => hf.run S rx ry q w) fun q => hg.run S rx ry q w⟩
def addI : D → D → Res D
  | .int a, .int b => .ok (.int (a + b))
  | _, _ => .bad
def addL : D → D → Res D
  | .lst a, .lst b => mkL (a ++ b)
  | _, _ => .bad
def addT : D → D → Res D
  | .tup a, .tup b => if a.isEmpty then .bad else mkT (a ++ b)
  | _, _ => .bad
def addS : D → D → Res D
  | .str a, .str b => if a.length + b.length ≤ sizeLine then .ok (.str (a ++ b)) else .bad
  | _, _ => .bad
def addD : D → D → Res D
  | .int a, .int b => .ok (.int (a + b))
  | .lst a, .lst b => mkL (a ++ b)
  | .tup a, .tup b => if a.isEmpty then .bad else mkT (a ++ b)
  | .str a, .str b => if a.length + b.length ≤ sizeLine then .ok (.str (a ++ b)) else .bad
  | _, _ => .bad
def subD : D → D → Res D
  | .int a, .int b => .ok (.int (a - b))
  | _, _ => .bad
def mulI : D → D → Res D
  | .int a, .int b => if a.natAbs < 2 ^ 64 ∨ b.natAbs < 2 ^ 64 then .ok (.int (a * b)) else .bad
  | _, _ => .bad
def mulL : D → D → Res D
  | .lst a, .int k => if k < 2 ^ 63 ∧ -(2 ^ 63) ≤ k then mkL (List.replicate k.toNat a).flatten else .bad
  | _, _ => .bad
def mulD : D → D → Res D
  | .int a, .int b => if a.natAbs < 2 ^ 64 ∨ b.natAbs < 2 ^ 64 then .ok (.int (a * b)) else .bad
  | .lst a, .int k => if k < 2 ^ 63 ∧ -(2 ^ 63) ≤ k then mkL (List.replicate k.toNat a).flatten else .bad
  | _, _ => .bad
def modD : D → D → Res D
  | .int a, .int b => if b = 0 then .bad else .ok (.int (a.fmod b))
  | _, _ => .bad
def fdivD : D → D → Res D
  | .int a, .int b => if b ≠ 0 ∧ b.natAbs < 1073741824 then .ok (.int (a.fdiv b)) else .bad
  | _, _ => .bad
def cmpI (f : Int → Int → Bool) : D → D → Res D
  | .int a, .int b => .ok (.bl (f a b))
  | _, _ => .bad
def ltD : D → D → Res D := cmpI fun i j => decide (i < j)
def leD : D → D → Res D := cmpI fun i j => decide (i ≤ j)
def gtD : D → D → Res D := cmpI fun i j => decide (j < i)
def geD : D → D → Res D := cmpI fun i j => decide (j ≤ i)
def isN : D → D → Res D
  | .non, .non => .ok (.bl true)
  | _, .non => .ok (.bl false)
  | _, _ => .bad
def notN : D → D → Res D
  | .non, .non => .ok (.bl false)
  | _, .non => .ok (.bl true)
  | _, _ => .bad
def negD : D → Res D
  | .int a => .ok (.int (-a))
  | _ => .bad
theorem Reps.flat {R : RC} {F : Hp} {ds : List D} {vs : List V} (r : Reps R F ds vs) : ∀ k : Nat, Reps R F (List.replicate k ds).flatten (List.replicate k vs).flatten
  | 0 => by simp [Reps]
  | k + 1 => by simp only [List.replicate_succ, List.flatten_cons]; exact r.append (Reps.flat r k)
abbrev rAddI : R2 := rI0 fun i j => .int (i + j)
abbrev rAddS : R2 := fun x y H Q => ∃ i j, x = .str i ∧ y = .str j ∧ i.length + j.length ≤ sizeLine ∧ Q (.str (i ++ j)) H
section
variable {R : RC}
theorem addI_d : OpD R rAddI addI := ⟨fun {B env p σ F H x y z v w Q} S rx ry h q => by
  unfold addI at h
  split at h
  · cases h
    simp only [Rep] at rx ry
    exact ⟨_, _, rx, ry, Wn.flat S q (by simp [Rep])⟩
  · cases h⟩
theorem cmp_d {f : Int → Int → Bool} : OpD R (rI0 fun i j => .bl (f i j)) (cmpI f) := ⟨fun {B env p σ F H x y z v w Q} S rx ry h q => by
  unfold cmpI at h
  split at h
  · cases h
    simp only [Rep] at rx ry
    exact ⟨_, _, rx, ry, Wn.flat S q (by simp [Rep])⟩
  · cases h⟩
theorem sub_d : OpD R (rI0 fun i j => .int (i - j)) subD := ⟨fun {B env p σ F H x y z v w Q} S rx ry h q => by
  unfold subD at h
  split at h
  · cases h
    simp only [Rep] at rx ry
    exact ⟨_, _, rx, ry, Wn.flat S q (by simp [Rep])⟩
  · cases h⟩
theorem lt_d : OpD R (rI0 fun i j => .bl (decide (i < j))) ltD := cmp_d
theorem le_d : OpD R (rI0 fun i j => .bl (decide (i ≤ j))) leD := cmp_d
theorem gt_d : OpD R (rI0 fun i j => .bl (decide (j < i))) gtD := cmp_d
theorem ge_d : OpD R (rI0 fun i j => .bl (decide (j ≤ i))) geD := cmp_d
theorem addL_d : OpD R rCat addL := ⟨fun {B env p σ F H x y z v w Q} S rx ry h q => by
  unfold addL at h
  split at h
  · obtain ⟨rfl, hz⟩ := mkL_ok h
    simp only [Rep] at rx ry
    obtain ⟨a, vs, e, h1, r1⟩ := rx
    obtain ⟨b, ws, e', h2, r2⟩ := ry
    refine ⟨a, b, vs, ws, e, e', S.fh _ _ h1, S.fh _ _ h2, ?_, Wn.lst S (r1.append r2) q⟩
    rw [r1.length, r2.length, ← List.length_append]; exact hz
  · cases h⟩
theorem addT_d : OpD R (rCatT R.K) addT := ⟨fun {B env p σ F H x y z v w Q} S rx ry h q => by
  unfold addT at h
  split at h
  · rename_i da db
    split at h
    · cases h
    · rename_i hne
      obtain ⟨rfl, hz⟩ := mkT_ok h
      have rx' := rx
      simp only [Rep] at rx ry
      obtain ⟨a, vs, e, h1, r1⟩ := rx
      obtain ⟨b, ws, e', h2, r2⟩ := ry
      refine ⟨a, b, vs, ws, e, e', Same.sqt S.fh h1, Same.sqt S.fh h2, ?_, ?_, fun hw => ?_, fun _ => Wn.tup S (r1.append r2) q⟩
      · rintro rfl
        have := r1.length
        cases da with
        | nil => simp at hne
        | cons _ _ => simp at this
      · rw [r1.length, r2.length, ← List.length_append]; exact hz
      · subst hw
        have : db = [] := by
          have := r2.length
          cases db with
          | nil => rfl
          | cons _ _ => simp at this
        subst this
        rw [List.append_nil] at q
        refine Wn.flat S q ?_
        rw [← e]; exact rx'
  · cases h⟩
theorem addS_d : OpD R rAddS addS := ⟨fun {B env p σ F H x y z v w Q} S rx ry h q => by
  unfold addS at h
  split at h
  · split at h
    · rename_i hz
      cases h
      simp only [Rep] at rx ry
      exact ⟨_, _, rx, ry, hz, Wn.flat S q (by simp [Rep])⟩
    · cases h
  · cases h⟩
theorem mulI_d : OpD R (rI CMul fun i j => .int (i * j)) mulI := ⟨fun {B env p σ F H x y z v w Q} S rx ry h q => by
  unfold mulI at h
  split at h
  · split at h
    · rename_i hz
      cases h
      simp only [Rep] at rx ry
      exact ⟨_, _, rx, ry, hz.imp (fun _ => by omega) fun _ => by omega, Wn.flat S q (by simp [Rep])⟩
    · cases h
  · cases h⟩
theorem mulL_d : OpD R rRep mulL := ⟨fun {B env p σ F H x y z v w Q} S rx ry h q => by
  unfold mulL at h
  split at h
  · split at h
    · rename_i k hz
      obtain ⟨rfl, hl⟩ := mkL_ok h
      simp only [Rep] at rx ry
      obtain ⟨a, vs, e, h1, r1⟩ := rx
      refine ⟨a, k, vs, e, ry, S.fh _ _ h1, hz.2, hz.1, ?_, Wn.lst S (r1.flat k.toNat) q⟩
      rw [r1.length]
      simpa [List.length_flatten, List.map_replicate, List.sum_replicate_nat, Nat.mul_comm] using hl
    · cases h
  · cases h⟩
theorem mod_d : OpD R (rI (fun _ j => j ≠ 0) fun i j => .int (i.fmod j)) modD := ⟨fun {B env p σ F H x y z v w Q} S rx ry h q => by
  unfold modD at h
  split at h
  · split at h
    · cases h
    · rename_i hz
      cases h
      simp only [Rep] at rx ry
      exact ⟨_, _, rx, ry, hz, Wn.flat S q (by simp [Rep])⟩
  · cases h⟩
theorem fdiv_d : OpD R (rI CDivN fun i j => .int (i.fdiv j)) fdivD := ⟨fun {B env p σ F H x y z v w Q} S rx ry h q => by
  unfold fdivD at h
  split at h
  · split at h
    · rename_i hz
      cases h
      simp only [Rep] at rx ry
      exact ⟨_, _, rx, ry, hz, Wn.flat S q (by simp [Rep])⟩
    · cases h
  · cases h⟩
theorem Rep.non_iff {F : Hp} {d : D} {v : V} (r : Rep R F d v) : decide (v = .non) = (match d with | .non => true | _ => false) := by
  cases d <;> simp only [Rep] at r
  all_goals first
    | (subst r; rfl)
    | (obtain ⟨a, vs, rfl, _⟩ := r; rfl)
    | (obtain ⟨a, dx, vs, rfl, _⟩ := r; rfl)
theorem isN_d : OpD R (fun x y H Q => y = .non ∧ Q (.bl (decide (x = .non))) H) isN := ⟨fun {B env p σ F H x y z v w Q} S rx ry h q => by
  cases y <;> try (cases x <;> cases h)
  all_goals first
    | (simp only [Rep] at ry; subst ry; refine ⟨rfl, ?_⟩; rw [rx.non_iff]; exact Wn.flat S q (by simp [Rep]))
    | cases h⟩
theorem notN_d : OpD R (fun x y H Q => y = .non ∧ Q (.bl (!decide (x = .non))) H) notN := ⟨fun {B env p σ F H x y z v w Q} S rx ry h q => by
  cases y <;> try (cases x <;> cases h)
  all_goals first
    | (simp only [Rep] at ry; subst ry; refine ⟨rfl, ?_⟩; rw [rx.non_iff]; exact Wn.flat S q (by simp [Rep]))
    | cases h⟩
theorem neg_d : UnD R (rU fun i => .int (-i)) negD := ⟨fun {B env p σ F H x z v Q} S rx h q => by
  unfold negD at h
  split at h
  · cases h
    simp only [Rep] at rx
    exact ⟨_, rx, Wn.flat S q (by simp [Rep])⟩
  · cases h⟩
end
def rAdd4 (K : PySem.W.Frag) : R2 := fun x y H Q => rAddI x y H Q ∨ (rCat x y H Q ∨ (rCatT K x y H Q ∨ rAddS x y H Q))
theorem op_addA {X : Cx} : OpR X (binaryOp .Add) (rAdd4 X.K) := op_add.or (op_cat.or (op_catT.or op_add_str))
theorem add_d {R : RC} : OpD R (rAdd4 R.K) addD := ⟨fun {B env p σ F H x y z v w Q} S rx ry h q => by
  cases x <;> cases y <;> first
    | exact .inl (addI_d.run S rx ry h q)
    | exact .inr (.inl (addL_d.run S rx ry h q))
    | exact .inr (.inr (.inl (addT_d.run S rx ry h q)))
    | exact .inr (.inr (.inr (addS_d.run S rx ry h q)))⟩
def rMul2 : R2 := fun x y H Q => (rI CMul fun i j => .int (i * j)) x y H Q ∨ rRep x y H Q
theorem op_mulA {X : Cx} : OpR X (binaryOp .Mult) rMul2 := op_mul.or op_rep
theorem mul_d {R : RC} : OpD R rMul2 mulD := ⟨fun {B env p σ F H x y z v w Q} S rx ry h q => by
  cases x <;> cases y <;> first
    | exact .inl (mulI_d.run S rx ry h q)
    | exact .inr (mulL_d.run S rx ry h q)⟩

section
variable {X : Cx} {R : RC} {a : Expr} {m : M D} {pos : Pos}
theorem de_un {op : UnaryOp} {r : V → Hp → VK → Prop} {f : D → Res D} (ho : UnR X (unaryOp op) r) (hd : UnD R r f) (ha : PE X a (lE R m)) : PE X (.UnaryOp op a pos) (lE R (m1 f m)) :=
  PE.imp (pe_un ho ha) fun σ H Q ⟨B, env, p, F, c⟩ => c.sq fun x v env1 p1 F1 H1 s1 r1 c1 => by
    obtain ⟨z, e, q⟩ := c1.res
    exact hd.run c1.S r1 e q
end

/-! ## calls of built-in names -/
def toInts : List D → Res (List Int)
  | [] => .ok []
  | .int i :: r => (toInts r).bind fun is => .ok (i :: is)
  | _ :: _ => .bad
def toBls : List D → Res (List Bool)
  | [] => .ok []
  | .bl i :: r => (toBls r).bind fun is => .ok (i :: is)
  | _ :: _ => .bad
theorem toInts_ok : ∀ {ds : List D} {is : List Int}, toInts ds = .ok is → ds = is.map D.int
  | [], _, h => by cases h; rfl
  | .int i :: r, _, h => by
    obtain ⟨js, h1, h2⟩ := Res.bind_ok (show (toInts r).bind _ = _ from h)
    cases h2
    rw [toInts_ok h1]; rfl
  | .non :: _, _, h => by cases h
  | .bl _ :: _, _, h => by cases h
  | .str _ :: _, _, h => by cases h
  | .tup _ :: _, _, h => by cases h
  | .lst _ :: _, _, h => by cases h
  | .ins _ _ _ :: _, _, h => by cases h
  | .pen :: _, _, h => by cases h
  | .ty _ :: _, _, h => by cases h
  | .cls _ :: _, _, h => by cases h
theorem toBls_ok : ∀ {ds : List D} {is : List Bool}, toBls ds = .ok is → ds = is.map D.bl
  | [], _, h => by cases h; rfl
  | .bl i :: r, _, h => by
    obtain ⟨js, h1, h2⟩ := Res.bind_ok (show (toBls r).bind _ = _ from h)
    cases h2
    rw [toBls_ok h1]; rfl
  | .non :: _, _, h => by cases h
  | .int _ :: _, _, h => by cases h
  | .str _ :: _, _, h => by cases h
  | .tup _ :: _, _, h => by cases h
  | .lst _ :: _, _, h => by cases h
  | .ins _ _ _ :: _, _, h => by cases h
  | .pen :: _, _, h => by cases h
  | .ty _ :: _, _, h => by cases h
  | .cls _ :: _, _, h => by cases h
@[simp] theorem toInts_map (is : List Int) : toInts (is.map D.int) = .ok is := by
  induction is with
  | nil => rfl
  | cons i r ih => show (toInts (r.map D.int)).bind _ = _; rw [ih]; rfl
@[simp] theorem toBls_map (is : List Bool) : toBls (is.map D.bl) = .ok is := by
  induction is with
  | nil => rfl
  | cons i r ih => show (toBls (r.map D.bl)).bind _ = _; rw [ih]; rfl
section
variable {R : RC} {F : Hp}
theorem Reps.ints : ∀ {is : List Int} {vs : List V}, Reps R F (is.map D.int) vs → vs = is.map V.int
  | [], _, h => by simpa [Reps] using h
  | i :: r, _, h => by
    simp only [List.map_cons, Reps, Rep] at h
    obtain ⟨v, r', rfl, rfl, h2⟩ := h
    rw [Reps.ints h2]; rfl
theorem Reps.bls : ∀ {is : List Bool} {vs : List V}, Reps R F (is.map D.bl) vs → vs = is.map V.bl
  | [], _, h => by simpa [Reps] using h
  | i :: r, _, h => by
    simp only [List.map_cons, Reps, Rep] at h
    obtain ⟨v, r', rfl, rfl, h2⟩ := h
    rw [Reps.bls h2]; rfl
theorem Reps.of_ints : ∀ (is : List Int), Reps R F (is.map D.int) (is.map V.int)
  | [] => .nil
  | i :: r => .cons (by simp [Rep]) (Reps.of_ints r)
theorem Reps.one1 {d : D} {vs : List V} (h : Reps R F [d] vs) : ∃ v, vs = [v] ∧ Rep R F d v := by
  simp only [Reps] at h
  obtain ⟨v, r, rfl, h1, rfl⟩ := h
  exact ⟨v, rfl, h1⟩
theorem Reps.two2 {d e : D} {vs : List V} (h : Reps R F [d, e] vs) : ∃ v w, vs = [v, w] ∧ Rep R F d v ∧ Rep R F e w := by
  simp only [Reps] at h
  obtain ⟨v, r, rfl, h1, w, r', rfl, h2, rfl⟩ := h
  exact ⟨v, w, rfl, h1, h2⟩
end
/-- len(x) -/
def lenD : List D → Res D
  | [.lst ds] => .ok (.int ds.length)
  | [.tup ds] => .ok (.int ds.length)
  | [.str s] => if s.length ≤ sizeLine then .ok (.int s.length) else .bad
  | _ => .bad
def listD : List D → Res D
  | [.lst ds] => .ok (.lst ds)
  | [.tup ds] => .ok (.lst ds)
  | _ => .bad
def tupleD : List D → Res D
  | [.lst ds] => .ok (.tup ds)
  | [.tup ds] => .ok (.tup ds)
  | _ => .bad
def insI (i : Int) : List Int → List Int
  | [] => [i]
  | j :: r => if i ≤ j then i :: j :: r else j :: insI i r
def sortI : List Int → List Int
  | [] => []
  | i :: r => insI i (sortI r)
def sortedI : List D → Res D
  | [.lst ds] => (toInts ds).bind fun is => .ok (.lst ((sortI is).map D.int))
  | _ => .bad
def sumD : List D → Res D
  | [.lst ds] => (toInts ds).bind fun is => .ok (.int is.sum)
  | _ => .bad
def allD : List D → Res D
  | [.lst ds] => (toBls ds).bind fun is => .ok (.bl (is.all id))
  | _ => .bad
def anyD : List D → Res D
  | [.lst ds] => (toBls ds).bind fun is => .ok (.bl (is.any id))
  | _ => .bad
def max2D : List D → Res D
  | [.int i, .int j] => .ok (.int (if j > i then j else i))
  | _ => .bad
def min2D : List D → Res D
  | [.int i, .int j] => .ok (.int (if j < i then j else i))
  | _ => .bad
def maxL : List Int → Int
  | [] => 0
  | [i] => i
  | i :: r => max i (maxL r)
def minL : List Int → Int
  | [] => 0
  | [i] => i
  | i :: r => min i (minL r)
def max1D : List D → Res D
  | [.lst ds] => (toInts ds).bind fun is => if is.isEmpty then .bad else .ok (.int (maxL is))
  | _ => .bad
def min1D : List D → Res D
  | [.lst ds] => (toInts ds).bind fun is => if is.isEmpty then .bad else .ok (.int (minL is))
  | _ => .bad
def absD : List D → Res D
  | [.int i] => .ok (.int (if i < 0 then -i else i))
  | _ => .bad
def intD : List D → Res D
  | [.int i] => .ok (.int i)
  | _ => .bad
theorem maxL_spec : ∀ {is : List Int}, is ≠ [] → maxL is ∈ is ∧ ∀ j ∈ is, j ≤ maxL is
  | [], h => absurd rfl h
  | [i], _ => by simp [maxL]
  | i :: j :: r, _ => by
    obtain ⟨h1, h2⟩ := maxL_spec (is := j :: r) (by simp)
    show max i (maxL (j :: r)) ∈ _ ∧ ∀ k ∈ i :: j :: r, k ≤ max i (maxL (j :: r))
    refine ⟨?_, fun k hk => ?_⟩
    · rcases Int.le_total i (maxL (j :: r)) with h | h
      · rw [Int.max_eq_right h]; exact List.mem_cons_of_mem _ h1
      · rw [Int.max_eq_left h]; exact List.mem_cons_self
    · rcases List.mem_cons.mp hk with rfl | hk
      · omega
      · have := h2 k hk; omega
theorem minL_spec : ∀ {is : List Int}, is ≠ [] → minL is ∈ is ∧ ∀ j ∈ is, minL is ≤ j
  | [], h => absurd rfl h
  | [i], _ => by simp [minL]
  | i :: j :: r, _ => by
    obtain ⟨h1, h2⟩ := minL_spec (is := j :: r) (by simp)
    show min i (minL (j :: r)) ∈ _ ∧ ∀ k ∈ i :: j :: r, min i (minL (j :: r)) ≤ k
    refine ⟨?_, fun k hk => ?_⟩
    · rcases Int.le_total i (minL (j :: r)) with h | h
      · rw [Int.min_eq_left h]; exact List.mem_cons_self
      · rw [Int.min_eq_right h]; exact List.mem_cons_of_mem _ h1
    · rcases List.mem_cons.mp hk with rfl | hk
      · omega
      · have := h2 k hk; omega
theorem insI_perm (i : Int) : ∀ l : List Int, (insI i l).Perm (i :: l)
  | [] => .refl _
  | j :: r => by
    unfold insI
    split
    · exact .refl _
    · exact ((insI_perm i r).cons j).trans (.swap i j r)
theorem sortI_perm : ∀ l : List Int, (sortI l).Perm l
  | [] => .refl _
  | i :: r => (insI_perm i _).trans ((sortI_perm r).cons i)
theorem insI_sorted {i : Int} : ∀ {l : List Int}, l.Pairwise (· ≤ ·) → (insI i l).Pairwise (· ≤ ·)
  | [], _ => by simp [insI]
  | j :: r, h => by
    unfold insI
    rw [List.pairwise_cons] at h
    split
    · rename_i hij
      refine List.pairwise_cons.mpr ⟨fun k hk => ?_, List.pairwise_cons.mpr h⟩
      rcases List.mem_cons.mp hk with rfl | hk
      · exact hij
      · exact Int.le_trans hij (h.1 k hk)
    · rename_i hij
      refine List.pairwise_cons.mpr ⟨fun k hk => ?_, insI_sorted h.2⟩
      rcases List.mem_cons.mp ((insI_perm i r).mem_iff.mp hk) with rfl | hk
      · omega
      · exact h.1 k hk
theorem sortI_sorted : ∀ l : List Int, (sortI l).Pairwise (· ≤ ·)
  | [] => List.Pairwise.nil
  | i :: r => insI_sorted (sortI_sorted r)
theorem sorted_unique : ∀ {l l' : List Int}, l.Perm l' → l.Pairwise (· ≤ ·) → l'.Pairwise (· ≤ ·) → l = l'
  | [], l', p, _, _ => (List.nil_perm.mp p).symm
  | i :: r, [], p, _, _ => absurd (List.perm_nil.mp p) (by simp)
  | i :: r, j :: r', p, h, h' => by
    rw [List.pairwise_cons] at h h'
    have e : i = j := by
      have h1 : i ∈ j :: r' := p.mem_iff.mp List.mem_cons_self
      have h2 : j ∈ i :: r := p.mem_iff.mpr List.mem_cons_self
      rcases List.mem_cons.mp h1 with e | h1
      · exact e
      · rcases List.mem_cons.mp h2 with e | h2
        · exact e.symm
        · have a := h.1 j h2
          have b := h'.1 i h1
          omega
    subst e
    rw [sorted_unique (List.Perm.cons_inv p) h.2 h'.2]
section
variable {R : RC}
theorem len_d : CallD R (fun xs H Q => ∃ x n, xs = [x] ∧ LenV R.K x H n ∧ Q (.int n) H) lenD := ⟨fun {B env p σ F H xs z vs Q} S r h q => by
  unfold lenD at h
  split at h
  · obtain ⟨v, rfl, r1⟩ := r.one1
    cases h
    simp only [Rep] at r1
    obtain ⟨a, ws, rfl, h1, r1⟩ := r1
    exact ⟨_, _, rfl, .inl ⟨ws, SqL.of (S.fh _ _ h1), r1.length.symm⟩, Wn.flat S q (by simp [Rep])⟩
  · obtain ⟨v, rfl, r1⟩ := r.one1
    cases h
    simp only [Rep] at r1
    obtain ⟨a, ws, rfl, h1, r1⟩ := r1
    exact ⟨_, _, rfl, .inr ⟨ws, Same.sqt S.fh h1, r1.length.symm⟩, Wn.flat S q (by simp [Rep])⟩
  · split at h
    · rename_i hz
      obtain ⟨v, rfl, r1⟩ := r.one1
      cases h
      simp only [Rep] at r1
      exact ⟨_, _, rfl, by rw [r1]; exact ⟨hz, rfl⟩, Wn.flat S q (by simp [Rep])⟩
    · cases h
  · cases h⟩
theorem list_d : CallD R (fun xs H Q => ∃ p ys, xs = [.ref p] ∧ (SqL R.K H p ys ∨ SqT R.K H p ys) ∧ ∀ l, H l = none → Q (.ref l) (upd H l (.lst ys))) listD := ⟨fun {B env p σ F H xs z vs Q} S r h q => by
  unfold listD at h
  split at h
  · obtain ⟨v, rfl, r1⟩ := r.one1
    cases h
    simp only [Rep] at r1
    obtain ⟨a, ws, rfl, h1, r1⟩ := r1
    exact ⟨a, ws, rfl, .inl (SqL.of (S.fh _ _ h1)), Wn.lst S r1 q⟩
  · obtain ⟨v, rfl, r1⟩ := r.one1
    cases h
    simp only [Rep] at r1
    obtain ⟨a, ws, rfl, h1, r1⟩ := r1
    exact ⟨a, ws, rfl, .inr (Same.sqt S.fh h1), Wn.lst S r1 q⟩
  · cases h⟩
theorem tuple_d : CallD R (fun xs H Q => ∃ p ys, xs = [.ref p] ∧ ((SqL R.K H p ys ∧ ∀ l, H l = none → Q (.ref l) (upd H l (.tup ys))) ∨ (SqT R.K H p ys ∧ Q (.ref p) H))) tupleD := ⟨fun {B env p σ F H xs z vs Q} S r h q => by
  unfold tupleD at h
  split at h
  · obtain ⟨v, rfl, r1⟩ := r.one1
    cases h
    simp only [Rep] at r1
    obtain ⟨a, ws, rfl, h1, r1⟩ := r1
    exact ⟨a, ws, rfl, .inl ⟨SqL.of (S.fh _ _ h1), Wn.tup S r1 q⟩⟩
  · obtain ⟨v, rfl, r1⟩ := r.one1
    cases h
    have r2 := r1
    simp only [Rep] at r1
    obtain ⟨a, ws, rfl, h1, r1⟩ := r1
    exact ⟨a, ws, rfl, .inr ⟨Same.sqt S.fh h1, Wn.flat S q r2⟩⟩
  · cases h⟩
theorem sorted_d : CallD R (rSortedI R.K) sortedI := ⟨fun {B env p σ F H xs z vs Q} S r h q => by
  unfold sortedI at h
  split at h
  · obtain ⟨is, h1, h2⟩ := Res.bind_ok h
    cases h2
    cases toInts_ok h1
    obtain ⟨v, rfl, r1⟩ := r.one1
    simp only [Rep] at r1
    obtain ⟨a, ws, rfl, g1, r1⟩ := r1
    cases Reps.ints r1
    refine ⟨a, is, rfl, SqL.of (S.fh _ _ g1), fun ns' l h1 h2 hn => ?_⟩
    have e : ns' = sortI is := sorted_unique (h1.trans (sortI_perm is).symm) h2 (sortI_sorted is)
    subst e
    exact Wn.lst S (Reps.of_ints _) q l hn
  · cases h⟩
theorem sum_d : CallD R (rSum R.K) sumD := ⟨fun {B env p σ F H xs z vs Q} S r h q => by
  unfold sumD at h
  split at h
  · obtain ⟨is, h1, h2⟩ := Res.bind_ok h
    cases h2
    cases toInts_ok h1
    obtain ⟨v, rfl, r1⟩ := r.one1
    simp only [Rep] at r1
    obtain ⟨a, ws, rfl, g1, r1⟩ := r1
    cases Reps.ints r1
    exact ⟨a, is, rfl, SqL.of (S.fh _ _ g1), Wn.flat S q (by simp [Rep])⟩
  · cases h⟩
theorem all_d : CallD R (rAll R.K) allD := ⟨fun {B env p σ F H xs z vs Q} S r h q => by
  unfold allD at h
  split at h
  · obtain ⟨is, h1, h2⟩ := Res.bind_ok h
    cases h2
    cases toBls_ok h1
    obtain ⟨v, rfl, r1⟩ := r.one1
    simp only [Rep] at r1
    obtain ⟨a, ws, rfl, g1, r1⟩ := r1
    cases Reps.bls r1
    exact ⟨a, is, rfl, SqL.of (S.fh _ _ g1), Wn.flat S q (by simp [Rep])⟩
  · cases h⟩
theorem any_d : CallD R (rAny R.K) anyD := ⟨fun {B env p σ F H xs z vs Q} S r h q => by
  unfold anyD at h
  split at h
  · obtain ⟨is, h1, h2⟩ := Res.bind_ok h
    cases h2
    cases toBls_ok h1
    obtain ⟨v, rfl, r1⟩ := r.one1
    simp only [Rep] at r1
    obtain ⟨a, ws, rfl, g1, r1⟩ := r1
    cases Reps.bls r1
    exact ⟨a, is, rfl, SqL.of (S.fh _ _ g1), Wn.flat S q (by simp [Rep])⟩
  · cases h⟩
theorem max2_d : CallD R (fun xs H Q => ∃ i j, xs = [.int i, .int j] ∧ Q (.int (if j > i then j else i)) H) max2D := ⟨fun {B env p σ F H xs z vs Q} S r h q => by
  unfold max2D at h
  split at h
  · cases h
    obtain ⟨v, w, rfl, r1, r2⟩ := r.two2
    simp only [Rep] at r1 r2
    subst r1 r2
    exact ⟨_, _, rfl, Wn.flat S q (by simp [Rep])⟩
  · cases h⟩
theorem min2_d : CallD R (fun xs H Q => ∃ i j, xs = [.int i, .int j] ∧ Q (.int (if j < i then j else i)) H) min2D := ⟨fun {B env p σ F H xs z vs Q} S r h q => by
  unfold min2D at h
  split at h
  · cases h
    obtain ⟨v, w, rfl, r1, r2⟩ := r.two2
    simp only [Rep] at r1 r2
    subst r1 r2
    exact ⟨_, _, rfl, Wn.flat S q (by simp [Rep])⟩
  · cases h⟩
theorem max1_d : CallD R (rMax R.K) max1D := ⟨fun {B env p σ F H xs z vs Q} S r h q => by
  unfold max1D at h
  split at h
  · obtain ⟨is, h1, h2⟩ := Res.bind_ok h
    split at h2
    · cases h2
    · rename_i hne
      cases h2
      cases toInts_ok h1
      obtain ⟨v, rfl, r1⟩ := r.one1
      simp only [Rep] at r1
      obtain ⟨a, ws, rfl, g1, r1⟩ := r1
      cases Reps.ints r1
      have hne' : is ≠ [] := by rintro rfl; simp at hne
      refine ⟨a, is, rfl, SqL.of (S.fh _ _ g1), List.length_pos_iff.mpr hne', fun m h1 h2 => ?_⟩
      obtain ⟨k1, k2⟩ := maxL_spec hne'
      have : m = maxL is := Int.le_antisymm (k2 m h1) (h2 _ k1)
      subst this
      exact Wn.flat S q (by simp [Rep])
  · cases h⟩
theorem min1_d : CallD R (rMin R.K) min1D := ⟨fun {B env p σ F H xs z vs Q} S r h q => by
  unfold min1D at h
  split at h
  · obtain ⟨is, h1, h2⟩ := Res.bind_ok h
    split at h2
    · cases h2
    · rename_i hne
      cases h2
      cases toInts_ok h1
      obtain ⟨v, rfl, r1⟩ := r.one1
      simp only [Rep] at r1
      obtain ⟨a, ws, rfl, g1, r1⟩ := r1
      cases Reps.ints r1
      have hne' : is ≠ [] := by rintro rfl; simp at hne
      refine ⟨a, is, rfl, SqL.of (S.fh _ _ g1), List.length_pos_iff.mpr hne', fun m h1 h2 => ?_⟩
      obtain ⟨k1, k2⟩ := minL_spec hne'
      have : m = minL is := Int.le_antisymm (h2 _ k1) (k2 m h1)
      subst this
      exact Wn.flat S q (by simp [Rep])
  · cases h⟩
theorem abs_d : CallD R (fun xs H Q => ∃ i, xs = [.int i] ∧ Q (.int (if i < 0 then -i else i)) H) absD := ⟨fun {B env p σ F H xs z vs Q} S r h q => by
  unfold absD at h
  split at h
  · cases h
    obtain ⟨v, rfl, r1⟩ := r.one1
    simp only [Rep] at r1
    subst r1
    exact ⟨_, rfl, Wn.flat S q (by simp [Rep])⟩
  · cases h⟩
theorem int_d : CallD R (fun xs H Q => (∃ i, xs = [.int i] ∧ Q (.int i) H) ∨ ∃ k, xs = [.bl k] ∧ Q (.int (if k then 1 else 0)) H) intD := ⟨fun {B env p σ F H xs z vs Q} S r h q => by
  unfold intD at h
  split at h
  · cases h
    obtain ⟨v, rfl, r1⟩ := r.one1
    simp only [Rep] at r1
    subst r1
    exact .inl ⟨_, rfl, Wn.flat S q (by simp [Rep])⟩
  · cases h⟩
end

/-! ## items, slices, attributes -/
def ixD (x y : D) : Res D := match y with
  | .int i => x.row.bind fun ds => match atI ds i with
    | some d => .ok d
    | none => .bad
  | _ => .bad
theorem Reps.at {R : RC} {F : Hp} {ds : List D} {vs : List V} {i : Int} {d : D} (r : Reps R F ds vs) (h : atI ds i = some d) : ∃ v, atI vs i = some v ∧ Rep R F d v := by
  unfold atI at h ⊢
  rw [r.length]
  cases e : ixN ds.length i with
  | none => rw [e] at h; cases h
  | some j =>
    rw [e] at h
    exact r.get (show ds[j]? = some d from h)
abbrev rIx2 (K : PySem.W.Frag) : R2 := fun x y H Q => rIxL K x y H Q ∨ rIxT K x y H Q
theorem ix_two {X : Cx} : IxR X (rIx2 X.K) := ix_list.or ix_tup
section
variable {R : RC}
theorem ix_d : OpD R (rIx2 R.K) ixD := ⟨fun {B env p σ F H x y z v w Q} S rx ry h q => by
  unfold ixD at h
  split at h
  · rename_i i
    obtain ⟨ds, h1, h2⟩ := Res.bind_ok h
    split at h2
    · rename_i d hd
      cases h2
      obtain ⟨a, vs, e, hq, rs⟩ := rx.row S.fh h1
      obtain ⟨u, hu, ru⟩ := rs.at hd
      simp only [Rep] at ry
      rcases hq with hq | hq
      · exact .inl ⟨a, vs, i, u, e, ry, hq, hu, Wn.flat S q ru⟩
      · exact .inr ⟨a, vs, i, u, e, ry, hq, hu, Wn.flat S q ru⟩
    · cases h2
  · cases h⟩
end
section
variable {X : Cx} {R : RC} {a b : Expr} {m n : M D} {pos : Pos}
theorem de_ix (ha : PE X a (lE R m)) (hb : PE X b (lE R n)) (hK : X.K = R.K) (hs : PlainIx b) : PE X (.Subscript a b pos) (lE R (m2 ixD m n)) :=
  PE.imp (pe_ix (ix_two) ha hb hs) fun _ _ _ h => op2 (by rw [hK]; exact ix_d) h
end
end CS
namespace CS
open PySem L2

/-! ## slices -/
def cutL (xs : List D) (lo hi : Option Int) : List D := (xs.drop (HT.sIx xs.length 0 lo)).take (HT.sIx xs.length xs.length hi - HT.sIx xs.length 0 lo)
def sliceD (x : D) (lo hi : Option Int) : Res D := match x with
  | .lst ds => .ok (.lst (cutL ds lo hi))
  | .tup ds => if HT.sIx ds.length 0 lo = 0 ∧ HT.sIx ds.length ds.length hi = ds.length then .bad else .ok (.tup (cutL ds lo hi))
  | _ => .bad
def mNoPart : M (Option Int) := M.ret none
def asI : D → Res Int
  | .int i => .ok i
  | _ => .bad
def mPart (m : M D) : M (Option Int) := m >>= fun x => M.res (asI x) >>= fun i => M.ret (some i)
def mSlice (m : M D) (l h : M (Option Int)) : M D := m >>= fun x => l >>= fun lo => h >>= fun hi => M.res (sliceD x lo hi)
abbrev rSl2 (K : PySem.W.Frag) : V → Option Int → Option Int → Hp → VK → Prop := fun x lo hi H Q => rSlL K x lo hi H Q ∨ rSlT K x lo hi H Q
theorem Reps.cut {R : RC} {F : Hp} {ds : List D} {vs : List V} (r : Reps R F ds vs) (lo hi : Option Int) : Reps R F (cutL ds lo hi) (cutV vs lo hi) := by
  unfold cutL cutV
  rw [r.length]
  exact (r.drop _).take _
section
variable {X : Cx} {R : RC} {e : Expr} {m : M D} {pos : Pos}
theorem asI_ok {d : D} {i : Int} (h : asI d = .ok i) : d = .int i := by
  unfold asI at h
  split at h
  · cases h; rfl
  · cases h
theorem do_none : PO X none (lO R mNoPart) := PO.imp po_none fun σ H Q ⟨B, env, p, F, c⟩ => c.ret _ F H (Same.refl _) c.S rfl
theorem do_some (h : PE X e (lE R m)) : PO X (some e) (lO R (mPart m)) := PO.imp (po_some h) fun σ H Q ⟨B, env, p, F, c⟩ => c.sq fun x v env1 p1 F1 H1 s1 r1 c1 => by
  obtain ⟨S, z, env', p', e, q⟩ := c1
  obtain ⟨k1, env1, p1, e1, e2⟩ := bind_ok e
  obtain ⟨k', g1, g2⟩ := Res.bind_ok (show (asI x).bind _ = _ from e1)
  cases g2
  cases e2
  cases asI_ok g1
  simp only [Rep] at r1
  exact ⟨_, r1, q _ F1 H1 (Same.refl _) S rfl⟩
theorem de_slice {lo hi : Option Expr} {l h : M (Option Int)} {p2 : Pos} (hK : X.K = R.K) (he : PE X e (lE R m)) (hl : PO X lo (lO R l)) (hu : PO X hi (lO R h)) : PE X (.Subscript e (.Slice lo hi none p2) pos) (lE R (mSlice m l h)) :=
  PE.imp (pe_slice (sl_list.or sl_tup) he hl hu) fun σ H Q ⟨B, env, p, F, c⟩ => c.sq fun x v env1 p1 F1 H1 s1 r1 c1 => c1.sq fun lo' lo2 env2 p2 F2 H2 s2 r2 c2 => c2.sq fun hi' hi2 env3 p3 F3 H3 s3 r3 c3 => by
    cases r2
    cases r3
    obtain ⟨z, e, q⟩ := c3.res
    have r1' := r1.mono (s2.trans s3)
    have S := c3.S
    rw [hK]
    cases x <;> try (cases e)
    · rename_i ds
      simp only [sliceD] at e
      split at e
      · cases e
      · rename_i hw
        cases e
        simp only [Rep] at r1'
        obtain ⟨a, vs, rfl, h1, r⟩ := r1'
        refine .inr ⟨a, vs, rfl, Same.sqt S.fh h1, by rw [r.length]; exact hw, Wn.tup S (r.cut _ _) q⟩
    · simp only [Rep] at r1'
      obtain ⟨a, vs, rfl, h1, r⟩ := r1'
      exact .inl ⟨a, vs, rfl, SqL.of (S.fh _ _ h1), Wn.lst S (r.cut _ _) q⟩
end

/-! ## attributes -/
def fldD (cl : List Str) (f : Str) (x : D) : Res D := match x with
  | .ins c ns ds => if c ∈ cl then (match (ns.zip ds).lookup f with
    | some d => .ok d
    | none => .bad) else .bad
  | _ => .bad
/-- what is asked of the classes that have the attribute -/
def FldF (R : RC) (cl : List Str) (f : Str) : Prop := ∀ c ∈ cl, Cls R.K (R.cls c) ∧ NoAttr R.K (R.cls c) f
theorem Reps.look {R : RC} {F : Hp} {f : Str} {d : D} : ∀ {ns : List Str} {ds : List D} {vs : List V}, Reps R F ds vs → (ns.zip ds).lookup f = some d → ∃ v, (ns.zip vs).lookup f = some v ∧ Rep R F d v
  | [], ds, vs, _, h => by simp at h
  | n :: ns, [], vs, _, h => by simp at h
  | n :: ns, e :: ds, vs, r, h => by
    simp only [Reps] at r
    obtain ⟨v, r', rfl, r1, r2⟩ := r
    simp only [List.zip_cons_cons, List.lookup_cons] at h ⊢
    split at h
    · cases h; exact ⟨v, rfl, r1⟩
    · exact Reps.look r2 h
section
variable {X : Cx} {R : RC} {e : Expr} {m : M D} {pos : Pos} {f : Str}
theorem de_fld {cl : List Str} (hK : X.K = R.K) (hF : FldF R cl f) (he : PE X e (lE R m)) (hb : attributeBase e f X.env (eval e X.env) = eval e X.env) : PE X (.Attribute e f pos) (lE R (m1 (fldD cl f) m)) :=
  PE.imp (pe_fld he hb) fun σ H Q ⟨B, env, p, F, c⟩ => c.sq fun x v env1 p1 F1 H1 s1 r1 c1 => by
    obtain ⟨z, e, q⟩ := c1.res
    unfold fldD at e
    split at e
    · rename_i c ns ds
      split at e
      · rename_i hc
        split at e
        · rename_i d hd
          cases e
          simp only [Rep] at r1
          obtain ⟨a, dx, vs, rfl, h1, hl, r⟩ := r1
          obtain ⟨u, hu, ru⟩ := r.look hd
          rw [hK]
          exact ⟨a, R.cls c, dx, _, u, rfl, c1.S.fh _ _ h1, (hF c hc).1, (hF c hc).2, hu, Wn.flat c1.S q ru⟩
        · cases e
      · cases e
    · cases e
end

/-! ## isinstance -/
def D.tn : D → Option String
  | .non => some "NoneType"
  | .bl _ => some "bool"
  | .int _ => some "int"
  | .str _ => some "str"
  | .tup _ => some "tuple"
  | .lst _ => some "list"
  | _ => none
def isB (a b : String) : Bool := a == b || (a == "bool" && b == "int")
def tyNames : List String := ["NoneType", "bool", "int", "str", "tuple", "list"]
def isA (cl : List Str) (x k : D) : Res Bool := match k with
  | .ty n => if n ∈ ["int", "bool", "str", "tuple", "list"] then (match x with
    | .ins c _ _ => if c ∈ cl then .ok false else .bad
    | x => match x.tn with
      | some t => .ok (isB t n)
      | none => .bad) else .bad
  | .cls k => if k ∈ cl then (match x with
    | .ins c _ _ => if c ∈ cl then .ok (decide (c = k)) else .bad
    | x => match x.tn with
      | some t => .ok false
      | none => .bad) else .bad
  | _ => .bad
structure IsF (R : RC) (cl : List Str) : Prop where
  ins : ∀ c ∈ cl, Cls R.K (R.cls c) ∧ PySem.W.findIn R.K (.ref (R.cls c)) "__class__" = some (some (.builtin "object.__class__")) ∧
    PySem.W.specialIn R.K (.builtin "object.__class__") "__get__" = some (some (.builtin "getset_descriptor.__get__")) ∧ PySem.W.takesIn R.K (.builtin "object.__class__") = some true ∧ PySem.W.mroIn R.K (R.cls c) (.type "object") = some true
  kt : ∀ c ∈ cl, ∀ n ∈ tyNames, PySem.W.kitOne R.K (.type n) (.ref (R.cls c)) = some false
  ku : ∀ c ∈ cl, ∀ n ∈ ["int", "bool", "str", "tuple", "list"], PySem.W.kitOne R.K (.ref (R.cls c)) (.type n) = some false
  kc : ∀ c ∈ cl, ∀ k ∈ cl, PySem.W.kitOne R.K (.ref (R.cls c)) (.ref (R.cls k)) = some (decide (c = k))
def isa1 (cl : List Str) : List D → Res D
  | [x, k] => (isA cl x k).bind fun b => .ok (.bl b)
  | _ => .bad
def isaAny (cl : List Str) (x : D) : List D → Res Bool
  | [] => .ok false
  | k :: ks => (isA cl x k).bind fun b => (isaAny cl x ks).bind fun b' => .ok (b || b')
def mIsaT (cl : List Str) (m : M D) (ks : M (List D)) : M D := m >>= fun x => ks >>= fun ks => M.res (if ks.isEmpty = false ∧ ks.length ≤ sizeLine then (isaAny cl x ks).bind fun b => .ok (.bl b) else .bad)
theorem kitB_tab : ∀ a ∈ tyNames, ∀ b ∈ ["int", "bool", "str", "tuple", "list"], kitB a b = some (isB a b) := by decide +kernel
section
variable {R : RC} {F H : Hp}
theorem Rep.tyx {cl : List Str} {x : D} {v : V} (s : Same F H) (IF : IsF R cl) (r : Rep R F x v) :
    (∀ t, x.tn = some t → TyX R.K H v (.type t) ∧ t ∈ tyNames) ∧ (∀ c ns ds, x = .ins c ns ds → c ∈ cl → TyX R.K H v (.ref (R.cls c))) := by
  refine ⟨fun t ht => ?_, fun c ns ds hx hc => ?_⟩
  · cases x <;> simp only [D.tn] at ht <;> (try cases ht) <;> simp only [Rep] at r
    · subst r; exact ⟨.base .non, by simp [tyNames]⟩
    · subst r; exact ⟨.base (.bl _), by simp [tyNames]⟩
    · subst r; exact ⟨.base (.int _), by simp [tyNames]⟩
    · subst r; exact ⟨.base (.str _), by simp [tyNames]⟩
    · obtain ⟨a, vs, rfl, h1, _⟩ := r
      refine ⟨?_, by simp [tyNames]⟩
      rcases Same.sqt s h1 with (h | ⟨o, h⟩) | ⟨o, its, n, hk, hc, _⟩
      · exact .base (.tup h)
      · exact .fTuple h
      · exact .kTuple hk hc
    · obtain ⟨a, vs, rfl, h1, _⟩ := r
      exact ⟨.base (.lst (s _ _ h1)), by simp [tyNames]⟩
  · subst hx
    simp only [Rep] at r
    obtain ⟨a, dx, vs, rfl, h1, _⟩ := r
    obtain ⟨g1, g2, g3, g4, g5⟩ := IF.ins c hc
    exact .base (.ins (s _ _ h1) g1 g2 g3 g4 g5)
/-- the type, the class and the answer -/
theorem isA_ok {cl : List Str} {x k : D} {v w : V} {b : Bool} (s : Same F H) (IF : IsF R cl) (r : Rep R F x v) (rk : Rep R F k w) (h : isA cl x k = .ok b) :
    ∃ t u, ClsV w u ∧ TyX R.K H v t ∧ PySem.W.kitOne R.K t u = some b ∧ ((∃ n, x.tn = some n ∧ t = .type n) ∨ (∃ c ns ds, x = .ins c ns ds ∧ c ∈ cl ∧ t = .ref (R.cls c))) := by
  obtain ⟨T1, T2⟩ := r.tyx s IF
  unfold isA at h
  split at h
  · rename_i n
    split at h
    · rename_i hn
      simp only [Rep] at rk
      subst rk
      split at h
      · rename_i c ns ds
        split at h
        · rename_i hc
          cases h
          exact ⟨_, _, .ty n, T2 c ns ds rfl hc, IF.ku c hc n hn, .inr ⟨c, ns, ds, rfl, hc, rfl⟩⟩
        · cases h
      · split at h
        · rename_i t ht
          cases h
          obtain ⟨h1, h2⟩ := T1 t ht
          exact ⟨_, _, .ty n, h1, kit_ty (kitB_tab t h2 n hn), .inl ⟨t, ht, rfl⟩⟩
        · cases h
    · cases h
  · rename_i k
    split at h
    · rename_i hk
      simp only [Rep] at rk
      subst rk
      split at h
      · rename_i c ns ds
        split at h
        · rename_i hc
          cases h
          exact ⟨_, _, .own _, T2 c ns ds rfl hc, IF.kc c hc k hk, .inr ⟨c, ns, ds, rfl, hc, rfl⟩⟩
        · cases h
      · split at h
        · rename_i t ht
          cases h
          obtain ⟨h1, h2⟩ := T1 t ht
          exact ⟨_, _, .own _, h1, IF.kt k hk t h2, .inl ⟨t, ht, rfl⟩⟩
        · cases h
    · cases h
  · cases h
theorem isa1_d {cl : List Str} (IF : IsF R cl) : CallD R (rIsi R.K) (isa1 cl) := ⟨fun {B env p σ F H xs z vs Q} S r h q => by
  unfold isa1 at h
  split at h
  · rename_i x k
    obtain ⟨b, h1, h2⟩ := Res.bind_ok h
    cases h2
    obtain ⟨v, w, rfl, r1, r2⟩ := r.two2
    obtain ⟨t, u, g1, g2, g3, _⟩ := isA_ok S.fh IF r1 r2 h1
    exact ⟨v, w, t, u, b, rfl, g1, g2, g3, Wn.flat S q (by simp [Rep])⟩
  · cases h⟩
theorem isaAny_ok {cl : List Str} {x : D} {v : V} {t : Value} (s : Same F H) (IF : IsF R cl) (r : Rep R F x v) (ht : (∃ n, x.tn = some n ∧ t = .type n) ∨ (∃ c ns ds, x = .ins c ns ds ∧ c ∈ cl ∧ t = .ref (R.cls c))) :
    ∀ {ks : List D} {ws : List V} {b : Bool}, Reps R F ks ws → isaAny cl x ks = .ok b → ∃ us, Paired ClsV ws us ∧ PySem.W.kitAny R.K t us = some b
  | [], ws, b, rs, h => by
    simp only [Reps] at rs
    subst rs
    cases h
    exact ⟨[], .nil, rfl⟩
  | k :: ks, ws, b, rs, h => by
    simp only [Reps] at rs
    obtain ⟨w, ws', rfl, r1, r2⟩ := rs
    obtain ⟨b1, h1, h2⟩ := Res.bind_ok (show (isA cl x k).bind _ = _ from h)
    obtain ⟨b2, h3, h4⟩ := Res.bind_ok h2
    cases h4
    obtain ⟨t', u, g1, g2, g3, g4⟩ := isA_ok s IF r r1 h1
    have et : t = t' := by
      rcases ht with ⟨n, e1, rfl⟩ | ⟨c, ns, ds, e1, _, rfl⟩
      · rcases g4 with ⟨n', e2, rfl⟩ | ⟨c', ns', ds', e2, _, rfl⟩
        · rw [e1] at e2; cases e2; rfl
        · rw [e2] at e1; cases e1
      · rcases g4 with ⟨n', e2, rfl⟩ | ⟨c', ns', ds', e2, _, rfl⟩
        · rw [e1] at e2; cases e2
        · rw [e1] at e2; cases e2; rfl
    subst et
    obtain ⟨us, hu, hk⟩ := isaAny_ok s IF r ht r2 h3
    cases b1 with
    | true => exact ⟨u :: us, .cons g1 hu, kitAny_cons g3 (fun z => nomatch z) fun _ => rfl⟩
    | false => exact ⟨u :: us, .cons g1 hu, kitAny_cons g3 (fun _ => by simpa using hk) fun z => nomatch z⟩
theorem tn_or {x : D} {cl : List Str} {k : D} {b : Bool} (h : isA cl x k = .ok b) : (∃ n, x.tn = some n) ∨ ∃ c ns ds, x = .ins c ns ds ∧ c ∈ cl := by
  unfold isA at h
  split at h
  · split at h
    · split at h
      · split at h
        · rename_i hc; exact .inr ⟨_, _, _, rfl, hc⟩
        · cases h
      · split at h
        · rename_i ht; exact .inl ⟨_, ht⟩
        · cases h
    · cases h
  · split at h
    · split at h
      · split at h
        · rename_i hc; exact .inr ⟨_, _, _, rfl, hc⟩
        · cases h
      · split at h
        · rename_i ht; exact .inl ⟨_, ht⟩
        · cases h
    · cases h
  · cases h
end
section
variable {X : Cx} {R : RC} {e : Expr} {es : List Expr} {m : M D} {ks : M (List D)} {pos p tpos : Pos}
theorem de_isi1 {cl : List Str} {ms : M (List D)} (hK : X.K = R.K) (IF : IsF R cl) (hg : Gl X "isinstance") (hm : X.mg "isinstance" = none) (ha : PA X (e :: es) (lA R ms))
    (he : starEach (e :: es) X.env = (false, eval e X.env) :: starEach es X.env := by rfl) (hpl : (backTo pos (starEach es X.env)).any (·.1) = false := by rfl) : PE X (.Call (.Name "isinstance" p) (e :: es) [] pos) (lE R (mCB (isa1 cl) ms)) :=
  de_callB call_isi (by rw [hK]; exact isa1_d IF) hg hm (by decide +kernel) ha (by decide) (by decide) he hpl
/-- isinstance(e, (c1, c2, ..)) -/
theorem de_isiT {cl : List Str} {x1} (hK : X.K = R.K) (IF : IsF R cl) (hg : Gl X "isinstance") (hm : X.mg "isinstance" = none) (ha : PE X e (lE R m)) (hk : PA X es (lA R ks))
    (hs : starEach [e, .Tuple es x1 tpos] X.env = (false, eval e X.env) :: starEach [.Tuple es x1 tpos] X.env := by rfl) (hs2 : starEach [.Tuple es x1 tpos] X.env = (false, eval (.Tuple es x1 tpos) X.env) :: starEach [] X.env := by rfl)
    (hpl : (backTo pos (starEach [.Tuple es x1 tpos] X.env)).any (·.1) = false := by rfl) : PE X (.Call (.Name "isinstance" p) [e, .Tuple es x1 tpos] [] pos) (lE R (mIsaT cl m ks)) :=
  PE.imp (pe_callB call_isiT hg hm (by decide +kernel) (pa_cons ha (pa_cons (pe_tup hk) pa_nil hs2) hs) (by decide) (by decide) hs hpl) fun σ H Q ⟨B, env, p, F, c⟩ => c.sq fun x v env1 p1 F1 H1 s1 r1 c1 => c1.sq fun xs vs env2 p2 F2 H2 s2 r2 c2 => by
    obtain ⟨z, e, q⟩ := c2.res
    split at e
    · rename_i hz
      obtain ⟨b, h1, h2⟩ := Res.bind_ok e
      cases h2
      refine ⟨by rw [r2.length]; exact hz.2, fun a hn => ?_⟩
      have ex := c2.S.alloc (o := .tup vs) hn
      have S2 := c2.S.ext ex
      have r1' : Rep R _ x v := (r1.mono s2).mono ex.ff
      have tt : ∃ t, TyX R.K (upd H2 a (.tup vs)) v t ∧ ((∃ n, x.tn = some n ∧ t = .type n) ∨ (∃ c ns ds, x = .ins c ns ds ∧ c ∈ cl ∧ t = .ref (R.cls c))) := by
        obtain ⟨T1, T2⟩ := r1'.tyx S2.fh IF
        cases xs with
        | nil => exact absurd hz.1 (by simp)
        | cons k ks' =>
          obtain ⟨b1, g1, _⟩ := Res.bind_ok (show (isA cl x k).bind _ = _ from h1)
          rcases tn_or g1 with ⟨n, hn⟩ | ⟨c, ns, ds, e, hc⟩
          · exact ⟨_, (T1 n hn).1, .inl ⟨n, hn, rfl⟩⟩
          · exact ⟨_, T2 c ns ds e hc, .inr ⟨c, ns, ds, e, hc, rfl⟩⟩
      obtain ⟨t, ht, hor⟩ := tt
      obtain ⟨us, hu, hk⟩ := isaAny_ok S2.fh IF r1' hor (r2.mono ex.ff) h1
      rw [hK]
      exact ⟨v, a, vs, t, us, b, rfl, upd_same, hu, ht, hk, q _ _ _ ex.ff S2 (by simp [Rep])⟩
    · cases e
end
end CS
namespace CS
open PySem L2

/-! ## steps of the state -/
section
variable {R : RC} {B : Bs} {env : Env'} {p : Pn} {σ : St} {F H : Hp}
theorem OwnAt.lt {i : Nat} {a : Addr} (h : OwnAt env σ i a) : i < env.length := by
  obtain ⟨⟨s, h1, _⟩, _⟩ := h
  exact (List.getElem?_eq_some_iff.mp h1).1
theorem SRel.nq {P : Pen} (S : SRel R B env (some P) σ F H) {a : Addr} (h : a ≠ R.q ∨ B.pn = false) : a ≠ R.q := h.elim id fun z => nomatch S.pnone.mp z
theorem SRel.nqOf (S : SRel R B env p σ F H) {a : Addr} (h : H a = none) : a ≠ R.q ∨ B.pn = false := by
  cases p with
  | none => exact .inr (S.pnone.mpr rfl)
  | some P =>
    obtain ⟨_, h2, _⟩ := S.pen
    exact .inl fun e => by rw [e, h2] at h; cases h
theorem SRel.ownF (S : SRel R B env p σ F H) {i : Nat} {a : Addr} (h : OwnAt env σ i a) : F a = none ∧ (a ≠ R.q ∨ B.pn = false) ∧ H a ≠ none := by
  obtain ⟨⟨s, h1, h2⟩, h3⟩ := h
  have := S.slots i s h1
  cases s with
  | un => cases h2
  | pl d => cases h2
  | ow d =>
    obtain ⟨b, e, g1, _, g2, g3⟩ := this
    rw [h3] at e; cases e
    exact ⟨g1, g2, g3.there⟩
  | ro d =>
    obtain ⟨b, e, g1, g2, g3⟩ := this
    rw [h3] at e; cases e
    exact ⟨g1, g2, g3.there⟩
/-- a name gets a value -/
theorem SRel.set (S : SRel R B env p σ F H) {i : Nat} {d : D} {v : V} (r : Rep R F d v) : SRel R B (env.set i (.pl d)) p (σ.set i (some v)) F H where
  fh := S.fh
  f0 := S.f0
  h0 := S.h0
  fresh := S.fresh
  pnb := S.pnb
  pen := S.pen
  cel := S.cel
  len := by simp [S.len]
  slots := fun j s hj => by
    by_cases e : i = j
    · subst e
      have hl : i < env.length := by have := (List.getElem?_eq_some_iff.mp hj).1; simpa using this
      rw [List.getElem?_set_self hl] at hj
      cases hj
      rw [List.getElem?_set_self (by rw [← S.len]; exact hl)]
      exact ⟨v, rfl, r⟩
    · rw [List.getElem?_set_ne e] at hj ⊢
      exact S.slots j s hj
  dis := fun j k a hjk h1 h2 => by
    have red : ∀ j, OwnAt (env.set i (.pl d)) (σ.set i (some v)) j a → OwnAt env σ j a := fun j h => by
      obtain ⟨⟨s, g1, g2⟩, g3⟩ := h
      by_cases e : i = j
      · subst e
        have hl : i < env.length := by have := (List.getElem?_eq_some_iff.mp g1).1; simpa using this
        rw [List.getElem?_set_self hl] at g1
        cases g1; cases g2
      · rw [List.getElem?_set_ne e] at g1 g3
        exact ⟨⟨s, g1, g2⟩, g3⟩
    exact S.dis j k a hjk (red j h1) (red k h2)
/-- an own list that no name holds -/
structure FreshA (R : RC) (B : Bs) (env : Env') (σ : St) (F H : Hp) (d : D) (a : Addr) : Prop where
  f : F a = none
  b : B.H0 a = none
  q : a ≠ R.q ∨ B.pn = false
  no : ∀ i, ¬ OwnAt env σ i a
  own : Own R F H d a
theorem SRel.setO (S : SRel R B env p σ F H) {i : Nat} {d : D} {a : Addr} (r : FreshA R B env σ F H d a) : SRel R B (env.set i (.ow d)) p (σ.set i (some (.ref a))) F H where
  fh := S.fh
  f0 := S.f0
  h0 := S.h0
  fresh := S.fresh
  pnb := S.pnb
  pen := S.pen
  cel := S.cel
  len := by simp [S.len]
  slots := fun j s hj => by
    by_cases e : i = j
    · subst e
      have hl : i < env.length := by have := (List.getElem?_eq_some_iff.mp hj).1; simpa using this
      rw [List.getElem?_set_self hl] at hj
      cases hj
      rw [List.getElem?_set_self (by rw [← S.len]; exact hl)]
      exact ⟨a, rfl, r.f, r.b, r.q, r.own⟩
    · rw [List.getElem?_set_ne e] at hj ⊢
      exact S.slots j s hj
  dis := fun j k b hjk h1 h2 => by
    have red : ∀ j, i ≠ j → OwnAt (env.set i (.ow d)) (σ.set i (some (.ref a))) j b → OwnAt env σ j b := fun j e h => by
      obtain ⟨⟨s, g1, g2⟩, g3⟩ := h
      rw [List.getElem?_set_ne e] at g1 g3
      exact ⟨⟨s, g1, g2⟩, g3⟩
    have at_i : OwnAt (env.set i (.ow d)) (σ.set i (some (.ref a))) i b → b = a := fun h => by
      have hl : i < env.length := by simpa using h.lt
      obtain ⟨_, g3⟩ := h
      rw [List.getElem?_set_self (by rw [← S.len]; exact hl)] at g3
      cases g3; rfl
    by_cases e : i = j
    · subst e
      have hb := at_i h1
      subst hb
      exact r.no k (red k hjk h2)
    · by_cases e' : i = k
      · subst e'
        have hb := at_i h2
        subst hb
        exact r.no j (red j e h1)
      · exact S.dis j k b hjk (red j e h1) (red k e' h2)
/-- an object that no name holds and nothing frozen is changed -/
theorem SRel.updF (S : SRel R B env p σ F H) {a : Addr} {o : HO} (hf : F a = none) (hb : B.H0 a = none) (hq : a ≠ R.q ∨ B.pn = false) (no : ∀ i, ¬ OwnAt env σ i a) : SRel R B env p σ F (upd H a o) where
  fh := fun b u e => by rw [upd_ne (ne_of_none e hf)]; exact S.fh _ _ e
  f0 := S.f0
  h0 := fun b u c e => by rw [upd_ne (ne_of_none e hb)]; exact S.h0 b u c e
  fresh := S.fresh
  pnb := S.pnb
  pen := by
    have := S.pen
    cases p with
    | none => trivial
    | some P =>
      obtain ⟨h1, h2, h3⟩ := this
      exact ⟨h1, by rw [upd_ne (Ne.symm (S.nq hq))]; exact h2, h3⟩
  cel := S.cel
  len := S.len
  slots := fun i s hi => by
    have := S.slots i s hi
    cases s with
    | un => trivial
    | pl d => exact this
    | ow d =>
      obtain ⟨b, g1, g2, g3, g4, g5⟩ := this
      refine ⟨b, g1, g2, g3, g4, g5.keep (Same.refl _) (upd_ne ?_)⟩
      rintro rfl
      exact no i ⟨⟨_, hi, rfl⟩, g1⟩
    | ro d =>
      obtain ⟨b, g1, g2, g4, g5⟩ := this
      refine ⟨b, g1, g2, g4, g5.keep (Same.refl _) (upd_ne ?_)⟩
      rintro rfl
      exact no i ⟨⟨_, hi, rfl⟩, g1⟩
  dis := S.dis
/-- an own list changes -/
theorem SRel.mut (S : SRel R B env p σ F H) {i : Nat} {d d' : D} {a : Addr} {o : HO} (hi : env[i]? = some (.ow d)) (ha : σ[i]? = some (some (.ref a))) (new : Own R F (upd H a o) d' a) : SRel R B (env.set i (.ow d')) p σ F (upd H a o) := by
  have hw : OwnAt env σ i a := ⟨⟨_, hi, rfl⟩, ha⟩
  obtain ⟨b, g1, g2, g3, g4, g5⟩ := S.slots i _ hi
  rw [ha] at g1; cases g1
  have hl := hw.lt
  refine ⟨fun b u e => by rw [upd_ne (ne_of_none e g2)]; exact S.fh _ _ e, S.f0, fun b u c e => by rw [upd_ne (ne_of_none e g3)]; exact S.h0 b u c e, S.fresh, S.pnb, ?_, S.cel, by simp [S.len], fun j s hj => ?_, fun j k b hjk h1 h2 => ?_⟩
  · have := S.pen
    cases p with
    | none => trivial
    | some P =>
      obtain ⟨h1, h2, h3⟩ := this
      exact ⟨h1, by rw [upd_ne (Ne.symm (S.nq g4))]; exact h2, h3⟩
  · by_cases e : i = j
    · subst e
      rw [List.getElem?_set_self hl] at hj
      cases hj
      exact ⟨a, ha, g2, g3, g4, new⟩
    · rw [List.getElem?_set_ne e] at hj
      have := S.slots j s hj
      cases s with
      | un => trivial
      | pl d => exact this
      | ow d =>
        obtain ⟨b, g1, g2, g3, g4, g5⟩ := this
        refine ⟨b, g1, g2, g3, g4, g5.keep (Same.refl _) (upd_ne ?_)⟩
        rintro rfl
        exact S.dis i j b e hw ⟨⟨_, hj, rfl⟩, g1⟩
      | ro d =>
        obtain ⟨b, g1, g2, g4, g5⟩ := this
        refine ⟨b, g1, g2, g4, g5.keep (Same.refl _) (upd_ne ?_)⟩
        rintro rfl
        exact S.dis i j b e hw ⟨⟨_, hj, rfl⟩, g1⟩
  · have red : ∀ j, OwnAt (env.set i (.ow d')) σ j b → OwnAt env σ j b := fun j h => by
      obtain ⟨⟨s, g1, g2⟩, g3⟩ := h
      by_cases e : i = j
      · subst e; exact ⟨⟨_, hi, rfl⟩, g3⟩
      · rw [List.getElem?_set_ne e] at g1
        exact ⟨⟨s, g1, g2⟩, g3⟩
    exact S.dis j k b hjk (red j h1) (red k h2)
/-- what an own thing is once it is frozen -/
theorem Own.rep {d : D} {a : Addr} (o : Own R F H d a) : ∃ u, H a = some u ∧ Rep R (upd F a u) d (.ref a) ∨ F a ≠ none := by
  by_cases hf : F a = none
  · rcases o with ⟨ds, vs, rfl, h, r⟩ | ⟨c, ns, ds, dx, vs, _, rfl, h, l, r⟩
    · exact ⟨_, .inl ⟨h, by simp only [Rep]; exact ⟨a, vs, rfl, upd_same, r.mono (same_upd hf)⟩⟩⟩
    · exact ⟨_, .inl ⟨h, by simp only [Rep]; exact ⟨a, dx, vs, rfl, upd_same, l, r.mono (same_upd hf)⟩⟩⟩
  · exact ⟨.own a, .inr hf⟩
theorem Own.repF {d : D} {a : Addr} (o : Own R F H d a) (hf : F a = none) : ∃ u, H a = some u ∧ Rep R (upd F a u) d (.ref a) := by
  obtain ⟨u, h | h⟩ := o.rep
  · exact ⟨u, h⟩
  · exact absurd hf h
/-- it is frozen: no name holds it -/
theorem SRel.freeze (S : SRel R B env p σ F H) {a : Addr} {u : HO} (hu : H a = some u) (hf : F a = none) (hb : B.H0 a = none) (hq : a ≠ R.q ∨ B.pn = false) (no : ∀ i, ¬ OwnAt env σ i a) : SRel R B env p σ (upd F a u) H where
  fh := fun b w e => by
    by_cases h : b = a
    · subst h; rw [upd_same] at e; rw [hu]; exact e
    · rw [upd_ne h] at e; exact S.fh _ _ e
  f0 := S.f0.trans (same_upd hf)
  h0 := S.h0
  fresh := fun b e => by
    by_cases h : b = a
    · subst h; exact .inr hb
    · rw [upd_ne h] at e; exact S.fresh b e
  pnb := S.pnb
  pen := S.pen.mono (same_upd hf) (fun _ e => e) fun hp => by
    cases p with
    | none => exact absurd rfl hp
    | some P => rw [upd_ne (Ne.symm (S.nq hq))]; exact S.pen.1
  cel := S.cel
  len := S.len
  slots := fun i s hi => by
    have := S.slots i s hi
    cases s with
    | un => trivial
    | pl d => obtain ⟨v, h1, h2⟩ := this; exact ⟨v, h1, h2.mono (same_upd hf)⟩
    | ow d =>
      obtain ⟨b, g1, g2, g3, g4, g5⟩ := this
      have hne : b ≠ a := by rintro rfl; exact no i ⟨⟨_, hi, rfl⟩, g1⟩
      exact ⟨b, g1, by rw [upd_ne hne]; exact g2, g3, g4, g5.keep (same_upd hf) rfl⟩
    | ro d =>
      obtain ⟨b, g1, g2, g4, g5⟩ := this
      have hne : b ≠ a := by rintro rfl; exact no i ⟨⟨_, hi, rfl⟩, g1⟩
      exact ⟨b, g1, by rw [upd_ne hne]; exact g2, g4, g5.keep (same_upd hf) rfl⟩
  dis := S.dis
/-- a name's own thing is frozen -/
theorem SRel.freezeAt (S : SRel R B env p σ F H) {i : Nat} {d : D} (hi : env[i]? = some (.ow d)) : ∃ F', Same F F' ∧ SRel R B (env.set i (.pl d)) p σ F' H := by
  obtain ⟨a, g1, g2, g3, g4, g5⟩ := S.slots i _ hi
  obtain ⟨u, hu, r⟩ := g5.repF g2
  have hl : i < env.length := (List.getElem?_eq_some_iff.mp hi).1
  have hw : OwnAt env σ i a := ⟨⟨_, hi, rfl⟩, g1⟩
  -- first the name is forgotten, then the thing is frozen
  have S1 : SRel R B (env.set i .un) p σ F H := by
    refine ⟨S.fh, S.f0, S.h0, S.fresh, S.pnb, S.pen, S.cel, by simp [S.len], fun j s hj => ?_, fun j k b hjk h1 h2 => ?_⟩
    · by_cases e : i = j
      · subst e
        rw [List.getElem?_set_self hl] at hj
        cases hj; trivial
      · rw [List.getElem?_set_ne e] at hj
        exact S.slots j s hj
    · have red : ∀ j, OwnAt (env.set i .un) σ j b → OwnAt env σ j b := fun j h => by
        obtain ⟨⟨s, g1, g2⟩, g3⟩ := h
        by_cases e : i = j
        · subst e
          rw [List.getElem?_set_self hl] at g1
          cases g1; cases g2
        · rw [List.getElem?_set_ne e] at g1
          exact ⟨⟨s, g1, g2⟩, g3⟩
      exact S.dis j k b hjk (red j h1) (red k h2)
  have S2 := S1.freeze hu g2 g3 g4 fun j h => by
    obtain ⟨⟨s, k1, k2⟩, k3⟩ := h
    by_cases e : i = j
    · subst e
      rw [List.getElem?_set_self hl] at k1
      cases k1; cases k2
    · rw [List.getElem?_set_ne e] at k1
      exact S.dis i j a e hw ⟨⟨s, k1, k2⟩, k3⟩
  refine ⟨upd F a u, same_upd g2, ?_⟩
  have S3 := S2.set (i := i) r
  rw [List.set_set] at S3
  have e : σ.set i (some (.ref a)) = σ := by
    apply List.ext_getElem?
    intro j
    by_cases h : i = j
    · subst h
      rw [List.getElem?_set_self (by rw [← S.len]; exact hl), g1]
    · rw [List.getElem?_set_ne h]
  rw [e] at S3
  exact S3
end

/-! ## new lists that are still free to change -/
def lF (R : RC) (m : M D) : TE := fun σ H Q => ∃ B env p F, SRel R B env p σ F H ∧ ∃ d env' p', m env p = .ok (d, env', p') ∧ ∀ a F' H', Same F F' → SRel R B env' p' σ F' H' → FreshA R B env' σ F' H' d a → Q (.ref a) H'
section
variable {X : Cx} {R : RC} {e : Expr} {m : M D}
theorem de_of (h : PE X e (lF R m)) : PE X e (lE R m) := PE.imp h fun σ H Q ⟨B, env, p, F, S, d, env', p', e, q⟩ => ⟨B, env, p, F, S, d, env', p', e, fun a F' H' s S' fr => by
  obtain ⟨u, hu, r⟩ := fr.own.repF fr.f
  exact q _ _ _ (s.trans (same_upd fr.f)) (S'.freeze hu fr.f fr.b fr.q fr.no) r⟩
theorem SRel.newO {B : Bs} {env : Env'} {p : Pn} {σ : St} {F H : Hp} (S : SRel R B env p σ F H) {ds : List D} {vs : List V} (r : Reps R F ds vs) {a : Addr} (hn : H a = none) : SRel R B env p σ F (upd H a (.lst vs)) ∧ FreshA R B env σ F (upd H a (.lst vs)) (.lst ds) a := by
  have ex := S.allocO (o := .lst vs) hn
  exact ⟨S.ext ex, S.fh.free hn, S.hq hn, S.nqOf hn, fun i h => (S.ownF h).2.2 hn, .inl ⟨ds, vs, rfl, upd_same, r⟩⟩
end
end CS
namespace CS
open PySem L2
open PyProof.Rows (envOfC)

/-! ## what a def promises -/
abbrev FD := List D → Pn → Res (D × Pn)
def spD (K : PySem.W.Frag) (cls : Str → Addr) (n : Nat) (mf : FD) : Sp := fun vs H Q _ => ∃ (q ca sf : Addr) (cells : List Int) (F : Hp) (p : Pn) (ds : List D), Same F H ∧ (p.isSome = true → SqL K F ca (cells.map V.int)) ∧ PenRel ⟨K, cls, q, ca, cells, sf⟩ F H p ∧ Reps ⟨K, cls, q, ca, cells, sf⟩ F ds vs ∧ ds.length = n ∧
  ∃ d p', mf ds p = .ok (d, p') ∧ ∀ v F' H', Ext ⟨K, cls, q, ca, cells, sf⟩ F H p F' H' p' → Rep ⟨K, cls, q, ca, cells, sf⟩ F' d v → Q v H'
def M.fn (g : Pn → Res (D × Pn)) : M D := fun env p => (g p).bind fun r => .ok (r.1, env, r.2)
def mCall (mf : FD) (dd : List D) (ms : M (List D)) : M D := ms >>= fun ds => M.fn (mf (ds ++ dd))
section
variable {X : Cx} {R : RC} {CX : CXT} {k : Nat} {f C : Addr} {fd : FuncData} {ps : List Str} {dvs : List V} {dv : List Value} {dd : List D} {mf : FD} {x : Str} {p pos : Pos} {e : Expr} {es : List Expr} {ms : M (List D)}
theorem call2 {n : Nat} (hdd : ∀ F, Reps R F dd dvs) (hn : ∀ ds p r, mf ds p = .ok r → ds.length = n) {σ : St} {H : Hp} {Q : VK} (h : lE R (mCall mf dd ms) σ H Q) : tCall (spD R.K R.cls n mf) dvs E0 (lA R ms) σ H Q := by
  obtain ⟨B, env, p, F, c⟩ := h
  refine c.sq fun ds vs env1 p1 F1 H1 s1 r1 c1 => ?_
  obtain ⟨S, z, env', p', e, q⟩ := c1
  obtain ⟨⟨d, p2⟩, e1, e2⟩ := Res.bind_ok (show (mf (ds ++ dd) p1).bind _ = _ from e)
  cases e2
  exact ⟨R.q, R.ca, R.sf, R.cells, F1, p1, ds ++ dd, S.fh, fun hp => Same.seq S.f0 (S.cel (by rw [← S.pnb]; exact hp)), S.pen, r1.append (hdd F1), hn _ _ _ e1, d, p2, e1, fun v F' H' ex r => q v F' H' ex.ff (S.ext ex) r⟩
theorem de_call (hK : X.K = R.K) (F : FnOk X.prog X.w X.K X.mg X.base CX k f fd ps (spD R.K R.cls ps.length mf)) (hn : ∀ ds p r, mf ds p = .ok r → ds.length = ps.length) (hr : Room k X.A) (hg : Gl X x) (hm : X.mg x = some (.ref f)) (hk : PySem.W.keepIn X.K (.ref f) = true) (hb : Binds X.K fd ps dv) (hd : Vals dvs dv) (hdd : ∀ F, Reps R F dd dvs) (hx : Passes CX X E0)
    (ha : PA X (e :: es) (lA R ms)) (hdb : (x == ("__debug__" : Str)) = false := by decide) (he : starEach (e :: es) X.env = (false, eval e X.env) :: starEach es X.env := by rfl) (hpl : (backTo pos (starEach es X.env)).any (·.1) = false := by rfl) :
    PE X (.Call (.Name x p) (e :: es) [] pos) (lE R (mCall mf dd ms)) :=
  PE.imp (pe_call F hr hg hm hk hb hd hx ha hdb he hpl) fun _ _ _ h => call2 hdd hn h
end

/-! ## statements -/
inductive Out where
  | nx (e : Env') (p : Pn)
  | rt (d : D) (p : Pn)
  | bk (e : Env') (p : Pn)
  | ct (e : Env') (p : Pn)
  | exc (c : Str) (xs : List D)
  | bad
abbrev SS := Env' → Pn → Out
def OutOk (R : RC) (B : Bs) (F : Hp) (E : Ends) : Out → Prop
  | .nx env' p' => ∀ σ' F' H', Same F F' → SRel R B env' p' σ' F' H' → E.nx σ' H'
  | .bk env' p' => ∀ σ' F' H', Same F F' → SRel R B env' p' σ' F' H' → E.bk σ' H'
  | .ct env' p' => ∀ σ' F' H', Same F F' → SRel R B env' p' σ' F' H' → E.ct σ' H'
  | .rt d p' => ∀ v env' σ' F' H', Same F F' → SRel R B env' p' σ' F' H' → Rep R F' d v → E.rt v H'
  | _ => False
def lS (R : RC) (s : SS) : TS := fun E σ H => ∃ B env p F, SRel R B env p σ F H ∧ OutOk R B F E (s env p)
theorem OutOk.mono {R : RC} {B : Bs} {F F' : Hp} {E : Ends} {o : Out} (h : OutOk R B F E o) (s : Same F F') : OutOk R B F' E o := by
  cases o with
  | nx e p => exact fun σ' F2 H2 s2 => h σ' F2 H2 (s.trans s2)
  | bk e p => exact fun σ' F2 H2 s2 => h σ' F2 H2 (s.trans s2)
  | ct e p => exact fun σ' F2 H2 s2 => h σ' F2 H2 (s.trans s2)
  | rt d p => exact fun v e σ' F2 H2 s2 => h v e σ' F2 H2 (s.trans s2)
  | exc c xs => exact h
  | bad => exact h
def dNext : SS := fun env p => .nx env p
def Out.then (o : Out) (k : SS) : Out := match o with
  | .nx e p => k e p
  | .rt d p => .rt d p
  | .bk e p => .bk e p
  | .ct e p => .ct e p
  | .exc c xs => .exc c xs
  | .bad => .bad
def dSeq (a b : SS) : SS := fun env p => (a env p).then b
def dOf {α : Type} (m : M α) (k : α → SS) : SS := fun env p => match m env p with
  | .ok (a, e, p) => k a e p
  | .exc c xs => .exc c xs
  | .bad => .bad
def dExpr (m : M D) : SS := dOf m fun _ => dNext
def dSet (i : Nat) (m : M D) : SS := dOf m fun d env p => .nx (env.set i (.pl d)) p
def dSetO (i : Nat) (m : M D) : SS := dOf m fun d env p => .nx (env.set i (.ow d)) p
def dRet (m : M D) : SS := dOf m fun d _ p => .rt d p
def dRetN : SS := fun _ p => .rt .non p
def dIf (t : M Bool) (a b : SS) : SS := dOf t fun c => if c = true then a else b
def dBrk : SS := fun env p => .bk env p
def dCt : SS := fun env p => .ct env p
def dBad : SS := fun _ _ => .bad
/-- own names are given up -/
def frz1 (env : Env') (i : Nat) : Env' := match env[i]? with
  | some (.ow d) => env.set i (.pl d)
  | _ => env
def dFrz (l : List Nat) (s : SS) : SS := fun env p => s (l.foldl frz1 env) p
section
variable {X : Cx} {R : RC} {e : Expr} {m : M D} {st : Stmt} {rest : List Stmt} {s t : SS} {pos : Pos}
theorem of1 {α β : Type} {Rl : Hp → α → β → Prop} {m : M α} {k : α → SS} {te : St → Hp → (β → Hp → Prop) → Prop} (w : ∀ {σ H Q}, lM R Rl m σ H Q → te σ H Q) {E : Ends} {σ : St} {H : Hp} {Qn : β → Hp → Prop} (h : lS R (dOf m k) E σ H)
    (hq : ∀ B a b env p F H, SRel R B env p σ F H → Rl F a b → OutOk R B F E (k a env p) → Qn b H) : te σ H Qn := by
  obtain ⟨B, env, p, F, S, o⟩ := h
  unfold dOf at o
  split at o
  · rename_i a env' p' e
    exact w ⟨B, env, p, F, S, a, env', p', e, fun b F' H' s S' r => hq B a b env' p' F' H' S' r (o.mono s)⟩
  · exact o.elim
  · exact o.elim
theorem dss_nil : PSs X [] (lS R dNext) := PSs.imp pss_nil fun E σ H ⟨B, env, p, F, S, o⟩ => o σ F H (Same.refl _) S
theorem dss_cons (h1 : PS X st (lS R s)) (h2 : PSs X rest (lS R t)) : PSs X (st :: rest) (lS R (dSeq s t)) :=
  PSs.imp (pss_cons h1 h2) fun E σ H ⟨B, env, p, F, S, o⟩ => by
    refine ⟨B, env, p, F, S, ?_⟩
    unfold dSeq at o
    cases h : s env p with
    | nx e' p' => rw [h] at o; exact fun σ' F' H' s S' => ⟨B, e', p', F', S', o.mono s⟩
    | rt d p' => rw [h] at o; exact o
    | bk e' p' => rw [h] at o; exact o
    | ct e' p' => rw [h] at o; exact o
    | exc c xs => rw [h] at o; exact o
    | bad => rw [h] at o; exact o
theorem dss_one (h1 : PS X st (lS R s)) : PSs X [st] (lS R s) := pss_one h1
theorem ds_pass : PS X (.Pass pos) (lS R dNext) := PS.imp ps_pass fun E σ H ⟨B, env, p, F, S, o⟩ => o σ F H (Same.refl _) S
theorem ds_break : PS X (.Break pos) (lS R dBrk) := PS.imp ps_break fun E σ H ⟨B, env, p, F, S, o⟩ => o σ F H (Same.refl _) S
theorem ds_continue : PS X (.Continue pos) (lS R dCt) := PS.imp ps_continue fun E σ H ⟨B, env, p, F, S, o⟩ => o σ F H (Same.refl _) S
theorem ds_never : PS X st (lS R dBad) := PS.imp ps_never fun E σ H ⟨B, env, p, F, S, o⟩ => o
theorem ds_expr (he : PE X e (lE R m)) (hs : swapsWith e none pos.line X.env = pure false := by rfl) : PS X (.Expr e pos) (lS R (dExpr m)) :=
  PS.imp (ps_expr he hs) fun E σ H h => of1 (te := lE R m) (fun h => h) h fun B a b env p F H S r o => o σ F H (Same.refl _) S
theorem ds_ret (he : PE X e (lE R m)) : PS X (.Return (some e) pos) (lS R (dRet m)) :=
  PS.imp (ps_ret he) fun E σ H h => of1 (te := lE R m) (fun h => h) h fun B a b env p F H S r o => o b env σ F H (Same.refl _) S r
theorem ds_retN : PS X (.Return none pos) (lS R dRetN) := PS.imp ps_retN fun E σ H ⟨B, env, p, F, S, o⟩ => o .non env σ F H (Same.refl _) S (by simp [Rep])
theorem ds_if {c : Expr} {a b : List Stmt} {tc : M Bool} (hc : PT X c (lT R tc)) (ha : PSs X a (lS R s)) (hb : PSs X b (lS R t)) : PS X (.If c a b pos) (lS R (dIf tc s t)) :=
  PS.imp (ps_if hc ha hb) fun E σ H h => of1 (te := lT R tc) (fun h => h) h fun B a b env p F H S r o => by
    cases r
    cases a with
    | true => exact ⟨B, env, p, F, S, o⟩
    | false => exact ⟨B, env, p, F, S, o⟩
theorem ds_set {i : Nat} {x : Str} {pos' : Pos} (hN : X.N.Nodup) (hi : X.N[i]? = some x) (hx : Loc X.env.scope x) (he : PE X e (lE R m)) (hs : swapsWith e (some (.Name x pos')) pos.line X.env = pure false := by rfl) (hf : X.fn x = true ∨ X.env.scope.names.lookup x = some .local := by first | exact .inl rfl | exact .inr rfl | assumption) :
    PS X (.Assign [.Name x pos'] e pos) (lS R (dSet i m)) :=
  PS.imp (ps_set hN hi hx he hs hf) fun E σ H h => of1 (te := lE R m) (fun h => h) h fun B a b env p F H S r o => o _ F H (Same.refl _) (S.set r)
theorem ofF {k : D → SS} {E : Ends} {σ : St} {H : Hp} {Qn : V → Hp → Prop} (h : lS R (dOf m k) E σ H)
    (hq : ∀ B d a env p F H, SRel R B env p σ F H → FreshA R B env σ F H d a → OutOk R B F E (k d env p) → Qn (.ref a) H) : lF R m σ H Qn := by
  obtain ⟨B, env, p, F, S, o⟩ := h
  unfold dOf at o
  split at o
  · rename_i d env' p' e
    exact ⟨B, env, p, F, S, d, env', p', e, fun b F' H' s S' r => hq B d b env' p' F' H' S' r (o.mono s)⟩
  · exact o.elim
  · exact o.elim
theorem ds_setO {i : Nat} {x : Str} {pos' : Pos} (hN : X.N.Nodup) (hi : X.N[i]? = some x) (hx : Loc X.env.scope x) (he : PE X e (lF R m)) (hs : swapsWith e (some (.Name x pos')) pos.line X.env = pure false := by rfl) (hf : X.fn x = true ∨ X.env.scope.names.lookup x = some .local := by first | exact .inl rfl | exact .inr rfl | assumption) :
    PS X (.Assign [.Name x pos'] e pos) (lS R (dSetO i m)) :=
  PS.imp (ps_set hN hi hx he hs hf) fun E σ H h => ofF h fun B d a env p F H S r o => o _ F H (Same.refl _) (S.setO r)
theorem frz_ok {B : Bs} {p : Pn} {σ : St} {H : Hp} : ∀ (l : List Nat) {env : Env'} {F : Hp}, SRel R B env p σ F H → ∃ F', Same F F' ∧ SRel R B (l.foldl frz1 env) p σ F' H
  | [], env, F, S => ⟨F, Same.refl _, S⟩
  | i :: l, env, F, S => by
    have h1 : ∃ F1, Same F F1 ∧ SRel R B (frz1 env i) p σ F1 H := by
      unfold frz1
      split
      · rename_i d hd
        exact S.freezeAt hd
      · exact ⟨F, Same.refl _, S⟩
    obtain ⟨F1, s1, S1⟩ := h1
    obtain ⟨F2, s2, S2⟩ := frz_ok l S1
    exact ⟨F2, s1.trans s2, S2⟩
theorem ds_frz (l : List Nat) (h : PS X st (lS R s)) : PS X st (lS R (dFrz l s)) := PS.imp h fun E σ H ⟨B, env, p, F, S, o⟩ => by
  obtain ⟨F', s', S'⟩ := frz_ok l S
  exact ⟨B, _, p, F', S', o.mono s'⟩
end

/-! ## a def from its body -/
/-- a def of the text as it stands behind the top, whatever its defaults are -/
structure FunG (K : PySem.W.Frag) (x qual : Str) (st : Stmt) (f : Addr) (fd : FuncData) : Prop where
  ex : ∃ (oc : Value) (od : Option Addr) (dV kV doc pm : Value) (an : Option Addr) (cdv ct : Value) (osl : Array (Option Value)),
    fd = PySem.W.fnOf x qual (defArgs st) (defBody st) (defScope st) dV kV doc pm an cdv ct ∧ K.lookup f = some ⟨oc, od, .func fd, osl⟩ ∧ PySem.W.codeIn K cdv qual = true
theorem FunG.ok {P : Program} {w : World} {K : PySem.W.Frag} {mg : Str → Option Value} {base : Heap} {x qual : Str} {st : Stmt} {f : Addr} {fd : FuncData} {N ps : List Str} {k : Nat} {sp : Sp} (F : FunG K x qual st f fd) (S : FnScope N ps (defScope st)) (len : ∀ vs H Q E, sp vs H Q E → vs.length = ps.length)
    (hbody : ∀ (cdv : Value) (A : Around) (outer : List Env) (s : Shared) (H : Hp) (vs : List V) (Q : VK) (E : XK), Room k (A.deeper (envOfC qual (defScope st) s.heap.objs.size f cdv)) → sp vs H Q E →
      ∃ t, PSs (cxOf CX0 P w K mg base N qual (defScope st) f cdv A outer s H E).nox (defBody st) t ∧ t { nx := fun _ H' => Q .non H', rt := Q } (L2.start N vs) H) : FnOk P w K mg base CX0 (k + 1) f fd ps sp := by
  obtain ⟨oc, od, dV, kV, doc, pm, an, cdv, ct, osl, rfl, lk, hcd⟩ := F.ex
  refine fn_of lk hcd S len fun A outer s H vs Q E hr hsp => ?_
  obtain ⟨t, h1, h2⟩ := hbody cdv A outer s H vs Q E hr hsp
  exact ⟨t, h1.nox, h2⟩
def fnD (n N : Nat) (body : SS) : FD := fun ds p => if ds.length = n then (match body (ds.map Slot.pl ++ List.replicate (N - n) Slot.un) p with
  | .nx _ p' => .ok (.non, p')
  | .rt d p' => .ok (d, p')
  | .exc c xs => .exc c xs
  | _ => .bad) else .bad
theorem fnD_len {n N : Nat} {body : SS} (ds : List D) (p : Pn) (r : D × Pn) (h : fnD n N body ds p = .ok r) : ds.length = n := by
  unfold fnD at h
  split at h
  · assumption
  · cases h
theorem Reps.start {R : RC} {F : Hp} {ds : List D} {vs : List V} {N : List Str} (r : Reps R F ds vs) (i : Nat) (s : Slot) (h : (ds.map Slot.pl ++ List.replicate (N.length - ds.length) Slot.un)[i]? = some s) (B : Bs) (H : Hp) : SlotRel R B F H s (L2.start N vs)[i]? := by
  by_cases hi : i < ds.length
  · rw [List.getElem?_append_left (by simpa using hi)] at h
    rw [List.getElem?_map] at h
    cases e : ds[i]? with
    | none => rw [e] at h; cases h
    | some d =>
      rw [e] at h
      cases h
      obtain ⟨v, h1, h2⟩ := r.get e
      refine ⟨v, ?_, h2⟩
      unfold L2.start
      rw [List.getElem?_append_left (by rw [List.length_map, r.length]; exact hi), List.getElem?_map, h1]
      rfl
  · rw [List.getElem?_append_right (by simpa using Nat.le_of_not_lt hi)] at h
    have := List.mem_of_getElem? h
    rw [List.eq_of_mem_replicate this]
    trivial
section
variable {P : Program} {w : World} {K : PySem.W.Frag} {cls : Str → Addr} {mg : Str → Option Value} {base : Heap}
theorem fn_okD {x qual : Str} {st : Stmt} {f : Addr} {fd : FuncData} {N ps : List Str} {k : Nat} {body : SS} (F : FunG K x qual st f fd) (Sc : FnScope N ps (defScope st)) (hle : ps.length ≤ N.length)
    (hb : ∀ (cdv : Value) (A : Around) (outer : List Env) (s : Shared) (H : Hp) (E : XK) (q ca sf : Addr) (cells : List Int), Room k (A.deeper (envOfC qual (defScope st) s.heap.objs.size f cdv)) →
      PSs (cxOf CX0 P w K mg base N qual (defScope st) f cdv A outer s H E).nox (defBody st) (lS ⟨K, cls, q, ca, cells, sf⟩ body)) :
    FnOk P w K mg base CX0 (k + 1) f fd ps (spD K cls ps.length (fnD ps.length N.length body)) := by
  refine F.ok Sc (fun vs H Q E h => ?_) (fun cdv A outer s H vs Q E hr h => ?_)
  · obtain ⟨q, ca, sf, cells, F, p, ds, _, _, _, r, hl, _⟩ := h
    rw [r.length]; exact hl
  · obtain ⟨q, ca, sf, cells, F, p, ds, fh, cel, pen, r, hl, d, p', e, hq⟩ := h
    refine ⟨_, hb cdv A outer s H E q ca sf cells hr, ⟨F, H, p.isSome⟩, ds.map Slot.pl ++ List.replicate (N.length - ps.length) Slot.un, p, F, ?_, ?_⟩
    · refine ⟨fh, Same.refl _, fun _ _ _ h => h, fun _ h => .inl h, rfl, pen, cel, ?_, fun i s hi => ?_, fun i j a hij h1 h2 => ?_⟩
      · unfold L2.start
        rw [List.length_append, List.length_append, List.length_map, List.length_map, List.length_replicate, List.length_replicate, r.length, hl]
      · rw [← hl] at hi
        exact r.start i s hi _ _
      · obtain ⟨⟨s, g1, g2⟩, _⟩ := h1
        rcases List.mem_append.mp (List.mem_of_getElem? g1) with hm | hm
        · obtain ⟨d, _, rfl⟩ := List.mem_map.mp hm
          cases g2
        · rw [List.eq_of_mem_replicate hm] at g2
          cases g2
    · have out : ∀ {env' : Env'} {p2 : Pn} {σ' : St} {F' H' : Hp}, Same F F' → SRel ⟨K, cls, q, ca, cells, sf⟩ ⟨F, H, p.isSome⟩ env' p2 σ' F' H' → Ext ⟨K, cls, q, ca, cells, sf⟩ F H p F' H' p2 := fun s' S' =>
        ⟨s', S'.fh, fun b o hb h => S'.h0 b o (hb.imp id fun z => by show p.isSome = false; rw [z]; rfl) h, S'.fresh, S'.pnb, S'.pen⟩
      unfold fnD at e
      rw [if_pos hl] at e
      split at e
      · rename_i env' p2 hbd
        cases e
        rw [hbd]
        exact fun σ' F' H' s' S' => hq .non F' H' (out s' S') (by simp [Rep])
      · rename_i d2 p2 hbd
        cases e
        rw [hbd]
        exact fun v env' σ' F' H' s' S' r' => hq v F' H' (out s' S') r'
      · cases e
      · cases e
end
end CS
namespace CS
open PySem L2
open PyProof.Rows (envOfC)

/-! ## targets -/
abbrev Bd := D → Env' → Res Env'
abbrev Bds := List D → Env' → Res Env'
/-- only the slots ts may be other ones, no name comes to hold an own list -/
structure Tch (ts : List Nat) (env : Env') (σ : St) (env' : Env') (σ' : St) : Prop where
  len : σ'.length = σ.length
  at_ : ∀ j, j ∉ ts → σ'[j]? = σ[j]?
  own : ∀ i a, OwnAt env' σ' i a → OwnAt env σ i a
def lG (R : RC) (ts : List Nat) (b : Bd) : TG := fun v σ H Q => ∃ B env p F d env', SRel R B env p σ F H ∧ Rep R F d v ∧ b d env = .ok env' ∧ ∀ σ', SRel R B env' p σ' F H → Tch ts env σ env' σ' → Q σ' H
def lGs (R : RC) (ts : List Nat) (b : Bds) : TGs := fun vs σ H Q => ∃ B env p F ds env', SRel R B env p σ F H ∧ Reps R F ds vs ∧ b ds env = .ok env' ∧ ∀ σ', SRel R B env' p σ' F H → Tch ts env σ env' σ' → Q σ' H
def bNm (i : Nat) : Bd := fun d env => .ok (env.set i (.pl d))
def bNil : Bds := fun ds env => match ds with
  | [] => .ok env
  | _ => .bad
def bCons (b : Bd) (bs : Bds) : Bds := fun ds env => match ds with
  | d :: r => (b d env).bind (bs r)
  | [] => .bad
def bTup (n : Nat) (bs : Bds) : Bd := fun d env => match d with
  | .tup ds => if ds.length = n then bs ds env else .bad
  | _ => .bad
section
variable {X : Cx} {R : RC} {e : Expr} {es : List Expr} {pos : Pos} {ts us : List Nat} {b : Bd} {bs : Bds}
theorem PGs.imp {t t' : TGs} (h : PGs X es t) (w : ∀ v σ H Q, t' v σ H Q → t v σ H Q) : PGs X es t' := ⟨fun pins s σ H v u Q I r q => h.run pins s σ H v u Q I r (w _ _ _ _ q)⟩
theorem dg_name {i : Nat} {x : Str} (hN : X.N.Nodup) (hi : X.N[i]? = some x) (hx : Loc X.env.scope x) (hf : X.fn x = true ∨ X.env.scope.names.lookup x = some .local := by first | exact .inl rfl | exact .inr rfl | assumption) : PG X (.Name x pos) (lG R [i] (bNm i)) :=
  PG.imp (pg_name hN hi hx hf) fun v σ H Q ⟨B, env, p, F, d, env', S, r, e, q⟩ => by
    cases e
    exact q _ (S.set r) ⟨by simp, fun j hj => by rw [List.getElem?_set_ne]; rintro rfl; exact hj (by simp), fun j a h => by
      obtain ⟨⟨s, g1, g2⟩, g3⟩ := h
      by_cases e : i = j
      · subst e
        have hl : i < env.length := by have := (List.getElem?_eq_some_iff.mp g1).1; simpa using this
        rw [List.getElem?_set_self hl] at g1
        cases g1; cases g2
      · rw [List.getElem?_set_ne e] at g1 g3
        exact ⟨⟨s, g1, g2⟩, g3⟩⟩
theorem dgs_nil : PGs X [] (lGs R [] bNil) := PGs.imp pgs_nil fun vs σ H Q ⟨B, env, p, F, ds, env', S, r, e, q⟩ => by
  cases ds with
  | nil =>
    cases e
    simp only [Reps] at r
    exact ⟨r, q σ S ⟨rfl, fun _ _ => rfl, fun _ _ h => h⟩⟩
  | cons _ _ => cases e
theorem dgs_cons (h1 : PG X e (lG R ts b)) (h2 : PGs X es (lGs R us bs)) (hs : (assignEach (e :: es) X.env).map (·.2) = assign e X.env :: (assignEach es X.env).map (·.2) := by rfl) : PGs X (e :: es) (lGs R (ts ++ us) (bCons b bs)) :=
  PGs.imp (pgs_cons h1 h2 hs) fun vs σ H Q ⟨B, env, p, F, ds, env', S, r, e, q⟩ => by
    cases ds with
    | nil => cases e
    | cons d ds =>
      simp only [Reps] at r
      obtain ⟨v, vr, rfl, r1, r2⟩ := r
      obtain ⟨env1, e1, e2⟩ := Res.bind_ok (show (b d env).bind _ = _ from e)
      refine ⟨v, vr, rfl, B, env, p, F, d, env1, S, r1, e1, fun σ1 S1 k1 => ⟨B, env1, p, F, ds, env', S1, r2, e2, fun σ2 S2 k2 => q σ2 S2 ⟨by rw [k2.1, k1.1], fun j hj => ?_, fun i a h => k1.3 i a (k2.3 i a h)⟩⟩⟩
      rw [List.mem_append, not_or] at hj
      rw [k2.2 j hj.2, k1.2 j hj.1]
theorem dg_tup {k n : Nat} (hK : X.K = R.K) (hc : X.calm = true) (h : PGs X es (lGs R ts bs)) (hn : (assignEach es X.env).length = n := by rfl) (hst : (assignEach es X.env).findIdx? (·.1) = none := by rfl) : PG X (.Tuple es k pos) (lG R ts (bTup n bs)) :=
  PG.imp (pg_tup hc h hn hst) fun v σ H Q ⟨B, env, p, F, d, env', S, r, e, q⟩ => by
    unfold bTup at e
    split at e
    · split at e
      · rename_i ds hl
        simp only [Rep] at r
        obtain ⟨a, vs, rfl, h1, r⟩ := r
        rw [hK]
        exact ⟨a, vs, rfl, Same.sqt S.fh h1, by rw [r.length]; exact hl, B, env, p, F, ds, env', S, r, e, q⟩
      · cases e
    · cases e
end
/-- target = value -/
def dAsg (m : M D) (b : Bd) : SS := dOf m fun d env p => match b d env with
  | .ok e => .nx e p
  | _ => .bad
section
variable {X : Cx} {R : RC} {e tg : Expr} {m : M D} {ts : List Nat} {b : Bd} {pos : Pos}
theorem ds_asg (he : PE X e (lE R m)) (hg : PG X tg (lG R ts b)) (hs : swapsWithSole [tg] e pos.line X.env = pure false := by rfl) (hw : swappedStores [tg] e X.env = pure none := by rfl)
    (h1 : (assignEach [tg] X.env).map (·.2) = [assign tg X.env] := by rfl) : PS X (.Assign [tg] e pos) (lS R (dAsg m b)) :=
  PS.imp (ps_asg he hg hs hw h1) fun E σ H h => of1 (te := lE R m) (fun h => h) h fun B d v env p F H S r o => by
    split at o
    · rename_i env' e
      exact ⟨B, env, p, F, d, env', S, r, e, fun σ' S' _ => o σ' F H (Same.refl _) S'⟩
    · exact o.elim
end

/-! ## what is walked -/
/-- at turn i the walk J yields the i-th of ds -/
structure Yl (R : RC) (J : It) (F : Hp) (ds : List D) : Prop where
  stop : ∀ F2 H2, Same F F2 → Same F2 H2 → J.stop ds.length H2
  item : ∀ (i : Nat) (d : D) F2 H2, Same F F2 → Same F2 H2 → ds[i]? = some d → J.go i H2 ∧ ∀ x H3, J.yld i H2 x H3 →
    (H3 = H2 ∧ Rep R F2 d x) ∨ ∃ a vs es, H2 a = none ∧ H3 = upd H2 a (.tup vs) ∧ x = .ref a ∧ d = .tup es ∧ Reps R F2 es vs
def lI (R : RC) (m : M (List D)) : TI := fun σ H Rr => ∃ B env p F, SRel R B env p σ F H ∧ ∃ ds env' p', m env p = .ok (ds, env', p') ∧ ∀ J F' H', Same F F' → SRel R B env' p' σ F' H' → Yl R J F' ds → Rr J H'
def mRow (m : M D) : M (List D) := m >>= fun d => M.res d.row
def mRange1 (m : M D) : M (List D) := m >>= fun d => M.res ((asI d).bind fun n => if n < 2 ^ 62 ∧ -(2 ^ 62) ≤ n then .ok ((List.range n.toNat).map fun (i : Nat) => D.int i) else .bad)
def mRange2 (m n : M D) : M (List D) := m >>= fun c => n >>= fun d => M.res ((asI c).bind fun a => (asI d).bind fun b => if (a < 2 ^ 62 ∧ -(2 ^ 62) ≤ a) ∧ b < 2 ^ 62 ∧ -(2 ^ 62) ≤ b then .ok ((List.range (b - a).toNat).map fun (i : Nat) => D.int (a + i)) else .bad)
def enumL (i : Nat) : List D → List D
  | [] => []
  | d :: r => .tup [.int i, d] :: enumL (i + 1) r
def mEnum (m : M D) : M (List D) := m >>= fun d => M.res (d.row.bind fun ds => .ok (enumL 0 ds))
def zipL : List D → List D → List D
  | d :: r, e :: s => .tup [d, e] :: zipL r s
  | _, _ => []
def zipR : D → D → Res (List D)
  | .lst a, .lst b => .ok (zipL a b)
  | .tup a, .tup b => .ok (zipL a b)
  | _, _ => .bad
def mZip (m n : M D) : M (List D) := m >>= fun c => n >>= fun d => M.res (zipR c d)
theorem enumL_get : ∀ (ds : List D) (k i : Nat), (enumL k ds)[i]? = (ds[i]?).map fun d => D.tup [.int ((k + i : Nat) : Int), d]
  | [], k, i => by simp [enumL]
  | d :: r, k, 0 => by simp [enumL]
  | d :: r, k, i + 1 => by
    simp only [enumL, List.getElem?_cons_succ, enumL_get r]
    rw [show k + 1 + i = k + (i + 1) by omega]
theorem enumL_length : ∀ (ds : List D) (k : Nat), (enumL k ds).length = ds.length
  | [], k => rfl
  | d :: r, k => by simp [enumL, enumL_length r]
theorem zipL_length : ∀ (a b : List D), (zipL a b).length = min a.length b.length
  | [], b => by simp [zipL]
  | d :: r, [] => by simp [zipL]
  | d :: r, e :: s => by simp [zipL, zipL_length r s]
theorem zipL_get : ∀ (a b : List D) (i : Nat) (d : D), (zipL a b)[i]? = some d → ∃ x y, a[i]? = some x ∧ b[i]? = some y ∧ d = .tup [x, y]
  | [], b, i, d, h => by simp [zipL] at h
  | x :: r, [], i, d, h => by simp [zipL] at h
  | x :: r, y :: s, 0, d, h => by simp [zipL] at h; exact ⟨x, y, rfl, rfl, h.symm⟩
  | x :: r, y :: s, i + 1, d, h => by
    simp only [zipL, List.getElem?_cons_succ] at h
    obtain ⟨x', y', h1, h2, h3⟩ := zipL_get r s i d h
    exact ⟨x', y', by simpa using h1, by simpa using h2, h3⟩
section
variable {X : Cx} {R : RC} {tg e e2 : Expr} {m n : M D} {pos p ps tpos : Pos}
/-- a list or a tuple, as it comes -/
def iSeq (K : PySem.W.Frag) (tl : TE) : TI := fun σ H Rr => tl σ H fun x H1 => ∃ a, x = .ref a ∧ (((∃ xs, SqL K H1 a xs) ∧ Rr (Itl K a) H1) ∨ ((∃ xs, SqT K H1 a xs) ∧ Rr (Itt K a) H1))
theorem pi_seq {l : Expr} {tl : TE} (hl : PE X l tl) : PI X tg l (iSeq X.K tl) := by
  refine ⟨fun pins s σ H Rr I h => ?_⟩
  refine thn (hl.run pins s σ H _ I h) fun v s1 ⟨x, H1, I1, r1, q1⟩ => ?_
  obtain ⟨a, e, q⟩ := q1
  subst e
  cases r1
  rcases q with ⟨⟨xs, hq⟩, q⟩ | ⟨⟨xs, hq⟩, q⟩
  · obtain ⟨its, rv, p, hz⟩ := I1.list hq
    refine wpAny_pyIter_list p.isList ?_
    refine ⟨s1.heap.objs.size, [s1.heap.objs.size], _, _, H1, rfl, I1.kept (t' := s1.toks) fun b o e => Heap.get?_push_of_some _ e, turn_list a _, ⟨_, Heap.get?_push_size _ rfl, rfl, rfl⟩, fun b hb => ?_, q⟩
    have e : b = s1.heap.objs.size := by simpa using hb
    subst e
    exact I1.fpOk (Nat.le_refl _) (I1.hok.fresh (Nat.le_refl _))
  · obtain ⟨its, rv, p, hz⟩ := I1.tuple hq
    refine wpAny_pyIter_tuple (show s1.heap.IsTuple a its.toArray from p) ?_
    refine ⟨s1.heap.objs.size, [s1.heap.objs.size], _, _, H1, rfl, I1.kept (t' := s1.toks) fun b o e => Heap.get?_push_of_some _ e, turn_tuple a _, ⟨_, Heap.get?_push_size _ rfl, rfl, rfl⟩, fun b hb => ?_, q⟩
    have e : b = s1.heap.objs.size := by simpa using hb
    subst e
    exact I1.fpOk (Nat.le_refl _) (I1.hok.fresh (Nat.le_refl _))
theorem Yl.lst {F : Hp} {a : Addr} {ds : List D} {vs : List V} (h : F a = some (.lst vs)) (r : Reps R F ds vs) : Yl R (Itl R.K a) F ds where
  stop := fun F2 H2 s s2 => ⟨vs, SqL.of (s2 _ _ (s _ _ h)), by rw [r.length]; exact Nat.le_refl _⟩
  item := fun i d F2 H2 s s2 hd => by
    obtain ⟨v, hv, rv⟩ := r.get hd
    refine ⟨⟨vs, v, SqL.of (s2 _ _ (s _ _ h)), hv⟩, fun x H3 ⟨e, hy⟩ => .inl ⟨e, ?_⟩⟩
    have := hy vs (SqL.of (s2 _ _ (s _ _ h)))
    rw [hv] at this; cases this
    exact rv.mono s
theorem Yl.tup {F : Hp} {a : Addr} {ds : List D} {vs : List V} (h : SqT R.K F a vs) (r : Reps R F ds vs) : Yl R (Itt R.K a) F ds where
  stop := fun F2 H2 s s2 => ⟨vs, Same.sqt (s.trans s2) h, by rw [r.length]; exact Nat.le_refl _⟩
  item := fun i d F2 H2 s s2 hd => by
    obtain ⟨v, hv, rv⟩ := r.get hd
    refine ⟨⟨vs, v, Same.sqt (s.trans s2) h, hv⟩, fun x H3 ⟨e, hy⟩ => .inl ⟨e, ?_⟩⟩
    have := hy vs (Same.sqt (s.trans s2) h)
    rw [hv] at this; cases this
    exact rv.mono s
theorem di_row (hK : X.K = R.K) (he : PE X e (lE R m)) : PI X tg e (lI R (mRow m)) := PI.imp (pi_seq he) fun σ H Rr ⟨B, env, p, F, S, ds, env', p', e, q⟩ => by
  have c : Cn R (fun F' (ds : List D) (J : It) => Yl R J F' ds) (mRow m) Rr σ B env p F H := ⟨S, ds, env', p', e, q⟩
  refine c.sq fun d v env1 p1 F1 H1 s1 r1 c1 => ?_
  obtain ⟨ds, e, q⟩ := c1.res
  have S := c1.S
  rw [hK]
  unfold D.row at e
  split at e
  · cases e
    simp only [Rep] at r1
    obtain ⟨a, vs, rfl, h, r⟩ := r1
    exact ⟨a, rfl, .inl ⟨⟨vs, SqL.of (S.fh _ _ h)⟩, q _ _ _ (Same.refl _) S (.lst h r)⟩⟩
  · cases e
    simp only [Rep] at r1
    obtain ⟨a, vs, rfl, h, r⟩ := r1
    exact ⟨a, rfl, .inr ⟨⟨vs, Same.sqt S.fh h⟩, q _ _ _ (Same.refl _) S (.tup h r)⟩⟩
  · cases e
theorem Yl.range {F : Hp} (lo : Int) (n : Nat) : Yl R (Itr lo n) F ((List.range n).map fun (i : Nat) => D.int (lo + i)) where
  stop := fun F2 H2 s s2 => by simp [Itr]
  item := fun i d F2 H2 s s2 hd => by
    rw [List.getElem?_map] at hd
    cases e : (List.range n)[i]? with
    | none => rw [e] at hd; cases hd
    | some j =>
      rw [e] at hd
      cases hd
      obtain ⟨h1, h2⟩ := List.getElem?_eq_some_iff.mp e
      rw [List.length_range] at h1
      rw [List.getElem_range] at h2
      subst h2
      exact ⟨h1, fun x H3 ⟨e1, e2⟩ => .inl ⟨e1, by rw [e2]; simp [Rep]⟩⟩
theorem di_range1 (hg : Gl X "range") (hm : X.mg "range" = none) (ha : PE X e (lE R m)) (hs : starEach [e] X.env = [(false, eval e X.env)] := by rfl) : PI X tg (.Call (.Name "range" p) [e] [] pos) (lI R (mRange1 m)) :=
  PI.imp (pi_range1 hg hm (pa_cons ha pa_nil hs) hs) fun σ H Rr ⟨B, env, p, F, S, ds, env', p', e, q⟩ => by
    have c : Cn R (fun F' (ds : List D) (J : It) => Yl R J F' ds) (mRange1 m) Rr σ B env p F H := ⟨S, ds, env', p', e, q⟩
    refine c.sq fun d v env1 p1 F1 H1 s1 r1 c1 => ?_
    obtain ⟨ds, e, q⟩ := c1.res
    obtain ⟨n, e1, e2⟩ := Res.bind_ok e
    cases asI_ok e1
    split at e2
    · rename_i hn
      cases e2
      simp only [Rep] at r1
      subst r1
      refine ⟨n, rfl, hn.2, hn.1, q _ _ _ (Same.refl _) c1.S ?_⟩
      have := Yl.range (R := R) (F := F1) 0 n.toNat
      simpa using this
    · cases e2
theorem di_range2 (hg : Gl X "range") (hm : X.mg "range" = none) (ha : PE X e (lE R m)) (hb : PE X e2 (lE R n)) (hs : starEach [e, e2] X.env = [(false, eval e X.env), (false, eval e2 X.env)] := by rfl) (hs2 : starEach [e2] X.env = [(false, eval e2 X.env)] := by rfl)
    (hs3 : starEach [e, e2] X.env = (false, eval e X.env) :: starEach [e2] X.env := by rfl) : PI X tg (.Call (.Name "range" p) [e, e2] [] pos) (lI R (mRange2 m n)) :=
  PI.imp (pi_range2 hg hm (pa_cons ha (pa_cons hb pa_nil hs2) hs3) hs hs2) fun σ H Rr ⟨B, env, p, F, S, ds, env', p', e, q⟩ => by
    have c : Cn R (fun F' (ds : List D) (J : It) => Yl R J F' ds) (mRange2 m n) Rr σ B env p F H := ⟨S, ds, env', p', e, q⟩
    refine c.sq fun d v env1 p1 F1 H1 s1 r1 c1 => c1.sq fun d2 v2 env2 p2 F2 H2 s2 r2 c2 => ?_
    obtain ⟨ds, e, q⟩ := c2.res
    obtain ⟨a, e1, e2⟩ := Res.bind_ok e
    obtain ⟨b, e3, e4⟩ := Res.bind_ok e2
    cases asI_ok e1
    cases asI_ok e3
    split at e4
    · rename_i hn
      cases e4
      simp only [Rep] at r1 r2
      subst r1 r2
      exact ⟨a, b, rfl, ⟨hn.1.2, hn.1.1, hn.2.2, hn.2.1⟩, q _ _ _ (Same.refl _) c2.S (Yl.range a (b - a).toNat)⟩
    · cases e4
theorem di_zip {elts : List Expr} {kk : Nat} (hK : X.K = R.K) (hg : Gl X "zip") (hm : X.mg "zip" = none) (ha : PE X e (lE R m)) (hb : PE X e2 (lE R n)) (hs : starEach [e, e2] X.env = (false, eval e X.env) :: starEach [e2] X.env := by rfl) (hs2 : starEach [e2] X.env = (false, eval e2 X.env) :: starEach [] X.env := by rfl)
    (hpl : (backTo pos (starEach [e2] X.env)).any (·.1) = false := by rfl) : PI X (.Tuple elts kk tpos) (.Call (.Name "zip" p) [e, e2] [] pos) (lI R (mZip m n)) :=
  PI.imp (RZ.pi_zipA hg hm (pa_cons ha (pa_cons hb pa_nil hs2) hs) hs hpl) fun σ H Rr ⟨B, env, p, F, S, ds, env', p', e, q⟩ => by
    have c : Cn R (fun F' (ds : List D) (J : It) => Yl R J F' ds) (mZip m n) Rr σ B env p F H := ⟨S, ds, env', p', e, q⟩
    refine c.sq fun d v env1 p1 F1 H1 s1 r1 c1 => c1.sq fun d2 v2 env2 p2 F2 H2 s2 r2 c2 => ?_
    obtain ⟨ds, e, q⟩ := c2.res
    have S := c2.S
    have r1 := r1.mono s2
    rw [hK]
    unfold zipR at e
    split at e
    · rename_i xs ys
      cases e
      simp only [Rep] at r1 r2
      obtain ⟨a, vs, rfl, h, r⟩ := r1
      obtain ⟨b, ws, rfl, h', r'⟩ := r2
      refine ⟨a, b, vs, ws, rfl, .inl ⟨SqL.of (S.fh _ _ h), SqL.of (S.fh _ _ h'), q _ _ _ (Same.refl _) S ⟨fun F3 H3 s s3 => ?_, fun i d F3 H3 s s3 hd => ?_⟩⟩⟩
      · refine ⟨vs, ws, SqL.of (s3 _ _ (s _ _ h)), SqL.of (s3 _ _ (s _ _ h')), ?_⟩
        rw [r.length, r'.length, zipL_length]; omega
      · obtain ⟨x, y, hx, hy, rfl⟩ := zipL_get _ _ _ _ hd
        obtain ⟨u, hu, ru⟩ := r.get hx
        obtain ⟨w, hw, rw'⟩ := r'.get hy
        refine ⟨⟨vs, ws, u, w, SqL.of (s3 _ _ (s _ _ h)), SqL.of (s3 _ _ (s _ _ h')), hu, hw⟩, fun z H4 ⟨T, x1, y1, e1, e2, e3, k1, k2⟩ => .inr ?_⟩
        have g1 := k1 vs (SqL.of (s3 _ _ (s _ _ h)))
        have g2 := k2 ws (SqL.of (s3 _ _ (s _ _ h')))
        rw [hu] at g1; cases g1
        rw [hw] at g2; cases g2
        exact ⟨T, _, _, e2, e3, e1, rfl, .cons (ru.mono s) (.one (rw'.mono s))⟩
    · rename_i xs ys
      cases e
      simp only [Rep] at r1 r2
      obtain ⟨a, vs, rfl, h, r⟩ := r1
      obtain ⟨b, ws, rfl, h', r'⟩ := r2
      refine ⟨a, b, vs, ws, rfl, .inr ⟨Same.sqt S.fh h, Same.sqt S.fh h', q _ _ _ (Same.refl _) S ⟨fun F3 H3 s s3 => ?_, fun i d F3 H3 s s3 hd => ?_⟩⟩⟩
      · refine ⟨vs, ws, Same.sqt (s.trans s3) h, Same.sqt (s.trans s3) h', ?_⟩
        rw [r.length, r'.length, zipL_length]; omega
      · obtain ⟨x, y, hx, hy, rfl⟩ := zipL_get _ _ _ _ hd
        obtain ⟨u, hu, ru⟩ := r.get hx
        obtain ⟨w, hw, rw'⟩ := r'.get hy
        refine ⟨⟨vs, ws, u, w, Same.sqt (s.trans s3) h, Same.sqt (s.trans s3) h', hu, hw⟩, fun z H4 ⟨T, x1, y1, e1, e2, e3, k1, k2⟩ => .inr ?_⟩
        have g1 := k1 vs (Same.sqt (s.trans s3) h)
        have g2 := k2 ws (Same.sqt (s.trans s3) h')
        rw [hu] at g1; cases g1
        rw [hw] at g2; cases g2
        exact ⟨T, _, _, e2, e3, e1, rfl, .cons (ru.mono s) (.one (rw'.mono s))⟩
    · cases e
end

/-! ## for -/
def dForL (b : Bd) (body : SS) : List D → SS
  | [] => dNext
  | d :: r => fun env p => match b d env with
    | .ok env1 => match body env1 p with
      | .nx e p => dForL b body r e p
      | .ct e p => dForL b body r e p
      | .bk e p => .nx e p
      | .rt d p => .rt d p
      | .exc c xs => .exc c xs
      | .bad => .bad
    | _ => .bad
def dFor (src : M (List D)) (b : Bd) (body : SS) : SS := dOf src fun ds => dForL b body ds
section
variable {X : Cx} {R : RC} {tg iter : Expr} {src : M (List D)} {ts : List Nat} {b : Bd} {body : SS} {bd : List Stmt} {pos : Pos}
theorem ds_for (hp : PassesOwn (model X.prog X.w) X.A X.env X.xe) (hc : X.calm = true) (hi : PI X tg iter (lI R src)) (hg : PG X tg (lG R ts b)) (hb : PSs X bd (lS R body)) (hs : ∀ x, foldedSetIterable iter X.env x = pure x := by intro _; rfl) : PS X (.For tg iter bd [] pos) (lS R (dFor src b body)) := by
  refine PS.imp (ps_for hp hc hi hg hb hs) fun E σ H ⟨B, env, p, F, S, o⟩ => ?_
  unfold dFor dOf at o
  split at o
  · rename_i ds env' p' e
    refine ⟨B, env, p, F, S, ds, env', p', e, fun J F1 H1 s1 S1 Y => ?_⟩
    have o1 := o.mono s1
    refine ⟨fun i m σ H => m = ds.length - i ∧ i ≤ ds.length ∧ ∃ env p F, Same F1 F ∧ SRel R B env p σ F H ∧ OutOk R B F E (dForL b body (ds.drop i) env p), ⟨ds.length, by simp, Nat.zero_le _, env', p', F1, Same.refl _, S1, o1⟩, ?_⟩
    rintro i m σ2 H2 ⟨rfl, hi, env2, p2, F2, s2, S2, o2⟩
    by_cases hlt : i < ds.length
    · have hd : ds[i]? = some ds[i] := List.getElem?_eq_getElem hlt
      obtain ⟨go, yl⟩ := Y.item i ds[i] F2 H2 s2 S2.fh hd
      refine .inr ⟨go, fun σ' H' => ∃ env p F, Same F1 F ∧ SRel R B env p σ' F H' ∧ OutOk R B F E (dForL b body (ds.drop (i + 1)) env p), fun σ' H' h => ⟨ds.length - (i + 1), by omega, rfl, hlt, h⟩, fun x H3 hy => ?_⟩
      rw [List.drop_eq_getElem_cons hlt] at o2
      unfold dForL at o2
      split at o2
      · rename_i env3 hb3
        have go2 : ∀ F3, Same F2 F3 → SRel R B env2 p2 σ2 F3 H3 → Rep R F3 ds[i] x → lG R ts b x σ2 H3 fun σ2 H2 => lS R body { E with nx := fun σ' H' => ∃ env p F, Same F1 F ∧ SRel R B env p σ' F H' ∧ OutOk R B F E (dForL b body (ds.drop (i + 1)) env p), ct := fun σ' H' => ∃ env p F, Same F1 F ∧ SRel R B env p σ' F H' ∧ OutOk R B F E (dForL b body (ds.drop (i + 1)) env p), bk := E.nx } σ2 H2 := fun F3 s3 S3 r3 => by
          refine ⟨B, env2, p2, F3, ds[i], env3, S3, r3, hb3, fun σ4 S4 _ => ⟨B, env3, p2, F3, S4, ?_⟩⟩
          have o3 := o2.mono s3
          have s13 := s2.trans s3
          cases hbody : body env3 p2 with
          | nx e p => rw [hbody] at o3; exact fun σ' F' H' s' S' => ⟨e, p, F', s13.trans s', S', OutOk.mono o3 s'⟩
          | ct e p => rw [hbody] at o3; exact fun σ' F' H' s' S' => ⟨e, p, F', s13.trans s', S', OutOk.mono o3 s'⟩
          | bk e p => rw [hbody] at o3; exact o3
          | rt d p => rw [hbody] at o3; exact o3
          | exc c xs => rw [hbody] at o3; exact o3
          | bad => rw [hbody] at o3; exact o3
        rcases yl x H3 hy with ⟨rfl, r⟩ | ⟨a, vs, es, hn, rfl, rfl, ed, r⟩
        · exact go2 F2 (Same.refl _) S2 r
        · have ex := S2.alloc (o := .tup vs) hn
          exact go2 _ ex.ff (S2.ext ex) (by rw [ed]; simp only [Rep]; exact ⟨a, vs, rfl, SqT.of upd_same, r.mono ex.ff⟩)
      · exact o2.elim
    · have e : i = ds.length := by omega
      subst e
      rw [List.drop_length] at o2
      exact .inl ⟨Y.stop F2 H2 s2 S2.fh, o2 σ2 F2 H2 (Same.refl _) S2⟩
  · exact o.elim
  · exact o.elim
end
end CS
namespace CS
open PySem L2
open PyProof.Rows (envOfC)

/-! ## list comprehensions -/
def Slot.rd : Slot → Slot
  | .ow d => .ro d
  | s => s
def wipeE (env : Env') : List Nat → Env'
  | [] => env
  | v :: vs => (wipeE env vs).set v .un
def compL (b : Bd) (t : M Bool) (e : M D) (env : Env') : List D → Pn → Res (List D × Pn)
  | [], p => .ok ([], p)
  | x :: r, p => (b x env).bind fun env1 => (t env1 p).bind fun c => if c.1 = true then (e c.2.1 c.2.2).bind fun y => (compL b t e env r y.2.2).bind fun z => .ok (y.1 :: z.1, z.2) else compL b t e env r c.2.2
def mComp (src : M (List D)) (vs : List Nat) (b : Bd) (t : M Bool) (e : M D) : M D := src >>= fun ds => fun env p => (compL b t e (wipeE (env.map Slot.rd) vs) ds p).bind fun z => if z.1.length ≤ sizeLine then .ok (.lst z.1, env, z.2) else .bad
abbrev mYes : M Bool := M.ret true

theorem wipeE_length (env : Env') : ∀ vs : List Nat, (wipeE env vs).length = env.length
  | [] => rfl
  | v :: vs => by unfold wipeE; rw [List.length_set, wipeE_length env vs]
theorem wipe_get (σ : St) (j : Nat) : ∀ vs : List Nat, (wipe σ vs)[j]? = if j ∈ vs ∧ j < σ.length then some none else σ[j]?
  | [] => by simp [wipe]
  | v :: vs => by
    unfold wipe
    by_cases h : v = j
    · subst h
      by_cases hl : v < σ.length
      · rw [List.getElem?_set_self (by rw [wipe_length]; exact hl)]
        simp [hl]
      · rw [List.getElem?_eq_none (by rw [List.length_set, wipe_length]; omega)]
        have h2 : σ[v]? = none := List.getElem?_eq_none (by omega)
        simp [hl, h2]
    · rw [List.getElem?_set_ne h, wipe_get σ j vs]
      have h' : j ≠ v := fun e => h e.symm
      simp [h']
theorem wipeE_get {env : Env'} {j : Nat} {s : Slot} : ∀ {vs : List Nat}, (wipeE env vs)[j]? = some s → (j ∈ vs ∧ s = .un) ∨ (j ∉ vs ∧ env[j]? = some s)
  | [], h => .inr ⟨by simp, h⟩
  | v :: vs, h => by
    unfold wipeE at h
    by_cases e : v = j
    · subst e
      have hl : v < (wipeE env vs).length := by have := (List.getElem?_eq_some_iff.mp h).1; simpa using this
      rw [List.getElem?_set_self hl] at h
      cases h
      exact .inl ⟨by simp, rfl⟩
    · rw [List.getElem?_set_ne e] at h
      rcases wipeE_get h with ⟨h1, h2⟩ | ⟨h1, h2⟩
      · exact .inl ⟨List.mem_cons_of_mem _ h1, h2⟩
      · exact .inr ⟨by simp only [List.mem_cons, not_or]; exact ⟨fun q => e q.symm, h1⟩, h2⟩
section
variable {R : RC} {B : Bs} {env : Env'} {p : Pn} {σ : St} {F H : Hp}
/-- within a comprehension: all that was there is only read -/
theorem SRel.inner (S : SRel R B env p σ F H) (vs : List Nat) : SRel R ⟨F, H, B.pn⟩ (wipeE (env.map Slot.rd) vs) p (wipe σ vs) F H where
  fh := S.fh
  f0 := Same.refl _
  h0 := fun _ _ _ h => h
  fresh := fun _ h => .inl h
  pnb := S.pnb
  pen := S.pen
  cel := fun h => Same.seq S.f0 (S.cel h)
  len := by rw [wipeE_length, List.length_map, wipe_length]; exact S.len
  slots := fun i s hi => by
    rcases wipeE_get hi with ⟨_, rfl⟩ | ⟨h1, h2⟩
    · trivial
    · rw [wipe_get, if_neg (fun z => h1 z.1)]
      rw [List.getElem?_map] at h2
      cases e : env[i]? with
      | none => rw [e] at h2; cases h2
      | some s' =>
        rw [e] at h2
        cases h2
        have := S.slots i s' e
        cases s' with
        | un => trivial
        | pl d => exact this
        | ow d => obtain ⟨a, g1, g2, g3, g4, g5⟩ := this; exact ⟨a, g1, g2, g4, g5⟩
        | ro d => exact this
  dis := fun i j a hij h1 h2 => by
    have red : ∀ j, OwnAt (wipeE (env.map Slot.rd) vs) (wipe σ vs) j a → OwnAt env σ j a := fun j h => by
      obtain ⟨⟨s, g1, g2⟩, g3⟩ := h
      rcases wipeE_get g1 with ⟨_, rfl⟩ | ⟨h1, h2⟩
      · cases g2
      · rw [wipe_get, if_neg (fun z => h1 z.1)] at g3
        rw [List.getElem?_map] at h2
        cases e : env[j]? with
        | none => rw [e] at h2; cases h2
        | some s' =>
          rw [e] at h2
          cases h2
          refine ⟨⟨s', e, ?_⟩, g3⟩
          cases s' <;> first | rfl | cases g2
    exact S.dis i j a hij (red i h1) (red j h2)
/-- what was done within, seen from outside -/
theorem SRel.outer (S : SRel R B env p σ F H) {envi : Env'} {pi : Pn} {σi : St} {Fi Hi : Hp} (T : SRel R ⟨F, H, B.pn⟩ envi pi σi Fi Hi) : Ext R F H p Fi Hi pi :=
  ⟨T.f0, T.fh, fun b o hb h => T.h0 b o (hb.imp id fun e => S.pnone.mpr e) h, T.fresh, by rw [T.pnb, S.pnb], T.pen⟩
end

/-- all but L is kept -/
structure ExtL (R : RC) (L : Addr) (F H : Hp) (p : Pn) (F' H' : Hp) (p' : Pn) : Prop where
  ff : Same F F'
  fh : Same F' H'
  hh : ∀ b o, b ≠ L → (b ≠ R.q ∨ p = none) → H b = some o → H' b = some o
  fresh : ∀ a, F' a ≠ none → F a ≠ none ∨ H a = none
  pnb : p'.isSome = p.isSome
  pen : PenRel R F' H' p'
section
variable {R : RC} {B : Bs} {env : Env'} {p p' p2 : Pn} {σ : St} {F H F' H' F2 H2 : Hp} {L : Addr}
theorem Ext.toL (e : Ext R F H p F' H' p') : ExtL R L F H p F' H' p' := ⟨e.ff, e.fh, fun b o _ hb h => e.hh b o hb h, e.fresh, e.pnb, e.pen⟩
theorem Own.keepH {d : D} {a : Addr} (o : Own R F H d a) (s : Same F F') (h : ∀ u, H a = some u → H' a = some u) : Own R F' H' d a := by
  refine o.keep s ?_
  cases z : H a with
  | none => exact absurd z o.there
  | some u => exact h u z
theorem SRel.extL {d : D} (S : SRel R B env p σ F H) (fr : FreshA R B env σ F H d L) (e : ExtL R L F H p F' H' p') : SRel R B env p' σ F' H' where
  fh := e.fh
  f0 := S.f0.trans e.ff
  h0 := fun b o hb h => e.hh b o (by rintro rfl; rw [fr.b] at h; cases h) (hb.imp id S.pnone.mp) (S.h0 b o hb h)
  fresh := fun a h => by
    rcases e.fresh a h with h1 | h1
    · exact S.fresh a h1
    · exact .inr (S.hq h1)
  pnb := by rw [e.pnb]; exact S.pnb
  pen := e.pen
  cel := S.cel
  len := S.len
  slots := fun i s hi => by
    have := S.slots i s hi
    have nof : ∀ a, F a = none → H a ≠ none → F' a = none := fun a h1 h2 => by
      cases z : F' a with
      | none => rfl
      | some o =>
        rcases e.fresh a (by rw [z]; simp) with h | h
        · exact absurd h1 h
        · exact absurd h h2
    cases s with
    | un => trivial
    | pl d => obtain ⟨v, h1, h2⟩ := this; exact ⟨v, h1, h2.mono e.ff⟩
    | ow d =>
      obtain ⟨a, h1, h2, h3, h4, h5⟩ := this
      have hne : a ≠ L := by rintro rfl; exact fr.no i ⟨⟨_, hi, rfl⟩, h1⟩
      exact ⟨a, h1, nof a h2 h5.there, h3, h4, h5.keepH e.ff fun u h => e.hh a u hne (h4.imp id S.pnone.mp) h⟩
    | ro d =>
      obtain ⟨a, h1, h2, h4, h5⟩ := this
      have hne : a ≠ L := by rintro rfl; exact fr.no i ⟨⟨_, hi, rfl⟩, h1⟩
      exact ⟨a, h1, nof a h2 h5.there, h4, h5.keepH e.ff fun u h => e.hh a u hne (h4.imp id S.pnone.mp) h⟩
  dis := S.dis
/-- from within (all but L kept) to outside -/
theorem SRel.outerL (S : SRel R B env p σ F H) {envi : Env'} {pi : Pn} {σi : St} {Fi Hi : Hp} (T : SRel R ⟨F, fun a => if a = L then none else H a, B.pn⟩ envi pi σi Fi Hi) (hF : Fi L = none) : ExtL R L F H p Fi Hi pi :=
  ⟨T.f0, T.fh, fun b o hL hb h => T.h0 b o (hb.imp id fun e => S.pnone.mpr e) (by show (if b = L then none else H b) = some o; rw [if_neg hL]; exact h), fun a h => by
    rcases T.fresh a h with h1 | h1
    · exact .inl h1
    · by_cases hL : a = L
      · subst hL
        exact absurd hF h
      · refine .inr ?_
        have h1 : (if a = L then none else H a) = none := h1
        rw [if_neg hL] at h1; exact h1, by rw [T.pnb, S.pnb], T.pen⟩
theorem ExtL.trans {d : D} (S : SRel R B env p σ F H) (fr : FreshA R B env σ F H d L) (a : ExtL R L F H p F' H' p') (b : ExtL R L F' H' p' F2 H2 p2) (hF : F2 L = none) : ExtL R L F H p F2 H2 p2 where
  ff := a.ff.trans b.ff
  fh := b.fh
  hh := fun c o hL hc h => b.hh c o hL (hc.imp id fun e => by
    have := a.pnb
    rw [e] at this
    exact isSome_false this) (a.hh c o hL hc h)
  fresh := fun c h => by
    rcases b.fresh c h with h1 | h1
    · exact a.fresh c h1
    · cases e : H c with
      | none => exact .inr rfl
      | some o =>
        by_cases hL : c = L
        · subst hL; exact absurd hF h
        · by_cases hc : c ≠ R.q ∨ p = none
          · rw [a.hh c o hL hc e] at h1; cases h1
          · have e1 : c = R.q := Classical.byContradiction fun z => hc (.inl z)
            have e2 : p ≠ none := fun z => hc (.inr z)
            cases p' with
            | none => exact absurd (isSome_false a.pnb.symm) e2
            | some P =>
              obtain ⟨_, z, _⟩ := a.pen
              rw [← e1, h1] at z; cases z
  pnb := b.pnb.trans a.pnb
  pen := b.pen
end
section
variable {R : RC} {src : M (List D)} {ts : List Nat} {b : Bd} {t : M Bool} {m : M D} {B : Bs} {env : Env'} {p p2 : Pn} {σ : St} {F H : Hp} {L : Addr}
/-- the slots of a block's own names are forgotten again -/
theorem Tch.wipe {vs : List Nat} (hts : ts.all (vs.contains ·) = true) {σ' : St} {e1 e2 : Env'} (k : Tch ts e1 (L2.wipe σ vs) e2 σ') : L2.wipe σ' vs = L2.wipe σ vs := by
  have hl : σ'.length = σ.length := by rw [k.1, wipe_length]
  apply List.ext_getElem?
  intro j
  rw [wipe_get, wipe_get, hl]
  by_cases hj : j ∈ vs
  · by_cases hjl : j < σ.length
    · rw [if_pos ⟨hj, hjl⟩, if_pos ⟨hj, hjl⟩]
    · rw [if_neg (fun z => hjl z.2), if_neg (fun z => hjl z.2), List.getElem?_eq_none (by omega), List.getElem?_eq_none (by omega)]
  · rw [if_neg (fun z => hj z.1), if_neg (fun z => hj z.1)]
    rw [k.2 j fun hm => hj (by simpa using List.all_eq_true.mp hts j hm), wipe_get, if_neg (fun z => hj z.1)]
/-- one item of a clause: the list at L may grow by it -/
theorem elem_step {vs : List Nat} (hts : ts.all (vs.contains ·) = true) (S : SRel R B env p σ F H) {acc : List D} {vacc : List V} (fr : FreshA R B env σ F H (.lst acc) L) (hL : H L = some (.lst vacc)) (rr : Reps R F acc vacc)
    {d : D} {x : V} {env4 env5 : Env'} {p5 : Pn} {c : Bool} (rx : Rep R F d x) (e1 : b d (wipeE (env.map Slot.rd) vs) = .ok env4) (e2 : t env4 p = .ok (c, env5, p5)) {Nx : Hp → Prop}
    (h0 : c = false → ∀ F' H', ExtL R L F H p F' H' p5 → F' L = none → H' L = some (.lst vacc) → Nx H')
    (h1 : c = true → ∃ y env7 p7, m env5 p5 = .ok (y, env7, p7) ∧ vacc.length < sizeLine ∧ ∀ v F' H', ExtL R L F H p F' H' p7 → F' L = none → H' L = some (.lst (vacc ++ [v])) → Rep R F' y v → Nx H') :
    lG R ts b x (L2.wipe σ vs) H fun σ2 H2 => L2.wipe σ2 vs = L2.wipe σ vs ∧ lT R t σ2 H2 fun c H3 =>
      if c = true then lE R m σ2 H3 fun y H4 => ∃ acc, H4 L = some (.lst acc) ∧ acc.length < sizeLine ∧ Nx (upd H4 L (.lst (acc ++ [y]))) else Nx H3 := by
  refine ⟨⟨F, H, B.pn⟩, _, p, F, d, env4, S.inner vs, rx, e1, fun σ5 S5 k5 => ⟨k5.wipe hts, ⟨F, H, B.pn⟩, env4, p, F, S5, c, env5, p5, e2, fun c' F6 H6 s6 S6 ec' => ?_⟩⟩
  cases ec'
  have noF : ∀ {Fn Hn : Hp} {pn : Pn}, Ext R F H p Fn Hn pn → Fn L = none := fun {Fn Hn pn} ex => by
    cases z : Fn L with
    | none => rfl
    | some o =>
      rcases ex.fresh L (by rw [z]; simp) with h | h
      · exact absurd fr.f h
      · rw [hL] at h; cases h
  cases c with
  | true =>
    rw [if_pos rfl]
    obtain ⟨y, env7, p7, e9, hz, k⟩ := h1 rfl
    refine ⟨_, env5, p5, F6, S6, y, env7, p7, e9, fun v F7 H7 s7 S7 r7 => ?_⟩
    have ex := S.outer S7
    have hL7 : H7 L = some (.lst vacc) := ex.hh _ _ (fr.q.imp id S.pnone.mp) hL
    have hF7 := noF ex
    refine ⟨vacc, hL7, hz, k v F7 _ ⟨ex.ff, fun b o e => ?_, fun b o hb hq h => ?_, ex.fresh, ex.pnb, ?_⟩ hF7 upd_same r7⟩
    · rw [upd_ne (ne_of_none e hF7)]; exact ex.fh _ _ e
    · rw [upd_ne hb]; exact ex.hh b o hq h
    · have := ex.pen
      cases p7 with
      | none => trivial
      | some P =>
        obtain ⟨g1, g2, g3⟩ := this
        have hq : L ≠ R.q := (S.ext ex).nq fr.q
        exact ⟨g1, by rw [upd_ne (Ne.symm hq)]; exact g2, g3⟩
  | false =>
    rw [if_neg Bool.false_ne_true]
    have ex := S.outer S6
    exact h0 rfl F6 H6 ex.toL (noF ex) (ex.hh _ _ (fr.q.imp id S.pnone.mp) hL)
theorem FreshA.next {acc acc' : List D} {vacc' : List V} {F' H' : Hp} (fr : FreshA R B env σ F H (.lst acc) L) (hF : F' L = none) (hL : H' L = some (.lst vacc')) (rr : Reps R F' acc' vacc') : FreshA R B env σ F' H' (.lst acc') L :=
  ⟨hF, fr.b, fr.q, fr.no, .inl ⟨acc', vacc', rfl, hL, rr⟩⟩
/-- one clause, from its source on -/
theorem acc_loop {vs : List Nat} (hts : ts.all (vs.contains ·) = true) {J : It} {ds zs acc0 : List D} {vacc0 : List V} (S : SRel R B env p σ F H) (Y : Yl R J F ds) (fr : FreshA R B env σ F H (.lst acc0) L) (hL : H L = some (.lst vacc0)) (rr : Reps R F acc0 vacc0)
    (ec : compL b t m (wipeE (env.map Slot.rd) vs) ds p = .ok (zs, p2)) (hz : (acc0 ++ zs).length ≤ sizeLine) {Qd : Hp → Prop}
    (hq : ∀ vacc F' H', Same F F' → SRel R B env p2 σ F' H' → FreshA R B env σ F' H' (.lst (acc0 ++ zs)) L → H' L = some (.lst vacc) → Reps R F' (acc0 ++ zs) vacc → Qd H') :
    ∃ W : Nat → Nat → Hp → Prop, (∃ m, W 0 m H) ∧ ∀ i k H, W i k H → (J.stop i H ∧ Qd H) ∨ (J.go i H ∧ ∃ Nx : Hp → Prop, (∀ H', Nx H' → ∃ k', k' < k ∧ W (i + 1) k' H') ∧ ∀ x H', J.yld i H x H' →
      lG R ts b x (L2.wipe σ vs) H' fun σ2 H2 => L2.wipe σ2 vs = L2.wipe σ vs ∧ lT R t σ2 H2 fun c H3 =>
        if c = true then lE R m σ2 H3 fun y H4 => ∃ acc, H4 L = some (.lst acc) ∧ acc.length < sizeLine ∧ Nx (upd H4 L (.lst (acc ++ [y]))) else Nx H3) := by
  refine ⟨fun i n H => n = ds.length - i ∧ i ≤ ds.length ∧ ∃ (p3 : Pn) (F3 : Hp) (acc rest : List D) (vacc : List V), Same F F3 ∧ SRel R B env p3 σ F3 H ∧ FreshA R B env σ F3 H (.lst acc) L ∧ H L = some (.lst vacc) ∧ Reps R F3 acc vacc ∧
      compL b t m (wipeE (env.map Slot.rd) vs) (ds.drop i) p3 = .ok (rest, p2) ∧ acc ++ rest = acc0 ++ zs, ⟨ds.length, by simp, Nat.zero_le _, p, F, acc0, zs, vacc0, Same.refl _, S, fr, hL, rr, ec, rfl⟩, ?_⟩
  rintro i n H3 ⟨rfl, hi, p3, F3, acc, rest, vacc, s3, S3, fr3, hL3, rr3, ec3, ez⟩
  by_cases hlt : i < ds.length
  · have hd : ds[i]? = some ds[i] := List.getElem?_eq_getElem hlt
    obtain ⟨go, yl⟩ := Y.item i ds[i] F3 H3 s3 S3.fh hd
    rw [List.drop_eq_getElem_cons hlt] at ec3
    unfold compL at ec3
    obtain ⟨env4, e5, e6⟩ := Res.bind_ok ec3
    obtain ⟨⟨c, env5, p5⟩, e7, e8⟩ := Res.bind_ok e6
    refine .inr ⟨go, fun H => ∃ (p3 : Pn) (F3 : Hp) (acc rest : List D) (vacc : List V), Same F F3 ∧ SRel R B env p3 σ F3 H ∧ FreshA R B env σ F3 H (.lst acc) L ∧ H L = some (.lst vacc) ∧ Reps R F3 acc vacc ∧
      compL b t m (wipeE (env.map Slot.rd) vs) (ds.drop (i + 1)) p3 = .ok (rest, p2) ∧ acc ++ rest = acc0 ++ zs, fun H' h => ⟨ds.length - (i + 1), by omega, rfl, hlt, h⟩, fun x H4 hy => ?_⟩
    have step : ∀ F4, Ext R F3 H3 p3 F4 H4 p3 → Rep R F4 ds[i] x → _ := fun F4 ex4 r4 => by
      have S4 := S3.ext ex4
      have hF4 : F4 L = none := by
        cases z : F4 L with
        | none => rfl
        | some o =>
          rcases ex4.fresh L (by rw [z]; simp) with h | h
          · exact absurd fr3.f h
          · rw [hL3] at h; cases h
      have hL4 : H4 L = some (.lst vacc) := ex4.hh _ _ (fr3.q.imp id S3.pnone.mp) hL3
      have rr4 := rr3.mono ex4.ff
      have fr4 := fr3.next hF4 hL4 rr4
      exact elem_step (m := m) hts S4 fr4 hL4 rr4 r4 e5 e7 (Nx := fun H => ∃ (p3 : Pn) (F3 : Hp) (acc rest : List D) (vacc : List V), Same F F3 ∧ SRel R B env p3 σ F3 H ∧ FreshA R B env σ F3 H (.lst acc) L ∧ H L = some (.lst vacc) ∧ Reps R F3 acc vacc ∧
          compL b t m (wipeE (env.map Slot.rd) vs) (ds.drop (i + 1)) p3 = .ok (rest, p2) ∧ acc ++ rest = acc0 ++ zs)
        (fun hc F' H' ex hF hLn => by
          subst hc
          rw [if_neg Bool.false_ne_true] at e8
          exact ⟨p5, F', acc, rest, vacc, (s3.trans ex4.ff).trans ex.ff, S4.extL fr4 ex, fr4.next hF hLn (rr4.mono ex.ff), hLn, rr4.mono ex.ff, e8, ez⟩)
        (fun hc => by
          subst hc
          rw [if_pos rfl] at e8
          obtain ⟨⟨y, env7, p7⟩, e9, e10⟩ := Res.bind_ok e8
          obtain ⟨⟨zs', p8⟩, e11, e12⟩ := Res.bind_ok e10
          cases e12
          refine ⟨y, env7, p7, e9, ?_, fun v F' H' ex hF hLn r7 => ?_⟩
          · rw [rr3.length]
            have : (acc ++ y :: zs').length ≤ sizeLine := by rw [ez]; exact hz
            simp only [List.length_append, List.length_cons] at this
            omega
          · have rr' := (rr4.mono ex.ff).append (.one r7)
            exact ⟨p7, F', acc ++ [y], zs', vacc ++ [v], (s3.trans ex4.ff).trans ex.ff, S4.extL fr4 ex, fr4.next hF hLn rr', hLn, rr', e11, by simpa using ez⟩)
    rcases yl x H4 hy with ⟨rfl, r⟩ | ⟨a, ws, es, hn, rfl, rfl, ed, r⟩
    · exact step F3 (Ext.refl S3) r
    · have ex := S3.alloc (o := .tup ws) hn
      exact step _ ex (by rw [ed]; simp only [Rep]; exact ⟨a, ws, rfl, SqT.of upd_same, r.mono ex.ff⟩)
  · have ei : i = ds.length := by omega
    subst ei
    rw [List.drop_length] at ec3
    cases ec3
    rw [List.append_nil] at ez
    subst ez
    exact .inl ⟨Y.stop F3 H3 s3 S3.fh, hq vacc F3 H3 s3 S3 fr3 hL3 rr3⟩
theorem comp2 {vs : List Nat} (hts : ts.all (vs.contains ·) = true) {Q : VK} (h : lF R (mComp src vs b t m) σ H Q) : tLc (lI R src) (lG R ts b) (lT R t) (lE R m) vs σ H Q := by
  obtain ⟨B, env, p, F, S, d, env', p', e, q⟩ := h
  obtain ⟨ds, env1, p1, e1, e2⟩ := bind_ok (show (src >>= _) env p = _ from e)
  obtain ⟨⟨zs, p2⟩, e3, e4⟩ := Res.bind_ok e2
  split at e4
  · rename_i hz
    cases e4
    refine ⟨B, env, p, F, S, ds, env', p1, e1, fun J F1 H1 s1 S1 Y L hD => ?_⟩
    have hz : zs.length ≤ sizeLine := hz
    obtain ⟨g1, g2⟩ := S1.newO (ds := []) (vs := []) .nil hD
    exact acc_loop hts g1 Y g2 upd_same .nil e3 (by simpa using hz) fun vacc F' H' s' S' fr' hL' rr' => q L F' H' (s1.trans s') S' fr'
  · cases e4
end

/-! ## two clauses -/
def comp2L (b : Bd) (t : M Bool) (src1 : M (List D)) (vs1 : List Nat) (b1 : Bd) (t1 : M Bool) (e : M D) (env : Env') : List D → Pn → Res (List D × Pn)
  | [], p => .ok ([], p)
  | x :: r, p => (b x env).bind fun env1 => (t env1 p).bind fun c => if c.1 = true then (src1 c.2.1 c.2.2).bind fun ds => (compL b1 t1 e (wipeE (env1.map Slot.rd) vs1) ds.1 ds.2.2).bind fun ys => (comp2L b t src1 vs1 b1 t1 e env r ys.2).bind fun z => .ok (ys.1 ++ z.1, z.2)
    else comp2L b t src1 vs1 b1 t1 e env r c.2.2
def mComp2 (src : M (List D)) (vs : List Nat) (b : Bd) (t : M Bool) (src1 : M (List D)) (vs1 : List Nat) (b1 : Bd) (t1 : M Bool) (e : M D) : M D := src >>= fun ds => fun env p => (comp2L b t src1 vs1 b1 t1 e (wipeE (env.map Slot.rd) vs) ds p).bind fun z => if z.1.length ≤ sizeLine then .ok (.lst z.1, env, z.2) else .bad
section
variable {R : RC} {src src1 : M (List D)} {ts ts1 : List Nat} {b b1 : Bd} {t t1 : M Bool} {m : M D} {B : Bs} {env : Env'} {p p2 : Pn} {σ : St} {F H : Hp} {L : Addr}
theorem comp22 {vs vs1 : List Nat} (hts : ts.all (vs.contains ·) = true) (hts1 : ts1.all (vs1.contains ·) = true) {Q : VK} (h : lF R (mComp2 src vs b t src1 vs1 b1 t1 m) σ H Q) :
    tLc2 (lI R src) (lG R ts b) (lT R t) (lI R src1) (lG R ts1 b1) (lT R t1) (lE R m) vs vs1 σ H Q := by
  obtain ⟨B, env, p, F, S, d, env', p', e, q⟩ := h
  obtain ⟨ds, env1, p1, e1, e2⟩ := bind_ok (show (src >>= _) env p = _ from e)
  obtain ⟨⟨zs, p2⟩, e3, e4⟩ := Res.bind_ok e2
  split at e4
  · rename_i hz
    cases e4
    refine ⟨B, env, p, F, S, ds, env', p1, e1, fun J F1 H1 s1 S1 Y L hD => ?_⟩
    have hz : zs.length ≤ sizeLine := hz
    obtain ⟨g1, g2⟩ := S1.newO (ds := []) (vs := []) .nil hD
    refine ⟨fun i n H => n = ds.length - i ∧ i ≤ ds.length ∧ ∃ (p3 : Pn) (F3 : Hp) (acc rest : List D) (vacc : List V), Same F1 F3 ∧ SRel R B env' p3 σ F3 H ∧ FreshA R B env' σ F3 H (.lst acc) L ∧ H L = some (.lst vacc) ∧ Reps R F3 acc vacc ∧
      comp2L b t src1 vs1 b1 t1 m (wipeE (env'.map Slot.rd) vs) (ds.drop i) p3 = .ok (rest, p2) ∧ acc ++ rest = zs, ⟨ds.length, by simp, Nat.zero_le _, p1, F1, [], zs, [], Same.refl _, g1, g2, upd_same, .nil, e3, rfl⟩, ?_⟩
    rintro i n H3 ⟨rfl, hi, p3, F3, acc, rest, vacc, s3, S3, fr3, hL3, rr3, ec3, ez⟩
    by_cases hlt : i < ds.length
    · have hd : ds[i]? = some ds[i] := List.getElem?_eq_getElem hlt
      obtain ⟨go, yl⟩ := Y.item i ds[i] F3 H3 s3 S3.fh hd
      rw [List.drop_eq_getElem_cons hlt] at ec3
      unfold comp2L at ec3
      obtain ⟨env4, e5, e6⟩ := Res.bind_ok ec3
      obtain ⟨⟨c, env5, p5⟩, e7, e8⟩ := Res.bind_ok e6
      refine .inr ⟨go, fun H => ∃ (p3 : Pn) (F3 : Hp) (acc rest : List D) (vacc : List V), Same F1 F3 ∧ SRel R B env' p3 σ F3 H ∧ FreshA R B env' σ F3 H (.lst acc) L ∧ H L = some (.lst vacc) ∧ Reps R F3 acc vacc ∧
        comp2L b t src1 vs1 b1 t1 m (wipeE (env'.map Slot.rd) vs) (ds.drop (i + 1)) p3 = .ok (rest, p2) ∧ acc ++ rest = zs, fun H' h => ⟨ds.length - (i + 1), by omega, rfl, hlt, h⟩, fun x H4 hy => ?_⟩
      have step : ∀ F4, Ext R F3 H3 p3 F4 H4 p3 → Rep R F4 ds[i] x → lG R ts b x (L2.wipe σ vs) H4 fun σ2 H2 => L2.wipe σ2 vs = L2.wipe σ vs ∧ lT R t σ2 H2 fun c H3 => if c = true then lI R src1 σ2 H3 fun J1 H4 => ∃ W1 : Nat → Nat → Hp → Prop, (∃ m, W1 0 m H4) ∧ ∀ j k H, W1 j k H →
            (J1.stop j H ∧ ∃ (p3 : Pn) (F3 : Hp) (acc rest : List D) (vacc : List V), Same F1 F3 ∧ SRel R B env' p3 σ F3 H ∧ FreshA R B env' σ F3 H (.lst acc) L ∧ H L = some (.lst vacc) ∧ Reps R F3 acc vacc ∧
              comp2L b t src1 vs1 b1 t1 m (wipeE (env'.map Slot.rd) vs) (ds.drop (i + 1)) p3 = .ok (rest, p2) ∧ acc ++ rest = zs) ∨ (J1.go j H ∧ ∃ Nx1 : Hp → Prop, (∀ H', Nx1 H' → ∃ k', k' < k ∧ W1 (j + 1) k' H') ∧ ∀ x H', J1.yld j H x H' → lG R ts1 b1 x (L2.wipe σ2 vs1) H' fun σ3 H5 => L2.wipe σ3 vs1 = L2.wipe σ2 vs1 ∧ lT R t1 σ3 H5 fun b H6 =>
              if b = true then lE R m σ3 H6 fun y H7 => ∃ acc, H7 L = some (.lst acc) ∧ acc.length < sizeLine ∧ Nx1 (upd H7 L (.lst (acc ++ [y]))) else Nx1 H6)
          else ∃ (p3 : Pn) (F3 : Hp) (acc rest : List D) (vacc : List V), Same F1 F3 ∧ SRel R B env' p3 σ F3 H3 ∧ FreshA R B env' σ F3 H3 (.lst acc) L ∧ H3 L = some (.lst vacc) ∧ Reps R F3 acc vacc ∧
              comp2L b t src1 vs1 b1 t1 m (wipeE (env'.map Slot.rd) vs) (ds.drop (i + 1)) p3 = .ok (rest, p2) ∧ acc ++ rest = zs := fun F4 ex4 r4 => by
        have S4 := S3.ext ex4
        have noF : ∀ {Fn Hn : Hp} {pn : Pn}, Ext R F3 H3 p3 Fn Hn pn → Fn L = none := fun {Fn Hn pn} ex => by
          cases z : Fn L with
          | none => rfl
          | some o =>
            rcases ex.fresh L (by rw [z]; simp) with h | h
            · exact absurd fr3.f h
            · rw [hL3] at h; cases h
        have hL4 : H4 L = some (.lst vacc) := ex4.hh _ _ (fr3.q.imp id S3.pnone.mp) hL3
        refine ⟨⟨F4, H4, B.pn⟩, _, p3, F4, ds[i], env4, S4.inner vs, r4, e5, fun σ5 S5 k5 => ⟨k5.wipe hts, ⟨F4, H4, B.pn⟩, env4, p3, F4, S5, c, env5, p5, e7, fun c' F6 H6 s6 S6 ec' => ?_⟩⟩
        cases ec'
        have ex6 := ex4.trans S3 (S4.outer S6)
        have S6o := S3.ext ex6
        have hF6 := noF ex6
        have hL6 : H6 L = some (.lst vacc) := ex6.hh _ _ (fr3.q.imp id S3.pnone.mp) hL3
        have rr6 := rr3.mono ex6.ff
        have fr6 := fr3.next hF6 hL6 rr6
        cases c with
        | false =>
          rw [if_neg Bool.false_ne_true] at e8 ⊢
          exact ⟨p5, F6, acc, rest, vacc, s3.trans ex6.ff, S6o, fr6, hL6, rr6, e8, ez⟩
        | true =>
          rw [if_pos rfl] at e8 ⊢
          obtain ⟨⟨ds1, env7, p7⟩, e9, e10⟩ := Res.bind_ok e8
          obtain ⟨⟨ys, p8⟩, e11, e12⟩ := Res.bind_ok e10
          obtain ⟨⟨zs', p9⟩, e13, e14⟩ := Res.bind_ok e12
          cases e14
          refine ⟨_, env5, p5, F6, S6, ds1, env7, p7, e9, fun J1 F7 H7 s7 S7 Y1 => ?_⟩
          have ex7 := ex4.trans S3 (S4.outer S7)
          have S7o := S3.ext ex7
          have hF7 := noF ex7
          have hL7 : H7 L = some (.lst vacc) := ex7.hh _ _ (fr3.q.imp id S3.pnone.mp) hL3
          have rr7 := rr3.mono ex7.ff
          have fr7 := fr3.next hF7 hL7 rr7
          -- the inner clause's own base: all but L is kept
          have S5' := S5.ext (S4.outer S7 |> fun e => (⟨e.ff, e.fh, e.hh, e.fresh, e.pnb, e.pen⟩ : Ext R F4 H4 p3 F7 H7 p7))
          have T : SRel R ⟨F7, fun a => if a = L then none else H7 a, B.pn⟩ env4 p7 σ5 F7 H7 := by
            refine ⟨S7.fh, Same.refl _, fun b o hb h => ?_, fun a h => .inl h, S7o.pnb, S7.pen, fun h => Same.seq S7o.f0 (S7o.cel h), S5'.len, fun i s hi => ?_, S5'.dis⟩
            · have h : (if b = L then none else H7 b) = some o := h
              by_cases hbL : b = L
              · rw [if_pos hbL] at h; cases h
              · rw [if_neg hbL] at h; exact h
            · have h5 := S5.slots i s hi
              have h7 := S5'.slots i s hi
              cases s with
              | un => trivial
              | pl d => exact h7
              | ow d =>
                obtain ⟨a, k1, k2, k3, k4, k5⟩ := h5
                exact absurd k3 k5.there
              | ro d => exact h7
          have noL : ∀ i, ¬ OwnAt env4 σ5 i L := fun i h => by
            have h1 := k5.own i L h
            obtain ⟨⟨s, g1, g2⟩, g3⟩ := h1
            rcases wipeE_get g1 with ⟨_, rfl⟩ | ⟨hm, h2⟩
            · cases g2
            · rw [wipe_get, if_neg (fun z => hm z.1)] at g3
              rw [List.getElem?_map] at h2
              cases e : env'[i]? with
              | none => rw [e] at h2; cases h2
              | some s' =>
                rw [e] at h2
                cases h2
                refine fr3.no i ⟨⟨s', e, ?_⟩, g3⟩
                cases s' <;> first | rfl | cases g2
          have frT : FreshA R ⟨F7, fun a => if a = L then none else H7 a, B.pn⟩ env4 σ5 F7 H7 (.lst acc) L :=
            ⟨hF7, if_pos rfl, fr3.q, noL, .inl ⟨acc, vacc, rfl, hL7, rr7⟩⟩
          have hzz : (acc ++ ys).length ≤ sizeLine := by
            have : (acc ++ (ys ++ zs')).length ≤ sizeLine := by rw [ez]; exact hz
            simp only [List.length_append] at this ⊢
            omega
          refine acc_loop hts1 T Y1 frT hL7 rr7 e11 hzz fun vacc' F' H' s' S' fr' hL' rr' => ?_
          have exL := S7o.outerL S' fr'.f
          have S8 := S7o.extL fr7 exL
          exact ⟨p8, F', acc ++ ys, zs', vacc', (s3.trans ex7.ff).trans s', S8, fr7.next fr'.f hL' rr', hL', rr', e13, by rw [List.append_assoc]; exact ez⟩
      rcases yl x H4 hy with ⟨rfl, r⟩ | ⟨a, ws, es, hn, rfl, rfl, ed, r⟩
      · exact step F3 (Ext.refl S3) r
      · have ex := S3.alloc (o := .tup ws) hn
        exact step _ ex (by rw [ed]; simp only [Rep]; exact ⟨a, ws, rfl, SqT.of upd_same, r.mono ex.ff⟩)
    · have ei : i = ds.length := by omega
      subst ei
      rw [List.drop_length] at ec3
      cases ec3
      rw [List.append_nil] at ez
      subst ez
      exact .inl ⟨Y.stop F3 H3 s3 S3.fh, q L F3 H3 (s1.trans s3) S3 fr3⟩
  · cases e4
end
end CS
namespace CS
open PySem L2
open PyProof.Rows (envOfC)

/-! ## comprehensions as rules -/
section
variable {X : Cx} {R : RC} {elt tg iter tg1 iter1 : Expr} {ifs ifs1 : List Expr} {scope : Scope} {own : List (Str × Nat)} {src src1 : M (List D)} {ts ts1 vs1 : List Nat} {b b1 : Bd} {t t1 : M Bool} {m : M D} {pos spos py : Pos}
theorem PTs.imp {t t' : TT} (h : PTs X ifs t) (w : ∀ σ H Q, t' σ H Q → t σ H Q) : PTs X ifs t' := ⟨fun pins s σ H Q I q => h.run pins s σ H Q I (w _ _ _ q)⟩
theorem dts_nil : PTs X [] (lT R mYes) := PTs.imp pts_nil fun σ H Q ⟨B, env, p, F, c⟩ => c.ret _ F H (Same.refl _) c.S rfl
theorem dts_one {c : Expr} (h : PT X c (lT R t)) : PTs X [c] (lT R t) := pts_one h
theorem df_lc (hc : X.calm = true) (hN : X.N.Nodup) (hi : PI X tg iter (lI R src)) (ok : BlkOk X.N X.env.scope scope own) (hts : ts.all ((own.map (·.2)).contains ·) = true)
    (hg : ∀ (s : Shared) (H : Hp) (C : Addr) (cl : List (Str × Addr)) (fp : List Addr), PG (X.blk s H scope (compEnvC scope cl C X.env) fp) tg (lG R ts b)) (ht : ∀ (s : Shared) (H : Hp) (C : Addr) (cl : List (Str × Addr)) (fp : List Addr), PTs (X.blk s H scope (compEnvC scope cl C X.env) fp) ifs (lT R t))
    (he : ∀ (s : Shared) (H : Hp) (C : Addr) (cl : List (Str × Addr)) (fp : List Addr), PE (X.blk s H scope (compEnvC scope cl C X.env) fp) elt (lE R m)) (hs : ∀ x, foldedSetIterable iter X.env x = pure x := by intro _; rfl) :
    PE X (.ListComp elt [⟨tg, iter, ifs, 0⟩] scope pos) (lF R (mComp src (own.map (·.2)) b t m)) :=
  PE.imp (pe_lc hc hN hi ok hg ht he hs) fun _ _ _ h => comp2 hts h
theorem df_lc2 (hc : X.calm = true) (hN : X.N.Nodup) (hi : PI X tg iter (lI R src)) (ok : BlkOk X.N X.env.scope scope own) (hts : ts.all ((own.map (·.2)).contains ·) = true) (hts1 : ts1.all (vs1.contains ·) = true) (hv : ∀ i ∈ vs1, i ∈ own.map (·.2))
    (hg : ∀ (s : Shared) (H : Hp) (C : Addr) (cl : List (Str × Addr)) (fp : List Addr), PG (X.blk s H scope (compEnvC scope cl C X.env) fp) tg (lG R ts b)) (ht : ∀ (s : Shared) (H : Hp) (C : Addr) (cl : List (Str × Addr)) (fp : List Addr), PTs (X.blk s H scope (compEnvC scope cl C X.env) fp) ifs (lT R t))
    (hi1 : ∀ (s : Shared) (H : Hp) (C : Addr) (cl : List (Str × Addr)) (fp : List Addr), PI (X.blk s H scope (compEnvC scope cl C X.env) fp) tg1 iter1 (lI R src1))
    (hg1 : ∀ (s : Shared) (H : Hp) (C : Addr) (cl : List (Str × Addr)) (fp : List Addr), PG (X.blk s H scope (compEnvC scope cl C X.env) fp) tg1 (lG R ts1 b1)) (ht1 : ∀ (s : Shared) (H : Hp) (C : Addr) (cl : List (Str × Addr)) (fp : List Addr), PTs (X.blk s H scope (compEnvC scope cl C X.env) fp) ifs1 (lT R t1))
    (he : ∀ (s : Shared) (H : Hp) (C : Addr) (cl : List (Str × Addr)) (fp : List Addr), PE (X.blk s H scope (compEnvC scope cl C X.env) fp) elt (lE R m)) (hs : ∀ x, foldedSetIterable iter X.env x = pure x := by intro _; rfl) (hs1 : ∀ env x, foldedSetIterable iter1 env x = pure x := by intro _ _; rfl) :
    PE X (.ListComp elt [⟨tg, iter, ifs, 0⟩, ⟨tg1, iter1, ifs1, 0⟩] scope pos) (lF R (mComp2 src (own.map (·.2)) b t src1 vs1 b1 t1 m)) :=
  PE.imp (pe_lc2 hc hN hi ok hv hg ht hi1 hg1 ht1 he hs hs1) fun _ _ _ h => comp22 hts hts1 h
theorem asgF {i : Nat} {te : TE} (w : ∀ {σ H Q}, lF R m σ H Q → te σ H Q) {E : Ends} {σ : St} {H : Hp} (h : lS R (dSet i m) E σ H) : tAsg te (gName i) E σ H :=
  w (ofF h fun B d a env p F H S fr o => by
    obtain ⟨u, hu, r⟩ := fr.own.repF fr.f
    exact o _ _ H (same_upd fr.f) ((S.freeze hu fr.f fr.b fr.q fr.no).set r))
theorem asgO {i : Nat} {te : TE} (w : ∀ {σ H Q}, lF R m σ H Q → te σ H Q) {E : Ends} {σ : St} {H : Hp} (h : lS R (dSetO i m) E σ H) : tAsg te (gName i) E σ H :=
  w (ofF h fun B d a env p F H S fr o => o _ F H (Same.refl _) (S.setO fr))
theorem ds_setLc {i : Nat} {y : Str} (hc : X.calm = true) (hN : X.N.Nodup) (hy : X.N[i]? = some y) (hyl : X.env.scope.names.lookup y = some .local)
    (hsw : swapsWith (.ListComp elt [⟨tg, iter, ifs, 0⟩] scope pos) (some (.Name y py)) spos.line X.env = pure true) (hi : PI X tg iter (lI R src)) (ok : BlkOk X.N X.env.scope scope own) (hts : ts.all ((own.map (·.2)).contains ·) = true)
    (hg : ∀ (s : Shared) (H : Hp) (C : Addr) (cl : List (Str × Addr)) (fp : List Addr), PG (X.blk s H scope (compEnvC scope cl C X.env) fp) tg (lG R ts b)) (ht : ∀ (s : Shared) (H : Hp) (C : Addr) (cl : List (Str × Addr)) (fp : List Addr), PTs (X.blk s H scope (compEnvC scope cl C X.env) fp) ifs (lT R t))
    (he : ∀ (s : Shared) (H : Hp) (C : Addr) (cl : List (Str × Addr)) (fp : List Addr), PE (X.blk s H scope (compEnvC scope cl C X.env) fp) elt (lE R m)) (hs : ∀ x, foldedSetIterable iter X.env x = pure x := by intro _; rfl) :
    PS X (.Assign [.Name y py] (.ListComp elt [⟨tg, iter, ifs, 0⟩] scope pos) spos) (lS R (dSet i (mComp src (own.map (·.2)) b t m))) :=
  PS.imp (ps_setLc hc hN hy hyl hsw hi ok hg ht he hs) fun _ _ _ h => asgF (fun h => comp2 hts h) h
theorem ds_setLcO {i : Nat} {y : Str} (hc : X.calm = true) (hN : X.N.Nodup) (hy : X.N[i]? = some y) (hyl : X.env.scope.names.lookup y = some .local)
    (hsw : swapsWith (.ListComp elt [⟨tg, iter, ifs, 0⟩] scope pos) (some (.Name y py)) spos.line X.env = pure true) (hi : PI X tg iter (lI R src)) (ok : BlkOk X.N X.env.scope scope own) (hts : ts.all ((own.map (·.2)).contains ·) = true)
    (hg : ∀ (s : Shared) (H : Hp) (C : Addr) (cl : List (Str × Addr)) (fp : List Addr), PG (X.blk s H scope (compEnvC scope cl C X.env) fp) tg (lG R ts b)) (ht : ∀ (s : Shared) (H : Hp) (C : Addr) (cl : List (Str × Addr)) (fp : List Addr), PTs (X.blk s H scope (compEnvC scope cl C X.env) fp) ifs (lT R t))
    (he : ∀ (s : Shared) (H : Hp) (C : Addr) (cl : List (Str × Addr)) (fp : List Addr), PE (X.blk s H scope (compEnvC scope cl C X.env) fp) elt (lE R m)) (hs : ∀ x, foldedSetIterable iter X.env x = pure x := by intro _; rfl) :
    PS X (.Assign [.Name y py] (.ListComp elt [⟨tg, iter, ifs, 0⟩] scope pos) spos) (lS R (dSetO i (mComp src (own.map (·.2)) b t m))) :=
  PS.imp (ps_setLc hc hN hy hyl hsw hi ok hg ht he hs) fun _ _ _ h => asgO (fun h => comp2 hts h) h
theorem ds_setLc2 {i : Nat} {y : Str} (hc : X.calm = true) (hN : X.N.Nodup) (hy : X.N[i]? = some y) (hyl : X.env.scope.names.lookup y = some .local)
    (hsw : swapsWith (.ListComp elt [⟨tg, iter, ifs, 0⟩, ⟨tg1, iter1, ifs1, 0⟩] scope pos) (some (.Name y py)) spos.line X.env = pure true) (hi : PI X tg iter (lI R src)) (ok : BlkOk X.N X.env.scope scope own) (hts : ts.all ((own.map (·.2)).contains ·) = true) (hts1 : ts1.all (vs1.contains ·) = true) (hv : ∀ i ∈ vs1, i ∈ own.map (·.2))
    (hg : ∀ (s : Shared) (H : Hp) (C : Addr) (cl : List (Str × Addr)) (fp : List Addr), PG (X.blk s H scope (compEnvC scope cl C X.env) fp) tg (lG R ts b)) (ht : ∀ (s : Shared) (H : Hp) (C : Addr) (cl : List (Str × Addr)) (fp : List Addr), PTs (X.blk s H scope (compEnvC scope cl C X.env) fp) ifs (lT R t))
    (hi1 : ∀ (s : Shared) (H : Hp) (C : Addr) (cl : List (Str × Addr)) (fp : List Addr), PI (X.blk s H scope (compEnvC scope cl C X.env) fp) tg1 iter1 (lI R src1))
    (hg1 : ∀ (s : Shared) (H : Hp) (C : Addr) (cl : List (Str × Addr)) (fp : List Addr), PG (X.blk s H scope (compEnvC scope cl C X.env) fp) tg1 (lG R ts1 b1)) (ht1 : ∀ (s : Shared) (H : Hp) (C : Addr) (cl : List (Str × Addr)) (fp : List Addr), PTs (X.blk s H scope (compEnvC scope cl C X.env) fp) ifs1 (lT R t1))
    (he : ∀ (s : Shared) (H : Hp) (C : Addr) (cl : List (Str × Addr)) (fp : List Addr), PE (X.blk s H scope (compEnvC scope cl C X.env) fp) elt (lE R m)) (hs : ∀ x, foldedSetIterable iter X.env x = pure x := by intro _; rfl) (hs1 : ∀ env x, foldedSetIterable iter1 env x = pure x := by intro _ _; rfl) :
    PS X (.Assign [.Name y py] (.ListComp elt [⟨tg, iter, ifs, 0⟩, ⟨tg1, iter1, ifs1, 0⟩] scope pos) spos) (lS R (dSet i (mComp2 src (own.map (·.2)) b t src1 vs1 b1 t1 m))) :=
  PS.imp (ps_setLc2 hc hN hy hyl hsw hi ok hv hg ht hi1 hg1 ht1 he hs hs1) fun _ _ _ h => asgF (fun h => comp22 hts hts1 h) h
/-- a list display that stays free to change -/
theorem df_lst {es : List Expr} {ms : M (List D)} (h : PA X es (lA R ms)) : PE X (.List es pos) (lF R (mLst ms)) :=
  PE.imp (pe_lst h) fun σ H Q ⟨B, env, p, F, S, d, env', p', e, q⟩ => by
    obtain ⟨ds, env1, p1, e1, e2⟩ := bind_ok (show (ms >>= _) env p = _ from e)
    obtain ⟨z, e3, e4⟩ := Res.bind_ok (show (mkL ds).bind _ = _ from e2)
    cases e4
    obtain ⟨rfl, hz⟩ := mkL_ok e3
    refine ⟨B, env, p, F, S, ds, env', p', e1, fun vs F' H' s S' r => ⟨by rw [r.length]; exact hz, fun a hn => ?_⟩⟩
    obtain ⟨g1, g2⟩ := S'.newO r hn
    exact q a F' _ s g1 g2
end

/-! ## own lists: read and changed -/
def getO (env : Env') (i : Nat) : Res (List D) := match env[i]? with
  | some (.ow (.lst ds)) => .ok ds
  | some (.ro (.lst ds)) => .ok ds
  | _ => .bad
def getW (env : Env') (i : Nat) : Res (List D) := match env[i]? with
  | some (.ow (.lst ds)) => .ok ds
  | _ => .bad
/-- the name holds an own list -/
def mChk (i : Nat) : M Unit := fun env p => (getO env i).bind fun _ => .ok ((), env, p)
def mGetO (i : Nat) : M (List D) := fun env p => (getO env i).bind fun ds => .ok (ds, env, p)
def mGetW (i : Nat) : M (List D) := fun env p => (getW env i).bind fun ds => .ok (ds, env, p)
def mPut (i : Nat) (ds : List D) : M Unit := fun env p => .ok ((), env.set i (.ow (.lst ds)), p)
/-- x[k], x an own list -/
def mIxO (i : Nat) (m : M D) : M D := mChk i >>= fun _ => m >>= fun k => mGetO i >>= fun ds => M.res (ixD (.lst ds) k)
/-- x.pop(), x.pop(k) -/
def lastD (ds : List D) : Res D := match ds[ds.length - 1]? with
  | some d => .ok d
  | none => .bad
def mPop (i : Nat) : M D := mGetW i >>= fun ds => M.res (lastD ds) >>= fun d => mPut i ds.dropLast >>= fun _ => M.ret d
def atD (ds : List D) (k : D) : Res (D × Nat) := (asI k).bind fun k => if 0 ≤ k ∧ k < 2 ^ 63 then (match ds[k.toNat]? with
  | some d => .ok (d, k.toNat)
  | none => .bad) else .bad
def mPopAt (i : Nat) (m : M D) : M D := mChk i >>= fun _ => m >>= fun k => mGetW i >>= fun ds => M.res (atD ds k) >>= fun r => mPut i (ds.eraseIdx r.2) >>= fun _ => M.ret r.1
/-- x.append(e) -/
def mAppend (i : Nat) (m : M D) : M D := mChk i >>= fun _ => m >>= fun d => mGetW i >>= fun ds => M.res (if ds.length < sizeLine then .ok () else .bad) >>= fun _ => mPut i (ds ++ [d]) >>= fun _ => M.ret .non
/-- x[k] = e -/
def putAt (ds : List D) (k d : D) : Res (List D) := (asI k).bind fun j => match ixN ds.length j with
    | some n => .ok (ds.set n d)
    | none => .bad
def dSetItem (i : Nat) (m k : M D) : SS := dOf (m >>= fun d => mChk i >>= fun _ => k >>= fun j => mGetW i >>= fun ds => M.res (putAt ds j d) >>= fun ds' => mPut i ds') fun _ => dNext
section
variable {X : Cx} {R : RC} {B : Bs} {env : Env'} {p : Pn} {σ : St} {F H : Hp}
theorem getO_ok {i : Nat} {ds : List D} (h : getO env i = .ok ds) (S : SRel R B env p σ F H) : ∃ a vs, σ[i]? = some (some (.ref a)) ∧ H a = some (.lst vs) ∧ Reps R F ds vs := by
  unfold getO at h
  split at h
  · rename_i e
    cases h
    obtain ⟨a, h1, _, _, _, o⟩ := S.slots i _ e
    rcases o with ⟨ds', vs, e, h2, r⟩ | ⟨_, _, _, _, _, _, e, _⟩
    · cases e; exact ⟨a, vs, h1, h2, r⟩
    · cases e
  · rename_i e
    cases h
    obtain ⟨a, h1, _, _, o⟩ := S.slots i _ e
    rcases o with ⟨ds', vs, e, h2, r⟩ | ⟨_, _, _, _, _, _, e, _⟩
    · cases e; exact ⟨a, vs, h1, h2, r⟩
    · cases e
  · cases h
theorem getW_ok {i : Nat} {ds : List D} (h : getW env i = .ok ds) (S : SRel R B env p σ F H) : env[i]? = some (.ow (.lst ds)) ∧ ∃ a vs, σ[i]? = some (some (.ref a)) ∧ H a = some (.lst vs) ∧ Reps R F ds vs := by
  unfold getW at h
  split at h
  · rename_i e
    cases h
    obtain ⟨a, h1, _, _, _, o⟩ := S.slots i _ e
    rcases o with ⟨ds', vs, e', h2, r⟩ | ⟨_, _, _, _, _, _, e, _⟩
    · cases e'; exact ⟨e, a, vs, h1, h2, r⟩
    · cases e
  · cases h
end

section
variable {R : RC} {B : Bs} {env : Env'} {p : Pn} {σ : St} {F H : Hp} {γ δ : Type} {Rl2 : Hp → γ → δ → Prop} {Q : δ → Hp → Prop} {i : Nat}
theorem Cn.chk {k : Unit → M γ} (c : Cn R Rl2 (mChk i >>= k) Q σ B env p F H) : (∃ a, σ[i]? = some (some (.ref a)) ∧ (∃ vs, H a = some (.lst vs))) ∧ Cn R Rl2 (k ()) Q σ B env p F H := by
  obtain ⟨S, z, env', p', e, q⟩ := c
  obtain ⟨u, env1, p1, e1, e2⟩ := bind_ok e
  obtain ⟨ds, e3, e4⟩ := Res.bind_ok (show (getO env i).bind _ = _ from e1)
  cases e4
  obtain ⟨a, vs, h1, h2, _⟩ := getO_ok e3 S
  exact ⟨⟨a, h1, vs, h2⟩, S, z, env', p', e2, q⟩
theorem Cn.getO {k : List D → M γ} (c : Cn R Rl2 (mGetO i >>= k) Q σ B env p F H) : ∃ ds a vs, σ[i]? = some (some (.ref a)) ∧ H a = some (.lst vs) ∧ Reps R F ds vs ∧ Cn R Rl2 (k ds) Q σ B env p F H := by
  obtain ⟨S, z, env', p', e, q⟩ := c
  obtain ⟨ds, env1, p1, e1, e2⟩ := bind_ok e
  obtain ⟨ds', e3, e4⟩ := Res.bind_ok (show (CS.getO env i).bind _ = _ from e1)
  cases e4
  obtain ⟨a, vs, h1, h2, h3⟩ := getO_ok e3 S
  exact ⟨ds, a, vs, h1, h2, h3, S, z, env', p', e2, q⟩
theorem Cn.getW {k : List D → M γ} (c : Cn R Rl2 (mGetW i >>= k) Q σ B env p F H) : ∃ ds a vs, env[i]? = some (.ow (.lst ds)) ∧ σ[i]? = some (some (.ref a)) ∧ H a = some (.lst vs) ∧ Reps R F ds vs ∧ Cn R Rl2 (k ds) Q σ B env p F H := by
  obtain ⟨S, z, env', p', e, q⟩ := c
  obtain ⟨ds, env1, p1, e1, e2⟩ := bind_ok e
  obtain ⟨ds', e3, e4⟩ := Res.bind_ok (show (CS.getW env i).bind _ = _ from e1)
  cases e4
  obtain ⟨h0, a, vs, h1, h2, h3⟩ := getW_ok e3 S
  exact ⟨ds, a, vs, h0, h1, h2, h3, S, z, env', p', e2, q⟩
theorem Cn.rs {α : Type} {r : Res α} {k : α → M γ} (c : Cn R Rl2 (M.res r >>= k) Q σ B env p F H) : ∃ a, r = .ok a ∧ Cn R Rl2 (k a) Q σ B env p F H := by
  obtain ⟨S, z, env', p', e, q⟩ := c
  obtain ⟨a, env1, p1, e1, e2⟩ := bind_ok e
  obtain ⟨a', e3, e4⟩ := Res.bind_ok (show r.bind _ = _ from e1)
  cases e4
  exact ⟨a, e3, S, z, env', p', e2, q⟩
theorem Cn.put {ds ds0 : List D} {a : Addr} {vs : List V} {k : Unit → M γ} (c : Cn R Rl2 (mPut i ds >>= k) Q σ B env p F H) (hi : env[i]? = some (.ow (.lst ds0))) (ha : σ[i]? = some (some (.ref a))) (r : Reps R F ds vs) :
    Cn R Rl2 (k ()) Q σ B (env.set i (.ow (.lst ds))) p F (upd H a (.lst vs)) := by
  obtain ⟨S, z, env', p', e, q⟩ := c
  obtain ⟨u, env1, p1, e1, e2⟩ := bind_ok e
  cases e1
  exact ⟨S.mut hi ha (.inl ⟨ds, vs, rfl, upd_same, r⟩), z, env', p', e2, q⟩
end
section
variable {X : Cx} {R : RC} {i : Nat} {x : Str} {e e2 : Expr} {m k : M D} {pos px apos tpos : Pos}
theorem de_ixO (hv : PE X (.Name x px) (tVar i)) (he : PE X e (lE R m)) (hs : PlainIx e) : PE X (.Subscript (.Name x px) e pos) (lE R (mIxO i m)) :=
  PE.imp (pe_ix ix_list hv he hs) fun σ H Q ⟨B, env, p, F, c⟩ => by
    obtain ⟨⟨a, ha, _⟩, c1⟩ := c.chk
    refine ⟨.ref a, ha, c1.sq fun d v env1 p1 F1 H1 s1 r1 c2 => ?_⟩
    obtain ⟨ds, a', vs, ha', hH, r, c3⟩ := c2.getO
    rw [ha] at ha'; cases ha'
    obtain ⟨z, e, q⟩ := c3.res
    unfold ixD at e
    split at e
    · rename_i j
      obtain ⟨ds', g1, g2⟩ := Res.bind_ok e
      cases g1
      split at g2
      · rename_i d' hd
        cases g2
        obtain ⟨u, hu, ru⟩ := r.at hd
        simp only [Rep] at r1
        exact ⟨a, vs, j, u, rfl, r1, SqL.of hH, hu, q u F1 H1 (Same.refl _) c3.S ru⟩
      · cases g2
    · cases e
theorem de_pop (hv : PE X (.Name x px) (tVar i)) (hbase : attributeBase (.Name x px) "pop" X.env (eval (.Name x px) X.env) = eval (.Name x px) X.env := by rfl) (hline : (apos.endLine == pos.line) = true := by rfl) : PE X (.Call (.Attribute (.Name x px) "pop" apos) [] [] pos) (lE R (mPop i)) :=
  PE.imp (pe_bm0 PySem.F.plainAttrs_list PySem.F.slot_list_pop PySem.F.type_list_pop mt_pop hv hbase hline) fun σ H Q ⟨B, env, p, F, c⟩ => by
    obtain ⟨ds, a, vs, hi, ha, hH, r, c1⟩ := c.getW
    obtain ⟨d, e, c2⟩ := c1.rs
    unfold lastD at e
    split at e
    · rename_i d' hd
      cases e
      obtain ⟨v, hv', rv⟩ := r.get hd
      refine ⟨.ref a, ha, .inl ⟨rfl, vs, SqL.of hH⟩, a, vs, v, rfl, rfl, hH, by rw [r.length]; exact hv', ?_⟩
      have r' : Reps R F ds.dropLast vs.dropLast := by
        rw [List.dropLast_eq_take, List.dropLast_eq_take, r.length]
        exact r.take _
      exact (c2.put hi ha r').ret v F _ (Same.refl _) (c2.put hi ha r').S rv
    · cases e
theorem de_popAt (hv : PE X (.Name x px) (tVar i)) (he : PE X e (lE R m)) (hbase : attributeBase (.Name x px) "pop" X.env (eval (.Name x px) X.env) = eval (.Name x px) X.env := by rfl)
    (hfew : ((backTo pos (starEach [e] X.env)).all (fun x => !x.1) && (backToKw pos (keywordEach [] X.env)).all (fun x => x.1.isSome) && decide (([e] : List Expr).length + ([] : List Keyword).length + (if ([] : List Keyword).isEmpty then 0 else 1) < 30)) = true := by rfl)
    (hline : (apos.endLine == pos.line) = true := by rfl) (hs : starEach [e] X.env = (false, eval e X.env) :: starEach [] X.env := by rfl) (hplain : (backTo pos (starEach [] X.env)).any (·.1) = false := by rfl) : PE X (.Call (.Attribute (.Name x px) "pop" apos) [e] [] pos) (lE R (mPopAt i m)) :=
  PE.imp (pe_bm PySem.F.plainAttrs_list PySem.F.slot_list_pop PySem.F.type_list_pop mt_popAt hv (pa_cons he pa_nil hs) hbase hfew hline hs hplain) fun σ H Q ⟨B, env, p, F, c⟩ => by
    obtain ⟨⟨a, ha, vs0, hH0⟩, c0⟩ := c.chk
    refine ⟨.ref a, ha, .inl ⟨rfl, vs0, SqL.of hH0⟩, c0.sq fun kd v env1 p1 F1 H1 s1 r1 c2 => ?_⟩
    obtain ⟨ds, a', vs, hi, ha', hH, r, c3⟩ := c2.getW
    rw [ha] at ha'; cases ha'
    obtain ⟨⟨d, n⟩, e, c4⟩ := c3.rs
    unfold atD at e
    obtain ⟨j, g1, g2⟩ := Res.bind_ok e
    cases asI_ok g1
    split at g2
    · rename_i hj
      split at g2
      · rename_i d' hd
        cases g2
        obtain ⟨u, hu, ru⟩ := r.get hd
        simp only [Rep] at r1
        subst r1
        refine ⟨a, vs, j, j.toNat, u, rfl, rfl, hH, by omega, hj.2, ?_, hu, ?_⟩
        · have h1 : j.toNat < vs.length := (List.getElem?_eq_some_iff.mp hu).1
          have h2 : ixN vs.length j = some j.toNat := by
            unfold ixN
            rw [if_pos hj.1, if_pos (by omega)]
          exact (ixN_seq h2).1
        · have r' := r.erase j.toNat
          exact (c4.put hi ha r').ret u F1 _ (Same.refl _) (c4.put hi ha r').S ru
      · cases g2
    · cases g2
theorem de_append (hv : PE X (.Name x px) (tVar i)) (he : PE X e (lE R m)) (hbase : attributeBase (.Name x px) "append" X.env (eval (.Name x px) X.env) = eval (.Name x px) X.env := by rfl)
    (hfew : ((backTo pos (starEach [e] X.env)).all (fun x => !x.1) && (backToKw pos (keywordEach [] X.env)).all (fun x => x.1.isSome) && decide (([e] : List Expr).length + ([] : List Keyword).length + (if ([] : List Keyword).isEmpty then 0 else 1) < 30)) = true := by rfl)
    (hline : (apos.endLine == pos.line) = true := by rfl) (hs : starEach [e] X.env = (false, eval e X.env) :: starEach [] X.env := by rfl) (hplain : (backTo pos (starEach [] X.env)).any (·.1) = false := by rfl) : PE X (.Call (.Attribute (.Name x px) "append" apos) [e] [] pos) (lE R (mAppend i m)) :=
  PE.imp (pe_bm PySem.F.plainAttrs_list PySem.F.slot_list_append PySem.F.type_list_append mt_append hv (pa_cons he pa_nil hs) hbase hfew hline hs hplain) fun σ H Q ⟨B, env, p, F, c⟩ => by
    obtain ⟨⟨a, ha, vs0, hH0⟩, c0⟩ := c.chk
    refine ⟨.ref a, ha, .inl ⟨rfl, vs0, SqL.of hH0⟩, c0.sq fun d v env1 p1 F1 H1 s1 r1 c2 => ?_⟩
    obtain ⟨ds, a', vs, hi, ha', hH, r, c3⟩ := c2.getW
    rw [ha] at ha'; cases ha'
    obtain ⟨_, e, c4⟩ := c3.rs
    split at e
    · rename_i hz
      have r' := r.append (.one r1)
      exact ⟨a, vs, v, rfl, rfl, hH, by rw [r.length]; exact hz, (c4.put hi ha r').ret _ F1 _ (Same.refl _) (c4.put hi ha r').S (by simp [Rep])⟩
    · cases e
theorem ds_setItem (hv : PE X (.Name x px) (tVar i)) (he : PE X e (lE R m)) (hk : PE X e2 (lE R k)) (hs : swapsWithSole [.Subscript (.Name x px) e2 tpos] e pos.line X.env = pure false := by rfl) (hw : swappedStores [.Subscript (.Name x px) e2 tpos] e X.env = pure none := by rfl)
    (h1 : (assignEach [.Subscript (.Name x px) e2 tpos] X.env).map (·.2) = [assign (.Subscript (.Name x px) e2 tpos) X.env] := by rfl)
    (ha : ∀ v, assign (.Subscript (.Name x px) e2 tpos) X.env v = (do
      let ov ← holding [v] (eval (.Name x px) X.env)
      let iv ← holding [v, ov] (eval e2 X.env)
      standAt tpos
      holding [v, ov, iv] (setItem ov iv v)
      release [v, ov, iv] []) := by intro _; rfl) : PS X (.Assign [.Subscript (.Name x px) e2 tpos] e pos) (lS R (dSetItem i m k)) :=
  PS.imp (ps_asg he (pg_sub hv hk set_list ha) hs hw h1) fun E σ H ⟨B, env, p, F, S, o⟩ => by
    unfold dSetItem dOf at o
    split at o
    · rename_i u env' p' e
      have c : Cn R (fun _ (_ : Unit) (_ : Unit) => True) (m >>= fun d => mChk i >>= fun _ => k >>= fun j => mGetW i >>= fun ds => M.res (putAt ds j d) >>= fun ds' => mPut i ds') (fun _ H => E.nx σ H) σ B env p F H :=
        ⟨S, u, env', p', e, fun _ F' H' s S' _ => o σ F' H' s S'⟩
      refine c.sq fun d v env1 p1 F1 H1 s1 r1 c1 => ?_
      obtain ⟨⟨a, ha, vs0, hH0⟩, c2⟩ := c1.chk
      refine ⟨.ref a, ha, c2.sq fun j w env2 p2 F2 H2 s2 r2 c3 => ?_⟩
      obtain ⟨ds, a', vs, hi, ha', hH, r, c4⟩ := c3.getW
      rw [ha] at ha'; cases ha'
      obtain ⟨ds', e', c5⟩ := c4.rs
      obtain ⟨jj, g1, g2⟩ := Res.bind_ok e'
      cases asI_ok g1
      split at g2
      · rename_i n hn
        cases g2
        simp only [Rep] at r2
        have r' := (r.set (r1.mono s2) n)
        refine ⟨a, vs, jj, n, rfl, r2, hH, by rw [r.length]; exact hn, ?_⟩
        obtain ⟨S5, z, env6, p6, e6, q6⟩ := c5
        cases e6
        exact q6 () F2 _ (Same.refl _) (S5.mut hi ha (.inl ⟨_, _, rfl, upd_same, r'⟩)) trivial
      · cases g2
    · exact o.elim
    · exact o.elim
end

/-! ## while -/
def dWhN (c : M Bool) (body : SS) : Nat → SS
  | 0 => dBad
  | n + 1 => dOf c fun k => if k = true then fun env p => match body env p with
    | .nx e p => dWhN c body n e p
    | .ct e p => dWhN c body n e p
    | .bk e p => .nx e p
    | .rt d p => .rt d p
    | .exc c xs => .exc c xs
    | .bad => .bad
    else dNext
open Classical in
/-- the loop's end, if it comes to one -/
noncomputable def dWhile (c : M Bool) (body : SS) : SS := fun env p => if h : ∃ n, dWhN c body n env p ≠ .bad then dWhN c body h.choose env p else .bad
theorem dWhN_mono {c : M Bool} {body : SS} : ∀ (n m : Nat) (env : Env') (p : Pn), n ≤ m → dWhN c body n env p ≠ .bad → dWhN c body m env p = dWhN c body n env p
  | 0, m, env, p, _, h => absurd rfl h
  | n + 1, 0, env, p, hle, _ => absurd hle (by omega)
  | n + 1, m + 1, env, p, hle, h => by
    unfold dWhN dOf at h ⊢
    cases e : c env p with
    | ok r =>
      obtain ⟨k, e1, p1⟩ := r
      rw [e] at h
      cases k with
      | false => rfl
      | true =>
        simp only [if_true] at h ⊢
        cases e2 : body e1 p1 with
        | nx e3 p3 => rw [e2] at h; exact dWhN_mono n m e3 p3 (by omega) h
        | ct e3 p3 => rw [e2] at h; exact dWhN_mono n m e3 p3 (by omega) h
        | bk e3 p3 => rfl
        | rt d p3 => rfl
        | exc c xs => rfl
        | bad => rfl
    | exc c xs => rfl
    | bad => rfl
theorem dWhile_eq {c : M Bool} {body : SS} {env : Env'} {p : Pn} {n : Nat} {o : Out} (h : dWhN c body n env p = o) (ho : o ≠ .bad) : dWhile c body env p = o := by
  have hex : ∃ n, dWhN c body n env p ≠ .bad := ⟨n, by rw [h]; exact ho⟩
  unfold dWhile
  rw [dif_pos hex]
  have h1 := hex.choose_spec
  rcases Nat.le_total n hex.choose with hle | hle
  · rw [dWhN_mono n _ env p hle (by rw [h]; exact ho), h]
  · rw [← dWhN_mono _ n env p hle h1, h]
section
variable {X : Cx} {R : RC} {c : Expr} {bd : List Stmt} {tc : M Bool} {body : SS} {pos : Pos}
theorem ds_while (hp : PassesOwn (model X.prog X.w) X.A X.env X.xe) (hc : PT X c (lT R tc)) (hb : PSs X bd (lS R body)) : PS X (.While c bd [] pos) (lS R (dWhile tc body)) := by
  refine PS.imp (ps_while hp hc hb) fun E σ H ⟨B, env, p, F, S, o⟩ => ?_
  have hex : ∃ n, OutOk R B F E (dWhN tc body n env p) := by
    unfold dWhile at o
    split at o
    · exact ⟨_, o⟩
    · exact o.elim
  obtain ⟨n, o⟩ := hex
  refine ⟨fun m σ H => ∃ env p F1, Same F F1 ∧ SRel R B env p σ F1 H ∧ OutOk R B F1 E (dWhN tc body m env p), ⟨n, env, p, F, Same.refl _, S, o⟩, ?_⟩
  rintro m σ2 H2 ⟨env2, p2, F2, s2, S2, o2⟩
  cases m with
  | zero => exact o2.elim
  | succ m =>
    unfold dWhN dOf at o2
    split at o2
    · rename_i k env3 p3 e
      refine ⟨B, env2, p2, F2, S2, k, env3, p3, e, fun k' F3 H3 s3 S3 ek => ?_⟩
      cases ek
      have o3 := o2.mono s3
      cases k with
      | true =>
        rw [if_pos rfl]
        simp only [if_true] at o3
        have s23 := s2.trans s3
        refine ⟨fun σ' H' => ∃ env p F1, Same F F1 ∧ SRel R B env p σ' F1 H' ∧ OutOk R B F1 E (dWhN tc body m env p), fun σ' H' h => ⟨m, by omega, h⟩, B, env3, p3, F3, S3, ?_⟩
        cases hbody : body env3 p3 with
        | nx e p => rw [hbody] at o3; exact fun σ' F' H' s' S' => ⟨e, p, F', s23.trans s', S', OutOk.mono o3 s'⟩
        | ct e p => rw [hbody] at o3; exact fun σ' F' H' s' S' => ⟨e, p, F', s23.trans s', S', OutOk.mono o3 s'⟩
        | bk e p => rw [hbody] at o3; exact o3
        | rt d p => rw [hbody] at o3; exact o3
        | exc c xs => rw [hbody] at o3; exact o3
        | bad => rw [hbody] at o3; exact o3
      | false =>
        rw [if_neg Bool.false_ne_true]
        simp only [Bool.false_eq_true, if_false] at o3
        exact o3 σ2 F3 H3 (Same.refl _) S3
    · exact o2.elim
    · exact o2.elim
end
end CS
namespace CS
open PySem L2
open PyProof.Rows (envOfC)

/-! ## own lists read as values, where what comes of it is flat -/
def Slot.fz : Slot → Slot
  | .ow d => .pl d
  | .ro d => .pl d
  | s => s
def D.flat : D → Bool
  | .non => true
  | .bl _ => true
  | .int _ => true
  | .str _ => true
  | _ => false
def mBorT (m : M Bool) : M Bool := fun env p => (m (env.map Slot.fz) p).bind fun r => .ok (r.1, env, r.2.2)
def mBor (m : M D) : M D := fun env p => (m (env.map Slot.fz) p).bind fun r => if r.1.flat = true then .ok (r.1, env, r.2.2) else .bad
section
variable {R : RC} {B : Bs} {env : Env'} {p : Pn} {σ : St} {F H : Hp}
open Classical in
theorem SRel.borrow (S : SRel R B env p σ F H) : ∃ F1, Same F F1 ∧ SRel R ⟨F1, H, B.pn⟩ (env.map Slot.fz) p σ F1 H := by
  have sm : Same F (fun a => if ∃ i, OwnAt env σ i a then H a else F a) := fun a o e => by
    show (if ∃ i, OwnAt env σ i a then H a else F a) = some o
    rw [if_neg]
    · exact e
    · rintro ⟨i, h⟩
      rw [(S.ownF h).1] at e; cases e
  refine ⟨_, sm, ⟨fun a o e => ?_, Same.refl _, fun _ _ _ h => h, fun _ h => .inl h, S.pnb, ?_, fun h => Same.seq (S.f0.trans sm) (S.cel h), by rw [List.length_map]; exact S.len, fun i s hi => ?_, fun i j a _ h _ => ?_⟩⟩
  · have e : (if ∃ i, OwnAt env σ i a then H a else F a) = some o := e
    split at e
    · exact e
    · exact S.fh _ _ e
  · have := S.pen
    cases p with
    | none => trivial
    | some P =>
      obtain ⟨h1, h2, h3⟩ := this
      refine ⟨?_, h2, h3⟩
      show (if ∃ i, OwnAt env σ i R.q then H R.q else F R.q) = none
      rw [if_neg]
      · exact h1
      · rintro ⟨i, h⟩
        exact S.nq (S.ownF h).2.1 rfl
  · rw [List.getElem?_map] at hi
    cases e : env[i]? with
    | none => rw [e] at hi; cases hi
    | some s' =>
      rw [e] at hi
      cases hi
      have h := S.slots i s' e
      have own : ∀ d a, s'.isO = true → σ[i]? = some (some (.ref a)) → Own R F H d a → Rep R (fun a => if ∃ i, OwnAt env σ i a then H a else F a) d (.ref a) := fun d a ho ha o => by
        have ea : (if ∃ i, OwnAt env σ i a then H a else F a) = H a := if_pos ⟨i, ⟨s', e, ho⟩, ha⟩
        rcases o with ⟨ds, vs, rfl, h1, r⟩ | ⟨c, ns, ds, dx, vs, _, rfl, h1, l, r⟩
        · simp only [Rep]
          exact ⟨a, vs, rfl, by rw [ea]; exact h1, r.mono sm⟩
        · simp only [Rep]
          exact ⟨a, dx, vs, rfl, by rw [ea]; exact h1, l, r.mono sm⟩
      cases s' with
      | un => trivial
      | pl d => obtain ⟨v, h1, h2⟩ := h; exact ⟨v, h1, h2.mono sm⟩
      | ow d => obtain ⟨a, h1, _, _, _, o⟩ := h; exact ⟨_, h1, own d a rfl h1 o⟩
      | ro d => obtain ⟨a, h1, _, _, o⟩ := h; exact ⟨_, h1, own d a rfl h1 o⟩
  · obtain ⟨⟨s, h1, h2⟩, _⟩ := h
    rw [List.getElem?_map] at h1
    cases e : env[i]? with
    | none => rw [e] at h1; cases h1
    | some s' =>
      rw [e] at h1
      cases h1
      cases s' <;> cases h2
/-- back: what was frozen meanwhile is forgotten -/
theorem SRel.unborrow (S : SRel R B env p σ F H) {F1 F' H' : Hp} {env' : Env'} {p' : Pn} {σ' : St} (s : Same F F1) (T : SRel R ⟨F1, H, B.pn⟩ env' p' σ' F' H') : SRel R B env p' σ F H' := by
  have sF : Same F F' := s.trans T.f0
  refine S.ext ⟨Same.refl _, sF.trans T.fh, fun b o hb h => T.h0 b o (hb.imp id fun e => S.pnone.mpr e) h, fun a h => .inl h, by rw [T.pnb, S.pnb], ?_⟩
  have := T.pen
  cases p' with
  | none => trivial
  | some P =>
    obtain ⟨h1, h2, h3⟩ := this
    exact ⟨sF.free h1, h2, h3⟩
theorem Rep.flat {d : D} {v : V} {F' : Hp} (h : Rep R F d v) (hf : d.flat = true) : Rep R F' d v := by
  cases d <;> first | (simpa [Rep] using h; done) | cases hf
end
section
variable {X : Cx} {R : RC} {e : Expr} {m : M D} {t : M Bool} {pos : Pos}
theorem dt_bor (h : PT X e (lT R t)) : PT X e (lT R (mBorT t)) := PT.imp h fun σ H Q ⟨B, env, p, F, S, b, env', p', e, q⟩ => by
  obtain ⟨F1, s1, S1⟩ := S.borrow
  obtain ⟨⟨b', env2, p2⟩, e1, e2⟩ := Res.bind_ok (show (t (env.map Slot.fz) p).bind _ = _ from e)
  cases e2
  exact ⟨_, _, p, F1, S1, b', env2, p2, e1, fun b' F' H' s S' eb => q b' F H' (Same.refl _) (S.unborrow s1 S') eb⟩
theorem de_bor (h : PE X e (lE R m)) : PE X e (lE R (mBor m)) := PE.imp h fun σ H Q ⟨B, env, p, F, S, d, env', p', e, q⟩ => by
  obtain ⟨F1, s1, S1⟩ := S.borrow
  obtain ⟨⟨d', env2, p2⟩, e1, e2⟩ := Res.bind_ok (show (m (env.map Slot.fz) p).bind _ = _ from e)
  split at e2
  · rename_i hf
    cases e2
    exact ⟨_, _, p, F1, S1, d', env2, p2, e1, fun v F' H' s S' r => q v F H' (Same.refl _) (S.unborrow s1 S') (r.flat hf)⟩
  · cases e2
end

/-! ## x += e; a, b = e1, e2 -/
def dAug (i : Nat) (f : D → D → Res D) (m : M D) : SS := dOf (dVar i >>= fun x => m >>= fun y => M.res (f x y)) fun d env p => .nx (env.set i (.pl d)) p
section
variable {X : Cx} {R : RC} {i : Nat} {x : Str} {e : Expr} {m : M D} {pos pos' : Pos}
theorem ip_of {op : Operator} {f : Int → Int → Int} {g : D → D → Res D} (hp : PIp X op (ipI f)) (hg : ∀ x y z, g x y = .ok z → ∃ a b, x = .int a ∧ y = .int b ∧ z = .int (f a b)) (hN : X.N.Nodup) (hi : X.N[i]? = some x) (hx : Loc X.env.scope x) (he : PE X e (lE R m)) (hf : X.fn x = true ∨ X.env.scope.names.lookup x = some .local) :
    PS X (.AugAssign (.Name x pos') op e pos) (lS R (dAug i g m)) :=
  PS.imp (ps_aug hN hi hx he hp hf) fun E σ H ⟨B, env, p, F, S, o⟩ => by
    unfold dAug dOf at o
    split at o
    · rename_i d env' p' e
      have c : Cn R (Rep R) (dVar i >>= fun x => m >>= fun y => M.res (g x y)) (fun v H => E.nx (σ.set i (some v)) H) σ B env p F H := ⟨S, d, env', p', e, fun v F' H' s S' r => o _ F' H' s (S'.set r)⟩
      obtain ⟨S, z, env2, p2, e2, q⟩ := c
      obtain ⟨x, env1, p1, e1, e3⟩ := bind_ok e2
      obtain ⟨x', g1, g2⟩ := Res.bind_ok (show (getPl env i).bind _ = _ from e1)
      cases g2
      obtain ⟨v, h1, h2⟩ := S.slots _ _ (getPl_ok g1)
      refine ⟨v, h1, Cn.sq (Rl2 := Rep R) (k := fun y => M.res (g x y)) ⟨S, z, env2, p2, e3, q⟩ fun y w env3 p3 F3 H3 s3 r3 c3 => ?_⟩
      obtain ⟨z', e4, q'⟩ := c3.res
      obtain ⟨a, b, rfl, rfl, rfl⟩ := hg _ _ _ e4
      simp only [Rep] at h2 r3
      exact ⟨a, b, h2, r3, q' _ F3 H3 (Same.refl _) c3.S (by simp [Rep])⟩
    · exact o.elim
    · exact o.elim
theorem ds_augAdd (hN : X.N.Nodup) (hi : X.N[i]? = some x) (hx : Loc X.env.scope x) (he : PE X e (lE R m)) (hf : X.fn x = true ∨ X.env.scope.names.lookup x = some .local := by first | exact .inl rfl | exact .inr rfl | assumption) : PS X (.AugAssign (.Name x pos') .Add e pos) (lS R (dAug i addI m)) :=
  ip_of ip_add (fun x y z h => by unfold addI at h; split at h; cases h; exact ⟨_, _, rfl, rfl, rfl⟩; cases h) hN hi hx he hf
theorem ds_augSub (hN : X.N.Nodup) (hi : X.N[i]? = some x) (hx : Loc X.env.scope x) (he : PE X e (lE R m)) (hf : X.fn x = true ∨ X.env.scope.names.lookup x = some .local := by first | exact .inl rfl | exact .inr rfl | assumption) : PS X (.AugAssign (.Name x pos') .Sub e pos) (lS R (dAug i subD m)) :=
  ip_of ip_sub (fun x y z h => by unfold subD at h; split at h; cases h; exact ⟨_, _, rfl, rfl, rfl⟩; cases h) hN hi hx he hf
end
/-- a, b = e1, e2 with local names -/
def dPar (i j : Nat) (m n : M D) : SS := dOf (m >>= fun x => n >>= fun y => M.ret (x, y)) fun z env p => .nx ((env.set i (.pl z.1)).set j (.pl z.2)) p
/-- .. the first an own list, both own lists -/
def mRd (n : M D) : M D := fun env p => (n (env.map Slot.rd) p).bind fun r => .ok (r.1, env, r.2.2)
def dParO (i j : Nat) (m n : M D) : SS := dOf (m >>= fun x => mRd n >>= fun y => M.ret (x, y)) fun z env p => .nx ((env.set i (.ow z.1)).set j (.pl z.2)) p
def dParOO (i j : Nat) (m n : M D) : SS := dOf (m >>= fun x => mRd n >>= fun y => M.ret (x, y)) fun z env p => .nx ((env.set i (.ow z.1)).set j (.ow z.2)) p
section
variable {R : RC} {B : Bs} {env : Env'} {p : Pn} {σ : St} {F H : Hp}
/-- a floating own list stays beside what is done within -/
theorem FreshA.stay {d : D} {a : Addr} (S : SRel R B env p σ F H) (fr : FreshA R B env σ F H d a) {F' H' : Hp} {p' : Pn} (e : Ext R F H p F' H' p') : FreshA R B env σ F' H' d a := by
  refine ⟨?_, fr.b, fr.q, fr.no, fr.own.ext e (fr.q.imp id S.pnone.mp)⟩
  cases z : F' a with
  | none => rfl
  | some o =>
    rcases e.fresh a (by rw [z]; simp) with h | h
    · exact absurd fr.f h
    · exact absurd h fr.own.there
end
section
variable {X : Cx} {R : RC} {i j : Nat} {x y : Str} {a b : Expr} {m n : M D} {px py pt pos pt2 : Pos} {kt k2 : Nat}
theorem ds_par (hc : X.calm = true) (hN : X.N.Nodup) (hi : X.N[i]? = some x) (hj : X.N[j]? = some y) (hij : i ≠ j) (hx : X.env.scope.names.lookup x = some .local) (hy : X.env.scope.names.lookup y = some .local) (ha : PE X a (lE R m)) (hb : PE X b (lE R n))
    (hw : swappedStores [.Tuple [.Name x px, .Name y py] kt pt] (.Tuple [a, b] k2 pt2) X.env = pure (some [x, y])) (hs : swapsWithSole [.Tuple [.Name x px, .Name y py] kt pt] (.Tuple [a, b] k2 pt2) pos.line X.env = pure false := by rfl)
    (h1 : starEach [a, b] X.env = (false, eval a X.env) :: starEach [b] X.env := by rfl) (h2 : starEach [b] X.env = (false, eval b X.env) :: starEach [] X.env := by rfl) :
    PS X (.Assign [.Tuple [.Name x px, .Name y py] kt pt] (.Tuple [a, b] k2 pt2) pos) (lS R (dPar i j m n)) :=
  PS.imp (ps_par hc hN hi hj hij hx hy (pa_cons ha (pa_cons hb pa_nil h2) h1) hw hs) fun E σ H ⟨B, env, p, F, S, o⟩ => by
    unfold dPar dOf at o
    split at o
    · rename_i z env' p' e
      have c : Cn R (fun F' (z : D × D) (v : V × V) => Rep R F' z.1 v.1 ∧ Rep R F' z.2 v.2) (m >>= fun x => n >>= fun y => M.ret (x, y)) (fun v H => E.nx ((σ.set i (some v.1)).set j (some v.2)) H) σ B env p F H :=
        ⟨S, z, env', p', e, fun v F' H' s S' r => o _ F' H' s ((S'.set r.1).set r.2)⟩
      exact c.sq fun d v env1 p1 F1 H1 s1 r1 c1 => c1.sq fun d2 v2 env2 p2 F2 H2 s2 r2 c2 => ⟨v, v2, rfl, c2.ret (v, v2) F2 H2 (Same.refl _) c2.S ⟨r1.mono s2, r2⟩⟩
    · exact o.elim
    · exact o.elim
theorem ds_parO (hc : X.calm = true) (hN : X.N.Nodup) (hi : X.N[i]? = some x) (hj : X.N[j]? = some y) (hij : i ≠ j) (hx : X.env.scope.names.lookup x = some .local) (hy : X.env.scope.names.lookup y = some .local) (ha : PE X a (lF R m)) (hb : PE X b (lE R n))
    (hw : swappedStores [.Tuple [.Name x px, .Name y py] kt pt] (.Tuple [a, b] k2 pt2) X.env = pure (some [x, y])) (hs : swapsWithSole [.Tuple [.Name x px, .Name y py] kt pt] (.Tuple [a, b] k2 pt2) pos.line X.env = pure false := by rfl)
    (h1 : starEach [a, b] X.env = (false, eval a X.env) :: starEach [b] X.env := by rfl) (h2 : starEach [b] X.env = (false, eval b X.env) :: starEach [] X.env := by rfl) :
    PS X (.Assign [.Tuple [.Name x px, .Name y py] kt pt] (.Tuple [a, b] k2 pt2) pos) (lS R (dParO i j m n)) :=
  PS.imp (ps_par hc hN hi hj hij hx hy (pa_cons ha (pa_cons hb pa_nil h2) h1) hw hs) fun E σ H ⟨B, env, p, F, S, o⟩ => by
    unfold dParO dOf at o
    split at o
    · rename_i z env' p' e
      obtain ⟨d1, env1, p1, e1, e2⟩ := bind_ok e
      obtain ⟨d2, env2, p2, e3, e4⟩ := bind_ok e2
      cases e4
      obtain ⟨⟨d2', env3, p3⟩, e5, e6⟩ := Res.bind_ok (show (n (env1.map Slot.rd) p1).bind _ = _ from e3)
      cases e6
      refine ⟨B, env, p, F, S, d1, env', p1, e1, fun u F1 H1 s1 S1 fr => ?_⟩
      have Si := S1.inner []
      refine ⟨_, _, p1, F1, Si, d2', env3, p3, e5, fun v F2 H2 s2 S2 r2 => ⟨.ref u, v, rfl, ?_⟩⟩
      have ex := S1.outer S2
      have S3 := S1.ext ex
      exact o _ F2 H2 (s1.trans s2) ((S3.setO (fr.stay S1 ex)).set r2)
    · exact o.elim
    · exact o.elim
theorem ds_parOO (hc : X.calm = true) (hN : X.N.Nodup) (hi : X.N[i]? = some x) (hj : X.N[j]? = some y) (hij : i ≠ j) (hx : X.env.scope.names.lookup x = some .local) (hy : X.env.scope.names.lookup y = some .local) (ha : PE X a (lF R m)) (hb : PE X b (lF R n))
    (hw : swappedStores [.Tuple [.Name x px, .Name y py] kt pt] (.Tuple [a, b] k2 pt2) X.env = pure (some [x, y])) (hs : swapsWithSole [.Tuple [.Name x px, .Name y py] kt pt] (.Tuple [a, b] k2 pt2) pos.line X.env = pure false := by rfl)
    (h1 : starEach [a, b] X.env = (false, eval a X.env) :: starEach [b] X.env := by rfl) (h2 : starEach [b] X.env = (false, eval b X.env) :: starEach [] X.env := by rfl) :
    PS X (.Assign [.Tuple [.Name x px, .Name y py] kt pt] (.Tuple [a, b] k2 pt2) pos) (lS R (dParOO i j m n)) :=
  PS.imp (ps_par hc hN hi hj hij hx hy (pa_cons ha (pa_cons hb pa_nil h2) h1) hw hs) fun E σ H ⟨B, env, p, F, S, o⟩ => by
    unfold dParOO dOf at o
    split at o
    · rename_i z env' p' e
      obtain ⟨d1, env1, p1, e1, e2⟩ := bind_ok e
      obtain ⟨d2, env2, p2, e3, e4⟩ := bind_ok e2
      cases e4
      obtain ⟨⟨d2', env3, p3⟩, e5, e6⟩ := Res.bind_ok (show (n (env1.map Slot.rd) p1).bind _ = _ from e3)
      cases e6
      refine ⟨B, env, p, F, S, d1, env', p1, e1, fun u F1 H1 s1 S1 fr => ?_⟩
      have Si := S1.inner []
      refine ⟨_, _, p1, F1, Si, d2', env3, p3, e5, fun w F2 H2 s2 S2 fr2 => ⟨.ref u, .ref w, rfl, ?_⟩⟩
      have ex := S1.outer S2
      have S3 := S1.ext ex
      have fr1 := fr.stay S1 ex
      have S4 := S3.setO (i := i) fr1
      have hwn : H1 w = none := fr2.b
      have hwu : w ≠ u := by rintro rfl; exact fr.own.there hwn
      have fr2' : FreshA R B (env'.set i (.ow d1)) (σ.set i (some (.ref u))) F2 H2 d2' w := by
        refine ⟨fr2.f, S1.hq hwn, fr2.q, fun k h => ?_, fr2.own⟩
        obtain ⟨⟨s, g1, g2⟩, g3⟩ := h
        by_cases e : i = k
        · subst e
          have hl : i < env'.length := by have := (List.getElem?_eq_some_iff.mp g1).1; simpa using this
          rw [List.getElem?_set_self (by rw [← S1.len]; exact hl)] at g3
          cases g3
          exact hwu rfl
        · rw [List.getElem?_set_ne e] at g1 g3
          exact (S1.ownF ⟨⟨s, g1, g2⟩, g3⟩).2.2 hwn
      exact o _ F2 H2 (s1.trans s2) (S4.setO fr2')
    · exact o.elim
    · exact o.elim
end
end CS
namespace CSN
open PySem PySem.W Builtin
section
variable {prog : Program} {w : World} {A : Around} {E : Value → Shared → Prop} {s : Shared} {K : Frag} {x C f : Addr} {ox : Obj} {od : Option Obj} {name : Str} {b : Value}
theorem ifBound_B {M : Model} {id : String} {args : List Value} {Q : Option Value → Shared → Prop} (X : K.In s.heap) (I : InstAt s.heap x ox C od) (hs : findIn K (.ref C) name = some (some (.builtin id))) (S : Slot "object" name id)
    (h : wpAny M A (call (.builtin id) (.ref x :: args)) (fun v => Q (some v)) E s) : wpAny M A (callSpecialIfBound? (.ref x) name args) Q E s := by
  simp only [callSpecialIfBound?, bindSpecialIfBound?]
  refine wpAny_holding (wpAny_bind (wpAny_bind (wpAny_bind (I.type.here ((looks_findIn X hs).here ?_)))))
  simp only [S.bind]
  refine wpAny_bind (wpAny_askSetting (wpAny_ite ?_))
  have fin : wpAny M A (call (.builtin id) ([.ref x] ++ args) >>= fun v => pure (some v)) Q E s := wpAny_bind (wpAny_mono h (fun v s' h' => wpAny_pure h') fun _ _ h' => h')
  split
  · exact wpAny_bind (wpAny_pure (wpAny_pure fin))
  · exact wpAny_tryCatch (wpAny_bind (wpAny_pure (wpAny_pure fin)))
theorem check_K {M : Model} {id owner n : String} {rest : List Value} {Q : Unit → Shared → Prop} (hk : builtinKind id = some .slot) (hsp : splitId id = some (owner, n)) (ha : argsOk id ⟨.ref x :: rest, []⟩) (X : K.In s.heap) (I : InstAt s.heap x ox C od)
    (hm : mroIn K C (.type owner) = some true) (hq : Q () s) : wpAny M A (checkBuiltinCall id ⟨.ref x :: rest, []⟩) Q E s := by
  simp only [checkBuiltinCall, hk, hsp]
  refine wpAny_bind ?_
  unfold isInstance
  refine wpAny_bind (I.type.here ((looks_mroIn X hm).here ?_))
  cases hsig : Manifest.signature? id with
  | none => exact wpAny_pure hq
  | some sig =>
    simp only [argsOk, hsig] at ha
    have h2 : Bind.checkArgs id sig ⟨.ref x :: rest, []⟩ = pure () := ha
    show wpAny M A (Bind.checkArgs id sig ⟨.ref x :: rest, []⟩) Q E _
    rw [h2]
    exact wpAny_pure hq
/-- a != b where the class has its own ==, and no own != -/
theorem tryNe_K {Q : Value → Shared → Prop} (hu : A.units + 1 < cLine) (X : K.In s.heap) (I : InstAt s.heap x ox C od) (hne : findIn K (.ref C) "__ne__" = some (some (.builtin "object.__ne__"))) (hm : mroIn K C (.type "object") = some true)
    (hs : findIn K (.ref C) "__eq__" = some (some (.ref f))) (hf : isFn K (.ref f) = true) (h : wpAny (model prog w) A.in1 (call (.ref f) [.ref x, b]) (fun v s' => ∃ k, v = .bool k ∧ Q (.bool (!k)) s') E s) :
    wpAny (model prog w) A (tryCompare (.ref x) "__ne__" b) (fun r s' => ∃ v, r = some v ∧ Q v s') E s := by
  unfold tryCompare
  refine wpAny_bind (ifBound_B X I hne F.cmp_object.ne (wpAny_call (codeAny_call_builtin F.cmp_object.ne.plain F.cmpEntry_ne (check_K F.cmpKind_ne F.cmpSplit_ne (F.cmpArgs_ne _ _) X I hm ?_))))
  unfold Builtin.«object.__ne__»
  repeat (first
    | with_reducible refine wpAny_cRoomFor (show A.in1.units < cLine from hu) ?_
    | (refine wpAny_bind (m := callSpecialIfBound? (.ref x) (Str.ofString "__eq__") [b])
        (ifBound_K X I hs hf (wpAny_mono h (fun r s' hr => by
          obtain ⟨k, rfl, hq⟩ := hr
          repeat (first | exact ⟨_, rfl, hq⟩ | exact wpAny_pure hq | exact wpAny_truthy_bool hq | (refine wpAny_bind (m := truthy (.bool _)) (wpAny_truthy_bool ?_)) | wp_step)) fun _ _ e => e)))
    | wp_step)
theorem cmp_ne_K {L : Addr} {h₀ : Heap} {m : Str → Option Value} {tb : Value} {Q : Value → Shared → Prop} (hu : A.units + 1 < cLine) (F : PyProof.Rows.Fr h₀ L s.heap m) (X₀ : K.In h₀) (I : InstAt s.heap x ox C od) (hb : Looks (model prog w) s.heap (typeOf b) tb) (hn : notFirst K C tb = true)
    (hne : findIn K (.ref C) "__ne__" = some (some (.builtin "object.__ne__"))) (hm : mroIn K C (.type "object") = some true) (hs : findIn K (.ref C) "__eq__" = some (some (.ref f))) (hf : isFn K (.ref f) = true)
    (h : wpAny (model prog w) A.in1 (call (.ref f) [.ref x, b]) (fun v s' => ∃ k, v = .bool k ∧ Q (.bool (!k)) s') E s) : wpAny (model prog w) A (richCompare .NotEq (.ref x) b) Q E s := by
  have X := X₀.keeps F.keep
  have one := tryNe_K (Q := Q) hu X I hne hm hs hf h
  unfold richCompare
  simp only [oneThing_ref]
  refine wpAny_holding (wpAny_bind (wpAny_cRoomFor (Nat.lt_of_succ_lt hu) ?_))
  refine wpAny_bind (I.type.here (wpAny_bind (hb.here ?_)))
  split
  · rename_i q
    have e : subIn K tb (.ref C) = some false := by
      rcases Bool.or_eq_true_iff.mp hn with e | e
      · rw [beq_iff_eq.mp e] at q; simp at q
      · exact beq_iff_eq.mp e
    refine wpAny_bind ((looks_subIn X e).here ?_)
    simp only [Bool.false_eq_true, if_false]
    refine wpAny_bind (wpAny_mono one (fun r s' z => ?_) fun _ _ e => e)
    obtain ⟨v, rfl, hq⟩ := z
    exact wpAny_pure hq
  · refine wpAny_bind (wpAny_pure ?_)
    simp only [Bool.false_eq_true, if_false]
    refine wpAny_bind (wpAny_mono one (fun r s' z => ?_) fun _ _ e => e)
    obtain ⟨v, rfl, hq⟩ := z
    exact wpAny_pure hq
end
end CSN

namespace CS
open PySem L2
open PyProof.Rows (envOfC)

/-! ## == and != by a class's own __eq__ -/
structure EqF (K : PySem.W.Frag) (C f : Addr) : Prop where
  eq : PySem.W.findIn K (.ref C) "__eq__" = some (some (.ref f))
  fn : PySem.W.isFn K (.ref f) = true
  ne : PySem.W.findIn K (.ref C) "__ne__" = some (some (.builtin "object.__ne__"))
  ob : PySem.W.mroIn K C (.type "object") = some true
def rEqO (C : Addr) (sp : Sp) (neg : Bool) : R2 := fun x y H Q => ∃ a b dx dy fs gs, x = .ref a ∧ y = .ref b ∧ H a = some (.ins C dx fs) ∧ H b = some (.ins C dy gs) ∧ sp [x, y] H (fun v H' => ∃ k, v = .bl k ∧ Q (.bl (if neg then !k else k)) H') E0
section
variable {X : Cx} {CX : CXT} {C f : Addr} {fd : FuncData} {ps : List Str} {sp : Sp} {n : Nat}
theorem run_in {A : Around} {pins : List (Addr × Obj)} {σ : St} {H : Hp} {s : Shared} {Q : VK} {E : XK} {us : List Value} {vs : List V} (F : FnOk X.prog X.w X.K X.mg X.base CX n f fd ps sp) (hr : Room n A) (hfr : A.frames = X.A.frames) (hb : Binds X.K fd ps []) (hx : Passes CX X E)
    (I : Inv X pins σ H s) (r : Vals vs us) (h : sp vs H Q E) : wpAny (model X.prog X.w) A (call (.ref f) us) (EP X pins σ Q) X.xe s := by
  have hl : us.length = ps.length := by rw [← r.length]; exact F.len _ _ _ _ h
  have e0 : Env0 X.prog X.w X.K X.mg X.base A X.stack s H := by
    have e := I.env0
    exact ⟨by rw [hfr]; exact e.frames, e.mod, e.bs, e.bsz, e.funs, e.frf, e.hok, e.bare⟩
  refine wpAny_call (codeAny_mono (F.run A X.stack s H ⟨us, []⟩ us vs Q E hr e0 (by
    have := hb s us I.kIn (by simpa using hl)
    simpa using this) r h) fun r s' hq => ?_)
  cases r with
  | error e => exact hx pins σ H s e s' I hq
  | ok fl =>
    cases fl with
    | ret u => exact I.after hq
    | next => exact False.elim hq
    | brk => exact False.elim hq
    | cont => exact False.elim hq
theorem op_eqO (G : EqF X.K C f) (F : FnOk X.prog X.w X.K X.mg X.base CX n f fd ps sp) (hr : Room n X.A) (hb : Binds X.K fd ps []) (hx : Passes CX X E0) : OpR X (compareOp .Eq) (rEqO C sp false) := by
  intro pins s σ H x y v u Q I rx ry h
  obtain ⟨a, b, dx, dy, fs, gs, rfl, rfl, ha, hb', q⟩ := h
  cases rx
  cases ry
  obtain ⟨mA, J, _⟩ := ins_get I.hok ha
  obtain ⟨mB, J', _⟩ := ins_get I.hok hb'
  obtain ⟨od, J, _⟩ := J.look
  obtain ⟨od', J', _⟩ := J'.look
  obtain ⟨m, hF⟩ := I.fr
  refine PySem.W.cmp_K (op := .Eq) (tb := .ref C) hr.units0 hF I.ok.mod.kin J J'.type (by simp [PySem.W.notFirst]) G.eq G.fn ?_
  refine wpAny_mono (run_in (vs := [V.ref a, V.ref b]) F hr rfl hb hx I (.cons rfl (.cons rfl .nil)) q) (fun v s' z => ?_) fun _ _ x => x
  obtain ⟨z, H', I', rz, k, rfl, q'⟩ := z
  cases rz
  exact ⟨.bl k, H', I', rfl, q'⟩
theorem op_neO (G : EqF X.K C f) (F : FnOk X.prog X.w X.K X.mg X.base CX n f fd ps sp) (hr : Room (n + 1) X.A) (hb : Binds X.K fd ps []) (hx : Passes CX X E0) : OpR X (compareOp .NotEq) (rEqO C sp true) := by
  intro pins s σ H x y v u Q I rx ry h
  obtain ⟨a, b, dx, dy, fs, gs, rfl, rfl, ha, hb', q⟩ := h
  cases rx
  cases ry
  obtain ⟨mA, J, _⟩ := ins_get I.hok ha
  obtain ⟨mB, J', _⟩ := ins_get I.hok hb'
  obtain ⟨od, J, _⟩ := J.look
  obtain ⟨od', J', _⟩ := J'.look
  obtain ⟨m, hF⟩ := I.fr
  refine CSN.cmp_ne_K (tb := .ref C) (by have := hr.units; omega) hF I.ok.mod.kin J J'.type (by simp [PySem.W.notFirst]) G.ne G.ob G.eq G.fn ?_
  refine wpAny_mono (run_in (vs := [V.ref a, V.ref b]) F hr.in1 rfl hb hx I (.cons rfl (.cons rfl .nil)) q) (fun v s' z => ?_) fun _ _ x => x
  obtain ⟨z, H', I', rz, k, rfl, q'⟩ := z
  cases rz
  exact ⟨k, rfl, .bl (!k), H', I', rfl, q'⟩
end
/-- an operator that may call -/
structure OpM (R : RC) (r : R2) (f : D → D → M D) : Prop where
  run : ∀ {B : Bs} {env : Env'} {p : Pn} {σ : St} {F H : Hp} {x y : D} {v w : V} {Q : VK}, Cn R (Rep R) (f x y) Q σ B env p F H → Rep R F x v → Rep R F y w → r v w H Q
def m2M (f : D → D → M D) (a b : M D) : M D := a >>= fun x => b >>= fun y => f x y
section
variable {X : Cx} {R : RC} {a b : Expr} {m n : M D} {f : D → D → M D} {r : R2} {pos : Pos}
theorem op2M (hd : OpM R r f) {σ : St} {H : Hp} {Q : VK} (h : lE R (m2M f m n) σ H Q) : tOp r (lE R m) (lE R n) σ H Q := by
  obtain ⟨B, env, p, F, c⟩ := h
  exact c.sq fun x v env1 p1 F1 H1 s1 r1 c1 => c1.sq fun y w env2 p2 F2 H2 s2 r2 c2 => hd.run c2 (r1.mono s2) r2
theorem de_cmpM {op : CmpOp} (ho : OpR X (compareOp op) r) (hd : OpM R r f) (ha : PE X a (lE R m)) (hb : PE X b (lE R n)) (hm : behindInMarks op b = false) : PE X (.Compare a [op] [b] pos) (lE R (m2M f m n)) :=
  PE.imp (pe_cmpR ho ha hb hm) fun _ _ _ h => op2M hd h
theorem dt_cmpM {op : CmpOp} (ho : OpR X (compareOp op) r) (hd : OpM R r f) (ha : PE X a (lE R m)) (hb : PE X b (lE R n)) (hm : behindInMarks op b = false) : PT X (.Compare a [op] [b] pos) (lT R (mB (m2M f m n))) :=
  PT.imp (pt_cmpR ho ha hb hm) fun _ _ _ h => tst (te := tOp r (lE R m) (lE R n)) (fun h => op2M hd h) h
end
/-- of two objects of one class by its __eq__ (mf), of data item by item -/
def eqM (neg : Bool) (c : Str) (mf : FD) (x y : D) : M D := match x, y with
  | .ins c1 ns xs, .ins c2 ms ys => if c1 = c ∧ c2 = c then M.fn (mf [.ins c1 ns xs, .ins c2 ms ys]) >>= fun r => M.res (asB r) >>= fun k => M.ret (.bl (if neg then !k else k)) else M.res .bad
  | x, y => M.res (if neg then neD x y else eqD x y)
theorem eqM_d {R : RC} {neg : Bool} {c : Str} {mf : FD} (hn : ∀ ds p r, mf ds p = .ok r → ds.length = 2) : OpM R (fun x y H Q => (if neg then rNeD R.K else rEqD R.K) x y H Q ∨ rEqO (R.cls c) (spD R.K R.cls 2 mf) neg x y H Q) (eqM neg c mf) := ⟨fun {B env p σ F H x y v w Q} cn rx ry => by
  unfold eqM at cn
  split at cn
  · rename_i c1 ns xs c2 ms ys
    split at cn
    · rename_i hc
      obtain ⟨rfl, rfl⟩ := hc
      obtain ⟨S, z, env', p', e, q⟩ := cn
      obtain ⟨d, env1, p1, e1, e2⟩ := bind_ok e
      obtain ⟨⟨d', p2⟩, e3, e4⟩ := Res.bind_ok (show (mf _ p).bind _ = _ from e1)
      cases e4
      obtain ⟨k, env2, p3, e5, e6⟩ := bind_ok e2
      obtain ⟨k', e7, e8⟩ := Res.bind_ok (show (asB d').bind _ = _ from e5)
      cases e8
      cases e6
      cases asB_ok e7
      have rx' := rx
      have ry' := ry
      simp only [Rep] at rx ry
      obtain ⟨a, dx, vs, rfl, h1, l1, r1⟩ := rx
      obtain ⟨b, dy, ws, rfl, h2, l2, r2⟩ := ry
      refine .inr ⟨a, b, dx, dy, _, _, rfl, rfl, S.fh _ _ h1, S.fh _ _ h2, R.q, R.ca, R.sf, R.cells, F, p, _, S.fh, fun hp => Same.seq S.f0 (S.cel (by rw [← S.pnb]; exact hp)), S.pen, .cons rx' (.one ry'), rfl, _, _, e3, fun u F' H' ex ru => ?_⟩
      have ru : Rep R F' (.bl k) u := ru
      simp only [Rep] at ru
      exact ⟨k, ru, q _ F' H' ex.ff (S.ext ex) (by simp [Rep])⟩
    · obtain ⟨z, e, _⟩ := cn.res
      cases e
  · obtain ⟨z, e, q⟩ := cn.res
    left
    cases neg with
    | true => exact ne_d.run cn.S rx ry e q
    | false => exact eq_d.run cn.S rx ry e q⟩
end CS
namespace CS
open PySem L2
open PyProof.Rows (envOfC)

/-! ## __init__ -/
def getI (env : Env') (i : Nat) : Res (Str × List Str × List D) := match env[i]? with
  | some (.ow (.ins c ns ds)) => .ok (c, ns, ds)
  | some (.ro (.ins c ns ds)) => .ok (c, ns, ds)
  | _ => .bad
def getIW (env : Env') (i : Nat) : Res (Str × List Str × List D) := match env[i]? with
  | some (.ow (.ins c ns ds)) => .ok (c, ns, ds)
  | _ => .bad
/-- self.f, self being made -/
def mFldO (i : Nat) (cl : List Str) (f : Str) : M D := fun env p => (getI env i).bind fun r => (fldD cl f (.ins r.1 r.2.1 r.2.2)).bind fun d => .ok (d, env, p)
/-- self.f = e -/
def dFldS (i : Nat) (cl : List Str) (f : Str) (m : M D) : SS := dOf m fun d env p => match getIW env i with
  | .ok (c, ns, ds) => if c ∈ cl ∧ f ∉ ns ∧ ns.length < 1000 ∧ ds.length = ns.length then .nx (env.set i (.ow (.ins c (ns ++ [f]) (ds ++ [d])))) p else .bad
  | _ => .bad
theorem putF_new {f : Str} {y : V} : ∀ {ns : List Str} {vs : List V}, f ∉ ns → vs.length = ns.length → putF f y (ns.zip vs) = (ns ++ [f]).zip (vs ++ [y])
  | [], [], _, _ => rfl
  | [], v :: vs, _, h => by simp at h
  | n :: ns, [], _, h => by simp at h
  | n :: ns, v :: vs, hf, h => by
    have h1 : ¬ n = f := fun e => hf (by rw [e]; exact List.mem_cons_self)
    show (if n = f then (n, y) :: ns.zip vs else (n, v) :: putF f y (ns.zip vs)) = _
    rw [if_neg h1, putF_new (fun z => hf (List.mem_cons_of_mem _ z)) (by simpa using h)]
    rfl
section
variable {X : Cx} {R : RC} {B : Bs} {env : Env'} {p : Pn} {σ : St} {F H : Hp}
theorem getI_ok {i : Nat} {c : Str} {ns : List Str} {ds : List D} (h : getI env i = .ok (c, ns, ds)) (S : SRel R B env p σ F H) : ∃ a dx vs, σ[i]? = some (some (.ref a)) ∧ H a = some (.ins (R.cls c) dx (ns.zip vs)) ∧ vs.length = ns.length ∧ Reps R F ds vs := by
  unfold getI at h
  split at h
  · rename_i e
    cases h
    obtain ⟨a, h1, _, _, _, o⟩ := S.slots i _ e
    rcases o with ⟨ds', vs, e, _⟩ | ⟨_, _, _, dx, vs, _, e, h2, l, r⟩
    · cases e
    · cases e; exact ⟨a, dx, vs, h1, h2, l, r⟩
  · rename_i e
    cases h
    obtain ⟨a, h1, _, _, o⟩ := S.slots i _ e
    rcases o with ⟨ds', vs, e, _⟩ | ⟨_, _, _, dx, vs, _, e, h2, l, r⟩
    · cases e
    · cases e; exact ⟨a, dx, vs, h1, h2, l, r⟩
  · cases h
end
section
variable {X : Cx} {R : RC} {i : Nat} {x : Str} {e : Expr} {m : M D} {f : Str} {pos px pos' : Pos}
theorem de_fldO {cl : List Str} (hK : X.K = R.K) (hF : FldF R cl f) (hv : PE X (.Name x px) (tVar i)) (hb : attributeBase (.Name x px) f X.env (eval (.Name x px) X.env) = eval (.Name x px) X.env) : PE X (.Attribute (.Name x px) f pos) (lE R (mFldO i cl f)) :=
  PE.imp (pe_fld hv hb) fun σ H Q ⟨B, env, p, F, S, d, env', p', e, q⟩ => by
    obtain ⟨⟨c, ns, ds⟩, e1, e2⟩ := Res.bind_ok (show (getI env i).bind _ = _ from e)
    obtain ⟨d', e3, e4⟩ := Res.bind_ok e2
    cases e4
    obtain ⟨a, dx, vs, h1, h2, l, r⟩ := getI_ok e1 S
    unfold fldD at e3
    simp only at e3
    split at e3
    · rename_i hc
      split at e3
      · rename_i d'' hd
        cases e3
        obtain ⟨u, hu, ru⟩ := r.look hd
        rw [hK]
        exact ⟨.ref a, h1, a, R.cls c, dx, _, u, rfl, h2, (hF c hc).1, (hF c hc).2, hu, q u F H (Same.refl _) S ru⟩
      · cases e3
    · cases e3
theorem ds_fldS {cl : List Str} (hK : X.K = R.K) (hF : FldF R cl f) (hv : PE X (.Name x px) (tVar i)) (he : PE X e (lE R m)) (hs : swapsWith e (some (.Attribute (.Name x px) f pos')) pos.line X.env = pure false) : PS X (.Assign [.Attribute (.Name x px) f pos'] e pos) (lS R (dFldS i cl f m)) :=
  PS.imp (ps_fld hv he hs) fun E σ H h => of1 (te := lE R m) (fun h => h) h fun B d v env p F H S r o => by
    split at o
    · rename_i c ns ds hg
      split at o
      · rename_i hc
        have hi : env[i]? = some (.ow (.ins c ns ds)) := by
          unfold getIW at hg
          split at hg
          · rename_i e; cases hg; exact e
          · cases hg
        obtain ⟨a, h1, h2, h3, h4, own⟩ := S.slots i _ hi
        rcases own with ⟨ds', vs, e, _⟩ | ⟨_, _, _, dx, vs, hsf, e, hH, l, rs⟩
        · cases e
        · cases e
          have hz : (ns.zip vs).length < 1000 := by rw [List.length_zip]; omega
          refine ⟨.ref a, h1, a, R.cls c, dx, _, rfl, hH, by rw [hK]; exact (hF c hc.1).1, by rw [hK]; exact (hF c hc.1).2, hz, ?_⟩
          rw [putF_new hc.2.1 l]
          refine o σ F _ (Same.refl _) (S.mut hi h1 (.inr ⟨c, ns ++ [f], ds ++ [d], dx, vs ++ [v], hsf, rfl, upd_same, by simp [l], rs.append (.one r)⟩))
      · exact o.elim
    · exact o.elim
end
def spI (K : PySem.W.Frag) (cls : Str → Addr) (c : Str) (n : Nat) (mf : FD) : Sp := fun vs H Q _ => ∃ (q ca : Addr) (cells : List Int) (F : Hp) (p : Pn) (ds : List D) (vs' : List V) (x dx : Addr), vs = .ref x :: vs' ∧ H x = some (.ins (cls c) dx []) ∧ F x = none ∧ (x ≠ q ∨ p = none) ∧ Same F H ∧
  (p.isSome = true → SqL K F ca (cells.map V.int)) ∧ PenRel ⟨K, cls, q, ca, cells, x⟩ F H p ∧ Reps ⟨K, cls, q, ca, cells, x⟩ F ds vs' ∧ ds.length = n ∧
  ∃ d p', mf ds p = .ok (d, p') ∧ ∀ F' H', Same F F' → Same F' H' → (∀ b o, (b ≠ q ∨ p = none) → b ≠ x → H b = some o → H' b = some o) → (∀ a, F' a ≠ none → F a ≠ none ∨ (a ≠ x ∧ H a = none)) → p'.isSome = p.isSome → PenRel ⟨K, cls, q, ca, cells, x⟩ F' H' p' → F' x = none →
    Own ⟨K, cls, q, ca, cells, x⟩ F' H' d x → Q .non H'
def ownIns (env : Env') : Res D := match env[(0 : Nat)]? with
  | some (.ow (.ins c ns xs)) => .ok (.ins c ns xs)
  | _ => .bad
def initD (c : Str) (n N : Nat) (body : SS) : FD := fun ds p => if ds.length = n then (match body (Slot.ow (.ins c [] []) :: ds.map Slot.pl ++ List.replicate (N - (n + 1)) Slot.un) p with
  | .nx env p' => (ownIns env).bind fun d => .ok (d, p')
  | .exc c xs => .exc c xs
  | _ => .bad) else .bad
theorem initD_len {c : Str} {n N : Nat} {body : SS} (ds : List D) (p : Pn) (r : D × Pn) (h : initD c n N body ds p = .ok r) : ds.length = n := by
  unfold initD at h
  split at h
  · assumption
  · cases h
section
variable {P : Program} {w : World} {K : PySem.W.Frag} {cls : Str → Addr} {mg : Str → Option Value} {base : Heap}
theorem fn_okI {x qual c : Str} {st : Stmt} {f : Addr} {fd : FuncData} {N ps : List Str} {k n : Nat} {body : SS} (F : FunG K x qual st f fd) (Sc : FnScope N ps (defScope st)) (hps : ps.length = n + 1) (hle : ps.length ≤ N.length)
    (hb : ∀ (cdv : Value) (A : Around) (outer : List Env) (s : Shared) (H : Hp) (E : XK) (q ca sf : Addr) (cells : List Int), Room k (A.deeper (envOfC qual (defScope st) s.heap.objs.size f cdv)) →
      PSs (cxOf CX0 P w K mg base N qual (defScope st) f cdv A outer s H E).nox (defBody st) (lS ⟨K, cls, q, ca, cells, sf⟩ body)) :
    FnOk P w K mg base CX0 (k + 1) f fd ps (spI K cls c n (initD c n N.length body)) := by
  refine F.ok Sc (fun vs H Q E h => ?_) (fun cdv A outer s H vs Q E hr h => ?_)
  · obtain ⟨q, ca, cells, F, p, ds, vs', x, dx, rfl, _, _, _, _, _, _, r, hl, _⟩ := h
    rw [List.length_cons, r.length, hl, hps]
  · obtain ⟨q, ca, cells, F, p, ds, vs', x, dx, rfl, hx, hFx, hxq, fh, cel, pen, r, hl, d, p', e, hq⟩ := h
    have lenN : n + 1 ≤ N.length := by omega
    refine ⟨_, hb cdv A outer s H E q ca x cells hr, ⟨F, fun a => if a = x then none else H a, p.isSome⟩, Slot.ow (.ins c [] []) :: ds.map Slot.pl ++ List.replicate (N.length - (n + 1)) Slot.un, p, F, ?_, ?_⟩
    · refine ⟨fh, Same.refl _, fun b o _ h => ?_, fun _ h => .inl h, rfl, pen, cel, ?_, fun i s hi => ?_, fun i j a hij h1 h2 => ?_⟩
      · have h : (if b = x then none else H b) = some o := h
        split at h
        · cases h
        · exact h
      · unfold L2.start
        simp only [List.length_append, List.length_cons, List.length_map, List.length_replicate]
        rw [r.length, hl]
      · cases i with
        | zero =>
          cases hi
          refine ⟨x, rfl, hFx, if_pos rfl, hxq.imp id fun e => by show p.isSome = false; rw [e]; rfl, .inr ⟨c, [], [], dx, [], rfl, rfl, hx, rfl, .nil⟩⟩
        | succ i =>
          have h2 : (L2.start N (V.ref x :: vs'))[i + 1]? = (L2.start (N.drop 1) vs')[i]? := by
            unfold L2.start
            have hl1 : (N.drop 1).length = N.length - 1 := by simp
            rw [hl1]
            show (some (V.ref x) :: vs'.map some ++ _)[i + 1]? = _
            rw [List.cons_append, List.getElem?_cons_succ, List.length_cons]
            rw [show N.length - (vs'.length + 1) = N.length - 1 - vs'.length by omega]
          rw [h2]
          refine r.start i s ?_ _ _
          rw [List.cons_append, List.getElem?_cons_succ] at hi
          rw [List.length_drop, hl, show N.length - 1 - n = N.length - (n + 1) by omega]
          exact hi
      · have only : ∀ i, OwnAt (Slot.ow (.ins c [] []) :: ds.map Slot.pl ++ List.replicate (N.length - (n + 1)) Slot.un) (L2.start N (V.ref x :: vs')) i a → i = 0 := fun i h => by
          cases i with
          | zero => rfl
          | succ i =>
            obtain ⟨⟨s, g1, g2⟩, _⟩ := h
            rw [List.cons_append, List.getElem?_cons_succ] at g1
            rcases List.mem_append.mp (List.mem_of_getElem? g1) with hm | hm
            · obtain ⟨d, _, rfl⟩ := List.mem_map.mp hm
              cases g2
            · rw [List.eq_of_mem_replicate hm] at g2
              cases g2
        exact hij ((only i h1).trans (only j h2).symm)
    · unfold initD at e
      rw [if_pos hl] at e
      split at e
      · rename_i env' p2 hbd
        obtain ⟨d2, he0, e2⟩ := Res.bind_ok e
        cases e2
        unfold ownIns at he0
        split at he0
        · rename_i c' ns xs he
          cases he0
          rw [hbd]
          intro σ' F' H' s' S'
          obtain ⟨a, g1, g2, g3, g4, g5⟩ := S'.slots 0 _ he
          have ha : a = x := by
            rcases g5 with ⟨_, _, e, _⟩ | ⟨_, _, _, _, _, e, _⟩
            · cases e
            · exact e
          subst ha
          refine hq F' H' s' S'.fh (fun b o hb' hbx h => S'.h0 b o (hb'.imp id fun z => by show p.isSome = false; rw [z]; rfl) (by show (if b = a then none else H b) = some o; rw [if_neg hbx]; exact h)) (fun b h => ?_) S'.pnb S'.pen g2 g5
          rcases S'.fresh b h with h1 | h1
          · exact .inl h1
          · have h1 : (if b = a then none else H b) = none := h1
            by_cases hb : b = a
            · subst hb; exact absurd g2 h
            · rw [if_neg hb] at h1
              exact .inr ⟨hb, h1⟩
        · cases he0
      · cases e
      · cases e
end
section
variable {X : Cx} {R : RC} {CX : CXT} {k n : Nat} {f : Addr} {fd : FuncData} {ps : List Str} {dvs : List V} {dv : List Value} {dd : List D} {mf : FD} {x c : Str} {p pos : Pos} {e : Expr} {es : List Expr} {ms : M (List D)}
mutual
theorem Rep.sf {K : PySem.W.Frag} {cls : Str → Addr} {q ca : Addr} {cells : List Int} {s t : Addr} {F : Hp} : ∀ {d : D} {v : V}, Rep ⟨K, cls, q, ca, cells, s⟩ F d v → Rep ⟨K, cls, q, ca, cells, t⟩ F d v
  | .non, _, h => by simpa [Rep] using h
  | .bl _, _, h => by simpa [Rep] using h
  | .int _, _, h => by simpa [Rep] using h
  | .str _, _, h => by simpa [Rep] using h
  | .tup ds, v, h => by
    simp only [Rep] at h ⊢
    obtain ⟨a, vs, e, q, r⟩ := h
    exact ⟨a, vs, e, q, Reps.sf r⟩
  | .lst ds, v, h => by
    simp only [Rep] at h ⊢
    obtain ⟨a, vs, e, q, r⟩ := h
    exact ⟨a, vs, e, q, Reps.sf r⟩
  | .ins c ns ds, v, h => by
    simp only [Rep] at h ⊢
    obtain ⟨a, dx, vs, e, q, l, r⟩ := h
    exact ⟨a, dx, vs, e, q, l, Reps.sf r⟩
  | .pen, _, h => by simpa [Rep] using h
  | .ty _, _, h => by simpa [Rep] using h
  | .cls _, _, h => by simpa [Rep] using h
theorem Reps.sf {K : PySem.W.Frag} {cls : Str → Addr} {q ca : Addr} {cells : List Int} {s t : Addr} {F : Hp} : ∀ {ds : List D} {vs : List V}, Reps ⟨K, cls, q, ca, cells, s⟩ F ds vs → Reps ⟨K, cls, q, ca, cells, t⟩ F ds vs
  | [], _, h => by simpa [Reps] using h
  | d :: ds, _, h => by
    simp only [Reps] at h ⊢
    obtain ⟨v, r, e, h1, h2⟩ := h
    exact ⟨v, r, e, Rep.sf h1, Reps.sf h2⟩
end
theorem make2 (hdd : ∀ F, Reps R F dd dvs) (hn : ∀ ds p r, mf ds p = .ok r → ds.length = n) {σ : St} {H : Hp} {Q : VK} (h : lE R (mCall mf dd ms) σ H Q) : tMake (R.cls c) (spI R.K R.cls c n mf) dvs E0 (lA R ms) σ H Q := by
  obtain ⟨B, env, p, F, cn⟩ := h
  refine cn.sq fun ds vs env1 p1 F1 H1 s1 r1 c1 => ?_
  obtain ⟨S, z, env', p', e, q⟩ := c1
  obtain ⟨⟨d, p2⟩, e1, e2⟩ := Res.bind_ok (show (mf (ds ++ dd) p1).bind _ = _ from e)
  cases e2
  intro x dx hx hdx hne
  -- the heap with the new object
  have ex1 := S.allocO (o := .own x) hdx
  have S1 := S.ext ex1
  have hx1 : (upd H1 dx (.own x)) x = none := by rw [upd_ne hne.symm]; exact hx
  have ex2 := S1.allocO (o := .ins (R.cls c) dx []) hx1
  have S2 := S1.ext ex2
  have hFx : F1 x = none := S.fh.free hx
  refine ⟨R.q, R.ca, R.cells, F1, p1, ds ++ dd, vs ++ dvs, x, dx, rfl, upd_same, hFx, (S.nqOf hx).imp id S.pnone.mp, S2.fh, fun hp => Same.seq S.f0 (S.cel (by rw [← S.pnb]; exact hp)), S2.pen, (r1.append (hdd F1)).sf, hn _ _ _ e1, d, p2, e1, fun F' H' ff fh hh fr pnb pen hF'x own => ?_⟩
  refine ⟨rfl, ?_⟩
  obtain ⟨u, hu, ru⟩ := own.repF hF'x
  -- from the heap before the object was there
  have ex : Ext R F1 H1 p1 (upd F' x u) H' p2 := by
    refine ⟨ff.trans (same_upd hF'x), fun b o h => ?_, fun b o hb h => ?_, fun a h => ?_, pnb, ?_⟩
    · by_cases hbx : b = x
      · subst hbx; rw [upd_same] at h; rw [hu]; exact h
      · rw [upd_ne hbx] at h; exact fh _ _ h
    · have hbx : b ≠ x := ne_of_none h hx
      have hbd : b ≠ dx := ne_of_none h hdx
      exact hh b o hb hbx (by rw [upd_ne hbx, upd_ne hbd]; exact h)
    · by_cases hax : a = x
      · subst hax; exact .inr hx
      · rw [upd_ne hax] at h
        rcases fr a h with h1 | ⟨_, h1⟩
        · exact .inl h1
        · rw [upd_ne hax] at h1
          by_cases had : a = dx
          · subst had; exact .inr hdx
          · rw [upd_ne had] at h1; exact .inr h1
    · cases p2 with
      | none => trivial
      | some P =>
        obtain ⟨g1, g2, g3⟩ := pen
        refine ⟨?_, g2, g3⟩
        have hxq : x ≠ R.q := by
          have hp : p1.isSome = true := pnb.symm
          cases p1 with
          | none => cases hp
          | some P1 => exact S.nq (S.nqOf hx)
        rw [upd_ne (Ne.symm hxq)]; exact g1
  exact q (.ref x) _ H' ex.ff (S.ext ex) ru.sf
theorem de_make (hK : X.K = R.K) {C : Addr} (hC : C = R.cls c) (M : Mk X.K C f) (F : FnOk X.prog X.w X.K X.mg X.base CX k f fd ps (spI R.K R.cls c n mf)) (hn : ∀ ds p r, mf ds p = .ok r → ds.length = n) (hr : Room (k + 1) X.A) (hg : Gl X x) (hm : X.mg x = some (.ref C)) (hb : Binds X.K fd ps dv) (hd : Vals dvs dv) (hdd : ∀ F, Reps R F dd dvs) (hx : Passes CX X E0)
    (ha : PA X (e :: es) (lA R ms)) (hdb : (x == ("__debug__" : Str)) = false := by decide) (he : starEach (e :: es) X.env = (false, eval e X.env) :: starEach es X.env := by rfl) (hpl : (backTo pos (starEach es X.env)).any (·.1) = false := by rfl) :
    PE X (.Call (.Name x p) (e :: es) [] pos) (lE R (mCall mf dd ms)) := by
  subst hC
  exact PE.imp (pe_make M F hr hg hm hb hd hx ha hdb he hpl) fun _ _ _ h => make2 hdd hn h
end
end CS
namespace CS
open PySem L2
open PyProof.Rows (envOfC)

/-! ## names of the module and of the built-ins as values -/
section
variable {X : Cx} {R : RC} {x : Str} {pos : Pos}
theorem de_ty {n : String} (hg : Gl X x) (hm : X.mg x = none) (hv : bootBuiltins x = some (.type n)) (hn : x ≠ "__name__" := by decide) (hd : (x == ("__debug__" : Str)) = false := by decide) : PE X (.Name x pos) (lE R (M.ret (.ty n))) :=
  de_const (v := .ty n) (pe_bltn hg hm hv rfl hn hd) fun _ => by simp [Rep]
theorem de_cls {c : Str} {C : Addr} (hC : C = R.cls c) (hg : Gl X x) (hm : X.mg x = some (.ref C)) (hd : (x == ("__debug__" : Str)) = false := by decide) : PE X (.Name x pos) (lE R (M.ret (.cls c))) :=
  de_const (v := .ref C) (pe_glob hg hm rfl hd) fun _ => by simp [Rep, hC]
theorem de_gint {i : Int} {t : Tok} (hg : Gl X x) (hm : X.mg x = some (.int i t)) (hd : (x == ("__debug__" : Str)) = false := by decide) : PE X (.Name x pos) (lE R (M.ret (.int i))) :=
  de_const (v := .int i) (pe_glob hg hm ⟨t, rfl⟩ hd) fun _ => by simp [Rep]
end

/-! ## built-in calls that make a list which stays free to change -/
structure CallL (R : RC) (r : List V → Hp → VK → Prop) (f : List D → Res D) : Prop where
  run : ∀ {B : Bs} {env : Env'} {p : Pn} {σ : St} {F H : Hp} {xs : List D} {z : D} {vs : List V} {Q : VK}, SRel R B env p σ F H → Reps R F xs vs → f xs = .ok z → (∀ ds ws, z = .lst ds → Reps R F ds ws → ∀ a, H a = none → Q (.ref a) (upd H a (.lst ws))) → r vs H Q
structure OpL (R : RC) (r : R2) (f : D → D → Res D) : Prop where
  run : ∀ {B : Bs} {env : Env'} {p : Pn} {σ : St} {F H : Hp} {x y z : D} {v w : V} {Q : VK}, SRel R B env p σ F H → Rep R F x v → Rep R F y w → f x y = .ok z → (∀ ds ws, z = .lst ds → Reps R F ds ws → ∀ a, H a = none → Q (.ref a) (upd H a (.lst ws))) → r v w H Q
section
variable {R : RC}
theorem list_l : CallL R (fun xs H Q => ∃ p ys, xs = [.ref p] ∧ (SqL R.K H p ys ∨ SqT R.K H p ys) ∧ ∀ l, H l = none → Q (.ref l) (upd H l (.lst ys))) listD := ⟨fun {B env p σ F H xs z vs Q} S r h q => by
  unfold listD at h
  split at h
  · obtain ⟨v, rfl, r1⟩ := r.one1
    cases h
    simp only [Rep] at r1
    obtain ⟨a, ws, rfl, h1, r1⟩ := r1
    exact ⟨a, ws, rfl, .inl (SqL.of (S.fh _ _ h1)), q _ _ rfl r1⟩
  · obtain ⟨v, rfl, r1⟩ := r.one1
    cases h
    simp only [Rep] at r1
    obtain ⟨a, ws, rfl, h1, r1⟩ := r1
    exact ⟨a, ws, rfl, .inr (Same.sqt S.fh h1), q _ _ rfl r1⟩
  · cases h⟩
theorem sorted_l : CallL R (rSortedI R.K) sortedI := ⟨fun {B env p σ F H xs z vs Q} S r h q => by
  unfold sortedI at h
  split at h
  · obtain ⟨is, h1, h2⟩ := Res.bind_ok h
    cases h2
    cases toInts_ok h1
    obtain ⟨v, rfl, r1⟩ := r.one1
    simp only [Rep] at r1
    obtain ⟨a, ws, rfl, g1, r1⟩ := r1
    cases Reps.ints r1
    refine ⟨a, is, rfl, SqL.of (S.fh _ _ g1), fun ns' l h1 h2 hn => ?_⟩
    have e : ns' = sortI is := sorted_unique (h1.trans (sortI_perm is).symm) h2 (sortI_sorted is)
    subst e
    exact q _ _ rfl (Reps.of_ints _) l hn
  · cases h⟩
theorem mulL_l : OpL R rRep mulL := ⟨fun {B env p σ F H x y z v w Q} S rx ry h q => by
  unfold mulL at h
  split at h
  · split at h
    · rename_i k hz
      obtain ⟨rfl, hl⟩ := mkL_ok h
      simp only [Rep] at rx ry
      obtain ⟨a, vs, e, h1, r1⟩ := rx
      refine ⟨a, k, vs, e, ry, S.fh _ _ h1, hz.2, hz.1, ?_, q _ _ rfl (r1.flat k.toNat)⟩
      rw [r1.length]
      simpa [List.length_flatten, List.map_replicate, List.sum_replicate_nat, Nat.mul_comm] using hl
    · cases h
  · cases h⟩
theorem addL_l : OpL R rCat addL := ⟨fun {B env p σ F H x y z v w Q} S rx ry h q => by
  unfold addL at h
  split at h
  · obtain ⟨rfl, hz⟩ := mkL_ok h
    simp only [Rep] at rx ry
    obtain ⟨a, vs, e, h1, r1⟩ := rx
    obtain ⟨b, ws, e', h2, r2⟩ := ry
    refine ⟨a, b, vs, ws, e, e', S.fh _ _ h1, S.fh _ _ h2, ?_, q _ _ rfl (r1.append r2)⟩
    rw [r1.length, r2.length, ← List.length_append]; exact hz
  · cases h⟩
end
section
variable {X : Cx} {R : RC} {e a b : Expr} {es : List Expr} {m n : M D} {ms : M (List D)} {pos ps : Pos}
theorem cbL {r : List V → Hp → VK → Prop} {f : List D → Res D} (hd : CallL R r f) {σ : St} {H : Hp} {Q : VK} (h : lF R (mCB f ms) σ H Q) : tCB r (lA R ms) σ H Q := by
  obtain ⟨B, env, p, F, S, d, env', p', e, q⟩ := h
  obtain ⟨ds, env1, p1, e1, e2⟩ := bind_ok (show (ms >>= _) env p = _ from e)
  obtain ⟨z, e3, e4⟩ := Res.bind_ok (show (f ds).bind _ = _ from e2)
  cases e4
  refine ⟨B, env, p, F, S, ds, env', p', e1, fun vs F' H' s S' r => hd.run S' r e3 fun zs ws hz rz a hn => ?_⟩
  subst hz
  obtain ⟨g1, g2⟩ := S'.newO rz hn
  exact q a F' _ s g1 g2
theorem opL2 {r : R2} {f : D → D → Res D} (hd : OpL R r f) {σ : St} {H : Hp} {Q : VK} (h : lF R (m2 f m n) σ H Q) : tOp r (lE R m) (lE R n) σ H Q := by
  obtain ⟨B, env, p, F, S, d, env', p', e, q⟩ := h
  obtain ⟨x, env1, p1, e1, e2⟩ := bind_ok (show (m >>= _) env p = _ from e)
  obtain ⟨y, env2, p2, e3, e4⟩ := bind_ok e2
  obtain ⟨z, e5, e6⟩ := Res.bind_ok (show (f x y).bind _ = _ from e4)
  cases e6
  refine ⟨B, env, p, F, S, x, env1, p1, e1, fun v F1 H1 s1 S1 r1 => ⟨B, env1, p1, F1, S1, y, env', p', e3, fun w F2 H2 s2 S2 r2 => hd.run S2 (r1.mono s2) r2 e5 fun zs ws hz rz a hn => ?_⟩⟩
  subst hz
  obtain ⟨g1, g2⟩ := S2.newO rz hn
  exact q a F2 _ (s1.trans s2) g1 g2
theorem df_callB {r : List V → Hp → VK → Prop} {f : List D → Res D} {id : String} {x : Str} (hc : CallR X (.builtin id) r) (hd : CallL R r f) (hg : Gl X x) (hm : X.mg x = none) (hv : bootBuiltins x = some (.builtin id)) (ha : PA X (e :: es) (lA R ms)) (hn : x ≠ "__name__" := by decide) (hdb : (x == ("__debug__" : Str)) = false := by decide)
    (he : starEach (e :: es) X.env = (false, eval e X.env) :: starEach es X.env := by rfl) (hpl : (backTo pos (starEach es X.env)).any (·.1) = false := by rfl) : PE X (.Call (.Name x ps) (e :: es) [] pos) (lF R (mCB f ms)) :=
  PE.imp (pe_callB hc hg hm hv ha hn hdb he hpl) fun _ _ _ h => cbL hd h
theorem df_callTy {r : List V → Hp → VK → Prop} {f : List D → Res D} {T : String} {x : Str} (hc : CallR X (.type T) r) (hd : CallL R r f) (hg : Gl X x) (hm : X.mg x = none) (hv : bootBuiltins x = some (.type T)) (ha : PA X (e :: es) (lA R ms)) (hn : x ≠ "__name__" := by decide) (hdb : (x == ("__debug__" : Str)) = false := by decide)
    (he : starEach (e :: es) X.env = (false, eval e X.env) :: starEach es X.env := by rfl) (hpl : (backTo pos (starEach es X.env)).any (·.1) = false := by rfl) : PE X (.Call (.Name x ps) (e :: es) [] pos) (lF R (mCB f ms)) :=
  PE.imp (pe_callTy hc hg hm hv ha hn hdb he hpl) fun _ _ _ h => cbL hd h
theorem df_op {op : Operator} {r : R2} {f : D → D → Res D} (ho : OpR X (binaryOp op) r) (hd : OpL R r f) (ha : PE X a (lE R m)) (hb : PE X b (lE R n)) : PE X (.BinOp a op b pos) (lF R (m2 f m n)) :=
  PE.imp (pe_op ho ha hb) fun _ _ _ h => opL2 hd h
/-- x.remove(e), ints -/
def mRemove (i : Nat) (m : M D) : M D := mChk i >>= fun _ => m >>= fun k => mGetW i >>= fun ds => M.res ((asI k).bind fun k => (toInts ds).bind fun is => if k ∈ is then .ok (is.erase k) else .bad) >>= fun is => mPut i (is.map D.int) >>= fun _ => M.ret .non
end
end CS
namespace CS
open PySem L2
open PyProof.Rows (envOfC)

/-! ## the source of draws -/
def Pen.read (P : Pen) : Pen :=
  if P.digits = 0 ∧ P.at_ < P.cells.length then
    (if 10 ^ 18 ≤ P.cells.getD P.at_ 0 then { P with at_ := P.at_ + 1, digits := P.cells.getD P.at_ 0 - 10 ^ 18 }
    else { P with at_ := P.at_ + 1, fold := (P.fold * 69069 + P.cells.getD P.at_ 0).fmod 2147483587 })
  else P
def Pen.tell (P : Pen) (m : Int) : Int × Pen :=
  if 0 < P.digits then (P.digits.fmod m, { P with digits := P.digits.fdiv m })
  else ((((((P.fold + (P.count : Int) * 7907 + 37) ^ 17).fmod 2305843009213693951).fdiv 128).fmod m), P)
def Pen.step (P : Pen) (m : Int) : Int × Pen := (Pen.read { P with count := P.count + 1 }).tell m
def drawF : FD := fun ds p => match ds, p with
  | [.pen, .int m], some P => if 0 < m ∧ m < 1073741824 ∧ 0 ≤ P.fold ∧ P.fold < 2147483648 ∧ P.count < 2 ^ 50 then .ok (.int (P.step m).1, some (P.step m).2) else .bad
  | _, _ => .bad
structure Pen.Ok (P : Pen) (n : Nat) : Prop where
  f0 : 0 ≤ P.fold
  f1 : P.fold < 2147483648
  c : P.count ≤ n
theorem Pen.read_ok {P : Pen} {n : Nat} (h : P.Ok n) : P.read.Ok n ∧ P.read.count = P.count ∧ P.read.cells = P.cells := by
  unfold Pen.read
  split
  · split
    · exact ⟨⟨h.f0, h.f1, h.c⟩, rfl, rfl⟩
    · refine ⟨⟨?_, ?_, h.c⟩, rfl, rfl⟩
      · show 0 ≤ Int.fmod _ _
        exact Int.fmod_nonneg_of_pos _ (by decide)
      · show Int.fmod _ _ < _
        have := Int.fmod_lt_of_pos (P.fold * 69069 + P.cells.getD P.at_ 0) (show (0 : Int) < 2147483587 by decide)
        omega
  · exact ⟨h, rfl, rfl⟩
theorem Pen.tell_ok {P : Pen} {n : Nat} {m : Int} (h : P.Ok n) (hm : 0 < m) : (P.tell m).2.Ok n ∧ 0 ≤ (P.tell m).1 ∧ (P.tell m).1 < m := by
  unfold Pen.tell
  split
  · exact ⟨⟨h.f0, h.f1, h.c⟩, Int.fmod_nonneg_of_pos _ hm, Int.fmod_lt_of_pos _ hm⟩
  · exact ⟨h, Int.fmod_nonneg_of_pos _ hm, Int.fmod_lt_of_pos _ hm⟩
/-- a draw: some number below, the pen goes on -/
theorem draw_ok {P : Pen} {n : Nat} {m : Int} (h : P.Ok n) (hm : 0 < m) (h1 : m < 1073741824) (hn : n < 2 ^ 50) :
    ∃ r P', drawF [.pen, .int m] (some P) = .ok (.int r, some P') ∧ 0 ≤ r ∧ r < m ∧ P'.Ok (n + 1) := by
  have h2 : Pen.Ok { P with count := P.count + 1 } (n + 1) := ⟨h.f0, h.f1, Nat.succ_le_succ h.c⟩
  have h3 := (Pen.read_ok h2).1
  have h4 := Pen.tell_ok h3 hm
  refine ⟨_, _, if_pos ⟨hm, h1, h.f0, h.f1, Nat.lt_of_le_of_lt h.c hn⟩, h4.2.1, h4.2.2, h4.1⟩
theorem drawF_len (ds : List D) (p : Pn) (r : D × Pn) (h : drawF ds p = .ok r) : ds.length = ["pen", "many"].length := by
  unfold drawF at h
  split at h
  · rfl
  · cases h
theorem drawF_inv {ds : List D} {p : Pn} {d : D} {p' : Pn} (h : drawF ds p = .ok (d, p')) : ∃ m P, ds = [.pen, .int m] ∧ p = some P ∧ 0 < m ∧ m < 1073741824 ∧ 0 ≤ P.fold ∧ P.fold < 2147483648 ∧ P.count < 2 ^ 50 ∧ d = .int (P.step m).1 ∧ p' = some (P.step m).2 := by
  unfold drawF at h
  split at h
  · split at h
    · rename_i m P hc
      cases h
      exact ⟨m, P, rfl, rfl, hc.1, hc.2.1, hc.2.2.1, hc.2.2.2.1, hc.2.2.2.2, rfl, rfl⟩
    · cases h
  · cases h
section
variable {P : Pen} {ca : Addr}
theorem pk_count : valV (penK P ca) (.inr "count") = some (.int P.count) := rfl
theorem pk_digits : valV (penK P ca) (.inr "digits") = some (.int P.digits) := rfl
theorem pk_at : valV (penK P ca) (.inr "at") = some (.int P.at_) := rfl
theorem pk_cells : valV (penK P ca) (.inr "cells") = some (.ref ca) := rfl
theorem pk_fold : valV (penK P ca) (.inr "fold") = some (.int P.fold) := rfl
theorem pp_count {n : Nat} : putK (penK P ca) (.inr "count") (.int n) = penK { P with count := n } ca := rfl
theorem pp_at {n : Nat} : putK (penK P ca) (.inr "at") (.int n) = penK { P with at_ := n } ca := rfl
theorem pp_digits {z : Int} : putK (penK P ca) (.inr "digits") (.int z) = penK { P with digits := z } ca := rfl
theorem pp_fold {z : Int} : putK (penK P ca) (.inr "fold") (.int z) = penK { P with fold := z } ca := rfl
end
end CS
namespace CSW
open PySem PySem.Spec PySem.W L2
open PyProof.Rows (boot_enumerate)
/-! ## enumerate of a tuple -/
def Itet (K : PySem.W.Frag) (a : Addr) : It :=
  ⟨fun i H => ∃ (xs : List V) (x : V), SqT K H a xs ∧ xs[i]? = some x, fun i H v H' => ∃ T x, v = .ref T ∧ H T = none ∧ H' = upd H T (.tup [.int (i : Nat), x]) ∧ ∀ xs, SqT K H a xs → xs[i]? = some x, fun i H => ∃ xs : List V, SqT K H a xs ∧ xs.length ≤ i⟩
theorem turn_enumT {P : Program} {w : World} {K : PySem.W.Frag} {elts : List Expr} {kk : Nat} {tpos : Pos} (a e it : Addr) :
    Turn P w K (.Tuple elts kk tpos) (Itet K a) [e, it] e (fun i h => (∃ old, IsEnum h e it ((i : Nat) : Int) old) ∧ h.IsTupleIter it a i ∧ e ≠ it ∧ a ≠ it ∧ a ≠ e) where
  mem := by simp
  obj := fun i h st b hb => by
    obtain ⟨⟨old, he⟩, ⟨o, ho, hc, hd⟩, _⟩ := st
    have e' : b = e ∨ b = it := by simpa using hb
    rcases e' with z | z
    · rw [z]; exact ⟨_, he, fun v q => nomatch q⟩
    · rw [z]; exact ⟨o, ho, fun v q => by rw [hd] at q; cases q⟩
  keep := fun i h h' st k => let ⟨⟨old, he⟩, hi, hne⟩ := st; ⟨⟨old, k e (by simp) _ he⟩, hi.at fun o q => k it (by simp) o q, hne⟩
  item := by
    intro X hP hw hK hc i pins s σ H E I hf st hg
    subst hP hw hK
    obtain ⟨⟨old, he⟩, hit, hne, hai, hae⟩ := st
    obtain ⟨xs, x, hq, hx⟩ := hg
    obtain ⟨its, rv, p, hz⟩ := I.tuple hq
    have p' : s.heap.IsTuple a its.toArray := p
    obtain ⟨u, hu, ru⟩ := rv.get hx
    have hel : e < s.heap.objs.size := Heap.lt_size he
    have hil : it < s.heap.objs.size := by obtain ⟨_, q, _⟩ := hit; exact Heap.lt_size q
    have hlt : i < its.toArray.size := by
      have := (List.getElem?_eq_some_iff.mp hu).1
      simpa using this
    refine wpAny_pyNext_enum_itemD (Draws.tuple (A := X.A.in1) (I.ok.hd hc) it a hai its.toArray) he ⟨hit, p'⟩ hlt hne (by simp [hne, hae.symm]) fun u' h' tk hu' ho hit' hT hsz hk => ?_
    obtain rfl : u' = u := by
      have : its.toArray[i]? = some u := by simpa using hu
      rw [this] at hu'; exact (Option.some.inj hu').symm
    refine ⟨_, rfl, wpAny_letOwnedTupleGo_enum (s := { s with heap := h', toks := tk + 1 }) ho fun h'' he' sb => ?_⟩
    have hT2 : h''.get? s.heap.objs.size = some { cls := .type "tuple", data := .seq #[.int i tk, u'] } := (sb.2 _ (Nat.ne_of_gt hel)).trans hT
    have new : ObjOk X.prog X.w (upd H s.heap.objs.size (.tup [.int (i : Nat), x])) h'' s.heap.objs.size (.tup [.int (i : Nat), x]) :=
      ⟨by show 2 ≤ sizeLine; decide, [.int i tk, u'], .cons ⟨_, rfl⟩ (.cons ru .nil), ⟨_, hT2, rfl, _, rfl⟩⟩
    have I1 : Inv X pins σ (upd H s.heap.objs.size (.tup [.int (i : Nat), x])) { s with heap := h'', toks := tk + 1 } :=
      I.turnedNew (ch := [e, it]) (fun b ob hb q => (sb.2 b (fun z => hb (by simp [z]))).trans (hk b ob (fun z => hb (by simp [z])) (fun z => hb (by simp [z])) q)) hf (Nat.le_refl _) new
    refine ⟨.ref s.heap.objs.size, _, I1, rfl, ⟨_, x, rfl, I.hok.fresh (Nat.le_refl _), rfl, fun ys hy => by rw [I.tuple_inj hy hq]; exact hx⟩, ⟨⟨u', ?_⟩, hit'.1.at fun o q => (sb.2 it (Ne.symm hne)).trans q, hne, hai, hae⟩, fun b hb => ?_⟩
    · have e1 : ((i + 1 : Nat) : Int) = (i : Int) + 1 := by omega
      rw [e1]; exact he'
    · have hb' : b < s.heap.objs.size := by
        have e' : b = e ∨ b = it := by simpa using hb
        rcases e' with z | z
        · rw [z]; exact hel
        · rw [z]; exact hil
      rw [upd_ne (Nat.ne_of_lt hb')]
      exact (hf b hb).1
  done := by
    intro X hP hw hK hc i pins s σ H E I hf st hg
    subst hP hw hK
    obtain ⟨⟨old, he⟩, hit, hne, hai, hae⟩ := st
    obtain ⟨xs, hq, hx⟩ := hg
    obtain ⟨its, rv, p, hz⟩ := I.tuple hq
    have p' : s.heap.IsTuple a its.toArray := p
    obtain ⟨f0, f1, f2, f3, f4, f5⟩ := hf it (by simp)
    have hl := rv.length
    unfold pyNext
    have hT : s.TypeIs (.ref e) "enumerate" := ⟨_, he, rfl⟩
    refine wpAny_bind (wpAny_attempt (wpAny_callSpecial?_slot (name := Str.ofString "__next__") hT F.slot_enumerate_next
      (wpAny_call_entry F.slot_enumerate_next hT F.entry_enumerate_next ?_ (F.args_enumerate_next_1 _))))
    show wpAny _ _ (field (.ref e) 2 >>= _) _ _ _
    refine wpAny_bind (wpAny_field he rfl (x := .ref it) rfl ?_)
    refine wpAny_bind (wpAny_nextOf_tuple_end (A := X.A.in1) (I.ok.hd hc) hit p' (by simp; omega) fun h' x eb hx' => ?_)
    obtain ⟨o, ho, hc'⟩ := hx'
    refine wpAny_bind (wpAny_isInstance (T := "StopIteration") (b := true) ⟨o, ho, hc'⟩ isSubtype_stop ?_)
    exact wpAny_pure ⟨rfl, I.turned (t' := s.toks) (fun b o hb q => eb b o hb q) f0 f1 f3 f4 f5⟩
  self := fun A i s Q E st h => let ⟨⟨_, he⟩, _⟩ := st; wpAny_pyIter_enum he h
end CSW
namespace CSW
open PySem PySem.Spec PySem.W L2
open Sem (wp)
open PyProof.Rows (boot_enumerate)
theorem meets_enumerate_newB1 {v : Value} {o : Obj} {H : Heap → Prop} (B : Begins v o H) :
    Meets (Builtin.«enumerate.__new__» ⟨[.type "enumerate", v], []⟩) (fun _ R s => H s.heap ∧
      R (.ok (.ret (.ref (s.heap.push o).objs.size))) { s with heap := (s.heap.push o).push { cls := .type "enumerate", data := .fields #[.none, .bool false, .ref s.heap.objs.size, rawInt 0, .none, .none] } }) :=
  .of_wp fun prog w A R s h => by
    obtain ⟨hp, g, d, tk, os⟩ := s; obtain ⟨h1, h⟩ := h
    have hsub := sub_enumerate
    have q1 : ∀ {A' : Around} {E : Value → Shared → Prop} {Q : Value → Shared → Prop}, Q (.ref hp.objs.size) ⟨hp.push o, g, d, tk, os⟩ → wpAny (model prog w) A' (pyIter v) Q E ⟨hp, g, d, tk, os⟩ :=
      fun q => B.iter prog w _ _ ⟨hp, g, d, tk, os⟩ _ h1 q
    wp_walk using q1
    refine wpAny_stack_any fun st => wpAny_pure ?_
    split
    · rename_i c _ _ _ _ _
      cases (c == Value.type "enumerate")
      · wp_walk using q1
        exact ⟨_, rfl, h⟩
      · wp_walk using q1
        exact ⟨_, rfl, h⟩
    · wp_walk using q1
      exact ⟨_, rfl, h⟩
theorem call_enumerate_B {prog : Program} {w : World} {A : Around} {E : Value → Shared → Prop} {s : Shared} {v : Value} {o : Obj} {H : Heap → Prop} {Q : Value → Shared → Prop} (B : Begins v o H) (h1 : H s.heap)
    (h : ∀ h', IsEnum h' (s.heap.objs.size + 1) s.heap.objs.size 0 .none → h'.get? s.heap.objs.size = some o → h'.objs.size = s.heap.objs.size + 2 →
      (∀ b o, s.heap.get? b = some o → h'.get? b = some o) → Q (.ref (s.heap.objs.size + 1)) { s with heap := h' }) :
    wpAny (model prog w) A (call (.type "enumerate") [v]) Q E s := by
  refine callType_new F.called_enumerate (by decide) (F.typeCall_enumerate_1 _) (F.newCall_enumerate_1 _) (fun obj => F.args_object_init_2 obj _) F.entry_enumerate_new
    (meets_enumerate_newB1 B) ⟨h1, ?_⟩
  have hz : (s.heap.push o).objs.size = s.heap.objs.size + 1 := Heap.size_push ..
  show _ ∧ _
  rw [hz]
  have he : IsEnum ((s.heap.push o).push { cls := .type "enumerate", data := .fields #[.none, .bool false, .ref s.heap.objs.size, rawInt 0, .none, .none] }) (s.heap.objs.size + 1) s.heap.objs.size 0 .none := by
    have := Heap.get?_push_size (s.heap.push o) (o := { cls := .type "enumerate", data := .fields #[.none, .bool false, .ref s.heap.objs.size, rawInt 0, .none, .none] }) rfl
    rw [hz] at this; exact this
  refine ⟨⟨_, he, rfl⟩, h _ he (Heap.get?_push_of_some _ (Heap.get?_push_size _ B.free)) (by rw [Heap.size_push, hz]) fun b o x => Heap.get?_push_of_some _ (Heap.get?_push_of_some _ x)⟩
/-- enumerate of a list or a tuple -/
def iEnumA (K : PySem.W.Frag) (ta : TA) : TI := fun σ H R => ta σ H fun vs H1 => ∃ a xs, vs = [.ref a] ∧ ((SqL K H1 a xs ∧ R (Ite K a) H1) ∨ (SqT K H1 a xs ∧ R (Itet K a) H1))
theorem pi_enumA {X : Cx} {e : Expr} {ta : TA} {p pos tpos : Pos} {elts : List Expr} {kk : Nat} (hg : Gl X "enumerate") (hm : X.mg "enumerate" = none) (ha : PA X [e] ta) (hs : starEach [e] X.env = [(false, eval e X.env)] := by rfl) :
    PI X (.Tuple elts kk tpos) (.Call (.Name "enumerate" p) [e] [] pos) (iEnumA X.K ta) := by
  refine ⟨fun pins s σ H R I h => ?_⟩
  refine PyProof.Rows.Call_ (ld_blt I hg hm boot_enumerate (PyProof.Rows.callWith_type1 (thn (ha.run pos pins s σ H _ I h) fun us s1 ⟨vs, H1, I1, r1, q1⟩ => ?_) hs rfl))
  obtain ⟨a, xs, ex, hq⟩ := q1
  subst ex
  cases r1 with
  | cons r rr =>
    cases rr
    cases r
    rcases hq with ⟨hq, q⟩ | ⟨hq, q⟩
    · obtain ⟨its, rv, p', hz⟩ := I1.list hq
      refine call_enumerate_list p'.isList fun h' he hit hsz hk => wpAny_pyIter_enum he ?_
      have I2 : Inv X pins σ H1 { s1 with heap := h' } := I1.kept (t' := s1.toks) hk
      refine ⟨s1.heap.objs.size + 1, [s1.heap.objs.size + 1, s1.heap.objs.size], _, _, H1, rfl, I2, turn_enum a (s1.heap.objs.size + 1) s1.heap.objs.size, ⟨⟨.none, he⟩, hit, Nat.succ_ne_self _⟩, fun b hb => ?_, q⟩
      have e' : b = s1.heap.objs.size + 1 ∨ b = s1.heap.objs.size := by simpa using hb
      have hle : s1.heap.objs.size ≤ b := by
        rcases e' with z | z
        · rw [z]; exact Nat.le_add_right _ _
        · rw [z]; exact Nat.le_refl _
      exact I1.fpOk hle (I1.hok.fresh hle)
    · obtain ⟨its, rv, p', hz⟩ := I1.tuple hq
      have p2 : s1.heap.IsTuple a its.toArray := p'
      refine call_enumerate_B (begins_tuple a its.toArray) p2 fun h' he hit hsz hk => wpAny_pyIter_enum he ?_
      have I2 : Inv X pins σ H1 { s1 with heap := h' } := I1.kept (t' := s1.toks) hk
      have hal : a < s1.heap.objs.size := by obtain ⟨_, q, _⟩ := p2; exact Heap.lt_size q
      refine ⟨s1.heap.objs.size + 1, [s1.heap.objs.size + 1, s1.heap.objs.size], _, _, H1, rfl, I2, turn_enumT a (s1.heap.objs.size + 1) s1.heap.objs.size, ⟨⟨.none, he⟩, ⟨_, hit, rfl, rfl⟩, Nat.succ_ne_self _, Nat.ne_of_lt hal, Nat.ne_of_lt (Nat.lt_succ_of_lt hal)⟩, fun b hb => ?_, q⟩
      have e' : b = s1.heap.objs.size + 1 ∨ b = s1.heap.objs.size := by simpa using hb
      have hle : s1.heap.objs.size ≤ b := by
        rcases e' with z | z
        · rw [z]; exact Nat.le_add_right _ _
        · rw [z]; exact Nat.le_refl _
      exact I1.fpOk hle (I1.hok.fresh hle)

end CSW
namespace CS
open PySem L2
open PyProof.Rows (envOfC)
section
variable {X : Cx} {R : RC} {e e2 : Expr} {m n : M D} {pos p p2 pos2 tpos : Pos}
theorem di_enum {elts : List Expr} {kk : Nat} (hK : X.K = R.K) (hg : Gl X "enumerate") (hm : X.mg "enumerate" = none) (ha : PE X e (lE R m)) (hs : starEach [e] X.env = [(false, eval e X.env)] := by rfl) :
    PI X (.Tuple elts kk tpos) (.Call (.Name "enumerate" p) [e] [] pos) (lI R (mEnum m)) :=
  PI.imp (CSW.pi_enumA hg hm (pa_cons ha pa_nil hs) hs) fun σ H Rr ⟨B, env, p, F, S, ds, env', p', e, q⟩ => by
    have c : Cn R (fun F' (ds : List D) (J : It) => Yl R J F' ds) (mEnum m) Rr σ B env p F H := ⟨S, ds, env', p', e, q⟩
    refine c.sq fun d v env1 p1 F1 H1 s1 r1 c1 => ?_
    obtain ⟨ds, e, q⟩ := c1.res
    have S := c1.S
    rw [hK]
    obtain ⟨es, e1, e2⟩ := Res.bind_ok e
    cases e2
    unfold D.row at e1
    split at e1
    · rename_i xs
      cases e1
      simp only [Rep] at r1
      obtain ⟨a, vs, rfl, h, r⟩ := r1
      refine ⟨a, vs, rfl, .inl ⟨SqL.of (S.fh _ _ h), q _ _ _ (Same.refl _) S ⟨fun F3 H3 s s3 => ?_, fun i d F3 H3 s s3 hd => ?_⟩⟩⟩
      · refine ⟨vs, SqL.of (s3 _ _ (s _ _ h)), ?_⟩
        rw [r.length, enumL_length]; omega
      · rw [enumL_get] at hd
        cases hx : es[i]? with
        | none => rw [hx] at hd; cases hd
        | some x =>
          rw [hx] at hd
          cases hd
          obtain ⟨u, hu, ru⟩ := r.get hx
          refine ⟨⟨vs, u, SqL.of (s3 _ _ (s _ _ h)), hu⟩, fun z H4 ⟨T, x1, e1, e2, e3, k1⟩ => .inr ?_⟩
          have g1 := k1 vs (SqL.of (s3 _ _ (s _ _ h)))
          rw [hu] at g1; cases g1
          refine ⟨T, _, _, e2, e3, e1, rfl, .cons ?_ (.one (ru.mono s))⟩
          rw [Nat.zero_add]
          simp [Rep]
    · rename_i xs
      cases e1
      simp only [Rep] at r1
      obtain ⟨a, vs, rfl, h, r⟩ := r1
      refine ⟨a, vs, rfl, .inr ⟨Same.sqt S.fh h, q _ _ _ (Same.refl _) S ⟨fun F3 H3 s s3 => ?_, fun i d F3 H3 s s3 hd => ?_⟩⟩⟩
      · refine ⟨vs, Same.sqt (s.trans s3) h, ?_⟩
        rw [r.length, enumL_length]; omega
      · rw [enumL_get] at hd
        cases hx : es[i]? with
        | none => rw [hx] at hd; cases hd
        | some x =>
          rw [hx] at hd
          cases hd
          obtain ⟨u, hu, ru⟩ := r.get hx
          refine ⟨⟨vs, u, Same.sqt (s.trans s3) h, hu⟩, fun z H4 ⟨T, x1, e1, e2, e3, k1⟩ => .inr ?_⟩
          have g1 := k1 vs (Same.sqt (s.trans s3) h)
          rw [hu] at g1; cases g1
          refine ⟨T, _, _, e2, e3, e1, rfl, .cons ?_ (.one (ru.mono s))⟩
          rw [Nat.zero_add]
          simp [Rep]
    · cases e1
/-- list(range(e)) -/
def rgL (d : D) : Res D := (asI d).bind fun n => if n ≤ 16777216 ∧ -(2 ^ 62) ≤ n then .ok (.lst ((List.range n.toNat).map fun (i : Nat) => D.int i)) else .bad
theorem reps_range {F : Hp} : ∀ (l : List Nat), Reps R F (l.map fun (i : Nat) => D.int i) (l.map fun (i : Nat) => V.int i)
  | [] => by simp [Reps]
  | a :: l => .cons (by simp [Rep]) (reps_range l)
theorem rgV0 (n : Int) : rgV 0 n = (List.range n.toNat).map fun (i : Nat) => V.int i := by
  unfold rgV
  simp
theorem df_listRg (hc : X.calm = true) (hg : Gl X "list") (hm : X.mg "list" = none) (hg2 : Gl X "range") (hm2 : X.mg "range" = none) (ha : PE X e (lE R m)) (na : starEach [e] X.env = (false, eval e X.env) :: starEach [] X.env := by rfl)
    (na2 : starEach [.Call (.Name "range" p2) [e] [] pos2] X.env = (false, eval (.Call (.Name "range" p2) [e] [] pos2) X.env) :: starEach [] X.env := by rfl) :
    PE X (.Call (.Name "list" p) [.Call (.Name "range" p2) [e] [] pos2] [] pos) (lF R (m1 rgL m)) :=
  PE.imp (pe_listRg hc hg hm (prg_1 hg2 hm2 ha na) na2) fun σ H Q ⟨B, env, p, F, S, d, env', p', e, q⟩ => by
    obtain ⟨x, env1, p1, e1, e2⟩ := bind_ok (show (m >>= _) env p = _ from e)
    obtain ⟨z, e3, e4⟩ := Res.bind_ok (show (rgL x).bind _ = _ from e2)
    cases e4
    obtain ⟨n, e5, e6⟩ := Res.bind_ok e3
    cases asI_ok e5
    split at e6
    · rename_i hz
      cases e6
      refine ⟨B, env, p, F, S, _, env', p', e1, fun v F' H' s S' r => ?_⟩
      simp only [Rep] at r
      refine ⟨n, r, ⟨by omega, by omega, by omega, by omega, by omega⟩, fun a hn => ?_⟩
      rw [rgV0]
      obtain ⟨g1, g2⟩ := S'.newO (reps_range (List.range n.toNat)) hn
      exact q a F' _ s g1 g2
    · cases e6
end
end CS
namespace CS
open PySem L2
/-! ## sorted of pairs of small numbers (by one number for each) -/
def encT : D → Int
  | .tup [.int i, .int j] => i * 4096 + j
  | _ => 0
def encP : D → Res Int
  | .tup [.int i, .int j] => if 0 ≤ i ∧ i < 4096 ∧ 0 ≤ j ∧ j < 4096 then .ok (i * 4096 + j) else .bad
  | _ => .bad
def decP (c : Int) : D := .tup [.int (c / 4096), .int (c % 4096)]
def toEnc : List D → Res (List Int)
  | [] => .ok []
  | d :: r => (encP d).bind fun c => (toEnc r).bind fun cs => .ok (c :: cs)
def GoodC (c : Int) : Prop := 0 ≤ c ∧ c < 16777216
theorem encT_dec {c : Int} : encT (decP c) = c := by
  show c / 4096 * 4096 + c % 4096 = c
  omega
theorem encP_ok {d : D} {c : Int} (h : encP d = .ok c) : d = decP c ∧ GoodC c := by
  unfold encP at h
  split at h
  · split at h
    · rename_i i j hb
      cases h
      have e1 : (i * 4096 + j) / 4096 = i := by omega
      have e2 : (i * 4096 + j) % 4096 = j := by omega
      exact ⟨by unfold decP; rw [e1, e2], by unfold GoodC; omega⟩
    · cases h
  · cases h
theorem toEnc_ok : ∀ {ds : List D} {cs : List Int}, toEnc ds = .ok cs → ds = cs.map decP ∧ ∀ c ∈ cs, GoodC c
  | [], cs, h => by cases h; exact ⟨rfl, fun _ h => by cases h⟩
  | d :: r, cs, h => by
    obtain ⟨c, h1, h2⟩ := Res.bind_ok (show (encP d).bind _ = _ from h)
    obtain ⟨cs', h3, h4⟩ := Res.bind_ok h2
    cases h4
    obtain ⟨rfl, g⟩ := encP_ok h1
    obtain ⟨rfl, gs⟩ := toEnc_ok h3
    refine ⟨rfl, fun x hx => ?_⟩
    rcases List.mem_cons.mp hx with rfl | hx
    · exact g
    · exact gs x hx
def sortedA : List D → Res D
  | [.lst ds] => match toInts ds with
    | .ok is => .ok (.lst ((sortI is).map D.int))
    | _ => (toEnc ds).bind fun cs => if cs.length < 64 then .ok (.lst ((sortI cs).map decP)) else .bad
  | _ => .bad
theorem Reps.perm {R : RC} {F : Hp} {xs ys : List V} (h : ys.Perm xs) : ∀ {ds : List D}, Reps R F ds xs → ∃ ds', Reps R F ds' ys ∧ ds'.Perm ds := by
  induction h with
  | nil => intro ds r; exact ⟨ds, r, .refl _⟩
  | @cons x l1 l2 _ ih =>
    intro ds r
    cases ds with
    | nil => simp only [Reps] at r; cases r
    | cons d ds =>
      simp only [Reps] at r
      obtain ⟨v, vr, e, r1, r2⟩ := r
      cases e
      obtain ⟨ds', r3, p⟩ := ih r2
      exact ⟨d :: ds', .cons r1 r3, p.cons d⟩
  | swap x y l =>
    intro ds r
    cases ds with
    | nil => simp only [Reps] at r; cases r
    | cons d ds =>
      cases ds with
      | nil =>
        simp only [Reps] at r
        obtain ⟨v, vr, e, r1, r2⟩ := r
        cases e
        cases r2
      | cons d2 ds =>
        simp only [Reps] at r
        obtain ⟨v, vr, e, r1, v2, vr2, e2, r2, r3⟩ := r
        cases e
        cases e2
        exact ⟨d2 :: d :: ds, .cons r2 (.cons r1 r3), .swap _ _ _⟩
  | trans _ _ ih1 ih2 =>
    intro ds r
    obtain ⟨ds1, r1, p1⟩ := ih2 r
    obtain ⟨ds2, r2, p2⟩ := ih1 r1
    exact ⟨ds2, r2, p2.trans p1⟩
theorem rep_dec {R : RC} {F H : Hp} (s : Same F H) {c : Int} {v : V} (r : Rep R F (decP c) v) : TupI R.K H v [c / 4096, c % 4096] := by
  unfold decP at r
  simp only [Rep, Reps] at r
  obtain ⟨a, vs, rfl, h, v1, r1, rfl, rfl, v2, r2, rfl, rfl, rfl⟩ := r
  exact ⟨a, rfl, Same.sqt s h⟩
theorem code_dec (c : Int) : TS.code 4096 [c / 4096, c % 4096] = c := by
  have : TS.code 4096 [c / 4096, c % 4096] = c / 4096 * 4096 + c % 4096 := by simp [TS.code]
  rw [this]
  omega
theorem pw_dec {R : RC} {F H : Hp} (s : Same F H) : ∀ {cs : List Int} {ys : List V}, Reps R F (cs.map decP) ys → ys.Pairwise (fun x y => ∀ n m, TupI R.K H x n → TupI R.K H y m → TS.code 4096 n ≤ TS.code 4096 m) → cs.Pairwise (· ≤ ·)
  | [], _, _, _ => .nil
  | c :: cs, ys, r, h => by
    simp only [List.map_cons, Reps] at r
    obtain ⟨v, vr, rfl, r1, r2⟩ := r
    rw [List.pairwise_cons] at h
    refine List.pairwise_cons.mpr ⟨fun c2 h2 => ?_, pw_dec s r2 h.2⟩
    obtain ⟨i, hi, he⟩ := List.mem_iff_getElem.mp h2
    obtain ⟨w, hw, rw'⟩ := r2.get (i := i) (d := decP c2) (by simp [List.getElem?_map, hi, he])
    have := h.1 w (List.mem_of_getElem? hw) _ _ (rep_dec s r1) (rep_dec s rw')
    rw [code_dec, code_dec] at this
    exact this
def rSortedA (K : PySem.W.Frag) : List V → Hp → VK → Prop := fun vs H Q => rSortedI K vs H Q ∨ rSortU K 2 4096 vs H Q
theorem cr_sortedA {X : Cx} : CallR X (.builtin "sorted") (rSortedA X.K) := fun pins s σ H xs us Q I r h => h.elim (cr_sortedI pins s σ H xs us Q I r) (cr_sortT (by decide) pins s σ H xs us Q I r)
theorem sortedA_run {R : RC} {B : Bs} {env : Env'} {p : Pn} {σ : St} {F H : Hp} {xs : List D} {z : D} {vs : List V} {Q : VK} (S : SRel R B env p σ F H) (r : Reps R F xs vs) (h : sortedA xs = .ok z)
    (q : ∀ ds ws, z = .lst ds → Reps R F ds ws → ∀ a, H a = none → Q (.ref a) (upd H a (.lst ws))) : rSortedA R.K vs H Q := by
  unfold sortedA at h
  split at h
  · rename_i ds
    split at h
    · rename_i is h1
      cases h
      cases toInts_ok h1
      obtain ⟨v, rfl, r1⟩ := r.one1
      simp only [Rep] at r1
      obtain ⟨a, ws, rfl, g1, r1⟩ := r1
      cases Reps.ints r1
      refine .inl ⟨a, is, rfl, SqL.of (S.fh _ _ g1), fun ns' l h1 h2 hn => ?_⟩
      have e : ns' = sortI is := sorted_unique (h1.trans (sortI_perm is).symm) h2 (sortI_sorted is)
      subst e
      exact q _ _ rfl (Reps.of_ints _) l hn
    · obtain ⟨cs, h1, h2⟩ := Res.bind_ok h
      split at h2
      · rename_i h64
        cases h2
        obtain ⟨rfl, hg⟩ := toEnc_ok h1
        obtain ⟨v, rfl, r1⟩ := r.one1
        simp only [Rep] at r1
        obtain ⟨a, ws, rfl, g1, r1⟩ := r1
        refine .inr ⟨a, ws, rfl, SqL.of (S.fh _ _ g1), by rw [r1.length]; simpa using h64, fun x hx => ?_, fun ys l h1 h2 hn => ?_⟩
        · obtain ⟨i, hi, he⟩ := List.mem_iff_getElem.mp hx
          have hl : i < (cs.map decP).length := by rw [← r1.length]; exact hi
          obtain ⟨w, hw, rw'⟩ := r1.get (i := i) (List.getElem?_eq_getElem hl)
          rw [List.getElem?_eq_getElem hi, he] at hw
          cases hw
          rw [List.getElem_map] at rw'
          refine ⟨_, rep_dec S.fh rw', rfl, fun m hm => ?_⟩
          have := hg _ (List.getElem_mem (by simpa using hl))
          unfold GoodC at this
          rcases List.mem_cons.mp hm with rfl | hm
          · omega
          · rcases List.mem_cons.mp hm with rfl | hm
            · omega
            · cases hm
        · obtain ⟨ds', r2, pm⟩ := r1.perm h1
          have pc : (ds'.map encT).Perm cs := by
            have := pm.map encT
            rw [List.map_map] at this
            rwa [show cs.map (encT ∘ decP) = cs from by
              conv => rhs; rw [← List.map_id cs]
              exact List.map_congr_left fun c _ => encT_dec] at this
          have ed : ds' = (ds'.map encT).map decP := by
            rw [List.map_map]
            conv => lhs; rw [← List.map_id ds']
            refine List.map_congr_left fun d hd => ?_
            obtain ⟨c, _, rfl⟩ := List.mem_map.mp (pm.mem_iff.mp hd)
            show decP c = decP (encT (decP c))
            rw [encT_dec]
          rw [ed] at r2
          have e : ds'.map encT = sortI cs := sorted_unique (pc.trans (sortI_perm cs).symm) (pw_dec S.fh r2 h2) (sortI_sorted cs)
          rw [e] at r2
          exact q _ _ rfl r2 l hn
      · cases h2
  · cases h
theorem sortedA_lst {xs : List D} {z : D} (h : sortedA xs = .ok z) : ∃ ds, z = .lst ds := by
  unfold sortedA at h
  split at h
  · split at h
    · cases h; exact ⟨_, rfl⟩
    · obtain ⟨cs, h1, h2⟩ := Res.bind_ok h
      split at h2
      · cases h2; exact ⟨_, rfl⟩
      · cases h2
  · cases h
theorem sortedA_d {R : RC} : CallD R (rSortedA R.K) sortedA := ⟨fun S r h q => by
  obtain ⟨ds, rfl⟩ := sortedA_lst h
  exact sortedA_run S r h fun ds ws e rz a hn => by
    cases e
    exact Wn.lst S rz q a hn⟩
theorem sortedA_l {R : RC} : CallL R (rSortedA R.K) sortedA := ⟨fun S r h q => sortedA_run S r h q⟩
end CS
namespace CSW
open PySem PySem.Spec PyProof.Rows L2 TS
/-- sorted(t), t a tuple of fewer than 64 tuples of small numbers -/
theorem sorted_tupsT {prog : Program} {w : World} {A : Around} {E : Value → Shared → Prop} {s : Shared} {l : Addr} {o : Obj} {vs : List Value} {n d : Nat} {B : Int} {Q : Value → Shared → Prop} (ho : s.heap.get? l = some o) (hc : o.cls = .type "tuple") (hdt : o.data = .seq vs.toArray n) (h64 : vs.length < 64) (hd : 1 ≤ d) (x : TupsOk s.heap d B vs)
    (h : ∀ (h' : Heap) (out : Array Value), (∀ b o, s.heap.get? b = some o → h'.get? b = some o) → out.toList.Perm vs → out.toList.Pairwise (fun u v => code B (intsOf s.heap u) ≤ code B (intsOf s.heap v)) →
      Q (.ref h'.objs.size) { s with heap := sortedHeap (h'.push (seqObj "list" vs.toArray 0)) h'.objs.size vs out }) :
    wpAny (model prog w) A (call (.builtin "sorted") [.ref l]) Q E s := by
  refine Calls.call_function_entry kind_sorted plain_sorted entry_sorted (args_sorted1 _) ?_
  unfold Builtin.«sorted»
  refine wpAny_bind (m := checkCount "sorted" 1 1 _) (wpAny_pure ?_)
  refine wpAny_bind (wpAny_collect_seq l (.inr rfl) ho hc hdt (fun h' kp => ?_) (by rw [sizeLine_eq, List.size_toArray]; omega))
  refine wpAny_bind (wpAny_newList ?_ (by rw [sizeLine_eq]; show vs.toArray.toList.length ≤ _; simp; omega))
  have e0 : vs.toArray.toList = vs := by simp
  rw [e0]
  have hoL : (h'.push (seqObj "list" vs.toArray 0)).get? h'.objs.size = some (seqObj "list" vs.toArray 0) := Heap.get?_push_size _ rfl
  have keep : ∀ b o, s.heap.get? b = some o → o.cls = .type "tuple" → (h'.push (seqObj "list" vs.toArray 0)).get? b = some o := fun b o q _ => Heap.get?_push_of_some _ (kp b o q)
  show wpAny _ _ _ _ _ { s with heap := h'.push (seqObj "list" vs.toArray 0) }
  refine wpAny_bind (wpAny_holding (wpAny_call_entry slot_list_sort ⟨_, hoL, rfl⟩ entry_list_sort (sort_tups hoL h64 hd (x.keeps keep) (fun v => code B (intsOf s.heap v)) (fun v hv ns t => ?_) fun out a1 a2 => ⟨_, rfl, ?_⟩) (args_list_sort _)))
  · obtain ⟨ns0, t0, _⟩ := x v hv
    have e : ns = ns0 := t.ints.symm.trans (t0.keeps keep).ints
    rw [e]
    show code B (intsOf s.heap v) = code B ns0
    rw [t0.ints]
  · exact wpAny_pure ⟨_, rfl, h h' out kp a1 a2⟩
end CSW
namespace CS
open PySem PySem.Spec PyProof.Rows L2
def rSortTT (K : PySem.W.Frag) (d : Nat) (B : Int) : List V → Hp → VK → Prop := fun vs H Q => ∃ (a : Addr) (xs : List V), vs = [V.ref a] ∧ SqT K H a xs ∧ xs.length < 64 ∧ (∀ x ∈ xs, ∃ ns, TupI K H x ns ∧ ns.length = d ∧ TS.Bd B ns) ∧
  ∀ (ys : List V) (p : Addr), ys.Perm xs → ys.Pairwise (fun x y => ∀ n m, TupI K H x n → TupI K H y m → TS.code B n ≤ TS.code B m) → H p = none → Q (.ref p) (upd H p (.lst ys))
theorem cr_sortTT {X : Cx} {d : Nat} {B : Int} (hd : 1 ≤ d) : CallR X (.builtin "sorted") (rSortTT X.K d B) := by
  intro pins s σ H vs us Q I r h
  obtain ⟨a, xs, rfl, hs, h64, hx, q⟩ := h
  obtain ⟨its, rv, hl, hz⟩ := I.tuple hs
  rw [Vals.ref1 r]
  obtain ⟨e1, e2⟩ := bkV_refs rv fun x m => by
    obtain ⟨ns, ⟨t, e, _⟩, _⟩ := hx x m
    exact ⟨t, e⟩
  obtain ⟨o, ho, hc, n, hdt⟩ := id hl
  refine CSW.sorted_tupsT (d := d) (B := B) ho hc hdt (by rw [← rv.length]; exact h64) hd (fun v hv => ?_) fun h' out kp h1 h2 => ?_
  · obtain ⟨t, rfl⟩ := e2 v hv
    have hm : V.ref t ∈ xs := by
      rw [e1]
      exact List.mem_map.mpr ⟨_, hv, rfl⟩
    obtain ⟨ns, ⟨t', e, ht⟩, hn, hb⟩ := hx _ hm
    cases e
    exact ⟨ns, tupI_raw I ht, hn, hb⟩
  · have hoL : (h'.push (seqObj "list" its.toArray 0)).get? h'.objs.size = some (seqObj "list" its.toArray 0) := Heap.get?_push_size _ rfl
    obtain ⟨ep, he'⟩ := PyProof.Rows.sortedHeap_at (out := out) hoL
    have h3 : ∀ u ∈ out.toList, ∃ a, u = Value.ref a := fun u hu => e2 u (h1.mem_iff.mp hu)
    have hp : (out.toList.map bkV).Perm xs := by
      rw [e1]
      exact h1.map bkV
    have hlen : (out.toList.map bkV).length ≤ sizeLine := by
      rw [hp.length_eq]
      exact hz
    have I2 : Inv X pins σ H { s with heap := h' } := I.kept (t' := s.toks) kp
    refine ⟨.ref _, upd H h'.objs.size (.lst (out.toList.map bkV)), I2.laid (t' := s.toks) (fun b u hb => ?_) (Nat.le_refl _) ⟨hlen, out.toList, ep, bkV_vals h3, he'⟩, rfl, q _ _ hp ?_ (I2.hok.fresh (Nat.le_refl _))⟩
    · have hb' : h'.get? b = some u := hb
      have hlt : b < h'.objs.size := Heap.lt_size hb'
      rw [PyProof.Rows.sortedHeap_old (Nat.ne_of_lt hlt) (by rw [size_push']; exact Nat.lt_succ_of_lt hlt)]
      exact Heap.get?_push_of_some _ hb'
    rw [List.pairwise_map]
    refine List.Pairwise.imp (fun {u v} huv n m hn hm => ?_) h2
    obtain ⟨t, et, ht⟩ := hn
    obtain ⟨t', et', ht'⟩ := hm
    have eu := bkV_ref et
    have ev := bkV_ref et'
    have i1 : TS.intsOf s.heap u = n := by
      rw [eu]
      exact (tupI_raw I ht).ints
    have i2 : TS.intsOf s.heap v = m := by
      rw [ev]
      exact (tupI_raw I ht').ints
    rw [← i1, ← i2]
    exact huv
def encsOf (ds : List D) : Res D := (toEnc ds).bind fun cs => if cs.length < 64 then .ok (.lst ((sortI cs).map decP)) else .bad
/-- sorted of numbers in a list, of pairs in a list or a tuple -/
def sortedB : List D → Res D
  | [.tup ds] => encsOf ds
  | xs => sortedA xs
theorem sortedB_of (ds : List D) : sortedB [.lst ds] = sortedA [.lst ds] := rfl
def rSortedB (K : PySem.W.Frag) : List V → Hp → VK → Prop := fun vs H Q => rSortedA K vs H Q ∨ rSortTT K 2 4096 vs H Q
theorem cr_sortedB {X : Cx} : CallR X (.builtin "sorted") (rSortedB X.K) := fun pins s σ H xs us Q I r h => h.elim (cr_sortedA pins s σ H xs us Q I r) (cr_sortTT (by decide) pins s σ H xs us Q I r)
theorem encs_run {R : RC} {F H : Hp} {ds : List D} {ws : List V} {z : D} (s : Same F H) (r1 : Reps R F ds ws) (h : encsOf ds = .ok z) : ∃ cs : List Int, z = .lst (cs.map decP) ∧ ws.length < 64 ∧ (∀ x ∈ ws, ∃ ns, TupI R.K H x ns ∧ ns.length = 2 ∧ TS.Bd 4096 ns) ∧
    ∀ ys : List V, ys.Perm ws → ys.Pairwise (fun x y => ∀ n m, TupI R.K H x n → TupI R.K H y m → TS.code 4096 n ≤ TS.code 4096 m) → Reps R F (cs.map decP) ys := by
  obtain ⟨cs, h1, h2⟩ := Res.bind_ok h
  split at h2
  · rename_i h64
    cases h2
    obtain ⟨rfl, hg⟩ := toEnc_ok h1
    refine ⟨sortI cs, rfl, by rw [r1.length]; simpa using h64, fun x hx => ?_, fun ys h1 h2 => ?_⟩
    · obtain ⟨i, hi, he⟩ := List.mem_iff_getElem.mp hx
      have hl : i < (cs.map decP).length := by rw [← r1.length]; exact hi
      obtain ⟨w, hw, rw'⟩ := r1.get (i := i) (List.getElem?_eq_getElem hl)
      rw [List.getElem?_eq_getElem hi, he] at hw
      cases hw
      rw [List.getElem_map] at rw'
      refine ⟨_, rep_dec s rw', rfl, fun m hm => ?_⟩
      have := hg _ (List.getElem_mem (by simpa using hl))
      unfold GoodC at this
      rcases List.mem_cons.mp hm with rfl | hm
      · omega
      · rcases List.mem_cons.mp hm with rfl | hm
        · omega
        · cases hm
    · obtain ⟨ds', r2, pm⟩ := r1.perm h1
      have pc : (ds'.map encT).Perm cs := by
        have := pm.map encT
        rw [List.map_map] at this
        rwa [show cs.map (encT ∘ decP) = cs from by
          conv => rhs; rw [← List.map_id cs]
          exact List.map_congr_left fun c _ => encT_dec] at this
      have ed : ds' = (ds'.map encT).map decP := by
        rw [List.map_map]
        conv => lhs; rw [← List.map_id ds']
        refine List.map_congr_left fun d hd => ?_
        obtain ⟨c, _, rfl⟩ := List.mem_map.mp (pm.mem_iff.mp hd)
        show decP c = decP (encT (decP c))
        rw [encT_dec]
      rw [ed] at r2
      have e : ds'.map encT = sortI cs := sorted_unique (pc.trans (sortI_perm cs).symm) (pw_dec s r2 h2) (sortI_sorted cs)
      rw [e] at r2
      exact r2
  · cases h2
theorem sortedB_run {R : RC} {B : Bs} {env : Env'} {p : Pn} {σ : L2.St} {F H : Hp} {xs : List D} {z : D} {vs : List V} {Q : VK} (S : SRel R B env p σ F H) (r : Reps R F xs vs) (h : sortedB xs = .ok z)
    (q : ∀ ds ws, z = .lst ds → Reps R F ds ws → ∀ a, H a = none → Q (.ref a) (upd H a (.lst ws))) : rSortedB R.K vs H Q := by
  unfold sortedB at h
  split at h
  · rename_i ds
    obtain ⟨v, rfl, r1⟩ := r.one1
    simp only [Rep] at r1
    obtain ⟨a, ws, rfl, g1, r1⟩ := r1
    obtain ⟨cs, rfl, h64, hx, hy⟩ := encs_run S.fh r1 h
    exact .inr ⟨a, ws, rfl, Same.sqt S.fh g1, h64, hx, fun ys l h1 h2 hn => q _ _ rfl (hy ys h1 h2) l hn⟩
  · exact .inl (sortedA_run S r h q)
theorem sortedB_lst {xs : List D} {z : D} (h : sortedB xs = .ok z) : ∃ ds, z = .lst ds := by
  unfold sortedB at h
  split at h
  · obtain ⟨cs, h1, h2⟩ := Res.bind_ok h
    split at h2
    · cases h2; exact ⟨_, rfl⟩
    · cases h2
  · exact sortedA_lst h
theorem sortedB_d {R : RC} : CallD R (rSortedB R.K) sortedB := ⟨fun S r h q => by
  obtain ⟨ds, rfl⟩ := sortedB_lst h
  exact sortedB_run S r h fun ds ws e rz a hn => by
    cases e
    exact Wn.lst S rz q a hn⟩
theorem sortedB_l {R : RC} : CallL R (rSortedB R.K) sortedB := ⟨fun S r h q => sortedB_run S r h q⟩
end CS
namespace CSW
open PySem PySem.Spec PyProof.Rows
section
variable {prog : Program} {w : World} {A : Around} {E : Value → Shared → Prop} {s : Shared} {l : Addr} {xs : Array (Int × Tok)}
theorem iter_intTup {Q : Value → Shared → Prop} {items : Array Value} (hl : s.heap.IsTuple l items)
    (h : ∀ s₂ : Shared, s₂ = { s with heap := s.heap.push { cls := .type "tuple_iterator", data := .fields #[.ref l, .int 0 0] } } → (s₂.heap.IsTupleIter s.heap.objs.size l 0 ∧ s₂.heap.IsTuple l items) → (∀ b ∈ [s.heap.objs.size, l], b < s₂.heap.objs.size) → l ≠ s.heap.objs.size → Q (.ref s.heap.objs.size) s₂) :
    wpAny (model prog w) A (pyIter (.ref l)) Q E s := by
  have hlt : l < s.heap.objs.size := by obtain ⟨o, ho, _⟩ := hl; exact Heap.lt_size ho
  refine wpAny_pyIter_tuple hl (h _ rfl ⟨⟨_, Heap.get?_push_size _ rfl, rfl, rfl⟩, hl.push _⟩ (fun b hb => ?_) (Nat.ne_of_lt hlt))
  show b < (s.heap.push _).objs.size
  rw [Heap.size_push]
  rcases List.mem_cons.mp hb with rfl | hb
  · exact Nat.lt_succ_self _
  · rcases List.mem_cons.mp hb with rfl | hb
    · exact Nat.lt_succ_of_lt hlt
    · cases hb
theorem max_intTup {Q : Value → Shared → Prop} (hh : A.handled = none) (hl : s.heap.IsTuple l (intItems xs)) (hne : 0 < xs.size)
    (h : ∀ v h' tk, (intItems xs)[argBest (fun i j => decide (numAt xs i > numAt xs j)) (xs.size - 1)]? = some v → (∀ b o, s.heap.get? b = some o → h'.get? b = some o) → Q v { s with heap := h', toks := tk }) :
    wpAny (model prog w) A (call (.builtin "max") [.ref l]) Q E s := by
  refine call_max_walk (iter_intTup hl fun s₂ e st hfp hlI => ?_)
  subst e
  refine ⟨_, _, _, _, _, _, _, rfl, Walks.tuple (A := A.in1) hh _ l hlI (intItems xs), st, hfp, by simpa [intItems] using hne, CmpOf.ints_gt (numAt xs) (fun _ _ => intItems_at), fun v h' tk hP hk => ?_⟩
  refine h v h' tk (by simpa [intItems] using hP) fun b o e => ?_
  refine hk b o (fun hm => ?_) (Heap.get?_push_of_some _ e)
  rcases List.mem_cons.mp hm with e1 | hm
  · exact absurd (e1 ▸ Heap.lt_size e) (Nat.lt_irrefl _)
  · cases hm
theorem max_rawT {its : List Value} {ns : List Int} {Q : Value → Shared → Prop} (hh : A.handled = none) (hl : s.heap.IsTuple l its.toArray) (hi : IntsAre its ns) (hne : 0 < ns.length)
    (h : ∀ h' tk M t', (∀ b o, s.heap.get? b = some o → h'.get? b = some o) → M ∈ ns → (∀ a, a ∈ ns → a ≤ M) → Q (.int M t') { s with heap := h', toks := tk }) : wpAny (model prog w) A (call (.builtin "max") [.ref l]) Q E s := by
  obtain ⟨xs, e⟩ := hi.allInts.items
  have hn : numsOf (intItems xs).toList = ns := by rw [← e]; exact hi.numsOf
  rw [nums_intItems] at hn
  subst hn
  rw [e] at hl
  have hsz : 0 < xs.size := by simpa using hne
  refine max_intTup hh hl hsz fun v h' tk hv hk => ?_
  obtain ⟨t, rfl⟩ := intItems_at hv
  obtain ⟨h1, h2⟩ := argBest_gt (numAt xs) (xs.size - 1)
  refine h h' tk _ t hk ?_ fun a ha => ?_
  · rw [numAt_eq]; exact PySem.getD_mem (by rw [List.length_map, Array.length_toList]; omega)
  · obtain ⟨j, hj, rfl⟩ := mem_getD ha
    rw [List.length_map, Array.length_toList] at hj
    rw [← numAt_eq]; exact h2 j (by omega)
end
end CSW
namespace CS
open PySem L2
def rMaxA (K : PySem.W.Frag) : List V → Hp → VK → Prop := fun vs H Q => rMax K vs H Q ∨ ∃ (a : Addr) (ns : List Int), vs = [V.ref a] ∧ SqT K H a (ns.map V.int) ∧ 0 < ns.length ∧ ∀ m, m ∈ ns → (∀ y, y ∈ ns → y ≤ m) → Q (.int m) H
theorem cr_maxA {X : Cx} (hc : X.calm = true) : CallR X (.builtin "max") (rMaxA X.K) := fun pins s σ H vs us Q I r h => by
  rcases h with h | ⟨a, ns, rfl, hs, hne, q⟩
  · exact cr_max hc pins s σ H vs us Q I r h
  · obtain ⟨its, rv, hl, _⟩ := I.tuple hs
    rw [Vals.ref1 r]
    exact CSW.max_rawT (I.ok.hd hc) (show s.heap.IsTuple a its.toArray from hl) rv.ints hne fun h' tk m t' hk h1 h2 => ⟨.int _, H, I.kept hk, ⟨_, rfl⟩, q m h1 h2⟩
/-- max of a list, a tuple of numbers -/
def maxA : List D → Res D
  | [.tup ds] => (toInts ds).bind fun is => if is.isEmpty then .bad else .ok (.int (maxL is))
  | xs => max1D xs
theorem maxA_d {R : RC} : CallD R (rMaxA R.K) maxA := ⟨fun {B env p σ F H xs z vs Q} S r h q => by
  unfold maxA at h
  split at h
  · obtain ⟨is, h1, h2⟩ := Res.bind_ok h
    split at h2
    · cases h2
    · rename_i hne
      cases h2
      cases toInts_ok h1
      obtain ⟨v, rfl, r1⟩ := r.one1
      simp only [Rep] at r1
      obtain ⟨a, ws, rfl, g1, r1⟩ := r1
      cases Reps.ints r1
      have hne' : is ≠ [] := by rintro rfl; simp at hne
      refine .inr ⟨a, is, rfl, Same.sqt S.fh g1, List.length_pos_iff.mpr hne', fun m h1 h2 => ?_⟩
      obtain ⟨k1, k2⟩ := maxL_spec hne'
      have : m = maxL is := Int.le_antisymm (k2 m h1) (h2 _ k1)
      subst this
      exact Wn.flat S q (by simp [Rep])
  · exact .inl (max1_d.run S r h q)⟩
end CS
namespace CS
open PySem L2
/-! ## running mirrors -/
section
variable {α β : Type} {env e1 e2 e3 : Env'} {p p1 p2 p3 : Pn}
theorem run_bind {m : M α} {k : α → M β} {a : α} {r : Res (β × Env' × Pn)} (h : m env p = .ok (a, e1, p1)) (h2 : k a e1 p1 = r) : (m >>= k) env p = r := by
  show (m env p).bind _ = _
  rw [h]; exact h2
theorem run_res {r : Res α} {a : α} (h : r = .ok a) : M.res r env p = .ok (a, env, p) := by rw [h]; rfl
theorem run_seq {a b : SS} {o : Out} (h : a env p = .nx e1 p1) (h2 : b e1 p1 = o) : dSeq a b env p = o := by
  unfold dSeq; rw [h]; exact h2
theorem run_seqR {a b : SS} {d : D} (h : a env p = .rt d p1) : dSeq a b env p = .rt d p1 := by
  unfold dSeq; rw [h]; rfl
theorem run_of {m : M α} {k : α → SS} {a : α} {o : Out} (h : m env p = .ok (a, e1, p1)) (h2 : k a e1 p1 = o) : dOf m k env p = o := by
  unfold dOf; rw [h]; exact h2
theorem run_expr {m : M D} {d : D} (h : m env p = .ok (d, e1, p1)) : dExpr m env p = .nx e1 p1 := run_of h rfl
theorem run_set {i : Nat} {m : M D} {d : D} (h : m env p = .ok (d, e1, p1)) : dSet i m env p = .nx (e1.set i (.pl d)) p1 := run_of h rfl
theorem run_setO {i : Nat} {m : M D} {d : D} (h : m env p = .ok (d, e1, p1)) : dSetO i m env p = .nx (e1.set i (.ow d)) p1 := run_of h rfl
theorem run_ret {m : M D} {d : D} (h : m env p = .ok (d, e1, p1)) : dRet m env p = .rt d p1 := run_of h rfl
theorem run_asg {m : M D} {b : Bd} {d : D} (h : m env p = .ok (d, e1, p1)) (h2 : b d e1 = .ok e2) : dAsg m b env p = .nx e2 p1 := run_of h (by rw [h2])
theorem run_if {t : M Bool} {a b : SS} {c : Bool} {o : Out} (h : t env p = .ok (c, e1, p1)) (h2 : (if c = true then a else b) e1 p1 = o) : dIf t a b env p = o := run_of h h2
theorem run_ifT {t : M Bool} {a b : SS} {o : Out} (h : t env p = .ok (true, e1, p1)) (h2 : a e1 p1 = o) : dIf t a b env p = o := run_of h h2
theorem run_ifF {t : M Bool} {a b : SS} {o : Out} (h : t env p = .ok (false, e1, p1)) (h2 : b e1 p1 = o) : dIf t a b env p = o := run_of h h2
theorem run_par {i j : Nat} {m n : M D} {x y : D} (h : m env p = .ok (x, e1, p1)) (h2 : n e1 p1 = .ok (y, e2, p2)) : dPar i j m n env p = .nx ((e2.set i (.pl x)).set j (.pl y)) p2 := by
  refine run_of (a := (x, y)) (e1 := e2) (p1 := p2) ?_ rfl
  exact run_bind h (run_bind h2 rfl)
theorem run_parO {i j : Nat} {m n : M D} {x y : D} (h : m env p = .ok (x, e1, p1)) (h2 : n (e1.map Slot.rd) p1 = .ok (y, e2, p2)) : dParO i j m n env p = .nx ((e1.set i (.ow x)).set j (.pl y)) p2 := by
  refine run_of (a := (x, y)) (e1 := e1) (p1 := p2) ?_ rfl
  refine run_bind h (run_bind (a := y) (e1 := e1) (p1 := p2) ?_ rfl)
  unfold mRd; rw [h2]; rfl
theorem run_parOO {i j : Nat} {m n : M D} {x y : D} (h : m env p = .ok (x, e1, p1)) (h2 : n (e1.map Slot.rd) p1 = .ok (y, e2, p2)) : dParOO i j m n env p = .nx ((e1.set i (.ow x)).set j (.ow y)) p2 := by
  refine run_of (a := (x, y)) (e1 := e1) (p1 := p2) ?_ rfl
  refine run_bind h (run_bind (a := y) (e1 := e1) (p1 := p2) ?_ rfl)
  unfold mRd; rw [h2]; rfl
theorem run_m2 {f : D → D → Res D} {m n : M D} {x y z : D} (h : m env p = .ok (x, e1, p1)) (h2 : n e1 p1 = .ok (y, e2, p2)) (h3 : f x y = .ok z) : m2 f m n env p = .ok (z, e2, p2) := by
  refine run_bind h (run_bind h2 ?_)
  show (f x y).bind _ = _
  rw [h3]; rfl
theorem run_m1 {f : D → Res D} {m : M D} {x z : D} (h : m env p = .ok (x, e1, p1)) (h3 : f x = .ok z) : m1 f m env p = .ok (z, e1, p1) := by
  refine run_bind h ?_
  show (f x).bind _ = _
  rw [h3]; rfl
theorem run_cons {m : M D} {ms : M (List D)} {x : D} {xs : List D} (h : m env p = .ok (x, e1, p1)) (h2 : ms e1 p1 = .ok (xs, e2, p2)) : mCons m ms env p = .ok (x :: xs, e2, p2) := run_bind h (run_bind h2 rfl)
theorem run_CB {f : List D → Res D} {ms : M (List D)} {xs : List D} {z : D} (h : ms env p = .ok (xs, e1, p1)) (h2 : f xs = .ok z) : mCB f ms env p = .ok (z, e1, p1) := by
  refine run_bind h ?_
  show (f xs).bind _ = _
  rw [h2]; rfl
theorem run_call {mf : FD} {ms : M (List D)} {xs : List D} {z : D} (h : ms env p = .ok (xs, e1, p1)) (h2 : mf xs p1 = .ok (z, p2)) : mCall mf [] ms env p = .ok (z, e1, p2) := by
  refine run_bind h ?_
  show (mf (xs ++ []) p1).bind _ = _
  rw [List.append_nil, h2]; rfl
theorem run_tup {ms : M (List D)} {xs : List D} (h : ms env p = .ok (xs, e1, p1)) (hl : xs.length ≤ sizeLine) : mTup ms env p = .ok (.tup xs, e1, p1) := by
  refine run_bind h ?_
  unfold mkT; rw [if_pos hl]; rfl
theorem run_lst {ms : M (List D)} {xs : List D} (h : ms env p = .ok (xs, e1, p1)) (hl : xs.length ≤ sizeLine) : mLst ms env p = .ok (.lst xs, e1, p1) := by
  refine run_bind h ?_
  unfold mkL; rw [if_pos hl]; rfl
theorem run_B {m : M D} {b : Bool} (h : m env p = .ok (.bl b, e1, p1)) : mB m env p = .ok (b, e1, p1) := run_bind h rfl
theorem run_not {m : M Bool} {b : Bool} (h : m env p = .ok (b, e1, p1)) : mNot m env p = .ok (!b, e1, p1) := run_bind h rfl
theorem run_notV {m : M D} {b : Bool} (h : m env p = .ok (.bl b, e1, p1)) : mNotV m env p = .ok (.bl (!b), e1, p1) := run_bind h rfl
theorem run_bor {m : M D} {d : D} (h : m (env.map Slot.fz) p = .ok (d, e1, p1)) (hf : d.flat = true) : mBor m env p = .ok (d, env, p1) := by
  unfold mBor; rw [h]
  show (if d.flat = true then _ else _) = _
  rw [if_pos hf]
theorem run_borT {m : M Bool} {b : Bool} (h : m (env.map Slot.fz) p = .ok (b, e1, p1)) : mBorT m env p = .ok (b, env, p1) := by
  unfold mBorT; rw [h]; rfl
theorem run_row {m : M D} {d : D} {ds : List D} (h : m env p = .ok (d, e1, p1)) (h2 : d.row = .ok ds) : mRow m env p = .ok (ds, e1, p1) := by
  refine run_bind h ?_
  rw [h2]; rfl
theorem rg_gen {n : Nat} {A B : Int} (h2 : (n : Int) < A) (h3 : B ≤ (n : Int)) : ((asI (D.int n)).bind fun n => if n < A ∧ B ≤ n then Res.ok ((List.range n.toNat).map fun (i : Nat) => D.int i) else Res.bad) = Res.ok ((List.range n).map fun (i : Nat) => D.int i) := by
  have h4 : asI (D.int n) = .ok (n : Int) := rfl
  rw [h4]
  simp only [Res.bind]
  rw [if_pos ⟨h2, h3⟩, Int.toNat_natCast]
theorem le62 {n : Nat} (hn : n ≤ 16777216) : (n : Int) < 2 ^ 62 := by omega
theorem ge62 {n : Nat} : -(2 ^ 62) ≤ (n : Int) := by omega
theorem run_range {m : M D} {n : Nat} (h : m env p = .ok (.int n, e1, p1)) (hn : n ≤ 16777216) : mRange1 m env p = .ok ((List.range n).map fun (i : Nat) => D.int i, e1, p1) := by
  unfold mRange1
  refine run_bind h ?_
  refine run_res ?_
  exact rg_gen (le62 hn) ge62
theorem run_fn {n N : Nat} {body : SS} {ds : List D} {d : D} (hl : ds.length = n) (h : body (ds.map Slot.pl ++ List.replicate (N - n) Slot.un) p = .rt d p1) : fnD n N body ds p = .ok (d, p1) := by
  unfold fnD; rw [if_pos hl, h]
theorem run_fnN {n N : Nat} {body : SS} {ds : List D} (hl : ds.length = n) (h : body (ds.map Slot.pl ++ List.replicate (N - n) Slot.un) p = .nx e1 p1) : fnD n N body ds p = .ok (.non, p1) := by
  unfold fnD; rw [if_pos hl, h]
/-! the same where the names stay as they are -/
theorem pRet {m : M D} {d : D} (h : m env p = .ok (d, env, p1)) : dRet m env p = .rt d p1 := run_ret h
theorem pExpr {m : M D} {d : D} (h : m env p = .ok (d, env, p1)) : dExpr m env p = .nx env p1 := run_expr h
theorem pSet {i : Nat} {m : M D} {d : D} (h : m env p = .ok (d, env, p1)) : dSet i m env p = .nx (env.set i (.pl d)) p1 := run_set h
theorem pSetO {i : Nat} {m : M D} {d : D} (h : m env p = .ok (d, env, p1)) : dSetO i m env p = .nx (env.set i (.ow d)) p1 := run_setO h
theorem pB {m : M D} {b : Bool} (h : m env p = .ok (.bl b, env, p1)) : mB m env p = .ok (b, env, p1) := run_B h
theorem pNot {m : M Bool} {b : Bool} (h : m env p = .ok (b, env, p1)) : mNot m env p = .ok (!b, env, p1) := run_not h
theorem pNotV {m : M D} {b : Bool} (h : m env p = .ok (.bl b, env, p1)) : mNotV m env p = .ok (.bl (!b), env, p1) := run_notV h
theorem pCB {f : List D → Res D} {ms : M (List D)} {xs : List D} {z : D} (h : ms env p = .ok (xs, env, p1)) (h2 : f xs = .ok z) : mCB f ms env p = .ok (z, env, p1) := run_CB h h2
theorem pCons {m : M D} {ms : M (List D)} {x : D} {xs : List D} (h : m env p = .ok (x, env, p1)) (h2 : ms env p1 = .ok (xs, env, p2)) : mCons m ms env p = .ok (x :: xs, env, p2) := run_cons h h2
theorem pOne {m : M D} {x : D} (h : m env p = .ok (x, env, p1)) : mCons m mNil env p = .ok ([x], env, p1) := run_cons h rfl
theorem pCall {mf : FD} {ms : M (List D)} {xs : List D} {z : D} (h : ms env p = .ok (xs, env, p1)) (h2 : mf xs p1 = .ok (z, p2)) : mCall mf [] ms env p = .ok (z, env, p2) := run_call h h2
theorem pRow {m : M D} {d : D} {ds : List D} (h : m env p = .ok (d, env, p1)) (h2 : d.row = .ok ds) : mRow m env p = .ok (ds, env, p1) := run_row h h2
theorem pIfT {t : M Bool} {a b : SS} {o : Out} (h : t env p = .ok (true, env, p1)) (h2 : a env p1 = o) : dIf t a b env p = o := run_ifT h h2
theorem pIfF {t : M Bool} {a b : SS} {o : Out} (h : t env p = .ok (false, env, p1)) (h2 : b env p1 = o) : dIf t a b env p = o := run_ifF h h2
theorem pM2 {f : D → D → Res D} {m n : M D} {x y z : D} (h : m env p = .ok (x, env, p1)) (h2 : n env p1 = .ok (y, env, p2)) (h3 : f x y = .ok z) : m2 f m n env p = .ok (z, env, p2) := run_m2 h h2 h3
theorem pAndT {a b : M D} {r : Res (D × Env' × Pn)} (h : a env p = .ok (.bl true, env, p1)) (h2 : b env p1 = r) : mAndV a b env p = r := by
  refine run_bind h ?_
  refine run_bind (a := true) (e1 := env) (p1 := p1) rfl ?_
  exact h2
theorem pAndF {a b : M D} (h : a env p = .ok (.bl false, env, p1)) : mAndV a b env p = .ok (.bl false, env, p1) := by
  refine run_bind h ?_
  exact run_bind (a := false) (e1 := env) (p1 := p1) rfl rfl
theorem pOrF {a b : M Bool} {r : Res (Bool × Env' × Pn)} (h : a env p = .ok (false, env, p1)) (h2 : b env p1 = r) : mOr a b env p = r := run_bind h h2
theorem pAndB {a b : M D} {x y : Bool} (h : a env p = .ok (.bl x, env, p1)) (h2 : x = true → b env p1 = .ok (.bl y, env, p1)) : mAndV a b env p = .ok (.bl (x && y), env, p1) := by
  cases x with
  | true => exact pAndT h (h2 rfl)
  | false => exact pAndF h
theorem pChain {f g : D → D → Res D} {m n l : M D} {x y z : D} {a b : Bool} (h1 : m env p = .ok (x, env, p)) (h2 : n env p = .ok (y, env, p)) (h3 : f x y = .ok (.bl a)) (h4 : l env p = .ok (z, env, p)) (h5 : g y z = .ok (.bl b)) : mChain f g m n l env p = .ok (.bl (a && b), env, p) := by
  refine run_bind h1 (run_bind h2 (run_bind (run_res h3) (run_bind (a := a) (e1 := env) (p1 := p) rfl ?_)))
  cases a with
  | true => exact run_bind h4 (run_res h5)
  | false => rfl
/-! ### comprehensions -/
theorem compL_run {b : Bd} {t : M Bool} {e : M D} (h : α → D) (c : α → Bool) (g : α → D) : ∀ (l : List α), (∀ a ∈ l, ∃ e1, b (h a) env = .ok e1 ∧ ∃ e2, t e1 p = .ok (c a, e2, p) ∧ (c a = true → ∃ e3, e e2 p = .ok (g a, e3, p))) → compL b t e env (l.map h) p = .ok ((l.filter c).map g, p)
  | [], _ => rfl
  | a :: l, H => by
    obtain ⟨e1, h1, e2, h2, h3⟩ := H a (List.mem_cons_self ..)
    have ih := compL_run h c g l fun x hx => H x (List.mem_cons_of_mem _ hx)
    show (b (h a) env).bind _ = _
    rw [h1]
    show (t e1 p).bind _ = _
    rw [h2]
    show (if c a = true then _ else _) = _
    cases hc : c a with
    | true =>
      obtain ⟨e3, h4⟩ := h3 hc
      rw [if_pos rfl, h4]
      show (compL b t e env (l.map h) p).bind _ = _
      rw [ih, List.filter_cons, if_pos hc]
      rfl
    | false =>
      rw [if_neg Bool.false_ne_true, ih, List.filter_cons, if_neg (by rw [hc]; exact Bool.false_ne_true)]
theorem run_comp {src : M (List D)} {vs : List Nat} {b : Bd} {t : M Bool} {e : M D} (h : α → D) (c : α → Bool) (g : α → D) (l : List α) (hs : src env p = .ok (l.map h, e1, p1))
    (H : ∀ a ∈ l, ∃ e3, b (h a) (wipeE (e1.map Slot.rd) vs) = .ok e3 ∧ ∃ e2, t e3 p1 = .ok (c a, e2, p1) ∧ (c a = true → ∃ e4, e e2 p1 = .ok (g a, e4, p1))) (hl : l.length ≤ sizeLine) : mComp src vs b t e env p = .ok (.lst ((l.filter c).map g), e1, p1) := by
  refine run_bind hs ?_
  show (compL b t e (wipeE (e1.map Slot.rd) vs) (l.map h) p1).bind _ = _
  rw [compL_run h c g l H]
  show (if ((l.filter c).map g).length ≤ sizeLine then _ else _) = _
  rw [if_pos (by rw [List.length_map]; exact Nat.le_trans (List.length_filter_le ..) hl)]
theorem comp2L_run {γ : Type} {b b1 : Bd} {t t1 : M Bool} {src1 : M (List D)} {vs1 : List Nat} {e : M D} (h : α → D) (l1 : α → List γ) (h1 : α → γ → D) (c1 : α → γ → Bool) (g : α → γ → D) : ∀ (l : List α), (∀ a ∈ l, ∃ e1, b (h a) env = .ok e1 ∧ ∃ e2, t e1 p = .ok (true, e2, p) ∧ ∃ e3, src1 e2 p = .ok ((l1 a).map (h1 a), e3, p) ∧
      ∀ x ∈ l1 a, ∃ e4, b1 (h1 a x) (wipeE (e1.map Slot.rd) vs1) = .ok e4 ∧ ∃ e5, t1 e4 p = .ok (c1 a x, e5, p) ∧ (c1 a x = true → ∃ e6, e e5 p = .ok (g a x, e6, p))) →
    comp2L b t src1 vs1 b1 t1 e env (l.map h) p = .ok (l.flatMap fun a => ((l1 a).filter (c1 a)).map (g a), p)
  | [], _ => rfl
  | a :: l, H => by
    obtain ⟨e1, k1, e2, k2, e3, k3, k4⟩ := H a (List.mem_cons_self ..)
    have ih := comp2L_run h l1 h1 c1 g l fun x hx => H x (List.mem_cons_of_mem _ hx)
    show (b (h a) env).bind _ = _
    rw [k1]
    show (t e1 p).bind _ = _
    rw [k2]
    show (src1 e2 p).bind _ = _
    rw [k3]
    show (compL b1 t1 e (wipeE (e1.map Slot.rd) vs1) ((l1 a).map (h1 a)) p).bind _ = _
    rw [compL_run (h1 a) (c1 a) (g a) (l1 a) k4]
    show (comp2L b t src1 vs1 b1 t1 e env (l.map h) p).bind _ = _
    rw [ih]
    rfl
theorem run_comp2 {γ : Type} {src : M (List D)} {vs : List Nat} {b b1 : Bd} {t t1 : M Bool} {src1 : M (List D)} {vs1 : List Nat} {e : M D} (h : α → D) (l1 : α → List γ) (h1 : α → γ → D) (c1 : α → γ → Bool) (g : α → γ → D) (l : List α) (hs : src env p = .ok (l.map h, e1, p1))
    (H : ∀ a ∈ l, ∃ e3, b (h a) (wipeE (e1.map Slot.rd) vs) = .ok e3 ∧ ∃ e2, t e3 p1 = .ok (true, e2, p1) ∧ ∃ e4, src1 e2 p1 = .ok ((l1 a).map (h1 a), e4, p1) ∧
      ∀ x ∈ l1 a, ∃ e5, b1 (h1 a x) (wipeE (e3.map Slot.rd) vs1) = .ok e5 ∧ ∃ e6, t1 e5 p1 = .ok (c1 a x, e6, p1) ∧ (c1 a x = true → ∃ e7, e e6 p1 = .ok (g a x, e7, p1)))
    (hl : (l.flatMap fun a => ((l1 a).filter (c1 a)).map (g a)).length ≤ sizeLine) : mComp2 src vs b t src1 vs1 b1 t1 e env p = .ok (.lst (l.flatMap fun a => ((l1 a).filter (c1 a)).map (g a)), e1, p1) := by
  refine run_bind hs ?_
  show (comp2L b t src1 vs1 b1 t1 e (wipeE (e1.map Slot.rd) vs) (l.map h) p1).bind _ = _
  rw [comp2L_run h l1 h1 c1 g l H]
  show (if _ then _ else _) = _
  rw [if_pos hl]
/-! ### loops -/
theorem forL_inv {b : Bd} {body : SS} (h : α → D) (Inv : List α → Env' → Pn → Prop) (l : List α) (hs : ∀ done a rest env p, l = done ++ a :: rest → Inv done env p → ∃ e1, b (h a) env = .ok e1 ∧ ∃ e2 p2, body e1 p = .nx e2 p2 ∧ Inv (done ++ [a]) e2 p2) :
    ∀ (rest done : List α) (env : Env') (p : Pn), l = done ++ rest → Inv done env p → ∃ e' p', dForL b body (rest.map h) env p = .nx e' p' ∧ Inv l e' p'
  | [], done, env, p, e, hi => ⟨env, p, rfl, by rw [e, List.append_nil]; exact hi⟩
  | a :: rest, done, env, p, e, hi => by
    obtain ⟨e1, h1, e2, p2, h2, h3⟩ := hs done a rest env p e hi
    obtain ⟨e', p', h4, h5⟩ := forL_inv h Inv l hs rest (done ++ [a]) e2 p2 (by rw [e]; simp) h3
    refine ⟨e', p', ?_, h5⟩
    rw [List.map_cons]
    unfold dForL
    rw [h1]
    dsimp only
    rw [h2]
    exact h4
theorem run_for {src : M (List D)} {b : Bd} {body : SS} (h : α → D) (l : List α) (Inv : List α → Env' → Pn → Prop) (hsrc : src env p = .ok (l.map h, e1, p1)) (h0 : Inv [] e1 p1)
    (hs : ∀ done a rest env p, l = done ++ a :: rest → Inv done env p → ∃ e1, b (h a) env = .ok e1 ∧ ∃ e2 p2, body e1 p = .nx e2 p2 ∧ Inv (done ++ [a]) e2 p2) : ∃ e' p', dFor src b body env p = .nx e' p' ∧ Inv l e' p' := by
  obtain ⟨e', p', h1, h2⟩ := forL_inv (b := b) (body := body) h Inv l hs l [] e1 p1 rfl h0
  exact ⟨e', p', run_of hsrc h1, h2⟩
theorem run_while {c : M Bool} {body : SS} (Inv : Nat → Env' → Pn → Prop) (Post : Env' → Pn → Prop) (hs : ∀ n env p, Inv n env p → ∃ k e1 p1, c env p = .ok (k, e1, p1) ∧ (k = true → ∃ m e2 p2, body e1 p1 = .nx e2 p2 ∧ m < n ∧ Inv m e2 p2) ∧ (k = false → Post e1 p1)) :
    ∀ (n : Nat) (env : Env') (p : Pn), Inv n env p → ∃ e' p', dWhile c body env p = .nx e' p' ∧ Post e' p' := by
  have main : ∀ (n : Nat) (env : Env') (p : Pn), Inv n env p → ∃ N e' p', dWhN c body N env p = .nx e' p' ∧ Post e' p' := by
    intro n
    induction n using Nat.strongRecOn with
    | ind n ih =>
      intro env p hi
      obtain ⟨k, e1, p1, h1, h2, h3⟩ := hs n env p hi
      cases k with
      | false => exact ⟨1, e1, p1, run_of h1 rfl, h3 rfl⟩
      | true =>
        obtain ⟨m, e2, p2, h4, hm, h5⟩ := h2 rfl
        obtain ⟨N, e', p', h6, h7⟩ := ih m hm e2 p2 h5
        refine ⟨N + 1, e', p', run_of h1 ?_, h7⟩
        show (match body e1 p1 with
          | .nx e p => dWhN c body N e p
          | .ct e p => dWhN c body N e p
          | .bk e p => .nx e p
          | .rt d p => .rt d p
          | .exc c xs => .exc c xs
          | .bad => .bad) = _
        rw [h4]
        exact h6
  intro n env p hi
  obtain ⟨N, e', p', h1, h2⟩ := main n env p hi
  exact ⟨e', p', dWhile_eq h1 (by simp), h2⟩
end
end CS
namespace CS
open PySem L2
open Classical
/-! ## spaces as relations -/
inductive Rt (ps : List (Nat × Nat)) : Nat → Nat → Prop
  | refl (x : Nat) : Rt ps x x
  | tail {x y z : Nat} : Rt ps x y → (y, z) ∈ ps → Rt ps x z
theorem Rt.one {ps : List (Nat × Nat)} {x y : Nat} (h : (x, y) ∈ ps) : Rt ps x y := .tail (.refl x) h
theorem Rt.trans {ps : List (Nat × Nat)} {x y z : Nat} (h : Rt ps x y) (h2 : Rt ps y z) : Rt ps x z := by
  induction h2 with
  | refl => exact h
  | tail _ h3 ih => exact ih.tail h3
theorem Rt.head {ps : List (Nat × Nat)} {x y z : Nat} (h : (x, y) ∈ ps) (h2 : Rt ps y z) : Rt ps x z := (Rt.one h).trans h2
/-- all pairs are of points below n -/
def In (n : Nat) (ps : List (Nat × Nat)) : Prop := ∀ q ∈ ps, q.1 < n ∧ q.2 < n
theorem Rt.lt {n : Nat} {ps : List (Nat × Nat)} (h : In n ps) {x y : Nat} (r : Rt ps x y) (hx : x < n) : y < n := by
  induction r with
  | refl => exact hx
  | tail _ h3 _ => exact (h _ h3).2
theorem Rt.mono {ps qs : List (Nat × Nat)} (h : ∀ q ∈ ps, q ∈ qs) {x y : Nat} (r : Rt ps x y) : Rt qs x y := by
  induction r with
  | refl => exact .refl _
  | tail _ h3 ih => exact ih.tail (h _ h3)
/-- the least relation of all that hold the pairs -/
theorem Rt.least {ps : List (Nat × Nat)} {R : Nat → Nat → Prop} (h0 : ∀ x, R x x) (ht : ∀ x y z, R x y → R y z → R x z) (h : ∀ x y, (x, y) ∈ ps → R x y) {x y : Nat} (r : Rt ps x y) : R x y := by
  induction r with
  | refl => exact h0 _
  | tail _ h3 ih => exact ht _ _ _ ih (h _ _ h3)
/-- points below n of a kind, ascending -/
noncomputable def sel (n : Nat) (P : Nat → Prop) : List Nat := (List.range n).filter fun y => decide (P y)
theorem mem_sel {n : Nat} {P : Nat → Prop} {y : Nat} : y ∈ sel n P ↔ y < n ∧ P y := by simp [sel]
theorem sel_sorted (n : Nat) (P : Nat → Prop) : (sel n P).Pairwise (· < ·) := List.Pairwise.filter _ List.pairwise_lt_range
theorem sel_nodup (n : Nat) (P : Nat → Prop) : (sel n P).Nodup := (sel_sorted n P).imp fun h => Nat.ne_of_lt h
theorem sel_length (n : Nat) (P : Nat → Prop) : (sel n P).length ≤ n := by
  have := List.length_filter_le (fun y => decide (P y)) (List.range n)
  simpa [sel] using this
theorem sel_congr {n : Nat} {P Q : Nat → Prop} (h : ∀ y, y < n → (P y ↔ Q y)) : sel n P = sel n Q := by
  unfold sel
  exact List.filter_congr fun y hy => by simp [h y (List.mem_range.mp hy)]
theorem sorted_ext : ∀ {l l' : List Nat}, l.Pairwise (· < ·) → l'.Pairwise (· < ·) → (∀ x, x ∈ l ↔ x ∈ l') → l = l'
  | [], [], _, _, _ => rfl
  | [], b :: l', _, _, h => absurd ((h b).mpr (List.mem_cons_self ..)) (by simp)
  | a :: l, [], _, _, h => absurd ((h a).mp (List.mem_cons_self ..)) (by simp)
  | a :: l, b :: l', h1, h2, h => by
    rw [List.pairwise_cons] at h1 h2
    have ab : a = b := by
      rcases List.mem_cons.mp ((h a).mp (List.mem_cons_self ..)) with e | e
      · exact e
      · rcases List.mem_cons.mp ((h b).mpr (List.mem_cons_self ..)) with e2 | e2
        · exact e2.symm
        · have := h1.1 _ e2
          have := h2.1 _ e
          omega
    subst ab
    congr 1
    refine sorted_ext h1.2 h2.2 fun x => ?_
    constructor
    · intro hx
      rcases List.mem_cons.mp ((h x).mp (List.mem_cons_of_mem _ hx)) with e | e
      · have := h1.1 x hx; omega
      · exact e
    · intro hx
      rcases List.mem_cons.mp ((h x).mpr (List.mem_cons_of_mem _ hx)) with e | e
      · have := h2.1 x hx; omega
      · exact e
def nI (i : Nat) : D := .int i
def prD (q : Nat × Nat) : D := .tup [nI q.1, nI q.2]
noncomputable def row (n : Nat) (P : Nat → Prop) : D := .tup ((sel n P).map nI)
noncomputable def rowsO (n : Nat) (r : Nat → Nat → Prop) : List D := (List.range n).map fun x => row n (r x)
noncomputable def rowsU (n : Nat) (r : Nat → Nat → Prop) : List D := (List.range n).map fun y => row n fun x => r x y
noncomputable def spc (n : Nat) (r : Nat → Nat → Prop) : D := .ins "Space" ["many", "over", "under"] [nI n, .tup (rowsO n r), .tup (rowsU n r)]
theorem rowsO_congr {n : Nat} {r r' : Nat → Nat → Prop} (h : ∀ x y, x < n → y < n → (r x y ↔ r' x y)) : rowsO n r = rowsO n r' := by
  unfold rowsO
  refine List.map_congr_left fun x hx => ?_
  unfold row
  rw [sel_congr fun y hy => h x y (List.mem_range.mp hx) hy]
theorem rowsU_congr {n : Nat} {r r' : Nat → Nat → Prop} (h : ∀ x y, x < n → y < n → (r x y ↔ r' x y)) : rowsU n r = rowsU n r' := by
  unfold rowsU
  refine List.map_congr_left fun x hx => ?_
  unfold row
  rw [sel_congr fun y hy => h y x hy (List.mem_range.mp hx)]
theorem spc_congr {n : Nat} {r r' : Nat → Nat → Prop} (h : ∀ x y, x < n → y < n → (r x y ↔ r' x y)) : spc n r = spc n r' := by
  unfold spc; rw [rowsO_congr h, rowsU_congr h]
/-- the pairs of a space -/
noncomputable def prs (n : Nat) (r : Nat → Nat → Prop) : List (Nat × Nat) := (List.range n).flatMap fun x => (sel n fun y => r x y ∧ y ≠ x).map fun y => (x, y)
theorem mem_prs {n : Nat} {r : Nat → Nat → Prop} {q : Nat × Nat} : q ∈ prs n r ↔ q.1 < n ∧ q.2 < n ∧ r q.1 q.2 ∧ q.2 ≠ q.1 := by
  obtain ⟨x, y⟩ := q
  simp only [prs, List.mem_flatMap, List.mem_range, List.mem_map, mem_sel, Prod.mk.injEq]
  constructor
  · rintro ⟨a, ha, b, ⟨hb, h1, h2⟩, rfl, rfl⟩
    exact ⟨ha, hb, h1, h2⟩
  · rintro ⟨h1, h2, h3, h4⟩
    exact ⟨x, h1, y, ⟨h2, h3, h4⟩, rfl, rfl⟩
theorem flat_len {α β : Type} (f : α → List β) (k : Nat) : ∀ l : List α, (∀ a ∈ l, (f a).length ≤ k) → (l.flatMap f).length ≤ l.length * k
  | [], _ => by simp
  | a :: l, h => by
    have h1 := h a (List.mem_cons_self ..)
    have h2 := flat_len f k l fun x hx => h x (List.mem_cons_of_mem _ hx)
    rw [List.flatMap_cons, List.length_append, List.length_cons, Nat.add_mul]
    omega
theorem prs_len (n : Nat) (r : Nat → Nat → Prop) : (prs n r).length ≤ n * n := by
  have := flat_len (fun x => (sel n fun y => r x y ∧ y ≠ x).map fun y => (x, y)) n (List.range n) fun x _ => by rw [List.length_map]; exact sel_length _ _
  simpa [prs] using this
/-- a relation that orders all n points -/
structure Po (n : Nat) (r : Nat → Nat → Prop) : Prop where
  refl : ∀ x, x < n → r x x
  trans : ∀ x y z, x < n → y < n → z < n → r x y → r y z → r x z
  anti : ∀ x y, x < n → y < n → r x y → r y x → x = y
/-- a relation that is a space -/
structure Qo (n : Nat) (r : Nat → Nat → Prop) : Prop where
  refl : ∀ x, x < n → r x x
  trans : ∀ x y z, x < n → y < n → z < n → r x y → r y z → r x z
theorem Qo.rt {n : Nat} {ps : List (Nat × Nat)} : Qo n (Rt ps) := ⟨fun x _ => .refl x, fun _ _ _ _ _ _ a b => a.trans b⟩
/-- pairs that rise by some rank never come back -/
theorem Rt.rank {ps : List (Nat × Nat)} {f : Nat → Nat} (h : ∀ q ∈ ps, f q.1 < f q.2) {x y : Nat} (r : Rt ps x y) : x = y ∨ f x < f y := by
  induction r with
  | refl => exact .inl rfl
  | tail _ h3 ih =>
    have := h _ h3
    rcases ih with rfl | ih
    · exact .inr this
    · exact .inr (Nat.lt_trans ih this)
theorem Po.rt {n : Nat} {ps : List (Nat × Nat)} {f : Nat → Nat} (h : ∀ q ∈ ps, f q.1 < f q.2) : Po n (Rt ps) :=
  ⟨fun x _ => .refl x, fun _ _ _ _ _ _ a b => a.trans b, fun x y _ _ a b => by
    rcases a.rank h with e | e
    · exact e
    · rcases b.rank h with e2 | e2
      · exact e2.symm
      · omega⟩
/-- the closure of a space's own pairs is the space -/
theorem rt_prs {n : Nat} {r : Nat → Nat → Prop} (q : Qo n r) {x y : Nat} (hx : x < n) (hy : y < n) : Rt (prs n r) x y ↔ r x y := by
  constructor
  · intro h
    have : y < n ∧ r x y := by
      clear hy
      induction h with
      | refl => exact ⟨hx, q.refl _ hx⟩
      | tail h1 h3 ih =>
        obtain ⟨a, b, c, _⟩ := mem_prs.mp h3
        exact ⟨b, q.trans _ _ _ hx a b ih.2 c⟩
    exact this.2
  · intro h
    by_cases e : y = x
    · subst e; exact .refl _
    · exact .one (mem_prs.mpr ⟨hx, hy, h, e⟩)
end CS
namespace CS
open PySem L2
open Classical
/-! ## numbers and rows of them: == -/
mutual
def D.pl : Nat → D → Bool
  | _, .int _ => true
  | n + 1, .tup ds => D.pls n ds
  | n + 1, .lst ds => D.pls n ds
  | _, _ => false
def D.pls : Nat → List D → Bool
  | _, [] => true
  | n, d :: ds => D.pl n d && D.pls n ds
end
theorem pls_all (n : Nat) : ∀ ds : List D, D.pls n ds = true ↔ ∀ d ∈ ds, D.pl n d = true
  | [] => by simp [D.pls]
  | d :: ds => by simp [D.pls, pls_all n ds]
mutual
theorem pl_sh : ∀ (n k : Nat) (d : D), n ≤ k → D.pl n d = true → D.sh k d = true
  | n, k, .int i, _, _ => by cases k <;> rfl
  | n + 1, 0, .tup ds, h, _ => by omega
  | n + 1, 0, .lst ds, h, _ => by omega
  | n + 1, k + 1, .tup ds, h, h2 => by
    simp only [D.sh]
    exact pls_shs n k ds (by omega) (by simpa [D.pl] using h2)
  | n + 1, k + 1, .lst ds, h, h2 => by
    simp only [D.sh]
    exact pls_shs n k ds (by omega) (by simpa [D.pl] using h2)
  | n, k, .non, _, h => by simp [D.pl] at h
  | n, k, .bl _, _, h => by simp [D.pl] at h
  | n, k, .str _, _, h => by simp [D.pl] at h
  | 0, k, .tup _, _, h => by simp [D.pl] at h
  | 0, k, .lst _, _, h => by simp [D.pl] at h
  | n, k, .ins _ _ _, _, h => by simp [D.pl] at h
  | n, k, .pen, _, h => by simp [D.pl] at h
  | n, k, .ty _, _, h => by simp [D.pl] at h
  | n, k, .cls _, _, h => by simp [D.pl] at h
theorem pls_shs : ∀ (n k : Nat) (ds : List D), n ≤ k → D.pls n ds = true → D.shs k ds = true
  | n, k, [], _, _ => by simp [D.shs]
  | n, k, d :: ds, h, h2 => by
    simp only [D.pls, Bool.and_eq_true] at h2
    simp only [D.shs, Bool.and_eq_true]
    exact ⟨pl_sh n k d h h2.1, pls_shs n k ds h h2.2⟩
end
mutual
theorem pl_eqv : ∀ (n m : Nat) (a b : D), D.pl n a = true → D.pl m b = true → (PyData.eqv a.py b.py = true ↔ a = b)
  | n, m, .int i, b, _, hb => by
    cases b with
    | int j => simp [D.py, PyData.eqv]
    | tup _ => simp [D.py, PyData.eqv]
    | lst _ => simp [D.py, PyData.eqv]
    | _ => simp [D.pl] at hb
  | n + 1, m, .tup ds, b, ha, hb => by
    cases b with
    | int j => simp [D.py, PyData.eqv]
    | lst _ => simp [D.py, PyData.eqv]
    | tup es =>
      cases m with
      | zero => simp [D.pl] at hb
      | succ m =>
        simp only [D.py, PyData.eqv, D.tup.injEq]
        exact pls_eqv n m ds es (by simpa [D.pl] using ha) (by simpa [D.pl] using hb)
    | _ => simp [D.pl] at hb
  | n + 1, m, .lst ds, b, ha, hb => by
    cases b with
    | int j => simp [D.py, PyData.eqv]
    | tup _ => simp [D.py, PyData.eqv]
    | lst es =>
      cases m with
      | zero => simp [D.pl] at hb
      | succ m =>
        simp only [D.py, PyData.eqv, D.lst.injEq]
        exact pls_eqv n m ds es (by simpa [D.pl] using ha) (by simpa [D.pl] using hb)
    | _ => simp [D.pl] at hb
  | 0, m, .tup ds, b, ha, hb => by simp [D.pl] at ha
  | 0, m, .lst ds, b, ha, hb => by simp [D.pl] at ha
  | n, m, .non, _, h, _ => by simp [D.pl] at h
  | n, m, .bl _, _, h, _ => by simp [D.pl] at h
  | n, m, .str _, _, h, _ => by simp [D.pl] at h
  | n, m, .ins _ _ _, _, h, _ => by simp [D.pl] at h
  | n, m, .pen, _, h, _ => by simp [D.pl] at h
  | n, m, .ty _, _, h, _ => by simp [D.pl] at h
  | n, m, .cls _, _, h, _ => by simp [D.pl] at h
theorem pls_eqv : ∀ (n m : Nat) (as bs : List D), D.pls n as = true → D.pls m bs = true → (PyData.eqvAll (D.pys as) (D.pys bs) = true ↔ as = bs)
  | n, m, [], [], _, _ => by simp [D.pys, PyData.eqvAll]
  | n, m, [], _ :: _, _, _ => by simp [D.pys, PyData.eqvAll]
  | n, m, _ :: _, [], _, _ => by simp [D.pys, PyData.eqvAll]
  | n, m, a :: as, b :: bs, ha, hb => by
    simp only [D.pls, Bool.and_eq_true] at ha hb
    simp only [D.pys, PyData.eqvAll, Bool.and_eq_true, List.cons.injEq]
    rw [pl_eqv n m a b ha.1 hb.1, pls_eqv n m as bs ha.2 hb.2]
end
theorem bool_iff {b : Bool} {P : Prop} [Decidable P] (h : b = true ↔ P) : b = decide P := by
  by_cases q : P
  · rw [decide_eq_true q]; exact h.mpr q
  · rw [decide_eq_false q]
    cases b with
    | false => rfl
    | true => exact absurd (h.mp rfl) q
theorem eqD_pl {a b : D} (ha : a.pl 9 = true) (hb : b.pl 9 = true) : eqD a b = .ok (.bl (decide (a = b))) := by
  unfold eqD
  rw [if_pos (by rw [pl_sh 9 40 a (by decide) ha, pl_sh 9 40 b (by decide) hb]; rfl)]
  congr 2
  exact bool_iff (pl_eqv 9 9 a b ha hb)
theorem neD_pl {a b : D} (ha : a.pl 9 = true) (hb : b.pl 9 = true) : neD a b = .ok (.bl (decide (a ≠ b))) := by
  unfold neD
  rw [if_pos (by rw [pl_sh 9 40 a (by decide) ha, pl_sh 9 40 b (by decide) hb]; rfl)]
  congr 2
  rw [show a.eqv b = decide (a = b) from bool_iff (pl_eqv 9 9 a b ha hb)]
  by_cases q : a = b
  · simp [q]
  · simp [q]
theorem any_eqv {x : D} {ds : List D} (hx : x.pl 9 = true) (hd : ∀ d ∈ ds, d.pl 9 = true) : (ds.any fun e => e.eqv x) = decide (x ∈ ds) := by
  refine bool_iff ?_
  rw [List.any_eq_true]
  constructor
  · rintro ⟨e, he, h⟩
    rw [show e = x from (pl_eqv 9 9 e x (hd e he) hx).mp h] at he
    exact he
  · exact fun h => ⟨x, h, (pl_eqv 9 9 x x hx hx).mpr rfl⟩
theorem inD_pl {x y : D} {ds : List D} (hr : y.row = .ok ds) (hx : x.pl 9 = true) (hd : ∀ d ∈ ds, d.pl 9 = true) : inD x y = .ok (.bl (decide (x ∈ ds))) := by
  unfold inD
  rw [hr]
  show (if _ then _ else _) = _
  rw [if_pos (by rw [pl_sh 9 40 x (by decide) hx, Bool.true_and, List.all_eq_true]; exact fun d h => pl_sh 9 40 d (by decide) (hd d h)), any_eqv hx hd]
theorem notInD_pl {x y : D} {ds : List D} (hr : y.row = .ok ds) (hx : x.pl 9 = true) (hd : ∀ d ∈ ds, d.pl 9 = true) : notInD x y = .ok (.bl (decide (x ∉ ds))) := by
  unfold notInD
  rw [hr]
  show (if _ then _ else _) = _
  rw [if_pos (by rw [pl_sh 9 40 x (by decide) hx, Bool.true_and, List.all_eq_true]; exact fun d h => pl_sh 9 40 d (by decide) (hd d h)), any_eqv hx hd]
  by_cases q : x ∈ ds
  · simp [q]
  · simp [q]
theorem nI_inj {a b : Nat} : nI a = nI b ↔ a = b := by
  unfold nI
  constructor
  · intro h; injection h with h; omega
  · rintro rfl; rfl
theorem prD_inj {a b : Nat × Nat} : prD a = prD b ↔ a = b := by
  obtain ⟨a1, a2⟩ := a
  obtain ⟨b1, b2⟩ := b
  unfold prD nI
  constructor
  · intro h; injection h with h; injection h with h1 h2; injection h2 with h2 h3
    injection h1 with h1; injection h2 with h2
    rw [show a1 = b1 by omega, show a2 = b2 by omega]
  · intro h; cases h; rfl
theorem mem_nI {a : Nat} {l : List Nat} : nI a ∈ l.map nI ↔ a ∈ l := by
  rw [List.mem_map]
  exact ⟨fun ⟨b, h, e⟩ => by rw [← nI_inj.mp e]; exact h, fun h => ⟨a, h, rfl⟩⟩
theorem map_nI_inj {l l' : List Nat} : l.map nI = l'.map nI ↔ l = l' := by
  constructor
  · intro h
    induction l generalizing l' with
    | nil => cases l' with
      | nil => rfl
      | cons _ _ => simp at h
    | cons a l ih => cases l' with
      | nil => simp at h
      | cons b l' =>
        simp only [List.map_cons, List.cons.injEq] at h
        rw [nI_inj.mp h.1, ih h.2]
  · rintro rfl; rfl
theorem pl_nI (n i : Nat) : (nI i).pl n = true := by cases n <;> rfl
theorem pl_mono : ∀ {n : Nat} {d : D}, d.pl n = true → ∀ k, n ≤ k → d.pl k = true := by
  intro n
  induction n with
  | zero =>
    intro d h k _
    cases d <;> simp [D.pl] at h
    cases k <;> rfl
  | succ n ih =>
    intro d h k hk
    cases k with
    | zero => omega
    | succ k =>
      cases d with
      | int _ => rfl
      | tup ds =>
        simp only [D.pl] at h ⊢
        rw [pls_all] at h ⊢
        exact fun x hx => ih (h x hx) k (by omega)
      | lst ds =>
        simp only [D.pl] at h ⊢
        rw [pls_all] at h ⊢
        exact fun x hx => ih (h x hx) k (by omega)
      | _ => simp [D.pl] at h
theorem pl_tup {n : Nat} {ds : List D} (h : ∀ d ∈ ds, d.pl n = true) : (D.tup ds).pl (n + 1) = true := by
  simp only [D.pl]; exact (pls_all n ds).mpr h
theorem pl_lst {n : Nat} {ds : List D} (h : ∀ d ∈ ds, d.pl n = true) : (D.lst ds).pl (n + 1) = true := by
  simp only [D.pl]; exact (pls_all n ds).mpr h
theorem pl_nums (l : List Nat) (n : Nat) : ∀ d ∈ l.map nI, d.pl n = true := fun d h => by
  obtain ⟨i, _, rfl⟩ := List.mem_map.mp h
  exact pl_nI n i
theorem pl_prD (q : Nat × Nat) : (prD q).pl 1 = true := pl_tup (n := 0) fun d h => by
  rcases List.mem_cons.mp h with rfl | h
  · rfl
  · rcases List.mem_cons.mp h with rfl | h
    · rfl
    · cases h
theorem pl_row (n : Nat) (P : Nat → Prop) : (row n P).pl 1 = true := pl_tup (pl_nums _ 0)
theorem pl_rowsO (n : Nat) (r : Nat → Nat → Prop) : ∀ d ∈ rowsO n r, d.pl 1 = true := fun d h => by
  obtain ⟨i, _, rfl⟩ := List.mem_map.mp h
  exact pl_row _ _
theorem eq_nat (a b : Nat) : eqD (nI a) (nI b) = .ok (.bl (decide (a = b))) := by
  rw [eqD_pl (pl_nI 9 a) (pl_nI 9 b)]
  congr 2
  exact decide_eq_decide.mpr nI_inj
theorem ne_nat (a b : Nat) : neD (nI a) (nI b) = .ok (.bl (decide (a ≠ b))) := by
  rw [neD_pl (pl_nI 9 a) (pl_nI 9 b)]
  congr 2
  exact decide_eq_decide.mpr (not_congr nI_inj)
theorem in_nums {y : D} {a : Nat} {l : List Nat} (h : y.row = .ok (l.map nI)) : inD (nI a) y = .ok (.bl (decide (a ∈ l))) := by
  rw [inD_pl h (pl_nI 9 a) (pl_nums l 9)]
  congr 2
  exact decide_eq_decide.mpr mem_nI
theorem notIn_nums {y : D} {a : Nat} {l : List Nat} (h : y.row = .ok (l.map nI)) : notInD (nI a) y = .ok (.bl (decide (a ∉ l))) := by
  rw [notInD_pl h (pl_nI 9 a) (pl_nums l 9)]
  congr 2
  exact decide_eq_decide.mpr (not_congr mem_nI)
theorem le_nat (a b : Nat) : leD (nI a) (nI b) = .ok (.bl (decide (a ≤ b))) := by
  show Res.ok (D.bl (decide ((a : Int) ≤ (b : Int)))) = _
  congr 2
  exact decide_eq_decide.mpr Int.ofNat_le
theorem lt_nat (a b : Nat) : ltD (nI a) (nI b) = .ok (.bl (decide (a < b))) := by
  show Res.ok (D.bl (decide ((a : Int) < (b : Int)))) = _
  congr 2
  exact decide_eq_decide.mpr Int.ofNat_lt
theorem ix_nat {t : D} {ds : List D} {i : Nat} {d : D} (hr : t.row = .ok ds) (h : ds[i]? = some d) : ixD t (nI i) = .ok d := by
  show (t.row.bind fun ds => match atI ds (i : Int) with
    | some d => Res.ok d
    | none => .bad) = _
  rw [hr]
  show (match atI ds (i : Int) with
    | some d => Res.ok d
    | none => .bad) = _
  rw [atI_nat h]
theorem add_nat (a b : Nat) : addD (nI a) (nI b) = .ok (nI (a + b)) := by
  show Res.ok (D.int ((a : Int) + (b : Int))) = _
  unfold nI
  rw [Int.natCast_add]
end CS
namespace CS
open PySem L2
open Classical
/-! ## sorted numbers -/
theorem toInts_nums : ∀ l : List Nat, toInts (l.map nI) = .ok (l.map fun (i : Nat) => (i : Int))
  | [] => rfl
  | a :: l => by
    have ih := toInts_nums l
    rw [List.map_cons]
    unfold toInts
    show Res.bind (toInts (l.map nI)) _ = _
    rw [ih]
    rfl
theorem sorted_sel {n : Nat} {P : Nat → Prop} {lot : List Nat} (hn : lot.Nodup) (h : ∀ y, y ∈ lot ↔ y < n ∧ P y) : sortedB [.lst (lot.map nI)] = .ok (.lst ((sel n P).map nI)) := by
  have e : sortI (lot.map fun (i : Nat) => (i : Int)) = (sel n P).map fun (i : Nat) => (i : Int) := by
    refine sorted_unique ((sortI_perm _).trans ?_) (sortI_sorted _) ?_
    · refine List.Perm.map _ ((List.perm_ext_iff_of_nodup hn (sel_nodup n P)).mpr fun a => ?_)
      rw [h, mem_sel]
    · rw [List.pairwise_map]
      exact (sel_sorted n P).imp fun h => by omega
  rw [sortedB_of]
  unfold sortedA
  dsimp only
  rw [toInts_nums]
  dsimp only
  rw [e, List.map_map]
  rfl
/-! ## walking from point to point -/
inductive Rn (nb : Nat → List Nat) (s : Nat) : Nat → Prop
  | refl : Rn nb s s
  | tail {y z : Nat} : Rn nb s y → z ∈ nb y → Rn nb s z
def bfs (nbl lot : List Nat) : List Nat := nbl.foldl (fun l y => if y ∈ l then l else l ++ [y]) lot
theorem bfs_pre : ∀ (nbl lot : List Nat), ∃ t, bfs nbl lot = lot ++ t
  | [], lot => ⟨[], by simp [bfs]⟩
  | y :: nbl, lot => by
    show ∃ t, bfs nbl (if y ∈ lot then lot else lot ++ [y]) = lot ++ t
    split
    · exact bfs_pre nbl lot
    · obtain ⟨t, h⟩ := bfs_pre nbl (lot ++ [y])
      exact ⟨[y] ++ t, by rw [h, List.append_assoc]⟩
theorem bfs_mem : ∀ (nbl lot : List Nat) (z : Nat), z ∈ bfs nbl lot ↔ z ∈ lot ∨ z ∈ nbl
  | [], lot, z => by simp [bfs]
  | y :: nbl, lot, z => by
    show z ∈ bfs nbl (if y ∈ lot then lot else lot ++ [y]) ↔ _
    rw [bfs_mem nbl]
    split
    · rename_i h
      constructor
      · rintro (h1 | h1)
        · exact .inl h1
        · exact .inr (List.mem_cons_of_mem _ h1)
      · rintro (h1 | h1)
        · exact .inl h1
        · rcases List.mem_cons.mp h1 with rfl | h1
          · exact .inl h
          · exact .inr h1
    · rw [List.mem_append, List.mem_singleton, List.mem_cons]
      constructor
      · rintro ((h1 | h1) | h1)
        · exact .inl h1
        · exact .inr (.inl h1)
        · exact .inr (.inr h1)
      · rintro (h1 | h1 | h1)
        · exact .inl (.inl h1)
        · exact .inl (.inr h1)
        · exact .inr h1
theorem bfs_nodup : ∀ (nbl lot : List Nat), lot.Nodup → (bfs nbl lot).Nodup
  | [], lot, h => h
  | y :: nbl, lot, h => by
    show (bfs nbl (if y ∈ lot then lot else lot ++ [y])).Nodup
    refine bfs_nodup nbl _ ?_
    split
    · exact h
    · rename_i hy
      rw [List.nodup_append]
      exact ⟨h, by simp, fun a ha b hb => by
        rw [List.mem_singleton] at hb
        subst hb
        rintro rfl
        exact hy ha⟩
theorem nodup_len {n : Nat} {l : List Nat} (h : l.Nodup) (hl : ∀ y ∈ l, y < n) : l.length ≤ n := by
  have e : (sel n fun y => y ∈ l).Perm l := (List.perm_ext_iff_of_nodup (sel_nodup _ _) h).mpr fun a => by
    rw [mem_sel]
    exact ⟨fun h => h.2, fun h => ⟨hl a h, h⟩⟩
  rw [← e.length_eq]
  exact sel_length _ _
structure BInv (nb : Nat → List Nat) (n s at_ : Nat) (lot : List Nat) : Prop where
  nd : lot.Nodup
  lt : ∀ y ∈ lot, y < n
  st : s ∈ lot
  rch : ∀ y ∈ lot, Rn nb s y
  cl : ∀ (i x : Nat), i < at_ → lot[i]? = some x → ∀ y ∈ nb x, y ∈ lot
  le : at_ ≤ lot.length
theorem BInv.start {nb : Nat → List Nat} {n s : Nat} (h : s < n) : BInv nb n s 0 [s] :=
  ⟨by simp, fun y hy => by rw [List.mem_singleton] at hy; omega, by simp, fun y hy => by rw [List.mem_singleton] at hy; subst hy; exact .refl, fun i x hi => by omega, Nat.zero_le _⟩
theorem BInv.next {nb : Nat → List Nat} {n s k x : Nat} {lot : List Nat} (I : BInv nb n s k lot) (hnb : ∀ y z, y < n → z ∈ nb y → z < n) (hx : lot[k]? = some x) : BInv nb n s (k + 1) (bfs (nb x) lot) := by
  have hm : x ∈ lot := List.mem_of_getElem? hx
  obtain ⟨t, ht⟩ := bfs_pre (nb x) lot
  have hk : k < lot.length := (List.getElem?_eq_some_iff.mp hx).1
  refine ⟨bfs_nodup _ _ I.nd, fun y hy => ?_, (bfs_mem _ _ _).mpr (.inl I.st), fun y hy => ?_, fun i z hi hz y hy => ?_, ?_⟩
  · rcases (bfs_mem _ _ _).mp hy with h | h
    · exact I.lt y h
    · exact hnb x y (I.lt x hm) h
  · rcases (bfs_mem _ _ _).mp hy with h | h
    · exact I.rch y h
    · exact (I.rch x hm).tail h
  · have hz' : lot[i]? = some z := by
      rw [ht, List.getElem?_append_left (by omega)] at hz
      exact hz
    by_cases e : i = k
    · subst e
      rw [hx] at hz'
      cases hz'
      exact (bfs_mem _ _ _).mpr (.inr hy)
    · exact (bfs_mem _ _ _).mpr (.inl (I.cl i z (by omega) hz' y hy))
  · rw [ht, List.length_append]; omega
theorem BInv.fin {nb : Nat → List Nat} {n s : Nat} {lot : List Nat} (I : BInv nb n s lot.length lot) (y : Nat) : y ∈ lot ↔ Rn nb s y := by
  refine ⟨I.rch y, fun h => ?_⟩
  induction h with
  | refl => exact I.st
  | tail _ h2 ih =>
    obtain ⟨i, hi, he⟩ := List.mem_iff_getElem.mp ih
    exact I.cl i _ hi (by rw [List.getElem?_eq_getElem hi, he]) _ h2
/-! the loops of a walk: slot i the lot, j the neighbour, a the place -/
theorem getO_ow {env : Env'} {i : Nat} {ds : List D} (h : env[i]? = some (.ow (.lst ds))) : getO env i = .ok ds := by unfold getO; rw [h]
theorem getW_ow {env : Env'} {i : Nat} {ds : List D} (h : env[i]? = some (.ow (.lst ds))) : getW env i = .ok ds := by unfold getW; rw [h]
theorem run_chk {env : Env'} {p : Pn} {i : Nat} {ds : List D} (h : env[i]? = some (.ow (.lst ds))) : mChk i env p = .ok ((), env, p) := by
  unfold mChk; rw [getO_ow h]; rfl
theorem run_var {env : Env'} {p : Pn} {i : Nat} {d : D} (h : env[i]? = some (.pl d)) : dVar i env p = .ok (d, env, p) := by
  unfold dVar getPl; rw [h]; rfl
theorem run_append {env : Env'} {p p1 : Pn} {i : Nat} {m : M D} {d : D} {ds : List D} (h : env[i]? = some (.ow (.lst ds))) (hm : m env p = .ok (d, env, p1)) (hl : ds.length < sizeLine) : mAppend i m env p = .ok (.non, env.set i (.ow (.lst (ds ++ [d]))), p1) := by
  refine run_bind (run_chk h) (run_bind hm (run_bind (a := ds) (e1 := env) (p1 := p1) ?_ (run_bind (a := ()) (e1 := env) (p1 := p1) ?_ rfl)))
  · unfold mGetW; rw [getW_ow h]; rfl
  · refine run_res ?_
    rw [if_pos hl]
theorem run_ixO {env : Env'} {p p1 : Pn} {i : Nat} {m : M D} {k d : D} {ds : List D} (h : env[i]? = some (.ow (.lst ds))) (hm : m env p = .ok (k, env, p1)) (hx : ixD (.lst ds) k = .ok d) : mIxO i m env p = .ok (d, env, p1) := by
  refine run_bind (run_chk h) (run_bind hm (run_bind (a := ds) (e1 := env) (p1 := p1) ?_ (run_res hx)))
  unfold mGetO; rw [getO_ow h]; rfl
theorem run_lenO {env : Env'} {p : Pn} {i : Nat} {ds : List D} (h : env[i]? = some (.ow (.lst ds))) : mBor (mCB lenD (mCons (dVar i) mNil)) env p = .ok (nI ds.length, env, p) := by
  have h2 : (env.map Slot.fz)[i]? = some (.pl (.lst ds)) := by rw [List.getElem?_map, h]; rfl
  refine run_bor (e1 := env.map Slot.fz) (pCB (pOne (run_var h2)) ?_) rfl
  rfl

/-- all slots but these stand still -/
structure Frm (is : List Nat) (e0 e1 : Env') : Prop where
  len : e1.length = e0.length
  at_ : ∀ k, k ∉ is → e1[k]? = e0[k]?
theorem Frm.refl {is : List Nat} {e : Env'} : Frm is e e := ⟨rfl, fun _ _ => rfl⟩
theorem Frm.trans {is : List Nat} {a b c : Env'} (h : Frm is a b) (h2 : Frm is b c) : Frm is a c := ⟨h2.len.trans h.len, fun k hk => (h2.at_ k hk).trans (h.at_ k hk)⟩
theorem Frm.set {is : List Nat} {e : Env'} {i : Nat} {s : Slot} (h : i ∈ is) : Frm is e (e.set i s) := ⟨by simp, fun k hk => by rw [List.getElem?_set_ne]; rintro rfl; exact hk h⟩
theorem bfs_for {p : Pn} {i j n : Nat} (hij : i ≠ j) : ∀ (nbl lot : List Nat) (env : Env'), lot.Nodup → (∀ y ∈ lot, y < n) → (∀ y ∈ nbl, y < n) → n ≤ 1000 → env[i]? = some (.ow (.lst (lot.map nI))) → j < env.length →
    ∃ env', dForL (bNm j) (dIf (mBorT (mB (m2 notInD (dVar j) (dVar i)))) (dExpr (mAppend i (dVar j))) dNext) (nbl.map nI) env p = .nx env' p ∧ env'[i]? = some (.ow (.lst ((bfs nbl lot).map nI))) ∧ Frm [i, j] env env'
  | [], lot, env, _, _, _, _, hi, _ => ⟨env, rfl, hi, Frm.refl⟩
  | y :: nbl, lot, env, hn, hl, hb, h1000, hi, hj => by
    have hi1 : (env.set j (.pl (nI y)))[i]? = some (.ow (.lst (lot.map nI))) := by rw [List.getElem?_set_ne (Ne.symm hij)]; exact hi
    have hj1 : (env.set j (.pl (nI y)))[j]? = some (.pl (nI y)) := by rw [List.getElem?_set_self hj]
    have ht : mBorT (mB (m2 notInD (dVar j) (dVar i))) (env.set j (.pl (nI y))) p = .ok (decide (y ∉ lot), env.set j (.pl (nI y)), p) := by
      have a1 : ((env.set j (.pl (nI y))).map Slot.fz)[j]? = some (.pl (nI y)) := by rw [List.getElem?_map, hj1]; rfl
      have a2 : ((env.set j (.pl (nI y))).map Slot.fz)[i]? = some (.pl (.lst (lot.map nI))) := by rw [List.getElem?_map, hi1]; rfl
      exact run_borT (e1 := (env.set j (.pl (nI y))).map Slot.fz) (pB (pM2 (run_var a1) (run_var a2) (notIn_nums rfl)))
    have hstep : ∃ e2, dIf (mBorT (mB (m2 notInD (dVar j) (dVar i)))) (dExpr (mAppend i (dVar j))) dNext (env.set j (.pl (nI y))) p = .nx e2 p ∧ e2[i]? = some (.ow (.lst ((if y ∈ lot then lot else lot ++ [y]).map nI))) ∧ Frm [i, j] env e2 := by
      by_cases hy : y ∈ lot
      · rw [decide_eq_false (not_not_intro hy)] at ht
        exact ⟨_, pIfF ht rfl, by rw [if_pos hy]; exact hi1, Frm.set (by simp)⟩
      · rw [decide_eq_true hy] at ht
        have hlen : (lot.map nI).length < sizeLine := by
          rw [List.length_map]
          have := nodup_len hn hl
          show lot.length < 16777216
          omega
        refine ⟨_, pIfT ht (run_expr (run_append hi1 (run_var hj1) hlen)), ?_, (Frm.set (by simp)).trans (Frm.set (by simp))⟩
        rw [if_neg hy, List.map_append]
        have hil : i < (env.set j (.pl (nI y))).length := (List.getElem?_eq_some_iff.mp hi1).1
        rw [List.getElem?_set_self hil]
        rfl
    obtain ⟨e2, h2, h3, h4⟩ := hstep
    have hn2 : (if y ∈ lot then lot else lot ++ [y]).Nodup := bfs_nodup [y] lot hn
    have hl2 : ∀ z ∈ (if y ∈ lot then lot else lot ++ [y]), z < n := fun z hz => by
      rcases (bfs_mem [y] lot z).mp hz with h | h
      · exact hl z h
      · rw [List.mem_singleton] at h; subst h; exact hb _ (List.mem_cons_self ..)
    obtain ⟨e3, h5, h6, h7⟩ := bfs_for (p := p) hij nbl _ e2 hn2 hl2 (fun z hz => hb z (List.mem_cons_of_mem _ hz)) h1000 h3 (by rw [h4.len]; exact hj)
    refine ⟨e3, ?_, h6, h4.trans h7⟩
    rw [List.map_cons]
    unfold dForL
    show (match (dIf (mBorT (mB (m2 notInD (dVar j) (dVar i)))) (dExpr (mAppend i (dVar j))) dNext) (env.set j (.pl (nI y))) p with
      | .nx e p => dForL (bNm j) _ (nbl.map nI) e p
      | .ct e p => dForL (bNm j) _ (nbl.map nI) e p
      | .bk e p => .nx e p
      | .rt d p => .rt d p
      | .exc c xs => .exc c xs
      | .bad => .bad) = _
    rw [h2]
    exact h5
theorem bfs_while {p : Pn} {i j a n s : Nat} {nb : Nat → List Nat} {src : M (List D)} {e0 : Env'} (hij : i ≠ j) (hia : i ≠ a) (hja : j ≠ a) (hj : j < e0.length) (ha : a < e0.length) (h1000 : n ≤ 1000) (hnb : ∀ y z, y < n → z ∈ nb y → z < n)
    (hsrc : ∀ (env : Env') (lot : List Nat) (k x : Nat), Frm [i, j, a] e0 env → env[i]? = some (.ow (.lst (lot.map nI))) → env[a]? = some (.pl (nI k)) → lot[k]? = some x → x < n → src env p = .ok ((nb x).map nI, env, p))
    (hs : s < n) (hi0 : e0[i]? = some (.ow (.lst ([s].map nI)))) (ha0 : e0[a]? = some (.pl (nI 0))) :
    ∃ (env' : Env') (lot : List Nat), dWhile (mB (m2 ltD (dVar a) (mBor (mCB lenD (mCons (dVar i) mNil))))) (dSeq (dFor src (bNm j) (dIf (mBorT (mB (m2 notInD (dVar j) (dVar i)))) (dExpr (mAppend i (dVar j))) dNext)) (dAug a addI (M.ret (.int 1)))) e0 p = .nx env' p ∧
      Frm [i, j, a] e0 env' ∧ env'[i]? = some (.ow (.lst (lot.map nI))) ∧ lot.Nodup ∧ ∀ y, y ∈ lot ↔ y < n ∧ Rn nb s y := by
  obtain ⟨e', p', h1, rfl, h3, lot, h4, h5, h6⟩ := run_while (c := mB (m2 ltD (dVar a) (mBor (mCB lenD (mCons (dVar i) mNil)))))
    (body := dSeq (dFor src (bNm j) (dIf (mBorT (mB (m2 notInD (dVar j) (dVar i)))) (dExpr (mAppend i (dVar j))) dNext)) (dAug a addI (M.ret (.int 1))))
    (fun m env p1 => p1 = p ∧ Frm [i, j, a] e0 env ∧ ∃ (k : Nat) (lot : List Nat), env[i]? = some (.ow (.lst (lot.map nI))) ∧ env[a]? = some (.pl (nI k)) ∧ BInv nb n s k lot ∧ m + k = n)
    (fun env p1 => p1 = p ∧ Frm [i, j, a] e0 env ∧ ∃ (lot : List Nat), env[i]? = some (.ow (.lst (lot.map nI))) ∧ lot.Nodup ∧ ∀ y, y ∈ lot ↔ y < n ∧ Rn nb s y)
    (fun m env p1 ⟨hp, F, k, lot, hi, hk, I, hm⟩ => by
      subst hp
      have hc : mB (m2 ltD (dVar a) (mBor (mCB lenD (mCons (dVar i) mNil)))) env p1 = .ok (decide (k < lot.length), env, p1) := by
        have := lt_nat k (lot.map nI).length
        rw [List.length_map] at this
        exact pB (pM2 (run_var hk) (run_lenO hi) (by rw [List.length_map]; exact this))
      refine ⟨_, _, _, hc, fun hlt => ?_, fun hge => ⟨rfl, F, lot, hi, I.nd, ?_⟩⟩
      · have hlt : k < lot.length := of_decide_eq_true hlt
        have hx : lot[k]? = some lot[k] := List.getElem?_eq_getElem hlt
        have hxn := I.lt _ (List.getElem_mem hlt)
        have hln := nodup_len I.nd I.lt
        obtain ⟨e2, g1, g2, g3⟩ := bfs_for (p := p1) (n := n) hij (nb lot[k]) lot env I.nd I.lt (fun y hy => hnb _ y hxn hy) h1000 hi (by rw [F.len]; exact hj)
        have g3' : Frm [i, j, a] env e2 := ⟨g3.len, fun q hq => g3.at_ q (by simp at hq ⊢; exact ⟨hq.1, hq.2.1⟩)⟩
        have hk2 : e2[a]? = some (.pl (nI k)) := by rw [g3.at_ a (by simp; exact ⟨Ne.symm hia, Ne.symm hja⟩)]; exact hk
        refine ⟨m - 1, e2.set a (.pl (nI (k + 1))), p1, run_seq (run_of (hsrc env lot k _ F hi hk hx hxn) g1) ?_, by omega, rfl, F.trans (g3'.trans (Frm.set (by simp))), k + 1, bfs (nb lot[k]) lot, ?_, ?_, I.next hnb hx, by omega⟩
        · refine run_of (a := nI (k + 1)) (e1 := e2) (p1 := p1) ?_ rfl
          exact run_bind (run_var hk2) (run_bind (a := D.int 1) (e1 := e2) (p1 := p1) rfl rfl)
        · rw [List.getElem?_set_ne (Ne.symm hia)]; exact g2
        · rw [List.getElem?_set_self (by rw [g3.len, F.len]; exact ha)]
      · have hge : ¬ k < lot.length := of_decide_eq_false hge
        have e : k = lot.length := by have := I.le; omega
        subst e
        exact fun y => ⟨fun h => ⟨I.lt y h, (I.fin y).mp h⟩, fun h => (I.fin y).mpr h.2⟩)
    n e0 p ⟨rfl, Frm.refl, 0, [s], hi0, ha0, BInv.start hs, by omega⟩
  exact ⟨e', lot, h1, h3, h4, h5, h6⟩
end CS
namespace CS
open PySem L2
open PyProof.Rows (envOfC)


structure PH (q ca : Addr) (H H' : Hp) (P : Pen) : Prop where
  at_ : H' q = some (.dK (penK P ca))
  ne : ∀ b, b ≠ q → H' b = H b
structure NoMg (mg : Str → Option Value) : Prop where
  len : mg "len" = none
  int : mg "int" = none
  list : mg "list" = none
theorem PH.put {q ca : Addr} {H H' : Hp} {P P' : Pen} (h : PH q ca H H' P) {k : Key} {v : V} (e : putK (penK P ca) k v = penK P' ca) : PH q ca H (upd H' q (.dK (putK (penK P ca) k v))) P' :=
  ⟨by rw [upd_same, e], fun b hb => by rw [upd_ne hb]; exact h.ne b hb⟩
theorem small5 : 5 < sizeLine := by decide
theorem PH.ext {K : PySem.W.Frag} {cls : Str → Addr} {q ca sf : Addr} {cells : List Int} {F H H' : Hp} {P P' : Pen} (h : PH q ca H H' P') (fh : Same F H) (pen : PenRel ⟨K, cls, q, ca, cells, sf⟩ F H (some P)) (hc : P'.cells = P.cells) :
    Ext ⟨K, cls, q, ca, cells, sf⟩ F H (some P) F H' (some P') := by
  obtain ⟨h1, h2, h3⟩ := pen
  refine ⟨Same.refl _, fun b o e => ?_, fun b o hb e => ?_, fun _ h => .inl h, rfl, ⟨h1, h.at_, hc.trans h3⟩⟩
  · rw [h.ne b fun z => by rw [z] at e; rw [show F q = none from h1] at e; cases e]
    exact fh _ _ e
  · rcases hb with hb | hb
    · rw [h.ne b hb]; exact e
    · cases hb
def top (i : Nat) : Stmt := PySem.Challenge.pw_corespaces_k13_whole_covers_and_heights.main.body.getD i (.Pass ⟨0, 0, 0, 0⟩)
theorem sc_draw : FnScope ["pen", "many", "cell", "digit", "mixed"] ["pen", "many"] (defScope (top 39)) := ⟨rfl, rfl, rfl, by decide +kernel, rfl, by decide +kernel, by decide +kernel⟩
section
variable {P : Program} {w : World} {K : PySem.W.Frag} {mg : Str → Option Value} {base : Heap}
theorem ok_draw {f : Addr} {fd : FuncData} (F : FunG K "_law_draw" "_law_draw" (top 39) f fd)
    (T : NoMg mg) {cls : Str → Addr} : FnOk P w K mg base CX0 1 f fd ["pen", "many"] (spD K cls 2 drawF) := by
  refine F.ok sc_draw (fun vs H Q E h => ?_) (fun cdv A outer s H vs Q E hr h => ?_)
  · obtain ⟨q, ca, sf, cells, F, p, ds, _, _, _, r, hl, _⟩ := h
    rw [r.length]; exact hl
  · obtain ⟨q, ca, sf, cells, F, p, ds, fh, cel, pen, r, hl, d, p', e, hq⟩ := h
    obtain ⟨m, P0, rfl, rfl, m0, m1, f0, f1, c1, rfl, rfl⟩ := drawF_inv e
    simp only [Reps, Rep] at r
    obtain ⟨v1, r1, rfl, rfl, v2, r2, rfl, rfl, rfl⟩ := r
    have hu := hu_of hr
    have cel' := cel rfl
    have nd := sc_draw.nd
    obtain ⟨q1, q2, q3⟩ := id pen
    have gS : ∀ {H' : Hp} {P' : Pen}, PH q ca H H' P' → SqL K H' ca (cells.map V.int) := fun {H' P'} h => by
      have s1 : Same F H' := fun b o e => by
        rw [h.ne b fun z => by rw [z] at e; rw [show F q = none from q1] at e; cases e]
        exact fh _ _ e
      exact s1.seq cel'
    refine ⟨_, pss_cons (ps_dput hu (pv 0) pe_str (pe_op op_add (pe_dget hu (pv 0) pe_str (fun _ _ => rfl)) pe_int) rfl)
      (pss_cons (ps_if (PW.pt (pw_and (pt_cmpR op_eq (pe_dget hu (pv 0) pe_str (fun _ _ => rfl)) pe_int (nomark _))
          (pw_and1 (pt_cmpR op_lt (pe_dget hu (pv 0) pe_str (fun _ _ => rfl)) (pe_callB call_len_seq (by rfl) T.len PySem.boot_len (pa_cons (pe_dget hu (pv 0) pe_str (fun _ _ => rfl)) pa_nil)) (nomark _)))))
        (pss_cons (ps_set (i := 2) nd rfl (Or.inl rfl) (pe_ix ix_list (pe_dget hu (pv 0) pe_str (fun _ _ => rfl)) (pe_dget hu (pv 0) pe_str (fun _ _ => rfl)) (fun _ _ => rfl)))
        (pss_cons (ps_dput hu (pv 0) pe_str (pe_op op_add (pe_dget hu (pv 0) pe_str (fun _ _ => rfl)) pe_int) rfl)
        (pss_one (ps_if (pt_cmpR op_ge (pv 2) (pe_op op_pow pe_int pe_int) (nomark _))
          (pss_one (ps_dput hu (pv 0) pe_str (pe_op op_sub (pv 2) (pe_op op_pow pe_int pe_int)) rfl))
          (pss_one (ps_dput hu (pv 0) pe_str (pe_op op_modN (pe_callTy call_int1 (by rfl) T.int (by decide +kernel) (pa_cons (pe_op op_add (pe_op op_mul (pe_dget hu (pv 0) pe_str (fun _ _ => rfl)) pe_int) (pv 2)) pa_nil)) pe_int) rfl))))))
        pss_nil)
      (pss_cons (ps_if (pt_cmpR op_gt (pe_dget hu (pv 0) pe_str (fun _ _ => rfl)) pe_int (nomark _))
        (pss_cons (ps_set (i := 3) nd rfl (Or.inl rfl) (pe_op op_modN (pe_callTy call_int1 (by rfl) T.int (by decide +kernel) (pa_cons (pe_dget hu (pv 0) pe_str (fun _ _ => rfl)) pa_nil)) (pv 1)))
        (pss_cons (ps_dput hu (pv 0) pe_str (pe_op op_fdivN (pe_dget hu (pv 0) pe_str (fun _ _ => rfl)) (pv 1)) rfl)
        (pss_one (ps_ret (pv 3)))))
        pss_nil)
      (pss_cons (ps_set (i := 4) nd rfl (Or.inl rfl) (pe_op op_add (pe_op op_add (pe_dget hu (pv 0) pe_str (fun _ _ => rfl)) (pe_op op_mul (pe_dget hu (pv 0) pe_str (fun _ _ => rfl)) pe_int)) pe_int))
      (pss_one (ps_ret (pe_op op_modN (pe_op op_fdivN (pe_callTy call_int1 (by rfl) T.int (by decide +kernel) (pa_cons (pe_op op_modN (pe_op op_pow (pv 4) pe_int) pe_int) pa_nil)) pe_int) (pv 1))))))), ?_⟩
    refine ⟨_, rfl, q, _, rfl, DGet.k (k := .inr "count") q2, _, _, rfl, rfl, _, rfl, q, _, rfl, DPut.k (k := .inr "count") q2 small5, ?_⟩
    have h1 : PH q ca H (upd H q (.dK (putK (penK P0 ca) (.inr "count") (.int ((P0.count : Int) + 1))))) { P0 with count := P0.count + 1 } := PH.put ⟨q2, fun _ _ => rfl⟩ pp_count
    have st : P0.step m = (Pen.read { P0 with count := P0.count + 1 }).tell m := rfl
    have okP : Pen.Ok { P0 with count := P0.count + 1 } (P0.count + 1) := ⟨f0, f1, Nat.le_refl _⟩
    have okc : Pen.cells { P0 with count := P0.count + 1 } = cells := q3
    have hc1 : Pen.count { P0 with count := P0.count + 1 } ≤ 2 ^ 50 := c1
    rw [st] at hq
    generalize Pen.mk P0.cells P0.at_ P0.digits (P0.count + 1) P0.fold = P1 at h1 hq okP okc hc1
    generalize upd H q (.dK (putK (penK P0 ca) (.inr "count") (.int ((P0.count : Int) + 1)))) = H1 at h1 ⊢
    have okr := Pen.read_ok okP
    have go : ∀ (H2 : Hp) (P2 : Pen), PH q ca H H2 P2 → P2 = P1.read → P2.Ok (2 ^ 50) ∧ P2.cells = P0.cells ∧ (∀ P3 H3 v, PH q ca H H3 P3 → P3 = (P2.tell m).2 → v = .int (P2.tell m).1 → Q v H3) := fun H2 P2 h e => by
      subst e
      have hcc : P1.read.cells = P0.cells := by rw [okr.2.2, okc, q3]
      refine ⟨⟨okr.1.f0, okr.1.f1, by rw [okr.2.1]; exact hc1⟩, hcc, fun P3 H3 v h3 e3 ev => ?_⟩
      subst e3
      refine hq v F H3 (h3.ext fh pen ?_) (by simpa [Rep] using ev)
      unfold Pen.tell
      split <;> exact hcc
    have fin : ∀ (H2 : Hp) (P2 : Pen) (σ : St), PH q ca H H2 P2 → P2 = P1.read → σ.length = 5 → σ[0]? = some (some (.ref q)) → σ[1]? = some (some (.int m)) → True := fun _ _ _ _ _ _ _ _ => trivial
    refine ⟨_, rfl, q, _, rfl, DGet.k (k := .inr "digits") h1.at_, rfl, _, rfl, ite2 (fun hd => ?_) (fun hd => ?_)⟩
    · have hd' : P1.digits = 0 := by
        have := of_decide_eq_true hd
        injection this
      refine ⟨_, rfl, q, _, rfl, DGet.k (k := .inr "at") h1.at_, _, rfl, q, _, rfl, DGet.k (k := .inr "cells") h1.at_, ca, _, rfl, .inl (gS h1), _, _, rfl, rfl, _, rfl, ite2 (fun hl => ?_) (fun hl => ?_)⟩
      · have hl' : P1.at_ < cells.length := by
          have := of_decide_eq_true hl
          simpa using this
        refine ⟨_, rfl, q, _, rfl, DGet.k (k := .inr "cells") h1.at_, _, rfl, q, _, rfl, DGet.k (k := .inr "at") h1.at_, ca, _, _, .int (cells.getD P1.at_ 0), rfl, rfl, gS h1, ?_, ?_⟩
        · refine atI_nat ?_
          rw [List.getElem?_map, List.getElem?_eq_getElem hl']
          simp [List.getD, hl']
        refine ⟨_, rfl, q, _, rfl, DGet.k (k := .inr "at") h1.at_, _, _, rfl, rfl, _, rfl, q, _, rfl, DPut.k (k := .inr "at") h1.at_ small5, ?_⟩
        have h2 := h1.put (pp_at (P := P1) (ca := ca) (n := P1.at_ + 1))
        refine ⟨_, rfl, _, _, rfl, rfl, ⟨by decide, by decide, by decide⟩, _, _, rfl, rfl, _, rfl, ite2 (fun hz => ?_) (fun hz => ?_)⟩
        · have hz' : (10 : Int) ^ 18 ≤ cells.getD P1.at_ 0 := of_decide_eq_true hz
          refine ⟨_, rfl, _, _, rfl, rfl, ⟨by decide, by decide, by decide⟩, _, _, rfl, rfl, _, rfl, q, _, rfl, DPut.k (k := .inr "digits") h2.at_ small5, ?_⟩
          have h3 := h2.put (pp_digits (P := { P1 with at_ := P1.at_ + 1 }) (ca := ca) (z := cells.getD P1.at_ 0 - 10 ^ 18))
          obtain ⟨P2, h2, e2⟩ : ∃ P2, PH q ca H _ P2 ∧ P2 = P1.read := ⟨_, h3, by
            unfold Pen.read
            rw [okc, if_pos ⟨hd', hl'⟩, if_pos hz']⟩
          obtain ⟨ok2, cl2, kk⟩ := go _ _ h2 e2
          refine ⟨_, rfl, q, _, rfl, DGet.k (k := .inr "digits") h2.at_, _, _, rfl, rfl, _, rfl, ite2 (fun hp => ?_) (fun hp => ?_)⟩
          · have hp' : 0 < P2.digits := of_decide_eq_true hp
            refine ⟨_, rfl, q, _, rfl, DGet.k (k := .inr "digits") h2.at_, .inl ⟨_, rfl, _, rfl, _, _, rfl, rfl, (by omega), ?_⟩⟩
            refine ⟨_, rfl, q, _, rfl, DGet.k (k := .inr "digits") h2.at_, _, rfl, _, _, rfl, rfl, ⟨by omega, by omega⟩, _, rfl, q, _, rfl, DPut.k (k := .inr "digits") h2.at_ small5, ?_⟩
            have h3 := h2.put (pp_digits (P := P2) (ca := ca) (z := P2.digits.fdiv m))
            have e3 : P2.tell m = (P2.digits.fmod m, { P2 with digits := P2.digits.fdiv m }) := by unfold Pen.tell; rw [if_pos hp']
            exact ⟨_, rfl, kk _ _ _ h3 (by rw [e3]) (by rw [e3])⟩
          · have hp' : ¬ 0 < P2.digits := fun z => hp (decide_eq_true z)
            have e3 : P2.tell m = ((((((P2.fold + (P2.count : Int) * 7907 + 37) ^ 17).fmod 2305843009213693951).fdiv 128).fmod m), P2) := by unfold Pen.tell; rw [if_neg hp']
            have b0 := ok2.f0
            have b1 := ok2.f1
            have b2 := ok2.c
            refine ⟨_, rfl, q, _, rfl, DGet.k (k := .inr "fold") h2.at_, _, rfl, q, _, rfl, DGet.k (k := .inr "count") h2.at_, _, _, rfl, rfl, .inr ⟨by decide, by decide⟩, _, _, rfl, rfl, _, _, rfl, rfl, ?_⟩
            refine ⟨_, rfl, _, _, rfl, rfl, ⟨by decide, by decide, ?_⟩, _, _, rfl, rfl, (by show (2305843009213693951 : Int) ≠ 0; decide), .inl ⟨_, rfl, _, _, rfl, rfl, ⟨by decide, by decide⟩, _, rfl, _, _, rfl, rfl, (by omega), ?_⟩⟩
            · show (P2.fold + (P2.count : Int) * 7907 + 37).natAbs < 2 ^ 64
              omega
            exact kk _ _ _ h2 (by rw [e3]) (by rw [e3]; rfl)
        · have hz' : ¬ (10 : Int) ^ 18 ≤ cells.getD P1.at_ 0 := fun z => hz (decide_eq_true z)
          refine ⟨_, rfl, q, _, rfl, DGet.k (k := .inr "fold") h2.at_, _, _, rfl, rfl, .inr ⟨by decide, by decide⟩, _, rfl, _, _, rfl, rfl, (.inl ⟨_, rfl, _, _, rfl, rfl, (by show (2147483587 : Int) ≠ 0; decide), _, rfl, q, _, rfl, DPut.k (k := .inr "fold") h2.at_ small5, ?_⟩)⟩
          have h3 := h2.put (pp_fold (P := { P1 with at_ := P1.at_ + 1 }) (ca := ca) (z := (P1.fold * 69069 + cells.getD P1.at_ 0).fmod 2147483587))
          obtain ⟨P2, h2, e2⟩ : ∃ P2, PH q ca H _ P2 ∧ P2 = P1.read := ⟨_, h3, by
            unfold Pen.read
            rw [okc, if_pos ⟨hd', hl'⟩, if_neg hz']⟩
          obtain ⟨ok2, cl2, kk⟩ := go _ _ h2 e2
          refine ⟨_, rfl, q, _, rfl, DGet.k (k := .inr "digits") h2.at_, _, _, rfl, rfl, _, rfl, ite2 (fun hp => ?_) (fun hp => ?_)⟩
          · have hp' : 0 < P2.digits := of_decide_eq_true hp
            refine ⟨_, rfl, q, _, rfl, DGet.k (k := .inr "digits") h2.at_, .inl ⟨_, rfl, _, rfl, _, _, rfl, rfl, (by omega), ?_⟩⟩
            refine ⟨_, rfl, q, _, rfl, DGet.k (k := .inr "digits") h2.at_, _, rfl, _, _, rfl, rfl, ⟨by omega, by omega⟩, _, rfl, q, _, rfl, DPut.k (k := .inr "digits") h2.at_ small5, ?_⟩
            have h3 := h2.put (pp_digits (P := P2) (ca := ca) (z := P2.digits.fdiv m))
            have e3 : P2.tell m = (P2.digits.fmod m, { P2 with digits := P2.digits.fdiv m }) := by unfold Pen.tell; rw [if_pos hp']
            exact ⟨_, rfl, kk _ _ _ h3 (by rw [e3]) (by rw [e3])⟩
          · have hp' : ¬ 0 < P2.digits := fun z => hp (decide_eq_true z)
            have e3 : P2.tell m = ((((((P2.fold + (P2.count : Int) * 7907 + 37) ^ 17).fmod 2305843009213693951).fdiv 128).fmod m), P2) := by unfold Pen.tell; rw [if_neg hp']
            have b0 := ok2.f0
            have b1 := ok2.f1
            have b2 := ok2.c
            refine ⟨_, rfl, q, _, rfl, DGet.k (k := .inr "fold") h2.at_, _, rfl, q, _, rfl, DGet.k (k := .inr "count") h2.at_, _, _, rfl, rfl, .inr ⟨by decide, by decide⟩, _, _, rfl, rfl, _, _, rfl, rfl, ?_⟩
            refine ⟨_, rfl, _, _, rfl, rfl, ⟨by decide, by decide, ?_⟩, _, _, rfl, rfl, (by show (2305843009213693951 : Int) ≠ 0; decide), .inl ⟨_, rfl, _, _, rfl, rfl, ⟨by decide, by decide⟩, _, rfl, _, _, rfl, rfl, (by omega), ?_⟩⟩
            · show (P2.fold + (P2.count : Int) * 7907 + 37).natAbs < 2 ^ 64
              omega
            exact kk _ _ _ h2 (by rw [e3]) (by rw [e3]; rfl)
      · have hl' : ¬ P1.at_ < cells.length := by
          refine fun z => hl (decide_eq_true ?_)
          simpa using z
        obtain ⟨P2, h2, e2⟩ : ∃ P2, PH q ca H _ P2 ∧ P2 = P1.read := ⟨_, h1, by
            unfold Pen.read
            rw [okc, if_neg fun h => hl' h.2]⟩
        generalize H1 = H2 at h2 ⊢
        obtain ⟨ok2, cl2, kk⟩ := go _ _ h2 e2
        refine ⟨_, rfl, q, _, rfl, DGet.k (k := .inr "digits") h2.at_, _, _, rfl, rfl, _, rfl, ite2 (fun hp => ?_) (fun hp => ?_)⟩
        · have hp' : 0 < P2.digits := of_decide_eq_true hp
          refine ⟨_, rfl, q, _, rfl, DGet.k (k := .inr "digits") h2.at_, .inl ⟨_, rfl, _, rfl, _, _, rfl, rfl, (by omega), ?_⟩⟩
          refine ⟨_, rfl, q, _, rfl, DGet.k (k := .inr "digits") h2.at_, _, rfl, _, _, rfl, rfl, ⟨by omega, by omega⟩, _, rfl, q, _, rfl, DPut.k (k := .inr "digits") h2.at_ small5, ?_⟩
          have h3 := h2.put (pp_digits (P := P2) (ca := ca) (z := P2.digits.fdiv m))
          have e3 : P2.tell m = (P2.digits.fmod m, { P2 with digits := P2.digits.fdiv m }) := by unfold Pen.tell; rw [if_pos hp']
          exact ⟨_, rfl, kk _ _ _ h3 (by rw [e3]) (by rw [e3])⟩
        · have hp' : ¬ 0 < P2.digits := fun z => hp (decide_eq_true z)
          have e3 : P2.tell m = ((((((P2.fold + (P2.count : Int) * 7907 + 37) ^ 17).fmod 2305843009213693951).fdiv 128).fmod m), P2) := by unfold Pen.tell; rw [if_neg hp']
          have b0 := ok2.f0
          have b1 := ok2.f1
          have b2 := ok2.c
          refine ⟨_, rfl, q, _, rfl, DGet.k (k := .inr "fold") h2.at_, _, rfl, q, _, rfl, DGet.k (k := .inr "count") h2.at_, _, _, rfl, rfl, .inr ⟨by decide, by decide⟩, _, _, rfl, rfl, _, _, rfl, rfl, ?_⟩
          refine ⟨_, rfl, _, _, rfl, rfl, ⟨by decide, by decide, ?_⟩, _, _, rfl, rfl, (by show (2305843009213693951 : Int) ≠ 0; decide), .inl ⟨_, rfl, _, _, rfl, rfl, ⟨by decide, by decide⟩, _, rfl, _, _, rfl, rfl, (by omega), ?_⟩⟩
          · show (P2.fold + (P2.count : Int) * 7907 + 37).natAbs < 2 ^ 64
            omega
          exact kk _ _ _ h2 (by rw [e3]) (by rw [e3]; rfl)
    · have hd' : ¬ P1.digits = 0 := fun z => by
        refine hd (decide_eq_true ?_)
        show V.int P1.digits = V.int 0
        rw [z]
      obtain ⟨P2, h2, e2⟩ : ∃ P2, PH q ca H _ P2 ∧ P2 = P1.read := ⟨_, h1, by
            unfold Pen.read
            rw [if_neg fun h => hd' h.1]⟩
      generalize H1 = H2 at h2 ⊢
      obtain ⟨ok2, cl2, kk⟩ := go _ _ h2 e2
      refine ⟨_, rfl, q, _, rfl, DGet.k (k := .inr "digits") h2.at_, _, _, rfl, rfl, _, rfl, ite2 (fun hp => ?_) (fun hp => ?_)⟩
      · have hp' : 0 < P2.digits := of_decide_eq_true hp
        refine ⟨_, rfl, q, _, rfl, DGet.k (k := .inr "digits") h2.at_, .inl ⟨_, rfl, _, rfl, _, _, rfl, rfl, (by omega), ?_⟩⟩
        refine ⟨_, rfl, q, _, rfl, DGet.k (k := .inr "digits") h2.at_, _, rfl, _, _, rfl, rfl, ⟨by omega, by omega⟩, _, rfl, q, _, rfl, DPut.k (k := .inr "digits") h2.at_ small5, ?_⟩
        have h3 := h2.put (pp_digits (P := P2) (ca := ca) (z := P2.digits.fdiv m))
        have e3 : P2.tell m = (P2.digits.fmod m, { P2 with digits := P2.digits.fdiv m }) := by unfold Pen.tell; rw [if_pos hp']
        exact ⟨_, rfl, kk _ _ _ h3 (by rw [e3]) (by rw [e3])⟩
      · have hp' : ¬ 0 < P2.digits := fun z => hp (decide_eq_true z)
        have e3 : P2.tell m = ((((((P2.fold + (P2.count : Int) * 7907 + 37) ^ 17).fmod 2305843009213693951).fdiv 128).fmod m), P2) := by unfold Pen.tell; rw [if_neg hp']
        have b0 := ok2.f0
        have b1 := ok2.f1
        have b2 := ok2.c
        refine ⟨_, rfl, q, _, rfl, DGet.k (k := .inr "fold") h2.at_, _, rfl, q, _, rfl, DGet.k (k := .inr "count") h2.at_, _, _, rfl, rfl, .inr ⟨by decide, by decide⟩, _, _, rfl, rfl, _, _, rfl, rfl, ?_⟩
        refine ⟨_, rfl, _, _, rfl, rfl, ⟨by decide, by decide, ?_⟩, _, _, rfl, rfl, (by show (2305843009213693951 : Int) ≠ 0; decide), .inl ⟨_, rfl, _, _, rfl, rfl, ⟨by decide, by decide⟩, _, rfl, _, _, rfl, rfl, (by omega), ?_⟩⟩
        · show (P2.fold + (P2.count : Int) * 7907 + 37).natAbs < 2 ^ 64
          omega
        exact kk _ _ _ h2 (by rw [e3]) (by rw [e3]; rfl)
end


def foldP (z : Int) : List Int → Int
  | [] => z
  | c :: cs => foldP ((z * 47 + c).fmod 1000000007) cs
theorem foldP_snoc (z : Int) (c : Int) : ∀ (cs : List Int), foldP z (cs ++ [c]) = (foldP z cs * 47 + c).fmod 1000000007
  | [] => rfl
  | d :: cs => by
    show foldP _ (cs ++ [c]) = _
    rw [foldP_snoc _ c cs]; rfl
theorem foldP_rg : ∀ (cs : List Int) (z : Int), 0 ≤ z → z < 2147483648 → 0 ≤ foldP z cs ∧ foldP z cs < 2147483648
  | [], z, h0, h1 => ⟨h0, h1⟩
  | c :: cs, z, h0, h1 => foldP_rg cs _ (Int.fmod_nonneg_of_pos _ (by decide)) (by
    have := Int.fmod_lt_of_pos (z * 47 + c) (show (0 : Int) < 1000000007 by decide)
    omega)
def pen0 (ns : List Int) : Pen := ⟨ns, 0, 0, 0, foldP 0 ns⟩
theorem pen0_ok (ns : List Int) : (pen0 ns).Ok 0 := ⟨(foldP_rg ns 0 (by decide) (by decide)).1, (foldP_rg ns 0 (by decide) (by decide)).2, Nat.le_refl _⟩
def spPen (K : PySem.W.Frag) : Sp := fun vs H Q _ => ∃ (a : Addr) (ns : List Int), vs = [.ref a] ∧ SqL K H a (ns.map V.int) ∧ ns.length ≤ 63 ∧
  ∀ (q ca : Addr) (H' : Hp), H q = none → H ca = none → q ≠ ca → H' q = some (.dK (penK (pen0 ns) ca)) → H' ca = some (.lst (ns.map V.int)) → (∀ b o, H b = some o → H' b = some o) → Q (.ref q) H'
def spLaw (K : PySem.W.Frag) : Sp := fun vs H Q _ => ∃ (a : Addr) (ns : List Int), vs = [.ref a] ∧ SqL K H a (ns.map V.int) ∧ ns.length ≤ 63 ∧ ∀ H', Q (.bl true) H'
theorem PSs.ex {X : Cx} {st : List Stmt} {ι : Type} {t : ι → TS} (h : ∀ i, PSs X st (t i)) : PSs X st (fun D σ H => ∃ i, t i D σ H) :=
  ⟨fun pins s σ H D I ⟨i, ht⟩ => (h i).run pins s σ H D I ht⟩
def hid (H : Hp) (q : Addr) : Hp := fun b => if b = q then none else H b
theorem hid_same {H : Hp} {q : Addr} : Same (hid H q) H := fun b o e => by
  unfold hid at e
  split at e
  · cases e
  · exact e
/-- the state behind the first line of a law -/
theorem SRel.law {K : PySem.W.Frag} {cls : Str → Addr} {q ca : Addr} {ns : List Int} {H : Hp} {P : Pen} {n : Nat} {σ : St} (h1 : H q = some (.dK (penK P ca))) (h2 : H ca = some (.lst (ns.map V.int))) (hq : q ≠ ca) (hc : P.cells = ns) (hl : σ.length = n + 2) (hs : σ[1]? = some (some (.ref q))) :
    SRel ⟨K, cls, q, ca, ns, q⟩ ⟨hid H q, H, true⟩ (.un :: .pl .pen :: List.replicate n .un) (some P) σ (hid H q) H where
  fh := hid_same
  f0 := Same.refl _
  h0 := fun _ _ _ h => h
  fresh := fun _ h => .inl h
  pnb := rfl
  pen := ⟨by show hid H q q = none; unfold hid; rw [if_pos rfl], h1, hc⟩
  cel := fun _ => .inl (by
    refine .inl ?_
    show hid H q ca = _
    unfold hid
    rw [if_neg hq.symm]
    exact h2)
  len := by rw [hl]; simp
  slots := fun i s hi => by
    match i with
    | 0 => cases hi; trivial
    | 1 => cases hi; exact ⟨_, hs, by simp [Rep]⟩
    | i + 2 =>
      have : (List.replicate n Slot.un)[i]? = some s := hi
      have := List.eq_of_mem_replicate (List.mem_of_getElem? this)
      subst this
      trivial
  dis := fun i j a hij h1 h2 => by
    obtain ⟨⟨s, g1, g2⟩, _⟩ := h1
    match i with
    | 0 => cases g1; cases g2
    | 1 => cases g1; cases g2
    | i + 2 =>
      have : (List.replicate n Slot.un)[i]? = some s := g1
      have := List.eq_of_mem_replicate (List.mem_of_getElem? this)
      subst this
      cases g2
theorem sc_pen : FnScope ["script", "fold", "cell"] ["script"] (defScope (top 38)) := ⟨rfl, rfl, rfl, by decide +kernel, rfl, by decide +kernel, by decide +kernel⟩
section
variable {P : Program} {w : World} {K : PySem.W.Frag} {mg : Str → Option Value} {base : Heap}
theorem ok_pen {f : Addr} {fd : FuncData} (F : FunG K "_law_pen" "_law_pen" (top 38) f fd)
    (T : NoMg mg) : FnOk P w K mg base CX0 1 f fd ["script"] (spPen K) := by
  refine F.ok sc_pen (fun vs H Q E h => ?_) (fun cdv A outer s H vs Q E hr h => ?_)
  · obtain ⟨a, ns, rfl, _⟩ := h
    rfl
  · obtain ⟨a, ns, rfl, hS, hlen, k⟩ := h
    have nd := sc_pen.nd
    refine ⟨_, pss_cons (ps_set (i := 1) nd rfl (Or.inl rfl) pe_int)
      (pss_cons (ps_for PassesOwn.never rfl (pi_list (pv 0)) (pg_name (i := 2) nd rfl (Or.inl rfl))
        (pss_one (ps_set (i := 1) nd rfl (Or.inl rfl) (pe_op op_modN (pe_callTy call_int1 (by rfl) T.int (by decide +kernel) (pa_cons (pe_op op_add (pe_op op_mul (pv 1) pe_int) (pv 2)) pa_nil)) pe_int))))
      (pss_one (ps_ret (pe_disp (pps_cons pe_str (pe_callTy call_list_of (by rfl) T.list (by decide +kernel) (pa_cons (pv 0) pa_nil))
        (pps_cons pe_str pe_int (pps_cons pe_str pe_int (pps_cons pe_str pe_int (pps_cons pe_str (pv 1) pps_nil))))) (by rfl) (by rfl) (fun z => by cases z) (by decide))))), ?_⟩
    refine ⟨_, rfl, a, rfl, ⟨_, hS⟩, for_list (K := K) (a := a) (xs := ns.map V.int) (fun i σ H2 => ∃ (v : Option V), σ = [some (.ref a), some (.int (foldP 0 (ns.take i))), v] ∧ H2 = H)
      ⟨none, rfl, rfl⟩ (fun i σ H2 _ ⟨_, _, e⟩ => by rw [e]; exact hS) ?_ ?_⟩
    · rintro i y σ H2 hi ⟨v, rfl, rfl⟩
      obtain ⟨z, hz, rfl⟩ : ∃ z, ns[i]? = some z ∧ y = V.int z := by
        rw [List.getElem?_map] at hi
        cases e : ns[i]? with
        | none => rw [e] at hi; cases hi
        | some z => rw [e] at hi; exact ⟨z, rfl, (Option.some.inj hi).symm⟩
      refine ⟨_, rfl, _, _, rfl, rfl, .inr ⟨by decide, by decide⟩, _, rfl, _, _, rfl, rfl, .inl ⟨_, rfl, _, _, rfl, rfl, (by show (1000000007 : Int) ≠ 0; decide), ?_⟩⟩
      refine ⟨some (.int z), ?_, rfl⟩
      rw [List.take_add_one, hz, Option.toList, foldP_snoc]
      rfl
    · rintro σ H2 ⟨v, rfl, rfl⟩
      intro p hp
      have npa : ∀ b o, H2 b = some o → b ≠ p := fun b o e => ne_of_none e hp
      have s1 : Same H2 (upd H2 p (.dK [])) := same_upd hp
      refine ⟨_, rfl, a, _, rfl, .inl (s1.seq hS), fun l hl => ⟨_, rfl, ?_⟩⟩
      have nlp : l ≠ p := fun z => by rw [z, upd_same] at hl; cases hl
      have hl2 : H2 l = none := by rw [upd_ne nlp] at hl; exact hl
      refine ⟨by rw [upd_ne nlp.symm, upd_same], penK (pen0 ns) l, ?_, (by show 5 ≤ 15; decide), k p l _ hp hl2 nlp.symm (upd_same.trans (congrArg (fun z => some (HO.dK z)) (show mergeK [] (penK (pen0 ns) l) = penK (pen0 ns) l from rfl))) (by rw [upd_ne nlp, upd_same]) fun b o e => ?_⟩
      · exact (show _ = List.map (fun kv => (kV kv.fst, kv.snd)) (penK (pen0 ns) l) by
          rw [List.length_map, List.take_length]
          rfl)
      · rw [upd_ne (npa b o e), upd_ne (ne_of_none e hl2), upd_ne (npa b o e)]
        exact e
end
end CS
namespace CS
open PySem L2
open PyProof.Rows (envOfC)
theorem hu64_of {k : Nat} {A : Around} (h : Room k A) : A.units + 64 < cLine := by have := h.un; omega
theorem hu65_of {k : Nat} {A : Around} (h : Room k A) : A.units + 65 < cLine := by have := h.un; omega
structure Tx (K : PySem.W.Frag) (mg : Str → Option Value) (cls : Str → Addr) (ad : Nat → Addr) (fo : Nat → FuncData) : Prop where
  n_all : mg "all" = none
  n_any : mg "any" = none
  n_bool : mg "bool" = none
  n_enumerate : mg "enumerate" = none
  n_int : mg "int" = none
  n_isinstance : mg "isinstance" = none
  n_len : mg "len" = none
  n_list : mg "list" = none
  n_max : mg "max" = none
  n_range : mg "range" = none
  n_sorted : mg "sorted" = none
  n_tuple : mg "tuple" = none
  c_MOST_POINTS : ∃ t, mg "MOST_POINTS" = some (.int 24 t)
  F38 : FunG K "_law_pen" "_law_pen" (top 38) (ad 38) (fo 38)
  k38 : PySem.W.keepIn K (.ref (ad 38)) = true
  b38 : Binds K (fo 38) ["script"] []
  g__law_pen : mg "_law_pen" = some (.ref (ad 38))
  F39 : FunG K "_law_draw" "_law_draw" (top 39) (ad 39) (fo 39)
  k39 : PySem.W.keepIn K (.ref (ad 39)) = true
  b39 : Binds K (fo 39) ["pen", "many"] []
  g__law_draw : mg "_law_draw" = some (.ref (ad 39))
  F40 : FunG K "_law_pick" "_law_pick" (top 40) (ad 40) (fo 40)
  k40 : PySem.W.keepIn K (.ref (ad 40)) = true
  b40 : Binds K (fo 40) ["pen", "some"] []
  g__law_pick : mg "_law_pick" = some (.ref (ad 40))
  F43 : FunG K "_law_known" "_law_known" (top 43) (ad 43) (fo 43)
  k43 : PySem.W.keepIn K (.ref (ad 43)) = true
  b43 : Binds K (fo 43) ["pen", "most"] []
  g__law_known : mg "_law_known" = some (.ref (ad 43))
  F41 : FunG K "_law_shuffled" "_law_shuffled" (top 41) (ad 41) (fo 41)
  k41 : PySem.W.keepIn K (.ref (ad 41)) = true
  b41 : Binds K (fo 41) ["pen", "some"] []
  g__law_shuffled : mg "_law_shuffled" = some (.ref (ad 41))
  F42 : FunG K "_law_some_pairs" "_law_some_pairs" (top 42) (ad 42) (fo 42)
  k42 : PySem.W.keepIn K (.ref (ad 42)) = true
  b42 : Binds K (fo 42) ["pen", "many", "most"] []
  g__law_some_pairs : mg "_law_some_pairs" = some (.ref (ad 42))
  F44 : FunG K "_law_some_space" "_law_some_space" (top 44) (ad 44) (fo 44)
  k44 : PySem.W.keepIn K (.ref (ad 44)) = true
  b44 : Binds K (fo 44) ["pen", "most"] []
  g__law_some_space : mg "_law_some_space" = some (.ref (ad 44))
  F8 : FunG K "is_integer" "is_integer" (top 8) (ad 8) (fo 8)
  k8 : PySem.W.keepIn K (.ref (ad 8)) = true
  b8 : Binds K (fo 8) ["value"] []
  g_is_integer : mg "is_integer" = some (.ref (ad 8))
  F9 : FunG K "is_row" "is_row" (top 9) (ad 9) (fo 9)
  k9 : PySem.W.keepIn K (.ref (ad 9)) = true
  b9 : Binds K (fo 9) ["value"] []
  g_is_row : mg "is_row" = some (.ref (ad 9))
  F12 : FunG K "is_point_of" "is_point_of" (top 12) (ad 12) (fo 12)
  k12 : PySem.W.keepIn K (.ref (ad 12)) = true
  b12 : Binds K (fo 12) ["many", "value"] []
  g_is_point_of : mg "is_point_of" = some (.ref (ad 12))
  F13 : FunG K "is_pair_of" "is_pair_of" (top 13) (ad 13) (fo 13)
  k13 : PySem.W.keepIn K (.ref (ad 13)) = true
  b13 : Binds K (fo 13) ["many", "value"] []
  g_is_pair_of : mg "is_pair_of" = some (.ref (ad 13))
  F14 : FunG K "led_on" "led_on" (top 14) (ad 14) (fo 14)
  k14 : PySem.W.keepIn K (.ref (ad 14)) = true
  b14 : Binds K (fo 14) ["many", "pairs"] []
  g_led_on : mg "led_on" = some (.ref (ad 14))
  F1300 : FunG K "__init__" "Space.__init__" (inClass (top 15) 0) (ad 1300) (fo 1300)
  k1300 : PySem.W.keepIn K (.ref (ad 1300)) = true
  b1300 : Binds K (fo 1300) ["self", "many", "pairs"] []
  F16 : FunG K "need_space" "need_space" (top 16) (ad 16) (fo 16)
  k16 : PySem.W.keepIn K (.ref (ad 16)) = true
  b16 : Binds K (fo 16) ["space"] []
  g_need_space : mg "need_space" = some (.ref (ad 16))
  F17 : FunG K "all_pairs" "all_pairs" (top 17) (ad 17) (fo 17)
  k17 : PySem.W.keepIn K (.ref (ad 17)) = true
  b17 : Binds K (fo 17) ["space"] []
  g_all_pairs : mg "all_pairs" = some (.ref (ad 17))
  F18 : FunG K "parts_points" "parts_points" (top 18) (ad 18) (fo 18)
  k18 : PySem.W.keepIn K (.ref (ad 18)) = true
  b18 : Binds K (fo 18) ["space"] []
  g_parts_points : mg "parts_points" = some (.ref (ad 18))
  F19 : FunG K "need_parted" "need_parted" (top 19) (ad 19) (fo 19)
  k19 : PySem.W.keepIn K (.ref (ad 19)) = true
  b19 : Binds K (fo 19) ["space"] []
  g_need_parted : mg "need_parted" = some (.ref (ad 19))
  F20 : FunG K "is_cover" "is_cover" (top 20) (ad 20) (fo 20)
  k20 : PySem.W.keepIn K (.ref (ad 20)) = true
  b20 : Binds K (fo 20) ["space", "x", "y"] []
  g_is_cover : mg "is_cover" = some (.ref (ad 20))
  F21 : FunG K "all_covers" "all_covers" (top 21) (ad 21) (fo 21)
  k21 : PySem.W.keepIn K (.ref (ad 21)) = true
  b21 : Binds K (fo 21) ["space"] []
  g_all_covers : mg "all_covers" = some (.ref (ad 21))
  F22 : FunG K "covers" "covers" (top 22) (ad 22) (fo 22)
  k22 : PySem.W.keepIn K (.ref (ad 22)) = true
  b22 : Binds K (fo 22) ["space"] []
  g_covers : mg "covers" = some (.ref (ad 22))
  F23 : FunG K "all_heights" "all_heights" (top 23) (ad 23) (fo 23)
  k23 : PySem.W.keepIn K (.ref (ad 23)) = true
  b23 : Binds K (fo 23) ["space"] []
  g_all_heights : mg "all_heights" = some (.ref (ad 23))
  F24 : FunG K "heights" "heights" (top 24) (ad 24) (fo 24)
  k24 : PySem.W.keepIn K (.ref (ad 24)) = true
  b24 : Binds K (fo 24) ["space"] []
  g_heights : mg "heights" = some (.ref (ad 24))
  F1301 : FunG K "__eq__" "Space.__eq__" (inClass (top 15) 1) (ad 1301) (fo 1301)
  k1301 : PySem.W.keepIn K (.ref (ad 1301)) = true
  b1301 : Binds K (fo 1301) ["self", "other"] []
  F25 : FunG K "contrary" "contrary" (top 25) (ad 25) (fo 25)
  k25 : PySem.W.keepIn K (.ref (ad 25)) = true
  b25 : Binds K (fo 25) ["space"] []
  g_contrary : mg "contrary" = some (.ref (ad 25))
  F35 : FunG K "hanging" "hanging" (top 35) (ad 35) (fo 35)
  k35 : PySem.W.keepIn K (.ref (ad 35)) = true
  b35 : Binds K (fo 35) ["space", "start"] []
  g_hanging : mg "hanging" = some (.ref (ad 35))
  F36 : FunG K "parts" "parts" (top 36) (ad 36) (fo 36)
  k36 : PySem.W.keepIn K (.ref (ad 36)) = true
  b36 : Binds K (fo 36) ["space"] []
  g_parts : mg "parts" = some (.ref (ad 36))
  F29 : FunG K "need_two" "need_two" (top 29) (ad 29) (fo 29)
  k29 : PySem.W.keepIn K (.ref (ad 29)) = true
  b29 : Binds K (fo 29) ["one", "other"] []
  g_need_two : mg "need_two" = some (.ref (ad 29))
  F27 : FunG K "need_room" "need_room" (top 27) (ad 27) (fo 27)
  k27 : PySem.W.keepIn K (.ref (ad 27)) = true
  b27 : Binds K (fo 27) ["many"] []
  g_need_room : mg "need_room" = some (.ref (ad 27))
  F28 : FunG K "shifted_pairs" "shifted_pairs" (top 28) (ad 28) (fo 28)
  k28 : PySem.W.keepIn K (.ref (ad 28)) = true
  b28 : Binds K (fo 28) ["space", "by"] []
  g_shifted_pairs : mg "shifted_pairs" = some (.ref (ad 28))
  F31 : FunG K "stacked_of" "stacked_of" (top 31) (ad 31) (fo 31)
  k31 : PySem.W.keepIn K (.ref (ad 31)) = true
  b31 : Binds K (fo 31) ["one", "other"] []
  g_stacked_of : mg "stacked_of" = some (.ref (ad 31))
  F32 : FunG K "stacked" "stacked" (top 32) (ad 32) (fo 32)
  k32 : PySem.W.keepIn K (.ref (ad 32)) = true
  b32 : Binds K (fo 32) ["one", "other"] []
  g_stacked : mg "stacked" = some (.ref (ad 32))
  F30 : FunG K "summed" "summed" (top 30) (ad 30) (fo 30)
  k30 : PySem.W.keepIn K (.ref (ad 30)) = true
  b30 : Binds K (fo 30) ["one", "other"] []
  g_summed : mg "summed" = some (.ref (ad 30))
  F33 : FunG K "product" "product" (top 33) (ad 33) (fo 33)
  k33 : PySem.W.keepIn K (.ref (ad 33)) = true
  b33 : Binds K (fo 33) ["one", "other"] []
  g_product : mg "product" = some (.ref (ad 33))
  cl_Space : cls "Space" = ad 15
  g_Space : mg "Space" = some (.ref (ad 15))
  m_Space : Mk K (ad 15) (ad 1300)
  eq_Space : EqF K (ad 15) (ad 1301)
  f_many : ∀ q ca cells sf, FldF ⟨K, cls, q, ca, cells, sf⟩ ["Space"] "many"
  f_over : ∀ q ca cells sf, FldF ⟨K, cls, q, ca, cells, sf⟩ ["Space"] "over"
  f_under : ∀ q ca cells sf, FldF ⟨K, cls, q, ca, cells, sf⟩ ["Space"] "under"
  isa : ∀ q ca cells sf, IsF ⟨K, cls, q, ca, cells, sf⟩ ["Space"]
section
variable {P : Program} {w : World} {K : PySem.W.Frag} {mg : Str → Option Value} {base : Heap} {cls : Str → Addr} {ad : Nat → Addr} {fo : Nat → FuncData}
theorem okT_draw (T : Tx K mg cls ad fo) : FnOk P w K mg base CX0 1 (ad 39) (fo 39) ["pen", "many"] (spD K cls 2 drawF) := ok_draw T.F39 ⟨T.n_len, T.n_int, T.n_list⟩
theorem okT_pen (T : Tx K mg cls ad fo) : FnOk P w K mg base CX0 1 (ad 38) (fo 38) ["script"] (spPen K) := ok_pen T.F38 ⟨T.n_len, T.n_int, T.n_list⟩
theorem sc_law_pick : FnScope ["pen", "some"] ["pen", "some"] (defScope (top 40)) := ⟨rfl, rfl, rfl, by decide +kernel, rfl, by decide +kernel, by decide +kernel⟩
noncomputable def b_law_pick : SS := dRet (m2 ixD (dVar 1) (mCall drawF [] (mCons (dVar 0) (mCons (mCB lenD (mCons (dVar 1) mNil)) mNil))))
noncomputable def m_law_pick : FD := fnD 2 2 b_law_pick
theorem ok_law_pick (T : Tx K mg cls ad fo) : FnOk P w K mg base CX0 2 (ad 40) (fo 40) ["pen", "some"] (spD K cls 2 m_law_pick) :=
  fn_okD T.F40 sc_law_pick (by decide) (fun cdv A outer s H E q ca sf cells hr => by
    have nd := sc_law_pick.nd
    have hu64 := hu64_of hr
    have hu65 := hu65_of hr
    exact dss_one (ds_ret (de_ix (de_var (pv 1)) (de_call rfl (okT_draw T) drawF_len (hr.mono (by decide)) rfl T.g__law_draw T.k39 T.b39 .nil (fun _ => .nil) pass0 (da_cons (de_var (pv 0)) (da_cons (de_callB call_len len_d rfl T.n_len (by decide +kernel) (da_cons (de_var (pv 1)) da_nil)) da_nil))) rfl (fun _ _ => rfl))))
theorem sc_law_known : FnScope ["pen", "most", "some", "one"] ["pen", "most"] (defScope (top 43)) := ⟨rfl, rfl, rfl, by decide +kernel, rfl, by decide +kernel, by decide +kernel⟩
noncomputable def b_law_known : SS := dSeq (dSet 2 (mLst (mCons (mTup (mCons (M.ret (.int 4)) (mCons (mLst (mCons (mTup (mCons (M.ret (.int 0)) (mCons (M.ret (.int 2)) mNil))) (mCons (mTup (mCons (M.ret (.int 0)) (mCons (M.ret (.int 3)) mNil))) (mCons (mTup (mCons (M.ret (.int 1)) (mCons (M.ret (.int 2)) mNil))) (mCons (mTup (mCons (M.ret (.int 1)) (mCons (M.ret (.int 3)) mNil))) mNil))))) mNil))) (mCons (mTup (mCons (M.ret (.int 6)) (mCons (mLst (mCons (mTup (mCons (M.ret (.int 0)) (mCons (M.ret (.int 3)) mNil))) (mCons (mTup (mCons (M.ret (.int 0)) (mCons (M.ret (.int 4)) mNil))) (mCons (mTup (mCons (M.ret (.int 1)) (mCons (M.ret (.int 4)) mNil))) (mCons (mTup (mCons (M.ret (.int 1)) (mCons (M.ret (.int 5)) mNil))) (mCons (mTup (mCons (M.ret (.int 2)) (mCons (M.ret (.int 5)) mNil))) (mCons (mTup (mCons (M.ret (.int 2)) (mCons (M.ret (.int 3)) mNil))) mNil))))))) mNil))) mNil)))) (dSeq (dSet 2 (m2 addD (dVar 2) (mLst (mCons (mTup (mCons (M.ret (.int 5)) (mCons (mLst (mCons (mTup (mCons (M.ret (.int 0)) (mCons (M.ret (.int 1)) mNil))) (mCons (mTup (mCons (M.ret (.int 2)) (mCons (M.ret (.int 1)) mNil))) (mCons (mTup (mCons (M.ret (.int 2)) (mCons (M.ret (.int 3)) mNil))) (mCons (mTup (mCons (M.ret (.int 4)) (mCons (M.ret (.int 3)) mNil))) mNil))))) mNil))) (mCons (mTup (mCons (M.ret (.int 3)) (mCons (mLst (mCons (mTup (mCons (M.ret (.int 0)) (mCons (M.ret (.int 1)) mNil))) (mCons (mTup (mCons (M.ret (.int 1)) (mCons (M.ret (.int 2)) mNil))) mNil))) mNil))) (mCons (mTup (mCons (M.ret (.int 3)) (mCons (mLst mNil) mNil))) mNil)))))) (dSeq (dSet 2 (m2 addD (dVar 2) (mLst (mCons (mTup (mCons (M.ret (.int 5)) (mCons (mLst (mCons (mTup (mCons (M.ret (.int 0)) (mCons (M.ret (.int 1)) mNil))) (mCons (mTup (mCons (M.ret (.int 0)) (mCons (M.ret (.int 2)) mNil))) (mCons (mTup (mCons (M.ret (.int 1)) (mCons (M.ret (.int 3)) mNil))) (mCons (mTup (mCons (M.ret (.int 2)) (mCons (M.ret (.int 3)) mNil))) (mCons (mTup (mCons (M.ret (.int 4)) (mCons (M.ret (.int 3)) mNil))) mNil)))))) mNil))) (mCons (mTup (mCons (M.ret (.int 1)) (mCons (mLst mNil) mNil))) (mCons (mTup (mCons (M.ret (.int 2)) (mCons (mLst (mCons (mTup (mCons (M.ret (.int 0)) (mCons (M.ret (.int 1)) mNil))) mNil)) mNil))) mNil)))))) (dSeq (dSet 2 (m2 addD (dVar 2) (mLst (mCons (mTup (mCons (M.ret (.int 6)) (mCons (mLst (mCons (mTup (mCons (M.ret (.int 0)) (mCons (M.ret (.int 2)) mNil))) (mCons (mTup (mCons (M.ret (.int 0)) (mCons (M.ret (.int 3)) mNil))) (mCons (mTup (mCons (M.ret (.int 1)) (mCons (M.ret (.int 2)) mNil))) (mCons (mTup (mCons (M.ret (.int 1)) (mCons (M.ret (.int 3)) mNil))) (mCons (mTup (mCons (M.ret (.int 2)) (mCons (M.ret (.int 4)) mNil))) (mCons (mTup (mCons (M.ret (.int 2)) (mCons (M.ret (.int 5)) mNil))) (mCons (mTup (mCons (M.ret (.int 3)) (mCons (M.ret (.int 4)) mNil))) (mCons (mTup (mCons (M.ret (.int 3)) (mCons (M.ret (.int 5)) mNil))) mNil))))))))) mNil))) mNil)))) (dRet (mCall m_law_pick [] (mCons (dVar 0) (mCons (mComp (mRow (dVar 2)) [3] (bNm 3) ((mB (m2 leD (m2 ixD (dVar 3) (M.ret (.int 0))) (dVar 1)))) (dVar 3)) mNil)))))))
noncomputable def m_law_known : FD := fnD 2 4 b_law_known
theorem ok_law_known (T : Tx K mg cls ad fo) : FnOk P w K mg base CX0 3 (ad 43) (fo 43) ["pen", "most"] (spD K cls 2 m_law_known) :=
  fn_okD T.F43 sc_law_known (by decide) (fun cdv A outer s H E q ca sf cells hr => by
    have nd := sc_law_known.nd
    have hu64 := hu64_of hr
    have hu65 := hu65_of hr
    exact dss_cons (ds_set (i := 2) nd rfl (by first | exact .inl rfl | exact .inr rfl) (de_lst (da_cons (de_tup (da_cons (de_int) (da_cons (de_lst (da_cons (de_tup (da_cons (de_int) (da_cons (de_int) da_nil))) (da_cons (de_tup (da_cons (de_int) (da_cons (de_int) da_nil))) (da_cons (de_tup (da_cons (de_int) (da_cons (de_int) da_nil))) (da_cons (de_tup (da_cons (de_int) (da_cons (de_int) da_nil))) da_nil))))) da_nil))) (da_cons (de_tup (da_cons (de_int) (da_cons (de_lst (da_cons (de_tup (da_cons (de_int) (da_cons (de_int) da_nil))) (da_cons (de_tup (da_cons (de_int) (da_cons (de_int) da_nil))) (da_cons (de_tup (da_cons (de_int) (da_cons (de_int) da_nil))) (da_cons (de_tup (da_cons (de_int) (da_cons (de_int) da_nil))) (da_cons (de_tup (da_cons (de_int) (da_cons (de_int) da_nil))) (da_cons (de_tup (da_cons (de_int) (da_cons (de_int) da_nil))) da_nil))))))) da_nil))) da_nil)))) (dss_cons (ds_set (i := 2) nd rfl (by first | exact .inl rfl | exact .inr rfl) (de_op op_addA add_d (de_var (pv 2)) (de_lst (da_cons (de_tup (da_cons (de_int) (da_cons (de_lst (da_cons (de_tup (da_cons (de_int) (da_cons (de_int) da_nil))) (da_cons (de_tup (da_cons (de_int) (da_cons (de_int) da_nil))) (da_cons (de_tup (da_cons (de_int) (da_cons (de_int) da_nil))) (da_cons (de_tup (da_cons (de_int) (da_cons (de_int) da_nil))) da_nil))))) da_nil))) (da_cons (de_tup (da_cons (de_int) (da_cons (de_lst (da_cons (de_tup (da_cons (de_int) (da_cons (de_int) da_nil))) (da_cons (de_tup (da_cons (de_int) (da_cons (de_int) da_nil))) da_nil))) da_nil))) (da_cons (de_tup (da_cons (de_int) (da_cons (de_lst da_nil) da_nil))) da_nil)))))) (dss_cons (ds_set (i := 2) nd rfl (by first | exact .inl rfl | exact .inr rfl) (de_op op_addA add_d (de_var (pv 2)) (de_lst (da_cons (de_tup (da_cons (de_int) (da_cons (de_lst (da_cons (de_tup (da_cons (de_int) (da_cons (de_int) da_nil))) (da_cons (de_tup (da_cons (de_int) (da_cons (de_int) da_nil))) (da_cons (de_tup (da_cons (de_int) (da_cons (de_int) da_nil))) (da_cons (de_tup (da_cons (de_int) (da_cons (de_int) da_nil))) (da_cons (de_tup (da_cons (de_int) (da_cons (de_int) da_nil))) da_nil)))))) da_nil))) (da_cons (de_tup (da_cons (de_int) (da_cons (de_lst da_nil) da_nil))) (da_cons (de_tup (da_cons (de_int) (da_cons (de_lst (da_cons (de_tup (da_cons (de_int) (da_cons (de_int) da_nil))) da_nil)) da_nil))) da_nil)))))) (dss_cons (ds_set (i := 2) nd rfl (by first | exact .inl rfl | exact .inr rfl) (de_op op_addA add_d (de_var (pv 2)) (de_lst (da_cons (de_tup (da_cons (de_int) (da_cons (de_lst (da_cons (de_tup (da_cons (de_int) (da_cons (de_int) da_nil))) (da_cons (de_tup (da_cons (de_int) (da_cons (de_int) da_nil))) (da_cons (de_tup (da_cons (de_int) (da_cons (de_int) da_nil))) (da_cons (de_tup (da_cons (de_int) (da_cons (de_int) da_nil))) (da_cons (de_tup (da_cons (de_int) (da_cons (de_int) da_nil))) (da_cons (de_tup (da_cons (de_int) (da_cons (de_int) da_nil))) (da_cons (de_tup (da_cons (de_int) (da_cons (de_int) da_nil))) (da_cons (de_tup (da_cons (de_int) (da_cons (de_int) da_nil))) da_nil))))))))) da_nil))) da_nil)))) (dss_one (ds_ret (de_call rfl (ok_law_pick T) fnD_len (hr.mono (by decide)) rfl T.g__law_pick T.k40 T.b40 .nil (fun _ => .nil) pass0 (da_cons (de_var (pv 0)) (da_cons (de_of (df_lc (own := [("one", 3)]) rfl nd (di_row rfl (de_var (pv 2))) (blkOk_by rfl) (by decide) (fun _ _ _ _ _ => dg_name (i := 3) nd rfl (by first | exact .inl rfl | exact .inr rfl)) (fun _ _ _ _ _ => dts_one (dt_cmp op_le le_d (de_ix (de_var (pv 3)) (de_int) rfl (fun _ _ => rfl)) (de_var (pv 1)) (nomark _))) (fun _ _ _ _ _ => (de_var (pv 3))))) da_nil)))))))))
theorem sc_law_shuffled : FnScope ["pen", "some", "rest", "found", "lap"] ["pen", "some"] (defScope (top 41)) := ⟨rfl, rfl, rfl, by decide +kernel, rfl, by decide +kernel, by decide +kernel⟩
noncomputable def b_law_shuffled : SS := dSeq (dParOO 2 3 (mCB listD (mCons (dVar 1) mNil)) (mLst mNil)) (dSeq (dFor (mRange1 (mCB lenD (mCons (dVar 1) mNil))) (bNm 4) (dExpr (mAppend 3 (mPopAt 2 (mCall drawF [] (mCons (dVar 0) (mCons (mBor (mCB lenD (mCons (dVar 2) mNil))) mNil))))))) (dFrz [3] (dRet (dVar 3))))
noncomputable def m_law_shuffled : FD := fnD 2 5 b_law_shuffled
theorem ok_law_shuffled (T : Tx K mg cls ad fo) : FnOk P w K mg base CX0 2 (ad 41) (fo 41) ["pen", "some"] (spD K cls 2 m_law_shuffled) :=
  fn_okD T.F41 sc_law_shuffled (by decide) (fun cdv A outer s H E q ca sf cells hr => by
    have nd := sc_law_shuffled.nd
    have hu64 := hu64_of hr
    have hu65 := hu65_of hr
    exact dss_cons (ds_parOO (i := 2) (j := 3) rfl nd rfl rfl (by decide) rfl rfl (df_callTy call_list_of list_l rfl T.n_list (by decide +kernel) (da_cons (de_var (pv 1)) da_nil)) (df_lst da_nil) rfl) (dss_cons (ds_for PassesOwn.never rfl (di_range1 rfl T.n_range (de_callB call_len len_d rfl T.n_len (by decide +kernel) (da_cons (de_var (pv 1)) da_nil))) (dg_name (i := 4) nd rfl (by first | exact .inl rfl | exact .inr rfl)) (dss_one (ds_expr (de_append (pv 3) (de_popAt (pv 2) (de_call rfl (okT_draw T) drawF_len (hr.mono (by decide)) rfl T.g__law_draw T.k39 T.b39 .nil (fun _ => .nil) pass0 (da_cons (de_var (pv 0)) (da_cons (de_bor (de_callB call_len len_d rfl T.n_len (by decide +kernel) (da_cons (de_var (pv 2)) da_nil))) da_nil)))))))) (dss_one (ds_frz [3] (ds_ret (de_var (pv 3)))))))
theorem sc_law_some_pairs : FnScope ["pen", "many", "most", "order", "found", "lap", "a", "b"] ["pen", "many", "most"] (defScope (top 42)) := ⟨rfl, rfl, rfl, by decide +kernel, rfl, by decide +kernel, by decide +kernel⟩
noncomputable def b_law_some_pairs : SS := dSeq (dSet 3 (mCall m_law_shuffled [] (mCons (dVar 0) (mCons (m1 rgL (dVar 1)) mNil)))) (dSeq (dSetO 4 (mLst mNil)) (dSeq (dFor (mRange1 (mIf (mB (m2 gtD (dVar 1) (M.ret (.int 1)))) (mCall drawF [] (mCons (dVar 0) (mCons (m2 addD (dVar 2) (M.ret (.int 1))) mNil))) (M.ret (.int 0)))) (bNm 5) (dSeq (dSet 6 (mCall drawF [] (mCons (dVar 0) (mCons (m2 subD (dVar 1) (M.ret (.int 1))) mNil)))) (dSeq (dSet 7 (m2 addD (m2 addD (dVar 6) (M.ret (.int 1))) (mCall drawF [] (mCons (dVar 0) (mCons (m2 subD (m2 subD (dVar 1) (M.ret (.int 1))) (dVar 6)) mNil))))) (dExpr (mAppend 4 (mTup (mCons (m2 ixD (dVar 3) (dVar 6)) (mCons (m2 ixD (dVar 3) (dVar 7)) mNil)))))))) (dFrz [4] (dRet (dVar 4)))))
noncomputable def m_law_some_pairs : FD := fnD 3 8 b_law_some_pairs
theorem ok_law_some_pairs (T : Tx K mg cls ad fo) : FnOk P w K mg base CX0 3 (ad 42) (fo 42) ["pen", "many", "most"] (spD K cls 3 m_law_some_pairs) :=
  fn_okD T.F42 sc_law_some_pairs (by decide) (fun cdv A outer s H E q ca sf cells hr => by
    have nd := sc_law_some_pairs.nd
    have hu64 := hu64_of hr
    have hu65 := hu65_of hr
    exact dss_cons (ds_set (i := 3) nd rfl (by first | exact .inl rfl | exact .inr rfl) (de_call rfl (ok_law_shuffled T) fnD_len (hr.mono (by decide)) rfl T.g__law_shuffled T.k41 T.b41 .nil (fun _ => .nil) pass0 (da_cons (de_var (pv 0)) (da_cons (de_of (df_listRg rfl rfl T.n_list rfl T.n_range (de_var (pv 1)))) da_nil)))) (dss_cons (ds_setO (i := 4) nd rfl (by first | exact .inl rfl | exact .inr rfl) (df_lst da_nil)) (dss_cons (ds_for PassesOwn.never rfl (di_range1 rfl T.n_range (de_ifExp (dt_cmp op_gt gt_d (de_var (pv 1)) (de_int) (nomark _)) (de_call rfl (okT_draw T) drawF_len (hr.mono (by decide)) rfl T.g__law_draw T.k39 T.b39 .nil (fun _ => .nil) pass0 (da_cons (de_var (pv 0)) (da_cons (de_op op_addA add_d (de_var (pv 2)) (de_int)) da_nil))) (de_int))) (dg_name (i := 5) nd rfl (by first | exact .inl rfl | exact .inr rfl)) (dss_cons (ds_set (i := 6) nd rfl (by first | exact .inl rfl | exact .inr rfl) (de_call rfl (okT_draw T) drawF_len (hr.mono (by decide)) rfl T.g__law_draw T.k39 T.b39 .nil (fun _ => .nil) pass0 (da_cons (de_var (pv 0)) (da_cons (de_op op_sub sub_d (de_var (pv 1)) (de_int)) da_nil)))) (dss_cons (ds_set (i := 7) nd rfl (by first | exact .inl rfl | exact .inr rfl) (de_op op_addA add_d (de_op op_addA add_d (de_var (pv 6)) (de_int)) (de_call rfl (okT_draw T) drawF_len (hr.mono (by decide)) rfl T.g__law_draw T.k39 T.b39 .nil (fun _ => .nil) pass0 (da_cons (de_var (pv 0)) (da_cons (de_op op_sub sub_d (de_op op_sub sub_d (de_var (pv 1)) (de_int)) (de_var (pv 6))) da_nil))))) (dss_one (ds_expr (de_append (pv 4) (de_tup (da_cons (de_ix (de_var (pv 3)) (de_var (pv 6)) rfl (fun _ _ => rfl)) (da_cons (de_ix (de_var (pv 3)) (de_var (pv 7)) rfl (fun _ _ => rfl)) da_nil))))))))) (dss_one (ds_frz [4] (ds_ret (de_var (pv 4))))))))
theorem sc_law_some_space : FnScope ["pen", "most", "many", "pairs", "names", "x", "y"] ["pen", "most"] (defScope (top 44)) := ⟨rfl, rfl, rfl, by decide +kernel, rfl, by decide +kernel, by decide +kernel⟩
noncomputable def b_law_some_space : SS := dSeq (dPar 2 3 (m2 addD (M.ret (.int 1)) (mCall drawF [] (mCons (dVar 0) (mCons (dVar 1) mNil)))) (M.ret .non)) (dSeq (dIf (mB (m2 eqD (mCall drawF [] (mCons (dVar 0) (mCons (M.ret (.int 3)) mNil))) (M.ret (.int 0)))) (dSeq (dAsg (mCall m_law_known [] (mCons (dVar 0) (mCons (dVar 1) mNil))) (bTup 2 (bCons (bNm 2) (bCons (bNm 3) bNil)))) (dSeq (dSet 4 (mCall m_law_shuffled [] (mCons (dVar 0) (mCons (m1 rgL (dVar 2)) mNil)))) (dRet (mTup (mCons (dVar 2) (mCons (mComp (mRow (dVar 3)) [5, 6] (bTup 2 (bCons (bNm 5) (bCons (bNm 6) bNil))) (mYes) (mTup (mCons (m2 ixD (dVar 4) (dVar 5)) (mCons (m2 ixD (dVar 4) (dVar 6)) mNil)))) mNil)))))) (dNext)) (dRet (mTup (mCons (dVar 2) (mCons (mCall m_law_some_pairs [] (mCons (dVar 0) (mCons (dVar 2) (mCons (m2 mulD (M.ret (.int 2)) (dVar 2)) mNil)))) mNil)))))
noncomputable def m_law_some_space : FD := fnD 2 7 b_law_some_space
theorem ok_law_some_space (T : Tx K mg cls ad fo) : FnOk P w K mg base CX0 4 (ad 44) (fo 44) ["pen", "most"] (spD K cls 2 m_law_some_space) :=
  fn_okD T.F44 sc_law_some_space (by decide) (fun cdv A outer s H E q ca sf cells hr => by
    have nd := sc_law_some_space.nd
    have hu64 := hu64_of hr
    have hu65 := hu65_of hr
    exact dss_cons (ds_par (i := 2) (j := 3) rfl nd rfl rfl (by decide) rfl rfl (de_op op_addA add_d (de_int) (de_call rfl (okT_draw T) drawF_len (hr.mono (by decide)) rfl T.g__law_draw T.k39 T.b39 .nil (fun _ => .nil) pass0 (da_cons (de_var (pv 0)) (da_cons (de_var (pv 1)) da_nil)))) (de_non) rfl) (dss_cons (ds_if (dt_cmp (op_eqD hu64) eq_d (de_call rfl (okT_draw T) drawF_len (hr.mono (by decide)) rfl T.g__law_draw T.k39 T.b39 .nil (fun _ => .nil) pass0 (da_cons (de_var (pv 0)) (da_cons (de_int) da_nil))) (de_int) (nomark _)) (dss_cons (ds_asg (de_call rfl (ok_law_known T) fnD_len (hr.mono (by decide)) rfl T.g__law_known T.k43 T.b43 .nil (fun _ => .nil) pass0 (da_cons (de_var (pv 0)) (da_cons (de_var (pv 1)) da_nil))) (dg_tup rfl rfl (dgs_cons (dg_name (i := 2) nd rfl (by first | exact .inl rfl | exact .inr rfl)) (dgs_cons (dg_name (i := 3) nd rfl (by first | exact .inl rfl | exact .inr rfl)) dgs_nil)))) (dss_cons (ds_set (i := 4) nd rfl (by first | exact .inl rfl | exact .inr rfl) (de_call rfl (ok_law_shuffled T) fnD_len (hr.mono (by decide)) rfl T.g__law_shuffled T.k41 T.b41 .nil (fun _ => .nil) pass0 (da_cons (de_var (pv 0)) (da_cons (de_of (df_listRg rfl rfl T.n_list rfl T.n_range (de_var (pv 2)))) da_nil)))) (dss_one (ds_ret (de_tup (da_cons (de_var (pv 2)) (da_cons (de_of (df_lc (own := [("x", 5), ("y", 6)]) rfl nd (di_row rfl (de_var (pv 3))) (blkOk_by rfl) (by decide) (fun _ _ _ _ _ => dg_tup rfl rfl (dgs_cons (dg_name (i := 5) nd rfl (by first | exact .inl rfl | exact .inr rfl)) (dgs_cons (dg_name (i := 6) nd rfl (by first | exact .inl rfl | exact .inr rfl)) dgs_nil))) (fun _ _ _ _ _ => dts_nil) (fun _ _ _ _ _ => (de_tup (da_cons (de_ix (de_var (pv 4)) (de_var (pv 5)) rfl (fun _ _ => rfl)) (da_cons (de_ix (de_var (pv 4)) (de_var (pv 6)) rfl (fun _ _ => rfl)) da_nil)))))) da_nil))))))) (dss_nil)) (dss_one (ds_ret (de_tup (da_cons (de_var (pv 2)) (da_cons (de_call rfl (ok_law_some_pairs T) fnD_len (hr.mono (by decide)) rfl T.g__law_some_pairs T.k42 T.b42 .nil (fun _ => .nil) pass0 (da_cons (de_var (pv 0)) (da_cons (de_var (pv 2)) (da_cons (de_op op_mulA mul_d (de_int) (de_var (pv 2))) da_nil)))) da_nil)))))))
theorem sc_is_integer : FnScope ["value"] ["value"] (defScope (top 8)) := ⟨rfl, rfl, rfl, by decide +kernel, rfl, by decide +kernel, by decide +kernel⟩
noncomputable def b_is_integer : SS := dRet ((mAndV (mCB (isa1 ["Space"]) (mCons (dVar 0) (mCons (M.ret (.ty "int")) mNil))) (mNotV (mCB (isa1 ["Space"]) (mCons (dVar 0) (mCons (M.ret (.ty "bool")) mNil))))))
noncomputable def m_is_integer : FD := fnD 1 1 b_is_integer
theorem ok_is_integer (T : Tx K mg cls ad fo) : FnOk P w K mg base CX0 1 (ad 8) (fo 8) ["value"] (spD K cls 1 m_is_integer) :=
  fn_okD T.F8 sc_is_integer (by decide) (fun cdv A outer s H E q ca sf cells hr => by
    have nd := sc_is_integer.nd
    have hu64 := hu64_of hr
    have hu65 := hu65_of hr
    exact dss_one (ds_ret ((de_and (de_isi1 rfl (T.isa q ca cells sf) rfl T.n_isinstance (da_cons (de_var (pv 0)) (da_cons (de_ty rfl T.n_int (by decide +kernel)) da_nil))) (de_one (de_not (de_isi1 rfl (T.isa q ca cells sf) rfl T.n_isinstance (da_cons (de_var (pv 0)) (da_cons (de_ty rfl T.n_bool (by decide +kernel)) da_nil)))))))))
theorem sc_is_row : FnScope ["value"] ["value"] (defScope (top 9)) := ⟨rfl, rfl, rfl, by decide +kernel, rfl, by decide +kernel, by decide +kernel⟩
noncomputable def b_is_row : SS := dRet (mIsaT ["Space"] (dVar 0) (mCons (M.ret (.ty "list")) (mCons (M.ret (.ty "tuple")) mNil)))
noncomputable def m_is_row : FD := fnD 1 1 b_is_row
theorem ok_is_row (T : Tx K mg cls ad fo) : FnOk P w K mg base CX0 1 (ad 9) (fo 9) ["value"] (spD K cls 1 m_is_row) :=
  fn_okD T.F9 sc_is_row (by decide) (fun cdv A outer s H E q ca sf cells hr => by
    have nd := sc_is_row.nd
    have hu64 := hu64_of hr
    have hu65 := hu65_of hr
    exact dss_one (ds_ret (de_isiT rfl (T.isa q ca cells sf) rfl T.n_isinstance (de_var (pv 0)) (da_cons (de_ty rfl T.n_list (by decide +kernel)) (da_cons (de_ty rfl T.n_tuple (by decide +kernel)) da_nil)))))
theorem sc_is_point_of : FnScope ["many", "value"] ["many", "value"] (defScope (top 12)) := ⟨rfl, rfl, rfl, by decide +kernel, rfl, by decide +kernel, by decide +kernel⟩
noncomputable def b_is_point_of : SS := dRet ((mAndV (mCall m_is_integer [] (mCons (dVar 1) mNil)) (mChain leD ltD (M.ret (.int 0)) (dVar 1) (dVar 0))))
noncomputable def m_is_point_of : FD := fnD 2 2 b_is_point_of
theorem ok_is_point_of (T : Tx K mg cls ad fo) : FnOk P w K mg base CX0 2 (ad 12) (fo 12) ["many", "value"] (spD K cls 2 m_is_point_of) :=
  fn_okD T.F12 sc_is_point_of (by decide) (fun cdv A outer s H E q ca sf cells hr => by
    have nd := sc_is_point_of.nd
    have hu64 := hu64_of hr
    have hu65 := hu65_of hr
    exact dss_one (ds_ret ((de_and (de_call rfl (ok_is_integer T) fnD_len (hr.mono (by decide)) rfl T.g_is_integer T.k8 T.b8 .nil (fun _ => .nil) pass0 (da_cons (de_var (pv 1)) da_nil)) (de_one (de_chain op_le op_lt le_d lt_d (de_int) (de_var (pv 1)) (de_var (pv 0))))))))
theorem sc_is_pair_of : FnScope ["many", "value", "item"] ["many", "value"] (defScope (top 13)) := ⟨rfl, rfl, rfl, by decide +kernel, rfl, by decide +kernel, by decide +kernel⟩
noncomputable def b_is_pair_of : SS := dRet ((mAndV (mCB (isa1 ["Space"]) (mCons (dVar 1) (mCons (M.ret (.ty "tuple")) mNil))) (mAndV (m2 eqD (mCB lenD (mCons (dVar 1) mNil)) (M.ret (.int 2))) (mCB allD (mCons (mComp (mRow (dVar 1)) [2] (bNm 2) (mYes) (mCall m_is_point_of [] (mCons (dVar 0) (mCons (dVar 2) mNil)))) mNil)))))
noncomputable def m_is_pair_of : FD := fnD 2 3 b_is_pair_of
theorem ok_is_pair_of (T : Tx K mg cls ad fo) : FnOk P w K mg base CX0 3 (ad 13) (fo 13) ["many", "value"] (spD K cls 2 m_is_pair_of) :=
  fn_okD T.F13 sc_is_pair_of (by decide) (fun cdv A outer s H E q ca sf cells hr => by
    have nd := sc_is_pair_of.nd
    have hu64 := hu64_of hr
    have hu65 := hu65_of hr
    exact dss_one (ds_ret ((de_and (de_isi1 rfl (T.isa q ca cells sf) rfl T.n_isinstance (da_cons (de_var (pv 1)) (da_cons (de_ty rfl T.n_tuple (by decide +kernel)) da_nil))) (de_and (de_cmp (op_eqD hu64) eq_d (de_callB call_len len_d rfl T.n_len (by decide +kernel) (da_cons (de_var (pv 1)) da_nil)) (de_int) (nomark _)) (de_one (de_callB (cr_all rfl) all_d rfl T.n_all (by decide +kernel) (da_cons (de_of (df_lc (own := [("item", 2)]) rfl nd (di_row rfl (de_var (pv 1))) (blkOk_by rfl) (by decide) (fun _ _ _ _ _ => dg_name (i := 2) nd rfl (by first | exact .inl rfl | exact .inr rfl)) (fun _ _ _ _ _ => dts_nil) (fun _ _ _ _ _ => (de_call rfl (ok_is_point_of T) fnD_len (hr.mono (by decide)) rfl T.g_is_point_of T.k12 T.b12 .nil (fun _ => .nil) pass0 (da_cons (de_var (pv 0)) (da_cons (de_var (pv 2)) da_nil)))))) da_nil))))))))
theorem sc_led_on : FnScope ["many", "pairs", "ahead", "found", "point", "lot", "at", "y", "x"] ["many", "pairs"] (defScope (top 14)) := ⟨rfl, rfl, rfl, by decide +kernel, rfl, by decide +kernel, by decide +kernel⟩
noncomputable def b_led_on : SS := dSeq (dSet 2 (mComp (mRange1 (dVar 0)) [4] (bNm 4) (mYes) (mComp (mRow (dVar 1)) [8, 7] (bTup 2 (bCons (bNm 8) (bCons (bNm 7) bNil))) ((mB (m2 eqD (dVar 8) (dVar 4)))) (dVar 7)))) (dSeq (dSetO 3 (mLst mNil)) (dSeq (dFor (mRange1 (dVar 0)) (bNm 4) (dSeq (dParO 5 6 (mLst (mCons (dVar 4) mNil)) (M.ret (.int 0))) (dSeq (dWhile (mB (m2 ltD (dVar 6) (mBor (mCB lenD (mCons (dVar 5) mNil))))) (dSeq (dFor (mRow (m2 ixD (dVar 2) (mIxO 5 (dVar 6)))) (bNm 7) (dIf (mBorT (mB (m2 notInD (dVar 7) (dVar 5)))) (dExpr (mAppend 5 (dVar 7))) (dNext))) (dAug 6 addI (M.ret (.int 1))))) (dFrz [5] (dExpr (mAppend 3 (mCB tupleD (mCons (mCB sortedB (mCons (dVar 5) mNil)) mNil)))))))) (dFrz [3] (dRet (mCB tupleD (mCons (dVar 3) mNil))))))
noncomputable def m_led_on : FD := fnD 2 9 b_led_on
theorem ok_led_on (T : Tx K mg cls ad fo) : FnOk P w K mg base CX0 1 (ad 14) (fo 14) ["many", "pairs"] (spD K cls 2 m_led_on) :=
  fn_okD T.F14 sc_led_on (by decide) (fun cdv A outer s H E q ca sf cells hr => by
    have nd := sc_led_on.nd
    have hu64 := hu64_of hr
    have hu65 := hu65_of hr
    exact dss_cons (ds_setLc (i := 2) (own := [("point", 4)]) rfl nd rfl rfl (sw_true rfl rfl rfl (by decide +kernel)) (di_range1 rfl T.n_range (de_var (pv 0))) (blkOk_by rfl) (by decide) (fun _ _ _ _ _ => dg_name (i := 4) nd rfl (by first | exact .inl rfl | exact .inr rfl)) (fun _ _ _ _ _ => dts_nil) (fun _ _ _ _ _ => (de_of (df_lc (own := [("x", 8), ("y", 7)]) rfl nd (di_row rfl (de_var (pv 1))) (blkOk_by rfl) (by decide) (fun _ _ _ _ _ => dg_tup rfl rfl (dgs_cons (dg_name (i := 8) nd rfl (by first | exact .inl rfl | exact .inr rfl)) (dgs_cons (dg_name (i := 7) nd rfl (by first | exact .inl rfl | exact .inr rfl)) dgs_nil))) (fun _ _ _ _ _ => dts_one (dt_cmp (op_eqD hu64) eq_d (de_var (pv 8)) (de_var (pv 4)) (nomark _))) (fun _ _ _ _ _ => (de_var (pv 7))))))) (dss_cons (ds_setO (i := 3) nd rfl (by first | exact .inl rfl | exact .inr rfl) (df_lst da_nil)) (dss_cons (ds_for PassesOwn.never rfl (di_range1 rfl T.n_range (de_var (pv 0))) (dg_name (i := 4) nd rfl (by first | exact .inl rfl | exact .inr rfl)) (dss_cons (ds_parO (i := 5) (j := 6) rfl nd rfl rfl (by decide) rfl rfl (df_lst (da_cons (de_var (pv 4)) da_nil)) (de_int) rfl) (dss_cons (ds_while PassesOwn.never (dt_cmp op_lt lt_d (de_var (pv 6)) (de_bor (de_callB call_len len_d rfl T.n_len (by decide +kernel) (da_cons (de_var (pv 5)) da_nil))) (nomark _)) (dss_cons (ds_for PassesOwn.never rfl (di_row rfl (de_ix (de_var (pv 2)) (de_ixO (pv 5) (de_var (pv 6)) (fun _ _ => rfl)) rfl (fun _ _ => rfl))) (dg_name (i := 7) nd rfl (by first | exact .inl rfl | exact .inr rfl)) (dss_one (ds_if (dt_bor (dt_cmp (op_notInD hu65) notIn_d (de_var (pv 7)) (de_var (pv 5)) (by rfl))) (dss_one (ds_expr (de_append (pv 5) (de_var (pv 7))))) (dss_nil)))) (dss_one (ds_augAdd (i := 6) nd rfl (by first | exact .inl rfl | exact .inr rfl) (de_int))))) (dss_one (ds_frz [5] (ds_expr (de_append (pv 3) (de_callTy call_tuple_of tuple_d rfl T.n_tuple (by decide +kernel) (da_cons (de_callB cr_sortedB sortedB_d rfl T.n_sorted (by decide +kernel) (da_cons (de_var (pv 5)) da_nil)) da_nil))))))))) (dss_one (ds_frz [3] (ds_ret (de_callTy call_tuple_of tuple_d rfl T.n_tuple (by decide +kernel) (da_cons (de_var (pv 3)) da_nil))))))))
theorem sc_Space_init : FnScope ["self", "many", "pairs", "index", "pair", "y", "x"] ["self", "many", "pairs"] (defScope (inClass (top 15) 0)) := ⟨rfl, rfl, rfl, by decide +kernel, rfl, by decide +kernel, by decide +kernel⟩
noncomputable def b_Space_init : SS := dSeq (dIf ((mOr (mNot (mB (mCall m_is_integer [] (mCons (dVar 1) mNil)))) (mNot (mB (mChain leD leD (M.ret (.int 0)) (dVar 1) (M.ret (.int 24))))))) (dBad) (dNext)) (dSeq (dIf (mNot (mB (mCall m_is_row [] (mCons (dVar 2) mNil)))) (dBad) (dNext)) (dSeq (dFor (mEnum (dVar 2)) (bTup 2 (bCons (bNm 3) (bCons (bNm 4) bNil))) (dIf (mNot (mB (mCall m_is_pair_of [] (mCons (dVar 1) (mCons (dVar 4) mNil))))) (dBad) (dNext))) (dSeq (dFldS 0 ["Space"] "many" (dVar 1)) (dSeq (dFldS 0 ["Space"] "over" (mCall m_led_on [] (mCons (dVar 1) (mCons (mCB listD (mCons (dVar 2) mNil)) mNil)))) (dFldS 0 ["Space"] "under" (mCB tupleD (mCons (mComp (mRange1 (dVar 1)) [5] (bNm 5) (mYes) (mCB tupleD (mCons (mComp (mRange1 (dVar 1)) [6] (bNm 6) ((mB (m2 inD (dVar 5) (m2 ixD (mFldO 0 ["Space"] "over") (dVar 6))))) (dVar 6)) mNil))) mNil)))))))
noncomputable def m_Space_init : FD := initD "Space" 2 7 b_Space_init
theorem ok_Space_init (T : Tx K mg cls ad fo) : FnOk P w K mg base CX0 4 (ad 1300) (fo 1300) ["self", "many", "pairs"] (spI K cls "Space" 2 m_Space_init) :=
  fn_okI T.F1300 sc_Space_init rfl (by decide) (fun cdv A outer s H E q ca sf cells hr => by
    have nd := sc_Space_init.nd
    have hu64 := hu64_of hr
    have hu65 := hu65_of hr
    exact dss_cons (ds_if (dt_bool (dw_or (dt_not (dt_val (de_call rfl (ok_is_integer T) fnD_len (hr.mono (by decide)) rfl T.g_is_integer T.k8 T.b8 .nil (fun _ => .nil) pass0 (da_cons (de_var (pv 1)) da_nil)))) (dw_or1 (dt_not (dt_chain op_le op_le le_d le_d (de_int) (de_var (pv 1)) (de_gint rfl (Classical.choose_spec T.c_MOST_POINTS))))))) (dss_one (ds_never)) (dss_nil)) (dss_cons (ds_if (dt_not (dt_val (de_call rfl (ok_is_row T) fnD_len (hr.mono (by decide)) rfl T.g_is_row T.k9 T.b9 .nil (fun _ => .nil) pass0 (da_cons (de_var (pv 2)) da_nil)))) (dss_one (ds_never)) (dss_nil)) (dss_cons (ds_for PassesOwn.never rfl (di_enum rfl rfl T.n_enumerate (de_var (pv 2))) (dg_tup rfl rfl (dgs_cons (dg_name (i := 3) nd rfl (by first | exact .inl rfl | exact .inr rfl)) (dgs_cons (dg_name (i := 4) nd rfl (by first | exact .inl rfl | exact .inr rfl)) dgs_nil))) (dss_one (ds_if (dt_not (dt_val (de_call rfl (ok_is_pair_of T) fnD_len (hr.mono (by decide)) rfl T.g_is_pair_of T.k13 T.b13 .nil (fun _ => .nil) pass0 (da_cons (de_var (pv 1)) (da_cons (de_var (pv 4)) da_nil))))) (dss_one (ds_never)) (dss_nil)))) (dss_cons (ds_fldS rfl (T.f_many q ca cells sf) (pv 0) (de_var (pv 1)) rfl) (dss_cons (ds_fldS rfl (T.f_over q ca cells sf) (pv 0) (de_call rfl (ok_led_on T) fnD_len (hr.mono (by decide)) rfl T.g_led_on T.k14 T.b14 .nil (fun _ => .nil) pass0 (da_cons (de_var (pv 1)) (da_cons (de_callTy call_list_of list_d rfl T.n_list (by decide +kernel) (da_cons (de_var (pv 2)) da_nil)) da_nil))) rfl) (dss_one (ds_fldS rfl (T.f_under q ca cells sf) (pv 0) (de_callTy call_tuple_of tuple_d rfl T.n_tuple (by decide +kernel) (da_cons (de_of (df_lc (own := [("y", 5)]) rfl nd (di_range1 rfl T.n_range (de_var (pv 1))) (blkOk_by rfl) (by decide) (fun _ _ _ _ _ => dg_name (i := 5) nd rfl (by first | exact .inl rfl | exact .inr rfl)) (fun _ _ _ _ _ => dts_nil) (fun _ _ _ _ _ => (de_callTy call_tuple_of tuple_d rfl T.n_tuple (by decide +kernel) (da_cons (de_of (df_lc (own := [("x", 6)]) rfl nd (di_range1 rfl T.n_range (de_var (pv 1))) (blkOk_by rfl) (by decide) (fun _ _ _ _ _ => dg_name (i := 6) nd rfl (by first | exact .inl rfl | exact .inr rfl)) (fun _ _ _ _ _ => dts_one (dt_cmp (op_inD hu65) in_d (de_var (pv 5)) (de_ix (de_fldO rfl (T.f_over q ca cells sf) (pv 0) rfl) (de_var (pv 6)) rfl (fun _ _ => rfl)) (by rfl))) (fun _ _ _ _ _ => (de_var (pv 6))))) da_nil))))) da_nil)) rfl)))))))
theorem sc_need_space : FnScope ["space"] ["space"] (defScope (top 16)) := ⟨rfl, rfl, rfl, by decide +kernel, rfl, by decide +kernel, by decide +kernel⟩
noncomputable def b_need_space : SS := dIf (mNot (mB (mCB (isa1 ["Space"]) (mCons (dVar 0) (mCons (M.ret (.cls "Space")) mNil))))) (dBad) (dNext)
noncomputable def m_need_space : FD := fnD 1 1 b_need_space
theorem ok_need_space (T : Tx K mg cls ad fo) : FnOk P w K mg base CX0 1 (ad 16) (fo 16) ["space"] (spD K cls 1 m_need_space) :=
  fn_okD T.F16 sc_need_space (by decide) (fun cdv A outer s H E q ca sf cells hr => by
    have nd := sc_need_space.nd
    have hu64 := hu64_of hr
    have hu65 := hu65_of hr
    exact dss_one (ds_if (dt_not (dt_val (de_isi1 rfl (T.isa q ca cells sf) rfl T.n_isinstance (da_cons (de_var (pv 0)) (da_cons (de_cls (T.cl_Space).symm rfl T.g_Space) da_nil))))) (dss_one (ds_never)) (dss_nil)))
theorem sc_all_pairs : FnScope ["space", "x", "y"] ["space"] (defScope (top 17)) := ⟨rfl, rfl, rfl, by decide +kernel, rfl, by decide +kernel, by decide +kernel⟩
noncomputable def b_all_pairs : SS := dRet (mComp2 (mRange1 (m1 (fldD ["Space"] "many") (dVar 0))) [1, 2] (bNm 1) (mYes) (mRow (m2 ixD (m1 (fldD ["Space"] "over") (dVar 0)) (dVar 1))) [2] (bNm 2) ((mB (m2 neD (dVar 2) (dVar 1)))) (mTup (mCons (dVar 1) (mCons (dVar 2) mNil))))
noncomputable def m_all_pairs : FD := fnD 1 3 b_all_pairs
theorem ok_all_pairs (T : Tx K mg cls ad fo) : FnOk P w K mg base CX0 1 (ad 17) (fo 17) ["space"] (spD K cls 1 m_all_pairs) :=
  fn_okD T.F17 sc_all_pairs (by decide) (fun cdv A outer s H E q ca sf cells hr => by
    have nd := sc_all_pairs.nd
    have hu64 := hu64_of hr
    have hu65 := hu65_of hr
    exact dss_one (ds_ret (de_of (df_lc2 (own := [("x", 1), ("y", 2)]) (vs1 := [2]) rfl nd (di_range1 rfl T.n_range (de_fld rfl (T.f_many q ca cells sf) (de_var (pv 0)) rfl)) (blkOk_by rfl) (by decide) (by decide) (by decide) (fun _ _ _ _ _ => dg_name (i := 1) nd rfl (by first | exact .inl rfl | exact .inr rfl)) (fun _ _ _ _ _ => dts_nil) (fun _ _ _ _ _ => di_row rfl (de_ix (de_fld rfl (T.f_over q ca cells sf) (de_var (pv 0)) rfl) (de_var (pv 1)) rfl (fun _ _ => rfl))) (fun _ _ _ _ _ => dg_name (i := 2) nd rfl (by first | exact .inl rfl | exact .inr rfl)) (fun _ _ _ _ _ => dts_one (dt_cmp (op_neD hu64) ne_d (de_var (pv 2)) (de_var (pv 1)) (nomark _))) (fun _ _ _ _ _ => (de_tup (da_cons (de_var (pv 1)) (da_cons (de_var (pv 2)) da_nil))))))))
theorem sc_parts_points : FnScope ["space", "x", "y"] ["space"] (defScope (top 18)) := ⟨rfl, rfl, rfl, by decide +kernel, rfl, by decide +kernel, by decide +kernel⟩
noncomputable def b_parts_points : SS := dRet (mNotV (mCB anyD (mCons (mComp (mRow (mCall m_all_pairs [] (mCons (dVar 0) mNil))) [1, 2] (bTup 2 (bCons (bNm 1) (bCons (bNm 2) bNil))) (mYes) (m2 inD (dVar 1) (m2 ixD (m1 (fldD ["Space"] "over") (dVar 0)) (dVar 2)))) mNil)))
noncomputable def m_parts_points : FD := fnD 1 3 b_parts_points
theorem ok_parts_points (T : Tx K mg cls ad fo) : FnOk P w K mg base CX0 2 (ad 18) (fo 18) ["space"] (spD K cls 1 m_parts_points) :=
  fn_okD T.F18 sc_parts_points (by decide) (fun cdv A outer s H E q ca sf cells hr => by
    have nd := sc_parts_points.nd
    have hu64 := hu64_of hr
    have hu65 := hu65_of hr
    exact dss_one (ds_ret (de_not (de_callB (cr_any rfl) any_d rfl T.n_any (by decide +kernel) (da_cons (de_of (df_lc (own := [("x", 1), ("y", 2)]) rfl nd (di_row rfl (de_call rfl (ok_all_pairs T) fnD_len (hr.mono (by decide)) rfl T.g_all_pairs T.k17 T.b17 .nil (fun _ => .nil) pass0 (da_cons (de_var (pv 0)) da_nil))) (blkOk_by rfl) (by decide) (fun _ _ _ _ _ => dg_tup rfl rfl (dgs_cons (dg_name (i := 1) nd rfl (by first | exact .inl rfl | exact .inr rfl)) (dgs_cons (dg_name (i := 2) nd rfl (by first | exact .inl rfl | exact .inr rfl)) dgs_nil))) (fun _ _ _ _ _ => dts_nil) (fun _ _ _ _ _ => (de_cmp (op_inD hu65) in_d (de_var (pv 1)) (de_ix (de_fld rfl (T.f_over q ca cells sf) (de_var (pv 0)) rfl) (de_var (pv 2)) rfl (fun _ _ => rfl)) (by rfl))))) da_nil)))))
theorem sc_need_parted : FnScope ["space"] ["space"] (defScope (top 19)) := ⟨rfl, rfl, rfl, by decide +kernel, rfl, by decide +kernel, by decide +kernel⟩
noncomputable def b_need_parted : SS := dSeq (dExpr (mCall m_need_space [] (mCons (dVar 0) mNil))) (dIf (mNot (mB (mCall m_parts_points [] (mCons (dVar 0) mNil)))) (dBad) (dNext))
noncomputable def m_need_parted : FD := fnD 1 1 b_need_parted
theorem ok_need_parted (T : Tx K mg cls ad fo) : FnOk P w K mg base CX0 3 (ad 19) (fo 19) ["space"] (spD K cls 1 m_need_parted) :=
  fn_okD T.F19 sc_need_parted (by decide) (fun cdv A outer s H E q ca sf cells hr => by
    have nd := sc_need_parted.nd
    have hu64 := hu64_of hr
    have hu65 := hu65_of hr
    exact dss_cons (ds_expr (de_call rfl (ok_need_space T) fnD_len (hr.mono (by decide)) rfl T.g_need_space T.k16 T.b16 .nil (fun _ => .nil) pass0 (da_cons (de_var (pv 0)) da_nil))) (dss_one (ds_if (dt_not (dt_val (de_call rfl (ok_parts_points T) fnD_len (hr.mono (by decide)) rfl T.g_parts_points T.k18 T.b18 .nil (fun _ => .nil) pass0 (da_cons (de_var (pv 0)) da_nil)))) (dss_one (ds_never)) (dss_nil))))
theorem sc_is_cover : FnScope ["space", "x", "y", "z"] ["space", "x", "y"] (defScope (top 20)) := ⟨rfl, rfl, rfl, by decide +kernel, rfl, by decide +kernel, by decide +kernel⟩
noncomputable def b_is_cover : SS := dRet (mNotV (mCB anyD (mCons (mComp (mRow (m2 ixD (m1 (fldD ["Space"] "over") (dVar 0)) (dVar 1))) [3] (bNm 3) (mYes) ((mAndV (m2 neD (dVar 3) (dVar 1)) (mAndV (m2 neD (dVar 3) (dVar 2)) (m2 inD (dVar 3) (m2 ixD (m1 (fldD ["Space"] "under") (dVar 0)) (dVar 2))))))) mNil)))
noncomputable def m_is_cover : FD := fnD 3 4 b_is_cover
theorem ok_is_cover (T : Tx K mg cls ad fo) : FnOk P w K mg base CX0 1 (ad 20) (fo 20) ["space", "x", "y"] (spD K cls 3 m_is_cover) :=
  fn_okD T.F20 sc_is_cover (by decide) (fun cdv A outer s H E q ca sf cells hr => by
    have nd := sc_is_cover.nd
    have hu64 := hu64_of hr
    have hu65 := hu65_of hr
    exact dss_one (ds_ret (de_not (de_callB (cr_any rfl) any_d rfl T.n_any (by decide +kernel) (da_cons (de_of (df_lc (own := [("z", 3)]) rfl nd (di_row rfl (de_ix (de_fld rfl (T.f_over q ca cells sf) (de_var (pv 0)) rfl) (de_var (pv 1)) rfl (fun _ _ => rfl))) (blkOk_by rfl) (by decide) (fun _ _ _ _ _ => dg_name (i := 3) nd rfl (by first | exact .inl rfl | exact .inr rfl)) (fun _ _ _ _ _ => dts_nil) (fun _ _ _ _ _ => ((de_and (de_cmp (op_neD hu64) ne_d (de_var (pv 3)) (de_var (pv 1)) (nomark _)) (de_and (de_cmp (op_neD hu64) ne_d (de_var (pv 3)) (de_var (pv 2)) (nomark _)) (de_one (de_cmp (op_inD hu65) in_d (de_var (pv 3)) (de_ix (de_fld rfl (T.f_under q ca cells sf) (de_var (pv 0)) rfl) (de_var (pv 2)) rfl (fun _ _ => rfl)) (by rfl))))))))) da_nil)))))
theorem sc_all_covers : FnScope ["space", "x", "y"] ["space"] (defScope (top 21)) := ⟨rfl, rfl, rfl, by decide +kernel, rfl, by decide +kernel, by decide +kernel⟩
noncomputable def b_all_covers : SS := dRet (mComp (mRow (mCall m_all_pairs [] (mCons (dVar 0) mNil))) [1, 2] (bTup 2 (bCons (bNm 1) (bCons (bNm 2) bNil))) ((mB (mCall m_is_cover [] (mCons (dVar 0) (mCons (dVar 1) (mCons (dVar 2) mNil)))))) (mTup (mCons (dVar 1) (mCons (dVar 2) mNil))))
noncomputable def m_all_covers : FD := fnD 1 3 b_all_covers
theorem ok_all_covers (T : Tx K mg cls ad fo) : FnOk P w K mg base CX0 2 (ad 21) (fo 21) ["space"] (spD K cls 1 m_all_covers) :=
  fn_okD T.F21 sc_all_covers (by decide) (fun cdv A outer s H E q ca sf cells hr => by
    have nd := sc_all_covers.nd
    have hu64 := hu64_of hr
    have hu65 := hu65_of hr
    exact dss_one (ds_ret (de_of (df_lc (own := [("x", 1), ("y", 2)]) rfl nd (di_row rfl (de_call rfl (ok_all_pairs T) fnD_len (hr.mono (by decide)) rfl T.g_all_pairs T.k17 T.b17 .nil (fun _ => .nil) pass0 (da_cons (de_var (pv 0)) da_nil))) (blkOk_by rfl) (by decide) (fun _ _ _ _ _ => dg_tup rfl rfl (dgs_cons (dg_name (i := 1) nd rfl (by first | exact .inl rfl | exact .inr rfl)) (dgs_cons (dg_name (i := 2) nd rfl (by first | exact .inl rfl | exact .inr rfl)) dgs_nil))) (fun _ _ _ _ _ => dts_one (dt_val (de_call rfl (ok_is_cover T) fnD_len (hr.mono (by decide)) rfl T.g_is_cover T.k20 T.b20 .nil (fun _ => .nil) pass0 (da_cons (de_var (pv 0)) (da_cons (de_var (pv 1)) (da_cons (de_var (pv 2)) da_nil)))))) (fun _ _ _ _ _ => (de_tup (da_cons (de_var (pv 1)) (da_cons (de_var (pv 2)) da_nil))))))))
theorem sc_covers : FnScope ["space"] ["space"] (defScope (top 22)) := ⟨rfl, rfl, rfl, by decide +kernel, rfl, by decide +kernel, by decide +kernel⟩
noncomputable def b_covers : SS := dSeq (dExpr (mCall m_need_parted [] (mCons (dVar 0) mNil))) (dRet (mCB tupleD (mCons (mCall m_all_covers [] (mCons (dVar 0) mNil)) mNil)))
noncomputable def m_covers : FD := fnD 1 1 b_covers
theorem ok_covers (T : Tx K mg cls ad fo) : FnOk P w K mg base CX0 4 (ad 22) (fo 22) ["space"] (spD K cls 1 m_covers) :=
  fn_okD T.F22 sc_covers (by decide) (fun cdv A outer s H E q ca sf cells hr => by
    have nd := sc_covers.nd
    have hu64 := hu64_of hr
    have hu65 := hu65_of hr
    exact dss_cons (ds_expr (de_call rfl (ok_need_parted T) fnD_len (hr.mono (by decide)) rfl T.g_need_parted T.k19 T.b19 .nil (fun _ => .nil) pass0 (da_cons (de_var (pv 0)) da_nil))) (dss_one (ds_ret (de_callTy call_tuple_of tuple_d rfl T.n_tuple (by decide +kernel) (da_cons (de_call rfl (ok_all_covers T) fnD_len (hr.mono (by decide)) rfl T.g_all_covers T.k21 T.b21 .nil (fun _ => .nil) pass0 (da_cons (de_var (pv 0)) da_nil)) da_nil)))))
theorem sc_all_heights : FnScope ["space", "found", "lap", "x", "y"] ["space"] (defScope (top 23)) := ⟨rfl, rfl, rfl, by decide +kernel, rfl, by decide +kernel, by decide +kernel⟩
noncomputable def b_all_heights : SS := dSeq (dSetO 1 (m2 mulL (mLst (mCons (M.ret (.int 0)) mNil)) (m1 (fldD ["Space"] "many") (dVar 0)))) (dSeq (dFor (mRange1 (m1 (fldD ["Space"] "many") (dVar 0))) (bNm 2) (dFor (mRow (mCall m_all_pairs [] (mCons (dVar 0) mNil))) (bTup 2 (bCons (bNm 3) (bCons (bNm 4) bNil))) (dSetItem 1 (mCB max2D (mCons (mIxO 1 (dVar 4)) (mCons (m2 addD (mIxO 1 (dVar 3)) (M.ret (.int 1))) mNil))) (dVar 4)))) (dFrz [1] (dRet (mCB tupleD (mCons (dVar 1) mNil)))))
noncomputable def m_all_heights : FD := fnD 1 5 b_all_heights
theorem ok_all_heights (T : Tx K mg cls ad fo) : FnOk P w K mg base CX0 2 (ad 23) (fo 23) ["space"] (spD K cls 1 m_all_heights) :=
  fn_okD T.F23 sc_all_heights (by decide) (fun cdv A outer s H E q ca sf cells hr => by
    have nd := sc_all_heights.nd
    have hu64 := hu64_of hr
    have hu65 := hu65_of hr
    exact dss_cons (ds_setO (i := 1) nd rfl (by first | exact .inl rfl | exact .inr rfl) (df_op op_rep mulL_l (de_lst (da_cons (de_int) da_nil)) (de_fld rfl (T.f_many q ca cells sf) (de_var (pv 0)) rfl))) (dss_cons (ds_for PassesOwn.never rfl (di_range1 rfl T.n_range (de_fld rfl (T.f_many q ca cells sf) (de_var (pv 0)) rfl)) (dg_name (i := 2) nd rfl (by first | exact .inl rfl | exact .inr rfl)) (dss_one (ds_for PassesOwn.never rfl (di_row rfl (de_call rfl (ok_all_pairs T) fnD_len (hr.mono (by decide)) rfl T.g_all_pairs T.k17 T.b17 .nil (fun _ => .nil) pass0 (da_cons (de_var (pv 0)) da_nil))) (dg_tup rfl rfl (dgs_cons (dg_name (i := 3) nd rfl (by first | exact .inl rfl | exact .inr rfl)) (dgs_cons (dg_name (i := 4) nd rfl (by first | exact .inl rfl | exact .inr rfl)) dgs_nil))) (dss_one (ds_setItem (pv 1) (de_callB (call_max2 rfl) max2_d rfl T.n_max (by decide +kernel) (da_cons (de_ixO (pv 1) (de_var (pv 4)) (fun _ _ => rfl)) (da_cons (de_op op_addA add_d (de_ixO (pv 1) (de_var (pv 3)) (fun _ _ => rfl)) (de_int)) da_nil))) (de_var (pv 4))))))) (dss_one (ds_frz [1] (ds_ret (de_callTy call_tuple_of tuple_d rfl T.n_tuple (by decide +kernel) (da_cons (de_var (pv 1)) da_nil)))))))
theorem sc_heights : FnScope ["space"] ["space"] (defScope (top 24)) := ⟨rfl, rfl, rfl, by decide +kernel, rfl, by decide +kernel, by decide +kernel⟩
noncomputable def b_heights : SS := dSeq (dExpr (mCall m_need_parted [] (mCons (dVar 0) mNil))) (dRet (mCall m_all_heights [] (mCons (dVar 0) mNil)))
noncomputable def m_heights : FD := fnD 1 1 b_heights
theorem ok_heights (T : Tx K mg cls ad fo) : FnOk P w K mg base CX0 4 (ad 24) (fo 24) ["space"] (spD K cls 1 m_heights) :=
  fn_okD T.F24 sc_heights (by decide) (fun cdv A outer s H E q ca sf cells hr => by
    have nd := sc_heights.nd
    have hu64 := hu64_of hr
    have hu65 := hu65_of hr
    exact dss_cons (ds_expr (de_call rfl (ok_need_parted T) fnD_len (hr.mono (by decide)) rfl T.g_need_parted T.k19 T.b19 .nil (fun _ => .nil) pass0 (da_cons (de_var (pv 0)) da_nil))) (dss_one (ds_ret (de_call rfl (ok_all_heights T) fnD_len (hr.mono (by decide)) rfl T.g_all_heights T.k23 T.b23 .nil (fun _ => .nil) pass0 (da_cons (de_var (pv 0)) da_nil)))))
theorem sc_Space_eq : FnScope ["self", "other"] ["self", "other"] (defScope (inClass (top 15) 1)) := ⟨rfl, rfl, rfl, by decide +kernel, rfl, by decide +kernel, by decide +kernel⟩
noncomputable def b_Space_eq : SS := dRet ((mAndV (mCB (isa1 ["Space"]) (mCons (dVar 1) (mCons (M.ret (.cls "Space")) mNil))) (m2 eqD (mTup (mCons (m1 (fldD ["Space"] "many") (dVar 0)) (mCons (m1 (fldD ["Space"] "over") (dVar 0)) mNil))) (mTup (mCons (m1 (fldD ["Space"] "many") (dVar 1)) (mCons (m1 (fldD ["Space"] "over") (dVar 1)) mNil))))))
noncomputable def m_Space_eq : FD := fnD 2 2 b_Space_eq
theorem ok_Space_eq (T : Tx K mg cls ad fo) : FnOk P w K mg base CX0 1 (ad 1301) (fo 1301) ["self", "other"] (spD K cls 2 m_Space_eq) :=
  fn_okD T.F1301 sc_Space_eq (by decide) (fun cdv A outer s H E q ca sf cells hr => by
    have nd := sc_Space_eq.nd
    have hu64 := hu64_of hr
    have hu65 := hu65_of hr
    exact dss_one (ds_ret ((de_and (de_isi1 rfl (T.isa q ca cells sf) rfl T.n_isinstance (da_cons (de_var (pv 1)) (da_cons (de_cls (T.cl_Space).symm rfl T.g_Space) da_nil))) (de_one (de_cmp (op_eqD hu64) eq_d (de_tup (da_cons (de_fld rfl (T.f_many q ca cells sf) (de_var (pv 0)) rfl) (da_cons (de_fld rfl (T.f_over q ca cells sf) (de_var (pv 0)) rfl) da_nil))) (de_tup (da_cons (de_fld rfl (T.f_many q ca cells sf) (de_var (pv 1)) rfl) (da_cons (de_fld rfl (T.f_over q ca cells sf) (de_var (pv 1)) rfl) da_nil))) (nomark _)))))))
theorem sc_contrary : FnScope ["space", "x", "y"] ["space"] (defScope (top 25)) := ⟨rfl, rfl, rfl, by decide +kernel, rfl, by decide +kernel, by decide +kernel⟩
noncomputable def b_contrary : SS := dSeq (dExpr (mCall m_need_space [] (mCons (dVar 0) mNil))) (dRet (mCall m_Space_init [] (mCons (m1 (fldD ["Space"] "many") (dVar 0)) (mCons (mComp (mRow (mCall m_all_pairs [] (mCons (dVar 0) mNil))) [1, 2] (bTup 2 (bCons (bNm 1) (bCons (bNm 2) bNil))) (mYes) (mTup (mCons (dVar 2) (mCons (dVar 1) mNil)))) mNil))))
noncomputable def m_contrary : FD := fnD 1 3 b_contrary
theorem ok_contrary (T : Tx K mg cls ad fo) : FnOk P w K mg base CX0 6 (ad 25) (fo 25) ["space"] (spD K cls 1 m_contrary) :=
  fn_okD T.F25 sc_contrary (by decide) (fun cdv A outer s H E q ca sf cells hr => by
    have nd := sc_contrary.nd
    have hu64 := hu64_of hr
    have hu65 := hu65_of hr
    exact dss_cons (ds_expr (de_call rfl (ok_need_space T) fnD_len (hr.mono (by decide)) rfl T.g_need_space T.k16 T.b16 .nil (fun _ => .nil) pass0 (da_cons (de_var (pv 0)) da_nil))) (dss_one (ds_ret (de_make rfl (T.cl_Space).symm T.m_Space (ok_Space_init T) initD_len (hr.mono (by decide)) rfl T.g_Space T.b1300 .nil (fun _ => .nil) pass0 (da_cons (de_fld rfl (T.f_many q ca cells sf) (de_var (pv 0)) rfl) (da_cons (de_of (df_lc (own := [("x", 1), ("y", 2)]) rfl nd (di_row rfl (de_call rfl (ok_all_pairs T) fnD_len (hr.mono (by decide)) rfl T.g_all_pairs T.k17 T.b17 .nil (fun _ => .nil) pass0 (da_cons (de_var (pv 0)) da_nil))) (blkOk_by rfl) (by decide) (fun _ _ _ _ _ => dg_tup rfl rfl (dgs_cons (dg_name (i := 1) nd rfl (by first | exact .inl rfl | exact .inr rfl)) (dgs_cons (dg_name (i := 2) nd rfl (by first | exact .inl rfl | exact .inr rfl)) dgs_nil))) (fun _ _ _ _ _ => dts_nil) (fun _ _ _ _ _ => (de_tup (da_cons (de_var (pv 2)) (da_cons (de_var (pv 1)) da_nil)))))) da_nil))))))
theorem sc_hanging : FnScope ["space", "start", "lot", "at", "y"] ["space", "start"] (defScope (top 35)) := ⟨rfl, rfl, rfl, by decide +kernel, rfl, by decide +kernel, by decide +kernel⟩
noncomputable def b_hanging : SS := dSeq (dParO 2 3 (mLst (mCons (dVar 1) mNil)) (M.ret (.int 0))) (dSeq (dWhile (mB (m2 ltD (dVar 3) (mBor (mCB lenD (mCons (dVar 2) mNil))))) (dSeq (dFor (mRow (m2 addD (m2 ixD (m1 (fldD ["Space"] "under") (dVar 0)) (mIxO 2 (dVar 3))) (m2 ixD (m1 (fldD ["Space"] "over") (dVar 0)) (mIxO 2 (dVar 3))))) (bNm 4) (dIf (mBorT (mB (m2 notInD (dVar 4) (dVar 2)))) (dExpr (mAppend 2 (dVar 4))) (dNext))) (dAug 3 addI (M.ret (.int 1))))) (dFrz [2] (dRet (mCB tupleD (mCons (mCB sortedB (mCons (dVar 2) mNil)) mNil)))))
noncomputable def m_hanging : FD := fnD 2 5 b_hanging
theorem ok_hanging (T : Tx K mg cls ad fo) : FnOk P w K mg base CX0 1 (ad 35) (fo 35) ["space", "start"] (spD K cls 2 m_hanging) :=
  fn_okD T.F35 sc_hanging (by decide) (fun cdv A outer s H E q ca sf cells hr => by
    have nd := sc_hanging.nd
    have hu64 := hu64_of hr
    have hu65 := hu65_of hr
    exact dss_cons (ds_parO (i := 2) (j := 3) rfl nd rfl rfl (by decide) rfl rfl (df_lst (da_cons (de_var (pv 1)) da_nil)) (de_int) rfl) (dss_cons (ds_while PassesOwn.never (dt_cmp op_lt lt_d (de_var (pv 3)) (de_bor (de_callB call_len len_d rfl T.n_len (by decide +kernel) (da_cons (de_var (pv 2)) da_nil))) (nomark _)) (dss_cons (ds_for PassesOwn.never rfl (di_row rfl (de_op op_addA add_d (de_ix (de_fld rfl (T.f_under q ca cells sf) (de_var (pv 0)) rfl) (de_ixO (pv 2) (de_var (pv 3)) (fun _ _ => rfl)) rfl (fun _ _ => rfl)) (de_ix (de_fld rfl (T.f_over q ca cells sf) (de_var (pv 0)) rfl) (de_ixO (pv 2) (de_var (pv 3)) (fun _ _ => rfl)) rfl (fun _ _ => rfl)))) (dg_name (i := 4) nd rfl (by first | exact .inl rfl | exact .inr rfl)) (dss_one (ds_if (dt_bor (dt_cmp (op_notInD hu65) notIn_d (de_var (pv 4)) (de_var (pv 2)) (by rfl))) (dss_one (ds_expr (de_append (pv 2) (de_var (pv 4))))) (dss_nil)))) (dss_one (ds_augAdd (i := 3) nd rfl (by first | exact .inl rfl | exact .inr rfl) (de_int))))) (dss_one (ds_frz [2] (ds_ret (de_callTy call_tuple_of tuple_d rfl T.n_tuple (by decide +kernel) (da_cons (de_callB cr_sortedB sortedB_d rfl T.n_sorted (by decide +kernel) (da_cons (de_var (pv 2)) da_nil)) da_nil)))))))
theorem sc_parts : FnScope ["space", "found", "x", "part"] ["space"] (defScope (top 36)) := ⟨rfl, rfl, rfl, by decide +kernel, rfl, by decide +kernel, by decide +kernel⟩
noncomputable def b_parts : SS := dSeq (dExpr (mCall m_need_space [] (mCons (dVar 0) mNil))) (dSeq (dSetO 1 (mLst mNil)) (dSeq (dFor (mRange1 (m1 (fldD ["Space"] "many") (dVar 0))) (bNm 2) (dIf (mNot (mB (mBor (mCB anyD (mCons (mComp (mRow (dVar 1)) [3] (bNm 3) (mYes) (m2 inD (dVar 2) (dVar 3))) mNil))))) (dExpr (mAppend 1 (mCall m_hanging [] (mCons (dVar 0) (mCons (dVar 2) mNil))))) (dNext))) (dFrz [1] (dRet (mCB tupleD (mCons (dVar 1) mNil))))))
noncomputable def m_parts : FD := fnD 1 4 b_parts
theorem ok_parts (T : Tx K mg cls ad fo) : FnOk P w K mg base CX0 2 (ad 36) (fo 36) ["space"] (spD K cls 1 m_parts) :=
  fn_okD T.F36 sc_parts (by decide) (fun cdv A outer s H E q ca sf cells hr => by
    have nd := sc_parts.nd
    have hu64 := hu64_of hr
    have hu65 := hu65_of hr
    exact dss_cons (ds_expr (de_call rfl (ok_need_space T) fnD_len (hr.mono (by decide)) rfl T.g_need_space T.k16 T.b16 .nil (fun _ => .nil) pass0 (da_cons (de_var (pv 0)) da_nil))) (dss_cons (ds_setO (i := 1) nd rfl (by first | exact .inl rfl | exact .inr rfl) (df_lst da_nil)) (dss_cons (ds_for PassesOwn.never rfl (di_range1 rfl T.n_range (de_fld rfl (T.f_many q ca cells sf) (de_var (pv 0)) rfl)) (dg_name (i := 2) nd rfl (by first | exact .inl rfl | exact .inr rfl)) (dss_one (ds_if (dt_not (dt_val (de_bor (de_callB (cr_any rfl) any_d rfl T.n_any (by decide +kernel) (da_cons (de_of (df_lc (own := [("part", 3)]) rfl nd (di_row rfl (de_var (pv 1))) (blkOk_by rfl) (by decide) (fun _ _ _ _ _ => dg_name (i := 3) nd rfl (by first | exact .inl rfl | exact .inr rfl)) (fun _ _ _ _ _ => dts_nil) (fun _ _ _ _ _ => (de_cmp (op_inD hu65) in_d (de_var (pv 2)) (de_var (pv 3)) (by rfl))))) da_nil))))) (dss_one (ds_expr (de_append (pv 1) (de_call rfl (ok_hanging T) fnD_len (hr.mono (by decide)) rfl T.g_hanging T.k35 T.b35 .nil (fun _ => .nil) pass0 (da_cons (de_var (pv 0)) (da_cons (de_var (pv 2)) da_nil)))))) (dss_nil)))) (dss_one (ds_frz [1] (ds_ret (de_callTy call_tuple_of tuple_d rfl T.n_tuple (by decide +kernel) (da_cons (de_var (pv 1)) da_nil))))))))
theorem sc_need_two : FnScope ["one", "other"] ["one", "other"] (defScope (top 29)) := ⟨rfl, rfl, rfl, by decide +kernel, rfl, by decide +kernel, by decide +kernel⟩
noncomputable def b_need_two : SS := dSeq (dExpr (mCall m_need_space [] (mCons (dVar 0) mNil))) (dExpr (mCall m_need_space [] (mCons (dVar 1) mNil)))
noncomputable def m_need_two : FD := fnD 2 2 b_need_two
theorem ok_need_two (T : Tx K mg cls ad fo) : FnOk P w K mg base CX0 2 (ad 29) (fo 29) ["one", "other"] (spD K cls 2 m_need_two) :=
  fn_okD T.F29 sc_need_two (by decide) (fun cdv A outer s H E q ca sf cells hr => by
    have nd := sc_need_two.nd
    have hu64 := hu64_of hr
    have hu65 := hu65_of hr
    exact dss_cons (ds_expr (de_call rfl (ok_need_space T) fnD_len (hr.mono (by decide)) rfl T.g_need_space T.k16 T.b16 .nil (fun _ => .nil) pass0 (da_cons (de_var (pv 0)) da_nil))) (dss_one (ds_expr (de_call rfl (ok_need_space T) fnD_len (hr.mono (by decide)) rfl T.g_need_space T.k16 T.b16 .nil (fun _ => .nil) pass0 (da_cons (de_var (pv 1)) da_nil)))))
theorem sc_need_room : FnScope ["many"] ["many"] (defScope (top 27)) := ⟨rfl, rfl, rfl, by decide +kernel, rfl, by decide +kernel, by decide +kernel⟩
noncomputable def b_need_room : SS := dIf (mB (m2 gtD (dVar 0) (M.ret (.int 24)))) (dBad) (dNext)
noncomputable def m_need_room : FD := fnD 1 1 b_need_room
theorem ok_need_room (T : Tx K mg cls ad fo) : FnOk P w K mg base CX0 1 (ad 27) (fo 27) ["many"] (spD K cls 1 m_need_room) :=
  fn_okD T.F27 sc_need_room (by decide) (fun cdv A outer s H E q ca sf cells hr => by
    have nd := sc_need_room.nd
    have hu64 := hu64_of hr
    have hu65 := hu65_of hr
    exact dss_one (ds_if (dt_cmp op_gt gt_d (de_var (pv 0)) (de_gint rfl (Classical.choose_spec T.c_MOST_POINTS)) (nomark _)) (dss_one (ds_never)) (dss_nil)))
theorem sc_shifted_pairs : FnScope ["space", "by", "x", "y"] ["space", "by"] (defScope (top 28)) := ⟨rfl, rfl, rfl, by decide +kernel, rfl, by decide +kernel, by decide +kernel⟩
noncomputable def b_shifted_pairs : SS := dRet (mComp (mRow (mCall m_all_pairs [] (mCons (dVar 0) mNil))) [2, 3] (bTup 2 (bCons (bNm 2) (bCons (bNm 3) bNil))) (mYes) (mTup (mCons (m2 addD (dVar 2) (dVar 1)) (mCons (m2 addD (dVar 3) (dVar 1)) mNil))))
noncomputable def m_shifted_pairs : FD := fnD 2 4 b_shifted_pairs
theorem ok_shifted_pairs (T : Tx K mg cls ad fo) : FnOk P w K mg base CX0 2 (ad 28) (fo 28) ["space", "by"] (spD K cls 2 m_shifted_pairs) :=
  fn_okD T.F28 sc_shifted_pairs (by decide) (fun cdv A outer s H E q ca sf cells hr => by
    have nd := sc_shifted_pairs.nd
    have hu64 := hu64_of hr
    have hu65 := hu65_of hr
    exact dss_one (ds_ret (de_of (df_lc (own := [("x", 2), ("y", 3)]) rfl nd (di_row rfl (de_call rfl (ok_all_pairs T) fnD_len (hr.mono (by decide)) rfl T.g_all_pairs T.k17 T.b17 .nil (fun _ => .nil) pass0 (da_cons (de_var (pv 0)) da_nil))) (blkOk_by rfl) (by decide) (fun _ _ _ _ _ => dg_tup rfl rfl (dgs_cons (dg_name (i := 2) nd rfl (by first | exact .inl rfl | exact .inr rfl)) (dgs_cons (dg_name (i := 3) nd rfl (by first | exact .inl rfl | exact .inr rfl)) dgs_nil))) (fun _ _ _ _ _ => dts_nil) (fun _ _ _ _ _ => (de_tup (da_cons (de_op op_addA add_d (de_var (pv 2)) (de_var (pv 1))) (da_cons (de_op op_addA add_d (de_var (pv 3)) (de_var (pv 1))) da_nil))))))))
theorem sc_stacked_of : FnScope ["one", "other", "many", "between", "x", "y"] ["one", "other"] (defScope (top 31)) := ⟨rfl, rfl, rfl, by decide +kernel, rfl, by decide +kernel, by decide +kernel⟩
noncomputable def b_stacked_of : SS := dSeq (dSet 2 (m2 addD (m1 (fldD ["Space"] "many") (dVar 0)) (m1 (fldD ["Space"] "many") (dVar 1)))) (dSeq (dExpr (mCall m_need_room [] (mCons (dVar 2) mNil))) (dSeq (dSet 3 (mComp2 (mRange1 (m1 (fldD ["Space"] "many") (dVar 0))) [4, 5] (bNm 4) (mYes) (mRange2 (m1 (fldD ["Space"] "many") (dVar 0)) (dVar 2)) [5] (bNm 5) (mYes) (mTup (mCons (dVar 4) (mCons (dVar 5) mNil))))) (dRet (mCall m_Space_init [] (mCons (dVar 2) (mCons (m2 addD (m2 addD (mCall m_all_pairs [] (mCons (dVar 0) mNil)) (mCall m_shifted_pairs [] (mCons (dVar 1) (mCons (m1 (fldD ["Space"] "many") (dVar 0)) mNil)))) (dVar 3)) mNil))))))
noncomputable def m_stacked_of : FD := fnD 2 6 b_stacked_of
theorem ok_stacked_of (T : Tx K mg cls ad fo) : FnOk P w K mg base CX0 6 (ad 31) (fo 31) ["one", "other"] (spD K cls 2 m_stacked_of) :=
  fn_okD T.F31 sc_stacked_of (by decide) (fun cdv A outer s H E q ca sf cells hr => by
    have nd := sc_stacked_of.nd
    have hu64 := hu64_of hr
    have hu65 := hu65_of hr
    exact dss_cons (ds_set (i := 2) nd rfl (by first | exact .inl rfl | exact .inr rfl) (de_op op_addA add_d (de_fld rfl (T.f_many q ca cells sf) (de_var (pv 0)) rfl) (de_fld rfl (T.f_many q ca cells sf) (de_var (pv 1)) rfl))) (dss_cons (ds_expr (de_call rfl (ok_need_room T) fnD_len (hr.mono (by decide)) rfl T.g_need_room T.k27 T.b27 .nil (fun _ => .nil) pass0 (da_cons (de_var (pv 2)) da_nil))) (dss_cons (ds_setLc2 (i := 3) (own := [("x", 4), ("y", 5)]) (vs1 := [5]) rfl nd rfl rfl (sw_true rfl rfl rfl (by decide +kernel)) (di_range1 rfl T.n_range (de_fld rfl (T.f_many q ca cells sf) (de_var (pv 0)) rfl)) (blkOk_by rfl) (by decide) (by decide) (by decide) (fun _ _ _ _ _ => dg_name (i := 4) nd rfl (by first | exact .inl rfl | exact .inr rfl)) (fun _ _ _ _ _ => dts_nil) (fun _ _ _ _ _ => di_range2 rfl T.n_range (de_fld rfl (T.f_many q ca cells sf) (de_var (pv 0)) rfl) (de_var (pv 2))) (fun _ _ _ _ _ => dg_name (i := 5) nd rfl (by first | exact .inl rfl | exact .inr rfl)) (fun _ _ _ _ _ => dts_nil) (fun _ _ _ _ _ => (de_tup (da_cons (de_var (pv 4)) (da_cons (de_var (pv 5)) da_nil))))) (dss_one (ds_ret (de_make rfl (T.cl_Space).symm T.m_Space (ok_Space_init T) initD_len (hr.mono (by decide)) rfl T.g_Space T.b1300 .nil (fun _ => .nil) pass0 (da_cons (de_var (pv 2)) (da_cons (de_op op_addA add_d (de_op op_addA add_d (de_call rfl (ok_all_pairs T) fnD_len (hr.mono (by decide)) rfl T.g_all_pairs T.k17 T.b17 .nil (fun _ => .nil) pass0 (da_cons (de_var (pv 0)) da_nil)) (de_call rfl (ok_shifted_pairs T) fnD_len (hr.mono (by decide)) rfl T.g_shifted_pairs T.k28 T.b28 .nil (fun _ => .nil) pass0 (da_cons (de_var (pv 1)) (da_cons (de_fld rfl (T.f_many q ca cells sf) (de_var (pv 0)) rfl) da_nil)))) (de_var (pv 3))) da_nil))))))))
theorem sc_stacked : FnScope ["one", "other"] ["one", "other"] (defScope (top 32)) := ⟨rfl, rfl, rfl, by decide +kernel, rfl, by decide +kernel, by decide +kernel⟩
noncomputable def b_stacked : SS := dSeq (dExpr (mCall m_need_two [] (mCons (dVar 0) (mCons (dVar 1) mNil)))) (dRet (mCall m_stacked_of [] (mCons (dVar 0) (mCons (dVar 1) mNil))))
noncomputable def m_stacked : FD := fnD 2 2 b_stacked
theorem ok_stacked (T : Tx K mg cls ad fo) : FnOk P w K mg base CX0 7 (ad 32) (fo 32) ["one", "other"] (spD K cls 2 m_stacked) :=
  fn_okD T.F32 sc_stacked (by decide) (fun cdv A outer s H E q ca sf cells hr => by
    have nd := sc_stacked.nd
    have hu64 := hu64_of hr
    have hu65 := hu65_of hr
    exact dss_cons (ds_expr (de_call rfl (ok_need_two T) fnD_len (hr.mono (by decide)) rfl T.g_need_two T.k29 T.b29 .nil (fun _ => .nil) pass0 (da_cons (de_var (pv 0)) (da_cons (de_var (pv 1)) da_nil)))) (dss_one (ds_ret (de_call rfl (ok_stacked_of T) fnD_len (hr.mono (by decide)) rfl T.g_stacked_of T.k31 T.b31 .nil (fun _ => .nil) pass0 (da_cons (de_var (pv 0)) (da_cons (de_var (pv 1)) da_nil))))))
theorem sc_summed : FnScope ["one", "other"] ["one", "other"] (defScope (top 30)) := ⟨rfl, rfl, rfl, by decide +kernel, rfl, by decide +kernel, by decide +kernel⟩
noncomputable def b_summed : SS := dSeq (dExpr (mCall m_need_two [] (mCons (dVar 0) (mCons (dVar 1) mNil)))) (dSeq (dExpr (mCall m_need_room [] (mCons (m2 addD (m1 (fldD ["Space"] "many") (dVar 0)) (m1 (fldD ["Space"] "many") (dVar 1))) mNil))) (dRet (mCall m_Space_init [] (mCons (m2 addD (m1 (fldD ["Space"] "many") (dVar 0)) (m1 (fldD ["Space"] "many") (dVar 1))) (mCons (m2 addD (mCall m_all_pairs [] (mCons (dVar 0) mNil)) (mCall m_shifted_pairs [] (mCons (dVar 1) (mCons (m1 (fldD ["Space"] "many") (dVar 0)) mNil)))) mNil)))))
noncomputable def m_summed : FD := fnD 2 2 b_summed
theorem ok_summed (T : Tx K mg cls ad fo) : FnOk P w K mg base CX0 6 (ad 30) (fo 30) ["one", "other"] (spD K cls 2 m_summed) :=
  fn_okD T.F30 sc_summed (by decide) (fun cdv A outer s H E q ca sf cells hr => by
    have nd := sc_summed.nd
    have hu64 := hu64_of hr
    have hu65 := hu65_of hr
    exact dss_cons (ds_expr (de_call rfl (ok_need_two T) fnD_len (hr.mono (by decide)) rfl T.g_need_two T.k29 T.b29 .nil (fun _ => .nil) pass0 (da_cons (de_var (pv 0)) (da_cons (de_var (pv 1)) da_nil)))) (dss_cons (ds_expr (de_call rfl (ok_need_room T) fnD_len (hr.mono (by decide)) rfl T.g_need_room T.k27 T.b27 .nil (fun _ => .nil) pass0 (da_cons (de_op op_addA add_d (de_fld rfl (T.f_many q ca cells sf) (de_var (pv 0)) rfl) (de_fld rfl (T.f_many q ca cells sf) (de_var (pv 1)) rfl)) da_nil))) (dss_one (ds_ret (de_make rfl (T.cl_Space).symm T.m_Space (ok_Space_init T) initD_len (hr.mono (by decide)) rfl T.g_Space T.b1300 .nil (fun _ => .nil) pass0 (da_cons (de_op op_addA add_d (de_fld rfl (T.f_many q ca cells sf) (de_var (pv 0)) rfl) (de_fld rfl (T.f_many q ca cells sf) (de_var (pv 1)) rfl)) (da_cons (de_op op_addA add_d (de_call rfl (ok_all_pairs T) fnD_len (hr.mono (by decide)) rfl T.g_all_pairs T.k17 T.b17 .nil (fun _ => .nil) pass0 (da_cons (de_var (pv 0)) da_nil)) (de_call rfl (ok_shifted_pairs T) fnD_len (hr.mono (by decide)) rfl T.g_shifted_pairs T.k28 T.b28 .nil (fun _ => .nil) pass0 (da_cons (de_var (pv 1)) (da_cons (de_fld rfl (T.f_many q ca cells sf) (de_var (pv 0)) rfl) da_nil)))) da_nil)))))))
theorem sc_product : FnScope ["one", "other", "pairs", "x", "y", "u", "v"] ["one", "other"] (defScope (top 33)) := ⟨rfl, rfl, rfl, by decide +kernel, rfl, by decide +kernel, by decide +kernel⟩
noncomputable def b_product : SS := dSeq (dExpr (mCall m_need_two [] (mCons (dVar 0) (mCons (dVar 1) mNil)))) (dSeq (dExpr (mCall m_need_room [] (mCons (m2 mulD (m1 (fldD ["Space"] "many") (dVar 0)) (m1 (fldD ["Space"] "many") (dVar 1))) mNil))) (dSeq (dSet 2 (mComp2 (mRow (mCall m_all_pairs [] (mCons (dVar 0) mNil))) [3, 4, 5] (bTup 2 (bCons (bNm 3) (bCons (bNm 4) bNil))) (mYes) (mRange1 (m1 (fldD ["Space"] "many") (dVar 1))) [5] (bNm 5) (mYes) (mTup (mCons (m2 addD (m2 mulD (dVar 3) (m1 (fldD ["Space"] "many") (dVar 1))) (dVar 5)) (mCons (m2 addD (m2 mulD (dVar 4) (m1 (fldD ["Space"] "many") (dVar 1))) (dVar 5)) mNil))))) (dSeq (dSet 2 (m2 addD (dVar 2) (mComp2 (mRange1 (m1 (fldD ["Space"] "many") (dVar 0))) [3, 5, 6] (bNm 3) (mYes) (mRow (mCall m_all_pairs [] (mCons (dVar 1) mNil))) [5, 6] (bTup 2 (bCons (bNm 5) (bCons (bNm 6) bNil))) (mYes) (mTup (mCons (m2 addD (m2 mulD (dVar 3) (m1 (fldD ["Space"] "many") (dVar 1))) (dVar 5)) (mCons (m2 addD (m2 mulD (dVar 3) (m1 (fldD ["Space"] "many") (dVar 1))) (dVar 6)) mNil)))))) (dRet (mCall m_Space_init [] (mCons (m2 mulD (m1 (fldD ["Space"] "many") (dVar 0)) (m1 (fldD ["Space"] "many") (dVar 1))) (mCons (dVar 2) mNil)))))))
noncomputable def m_product : FD := fnD 2 7 b_product
theorem ok_product (T : Tx K mg cls ad fo) : FnOk P w K mg base CX0 6 (ad 33) (fo 33) ["one", "other"] (spD K cls 2 m_product) :=
  fn_okD T.F33 sc_product (by decide) (fun cdv A outer s H E q ca sf cells hr => by
    have nd := sc_product.nd
    have hu64 := hu64_of hr
    have hu65 := hu65_of hr
    exact dss_cons (ds_expr (de_call rfl (ok_need_two T) fnD_len (hr.mono (by decide)) rfl T.g_need_two T.k29 T.b29 .nil (fun _ => .nil) pass0 (da_cons (de_var (pv 0)) (da_cons (de_var (pv 1)) da_nil)))) (dss_cons (ds_expr (de_call rfl (ok_need_room T) fnD_len (hr.mono (by decide)) rfl T.g_need_room T.k27 T.b27 .nil (fun _ => .nil) pass0 (da_cons (de_op op_mulA mul_d (de_fld rfl (T.f_many q ca cells sf) (de_var (pv 0)) rfl) (de_fld rfl (T.f_many q ca cells sf) (de_var (pv 1)) rfl)) da_nil))) (dss_cons (ds_setLc2 (i := 2) (own := [("x", 3), ("y", 4), ("u", 5)]) (vs1 := [5]) rfl nd rfl rfl (sw_true rfl rfl rfl (by decide +kernel)) (di_row rfl (de_call rfl (ok_all_pairs T) fnD_len (hr.mono (by decide)) rfl T.g_all_pairs T.k17 T.b17 .nil (fun _ => .nil) pass0 (da_cons (de_var (pv 0)) da_nil))) (blkOk_by rfl) (by decide) (by decide) (by decide) (fun _ _ _ _ _ => dg_tup rfl rfl (dgs_cons (dg_name (i := 3) nd rfl (by first | exact .inl rfl | exact .inr rfl)) (dgs_cons (dg_name (i := 4) nd rfl (by first | exact .inl rfl | exact .inr rfl)) dgs_nil))) (fun _ _ _ _ _ => dts_nil) (fun _ _ _ _ _ => di_range1 rfl T.n_range (de_fld rfl (T.f_many q ca cells sf) (de_var (pv 1)) rfl)) (fun _ _ _ _ _ => dg_name (i := 5) nd rfl (by first | exact .inl rfl | exact .inr rfl)) (fun _ _ _ _ _ => dts_nil) (fun _ _ _ _ _ => (de_tup (da_cons (de_op op_addA add_d (de_op op_mulA mul_d (de_var (pv 3)) (de_fld rfl (T.f_many q ca cells sf) (de_var (pv 1)) rfl)) (de_var (pv 5))) (da_cons (de_op op_addA add_d (de_op op_mulA mul_d (de_var (pv 4)) (de_fld rfl (T.f_many q ca cells sf) (de_var (pv 1)) rfl)) (de_var (pv 5))) da_nil))))) (dss_cons (ds_set (i := 2) nd rfl (by first | exact .inl rfl | exact .inr rfl) (de_op op_addA add_d (de_var (pv 2)) (de_of (df_lc2 (own := [("x", 3), ("u", 5), ("v", 6)]) (vs1 := [5, 6]) rfl nd (di_range1 rfl T.n_range (de_fld rfl (T.f_many q ca cells sf) (de_var (pv 0)) rfl)) (blkOk_by rfl) (by decide) (by decide) (by decide) (fun _ _ _ _ _ => dg_name (i := 3) nd rfl (by first | exact .inl rfl | exact .inr rfl)) (fun _ _ _ _ _ => dts_nil) (fun _ _ _ _ _ => di_row rfl (de_call rfl (ok_all_pairs T) fnD_len (hr.mono (by decide)) rfl T.g_all_pairs T.k17 T.b17 .nil (fun _ => .nil) pass0 (da_cons (de_var (pv 1)) da_nil))) (fun _ _ _ _ _ => dg_tup rfl rfl (dgs_cons (dg_name (i := 5) nd rfl (by first | exact .inl rfl | exact .inr rfl)) (dgs_cons (dg_name (i := 6) nd rfl (by first | exact .inl rfl | exact .inr rfl)) dgs_nil))) (fun _ _ _ _ _ => dts_nil) (fun _ _ _ _ _ => (de_tup (da_cons (de_op op_addA add_d (de_op op_mulA mul_d (de_var (pv 3)) (de_fld rfl (T.f_many q ca cells sf) (de_var (pv 1)) rfl)) (de_var (pv 5))) (da_cons (de_op op_addA add_d (de_op op_mulA mul_d (de_var (pv 3)) (de_fld rfl (T.f_many q ca cells sf) (de_var (pv 1)) rfl)) (de_var (pv 6))) da_nil)))))))) (dss_one (ds_ret (de_make rfl (T.cl_Space).symm T.m_Space (ok_Space_init T) initD_len (hr.mono (by decide)) rfl T.g_Space T.b1300 .nil (fun _ => .nil) pass0 (da_cons (de_op op_mulA mul_d (de_fld rfl (T.f_many q ca cells sf) (de_var (pv 0)) rfl) (de_fld rfl (T.f_many q ca cells sf) (de_var (pv 1)) rfl)) (da_cons (de_var (pv 2)) da_nil)))))))))
theorem sc_law : FnScope ["script", "pen", "many", "pairs", "space", "told", "tall", "y", "below", "x", "less", "size", "more", "other", "both", "wide", "above", "pair", "item", "k"] ["script"] (defScope (top 45)) := ⟨rfl, rfl, rfl, by decide +kernel, rfl, by decide +kernel, by decide +kernel⟩
noncomputable def b_law : SS := dSeq (dAsg (mCall m_law_some_space [] (mCons (dVar 1) (mCons (M.ret (.int 9)) mNil))) (bTup 2 (bCons (bNm 2) (bCons (bNm 3) bNil)))) (dSeq (dSet 4 (mCall m_Space_init [] (mCons (dVar 2) (mCons (dVar 3) mNil)))) (dSeq (dAsg (mTup (mCons (mCall m_covers [] (mCons (dVar 4) mNil)) (mCons (mCall m_heights [] (mCons (dVar 4) mNil)) mNil))) (bTup 2 (bCons (bNm 5) (bCons (bNm 6) bNil)))) (dSeq (dIf ((mOr (mB (m2M (eqM true "Space" m_Space_eq) (mCall m_Space_init [] (mCons (dVar 2) (mCons (dVar 5) mNil))) (dVar 4))) (mB (m2 neD (mComp (mRow (dVar 5)) [9, 7] (bTup 2 (bCons (bNm 9) (bCons (bNm 7) bNil))) ((mB (m2 leD (m2 ixD (dVar 6) (dVar 7)) (m2 ixD (dVar 6) (dVar 9))))) (M.ret (.int 1))) (mLst mNil))))) (dRet (M.ret (.bl false))) (dNext)) (dSeq (dFor (mRange1 (dVar 2)) (bNm 7) (dSeq (dSet 8 (mComp (mRow (dVar 5)) [9, 16] (bTup 2 (bCons (bNm 9) (bCons (bNm 16) bNil))) ((mB (m2 eqD (dVar 16) (dVar 7)))) (dVar 9))) (dIf (mB (m2 neD (m2 ixD (dVar 6) (dVar 7)) (mIf (mB (m2 neD (dVar 8) (mLst mNil))) (m2 addD (mCB maxA (mCons (mComp (mRow (dVar 8)) [9] (bNm 9) (mYes) (m2 ixD (dVar 6) (dVar 9))) mNil)) (M.ret (.int 1))) (M.ret (.int 0))))) (dRet (M.ret (.bl false))) (dNext)))) (dSeq (dIf (mB (m2 neD (mCB sortedB (mCons (mCall m_covers [] (mCons (mCall m_contrary [] (mCons (dVar 4) mNil)) mNil)) mNil)) (mCB sortedB (mCons (mComp (mRow (dVar 5)) [9, 7] (bTup 2 (bCons (bNm 9) (bCons (bNm 7) bNil))) (mYes) (mTup (mCons (dVar 7) (mCons (dVar 9) mNil)))) mNil)))) (dRet (M.ret (.bl false))) (dNext)) (dSeq (dIf (mB (m2 neD (dVar 5) (mTup mNil))) (dSeq (dAsg (mCall m_law_pick [] (mCons (dVar 1) (mCons (dVar 5) mNil))) (bTup 2 (bCons (bNm 9) (bCons (bNm 7) bNil)))) (dSeq (dSet 10 (mCall m_Space_init [] (mCons (dVar 2) (mCons (mComp (mRow (dVar 5)) [17] (bNm 17) ((mB (m2 neD (dVar 17) (mTup (mCons (dVar 9) (mCons (dVar 7) mNil)))))) (dVar 17)) mNil)))) (dIf ((mOr (mB (m2M (eqM false "Space" m_Space_eq) (dVar 10) (dVar 4))) (mOr (mB (m2 inD (dVar 7) (m2 ixD (m1 (fldD ["Space"] "over") (dVar 10)) (dVar 9)))) (mB (m2 ltD (mCB lenD (mCons (mCall m_parts [] (mCons (dVar 10) mNil)) mNil)) (mCB lenD (mCons (mCall m_parts [] (mCons (dVar 4) mNil)) mNil))))))) (dRet (M.ret (.bl false))) (dNext)))) (dNext)) (dSeq (dAsg (mCall m_law_some_space [] (mCons (dVar 1) (mCons (M.ret (.int 4)) mNil))) (bTup 2 (bCons (bNm 11) (bCons (bNm 12) bNil)))) (dSeq (dSet 13 (mCall m_Space_init [] (mCons (dVar 11) (mCons (dVar 12) mNil)))) (dSeq (dSet 14 (mCall m_stacked [] (mCons (dVar 4) (mCons (dVar 13) mNil)))) (dSeq (dIf (mB (m2 neD (mCB listD (mCons (mCall m_heights [] (mCons (dVar 14) mNil)) mNil)) (m2 addD (mCB listD (mCons (dVar 6) mNil)) (mComp (mRow (mCall m_heights [] (mCons (dVar 13) mNil))) [18] (bNm 18) (mYes) (m2 addD (m2 addD (mCB maxA (mCons (dVar 6) mNil)) (M.ret (.int 1))) (dVar 18)))))) (dRet (M.ret (.bl false))) (dNext)) (dSeq (dIf (mB (m2 neD (mCall m_heights [] (mCons (mCall m_summed [] (mCons (dVar 4) (mCons (dVar 13) mNil))) mNil)) (m2 addD (dVar 6) (mCall m_heights [] (mCons (dVar 13) mNil))))) (dRet (M.ret (.bl false))) (dNext)) (dSeq (dIf (mB (m2 ltD (m2 mulD (dVar 2) (dVar 11)) (M.ret (.int 25)))) (dSeq (dSet 15 (mCall m_heights [] (mCons (mCall m_product [] (mCons (dVar 4) (mCons (dVar 13) mNil))) mNil))) (dIf (mB (m2 neD (mCB listD (mCons (dVar 15) mNil)) (mComp (mRange1 (m2 mulD (dVar 2) (dVar 11))) [19] (bNm 19) (mYes) (m2 addD (m2 ixD (dVar 6) (m2 fdivD (dVar 19) (dVar 11))) (m2 ixD (mCall m_heights [] (mCons (dVar 13) mNil)) (m2 modD (mCB intD (mCons (dVar 19) mNil)) (dVar 11))))))) (dRet (M.ret (.bl false))) (dNext))) (dNext)) (dRet (M.ret (.bl true)))))))))))))))
end
end CS
namespace CS
open PySem L2
open PyProof.Rows (envOfC)
section
variable {P : Program} {w : World} {K : PySem.W.Frag} {mg : Str → Option Value} {base : Heap} {cls : Str → Addr} {ad : Nat → Addr} {fo : Nat → FuncData}
theorem walk_law (T : Tx K mg cls ad fo) {fa : Addr} (cdv : Value) (A : Around) (outer : List Env) (s : Shared) (H : Hp) (E : XK) (q ca sf : Addr) (cells : List Int) (hr : Room 7 (A.deeper (envOfC "law" (defScope (top 45)) s.heap.objs.size fa cdv))) : PSs (cxOf CX0 P w K mg base ["script", "pen", "many", "pairs", "space", "told", "tall", "y", "below", "x", "less", "size", "more", "other", "both", "wide", "above", "pair", "item", "k"] "law" (defScope (top 45)) fa cdv A outer s H E).nox (defBody (top 45)).tail (lS ⟨K, cls, q, ca, cells, sf⟩ b_law) := by
  have nd := sc_law.nd
  have hu64 := hu64_of hr
  have hu65 := hu65_of hr
  exact dss_cons (ds_asg (de_call rfl (ok_law_some_space T) fnD_len (hr.mono (by decide)) rfl T.g__law_some_space T.k44 T.b44 .nil (fun _ => .nil) pass0 (da_cons (de_var (pv 1)) (da_cons (de_int) da_nil))) (dg_tup rfl rfl (dgs_cons (dg_name (i := 2) nd rfl (by first | exact .inl rfl | exact .inr rfl)) (dgs_cons (dg_name (i := 3) nd rfl (by first | exact .inl rfl | exact .inr rfl)) dgs_nil)))) (dss_cons (ds_set (i := 4) nd rfl (by first | exact .inl rfl | exact .inr rfl) (de_make rfl (T.cl_Space).symm T.m_Space (ok_Space_init T) initD_len (hr.mono (by decide)) rfl T.g_Space T.b1300 .nil (fun _ => .nil) pass0 (da_cons (de_var (pv 2)) (da_cons (de_var (pv 3)) da_nil)))) (dss_cons (ds_asg (de_tup (da_cons (de_call rfl (ok_covers T) fnD_len (hr.mono (by decide)) rfl T.g_covers T.k22 T.b22 .nil (fun _ => .nil) pass0 (da_cons (de_var (pv 4)) da_nil)) (da_cons (de_call rfl (ok_heights T) fnD_len (hr.mono (by decide)) rfl T.g_heights T.k24 T.b24 .nil (fun _ => .nil) pass0 (da_cons (de_var (pv 4)) da_nil)) da_nil))) (dg_tup rfl rfl (dgs_cons (dg_name (i := 5) nd rfl (by first | exact .inl rfl | exact .inr rfl)) (dgs_cons (dg_name (i := 6) nd rfl (by first | exact .inl rfl | exact .inr rfl)) dgs_nil)))) (dss_cons (ds_if (dt_bool (dw_or (dt_cmpM (((op_neD hu64)).or (op_neO T.eq_Space (ok_Space_eq T) (hr.mono (by decide)) T.b1301 pass0)) (by have h := @eqM_d ⟨K, cls, q, ca, cells, sf⟩ true "Space" m_Space_eq fnD_len; rw [show RC.cls _ "Space" = _ from T.cl_Space] at h; exact h) (de_make rfl (T.cl_Space).symm T.m_Space (ok_Space_init T) initD_len (hr.mono (by decide)) rfl T.g_Space T.b1300 .nil (fun _ => .nil) pass0 (da_cons (de_var (pv 2)) (da_cons (de_var (pv 5)) da_nil))) (de_var (pv 4)) (nomark _)) (dw_or1 (dt_cmp (op_neD hu64) ne_d (de_of (df_lc (own := [("x", 9), ("y", 7)]) rfl nd (di_row rfl (de_var (pv 5))) (blkOk_by rfl) (by decide) (fun _ _ _ _ _ => dg_tup rfl rfl (dgs_cons (dg_name (i := 9) nd rfl (by first | exact .inl rfl | exact .inr rfl)) (dgs_cons (dg_name (i := 7) nd rfl (by first | exact .inl rfl | exact .inr rfl)) dgs_nil))) (fun _ _ _ _ _ => dts_one (dt_cmp op_le le_d (de_ix (de_var (pv 6)) (de_var (pv 7)) rfl (fun _ _ => rfl)) (de_ix (de_var (pv 6)) (de_var (pv 9)) rfl (fun _ _ => rfl)) (nomark _))) (fun _ _ _ _ _ => (de_int)))) (de_lst da_nil) (nomark _))))) (dss_one (ds_ret (de_bl))) (dss_nil)) (dss_cons (ds_for PassesOwn.never rfl (di_range1 rfl T.n_range (de_var (pv 2))) (dg_name (i := 7) nd rfl (by first | exact .inl rfl | exact .inr rfl)) (dss_cons (ds_setLc (i := 8) (own := [("x", 9), ("above", 16)]) rfl nd rfl rfl (sw_true rfl rfl rfl (by decide +kernel)) (di_row rfl (de_var (pv 5))) (blkOk_by rfl) (by decide) (fun _ _ _ _ _ => dg_tup rfl rfl (dgs_cons (dg_name (i := 9) nd rfl (by first | exact .inl rfl | exact .inr rfl)) (dgs_cons (dg_name (i := 16) nd rfl (by first | exact .inl rfl | exact .inr rfl)) dgs_nil))) (fun _ _ _ _ _ => dts_one (dt_cmp (op_eqD hu64) eq_d (de_var (pv 16)) (de_var (pv 7)) (nomark _))) (fun _ _ _ _ _ => (de_var (pv 9)))) (dss_one (ds_if (dt_cmp (op_neD hu64) ne_d (de_ix (de_var (pv 6)) (de_var (pv 7)) rfl (fun _ _ => rfl)) (de_ifExp (dt_cmp (op_neD hu64) ne_d (de_var (pv 8)) (de_lst da_nil) (nomark _)) (de_op op_addA add_d (de_callB (cr_maxA rfl) maxA_d rfl T.n_max (by decide +kernel) (da_cons (de_of (df_lc (own := [("x", 9)]) rfl nd (di_row rfl (de_var (pv 8))) (blkOk_by rfl) (by decide) (fun _ _ _ _ _ => dg_name (i := 9) nd rfl (by first | exact .inl rfl | exact .inr rfl)) (fun _ _ _ _ _ => dts_nil) (fun _ _ _ _ _ => (de_ix (de_var (pv 6)) (de_var (pv 9)) rfl (fun _ _ => rfl))))) da_nil)) (de_int)) (de_int)) (nomark _)) (dss_one (ds_ret (de_bl))) (dss_nil))))) (dss_cons (ds_if (dt_cmp (op_neD hu64) ne_d (de_callB cr_sortedB sortedB_d rfl T.n_sorted (by decide +kernel) (da_cons (de_call rfl (ok_covers T) fnD_len (hr.mono (by decide)) rfl T.g_covers T.k22 T.b22 .nil (fun _ => .nil) pass0 (da_cons (de_call rfl (ok_contrary T) fnD_len (hr.mono (by decide)) rfl T.g_contrary T.k25 T.b25 .nil (fun _ => .nil) pass0 (da_cons (de_var (pv 4)) da_nil)) da_nil)) da_nil)) (de_callB cr_sortedB sortedB_d rfl T.n_sorted (by decide +kernel) (da_cons (de_of (df_lc (own := [("x", 9), ("y", 7)]) rfl nd (di_row rfl (de_var (pv 5))) (blkOk_by rfl) (by decide) (fun _ _ _ _ _ => dg_tup rfl rfl (dgs_cons (dg_name (i := 9) nd rfl (by first | exact .inl rfl | exact .inr rfl)) (dgs_cons (dg_name (i := 7) nd rfl (by first | exact .inl rfl | exact .inr rfl)) dgs_nil))) (fun _ _ _ _ _ => dts_nil) (fun _ _ _ _ _ => (de_tup (da_cons (de_var (pv 7)) (da_cons (de_var (pv 9)) da_nil)))))) da_nil)) (nomark _)) (dss_one (ds_ret (de_bl))) (dss_nil)) (dss_cons (ds_if (dt_cmp (op_neD hu64) ne_d (de_var (pv 5)) (de_tup da_nil) (nomark _)) (dss_cons (ds_asg (de_call rfl (ok_law_pick T) fnD_len (hr.mono (by decide)) rfl T.g__law_pick T.k40 T.b40 .nil (fun _ => .nil) pass0 (da_cons (de_var (pv 1)) (da_cons (de_var (pv 5)) da_nil))) (dg_tup rfl rfl (dgs_cons (dg_name (i := 9) nd rfl (by first | exact .inl rfl | exact .inr rfl)) (dgs_cons (dg_name (i := 7) nd rfl (by first | exact .inl rfl | exact .inr rfl)) dgs_nil)))) (dss_cons (ds_set (i := 10) nd rfl (by first | exact .inl rfl | exact .inr rfl) (de_make rfl (T.cl_Space).symm T.m_Space (ok_Space_init T) initD_len (hr.mono (by decide)) rfl T.g_Space T.b1300 .nil (fun _ => .nil) pass0 (da_cons (de_var (pv 2)) (da_cons (de_of (df_lc (own := [("pair", 17)]) rfl nd (di_row rfl (de_var (pv 5))) (blkOk_by rfl) (by decide) (fun _ _ _ _ _ => dg_name (i := 17) nd rfl (by first | exact .inl rfl | exact .inr rfl)) (fun _ _ _ _ _ => dts_one (dt_cmp (op_neD hu64) ne_d (de_var (pv 17)) (de_tup (da_cons (de_var (pv 9)) (da_cons (de_var (pv 7)) da_nil))) (nomark _))) (fun _ _ _ _ _ => (de_var (pv 17))))) da_nil)))) (dss_one (ds_if (dt_bool (dw_or (dt_cmpM (((op_eqD hu64)).or (op_eqO T.eq_Space (ok_Space_eq T) (hr.mono (by decide)) T.b1301 pass0)) (by have h := @eqM_d ⟨K, cls, q, ca, cells, sf⟩ false "Space" m_Space_eq fnD_len; rw [show RC.cls _ "Space" = _ from T.cl_Space] at h; exact h) (de_var (pv 10)) (de_var (pv 4)) (nomark _)) (dw_or (dt_cmp (op_inD hu65) in_d (de_var (pv 7)) (de_ix (de_fld rfl (T.f_over q ca cells sf) (de_var (pv 10)) rfl) (de_var (pv 9)) rfl (fun _ _ => rfl)) (by rfl)) (dw_or1 (dt_cmp op_lt lt_d (de_callB call_len len_d rfl T.n_len (by decide +kernel) (da_cons (de_call rfl (ok_parts T) fnD_len (hr.mono (by decide)) rfl T.g_parts T.k36 T.b36 .nil (fun _ => .nil) pass0 (da_cons (de_var (pv 10)) da_nil)) da_nil)) (de_callB call_len len_d rfl T.n_len (by decide +kernel) (da_cons (de_call rfl (ok_parts T) fnD_len (hr.mono (by decide)) rfl T.g_parts T.k36 T.b36 .nil (fun _ => .nil) pass0 (da_cons (de_var (pv 4)) da_nil)) da_nil)) (nomark _)))))) (dss_one (ds_ret (de_bl))) (dss_nil))))) (dss_nil)) (dss_cons (ds_asg (de_call rfl (ok_law_some_space T) fnD_len (hr.mono (by decide)) rfl T.g__law_some_space T.k44 T.b44 .nil (fun _ => .nil) pass0 (da_cons (de_var (pv 1)) (da_cons (de_int) da_nil))) (dg_tup rfl rfl (dgs_cons (dg_name (i := 11) nd rfl (by first | exact .inl rfl | exact .inr rfl)) (dgs_cons (dg_name (i := 12) nd rfl (by first | exact .inl rfl | exact .inr rfl)) dgs_nil)))) (dss_cons (ds_set (i := 13) nd rfl (by first | exact .inl rfl | exact .inr rfl) (de_make rfl (T.cl_Space).symm T.m_Space (ok_Space_init T) initD_len (hr.mono (by decide)) rfl T.g_Space T.b1300 .nil (fun _ => .nil) pass0 (da_cons (de_var (pv 11)) (da_cons (de_var (pv 12)) da_nil)))) (dss_cons (ds_set (i := 14) nd rfl (by first | exact .inl rfl | exact .inr rfl) (de_call rfl (ok_stacked T) fnD_len (hr.mono (by decide)) rfl T.g_stacked T.k32 T.b32 .nil (fun _ => .nil) pass0 (da_cons (de_var (pv 4)) (da_cons (de_var (pv 13)) da_nil)))) (dss_cons (ds_if (dt_cmp (op_neD hu64) ne_d (de_callTy call_list_of list_d rfl T.n_list (by decide +kernel) (da_cons (de_call rfl (ok_heights T) fnD_len (hr.mono (by decide)) rfl T.g_heights T.k24 T.b24 .nil (fun _ => .nil) pass0 (da_cons (de_var (pv 14)) da_nil)) da_nil)) (de_op op_addA add_d (de_callTy call_list_of list_d rfl T.n_list (by decide +kernel) (da_cons (de_var (pv 6)) da_nil)) (de_of (df_lc (own := [("item", 18)]) rfl nd (di_row rfl (de_call rfl (ok_heights T) fnD_len (hr.mono (by decide)) rfl T.g_heights T.k24 T.b24 .nil (fun _ => .nil) pass0 (da_cons (de_var (pv 13)) da_nil))) (blkOk_by rfl) (by decide) (fun _ _ _ _ _ => dg_name (i := 18) nd rfl (by first | exact .inl rfl | exact .inr rfl)) (fun _ _ _ _ _ => dts_nil) (fun _ _ _ _ _ => (de_op op_addA add_d (de_op op_addA add_d (de_callB (cr_maxA rfl) maxA_d rfl T.n_max (by decide +kernel) (da_cons (de_var (pv 6)) da_nil)) (de_int)) (de_var (pv 18))))))) (nomark _)) (dss_one (ds_ret (de_bl))) (dss_nil)) (dss_cons (ds_if (dt_cmp (op_neD hu64) ne_d (de_call rfl (ok_heights T) fnD_len (hr.mono (by decide)) rfl T.g_heights T.k24 T.b24 .nil (fun _ => .nil) pass0 (da_cons (de_call rfl (ok_summed T) fnD_len (hr.mono (by decide)) rfl T.g_summed T.k30 T.b30 .nil (fun _ => .nil) pass0 (da_cons (de_var (pv 4)) (da_cons (de_var (pv 13)) da_nil))) da_nil)) (de_op op_addA add_d (de_var (pv 6)) (de_call rfl (ok_heights T) fnD_len (hr.mono (by decide)) rfl T.g_heights T.k24 T.b24 .nil (fun _ => .nil) pass0 (da_cons (de_var (pv 13)) da_nil))) (nomark _)) (dss_one (ds_ret (de_bl))) (dss_nil)) (dss_cons (ds_if (dt_cmp op_lt lt_d (de_op op_mulA mul_d (de_var (pv 2)) (de_var (pv 11))) (de_int) (nomark _)) (dss_cons (ds_set (i := 15) nd rfl (by first | exact .inl rfl | exact .inr rfl) (de_call rfl (ok_heights T) fnD_len (hr.mono (by decide)) rfl T.g_heights T.k24 T.b24 .nil (fun _ => .nil) pass0 (da_cons (de_call rfl (ok_product T) fnD_len (hr.mono (by decide)) rfl T.g_product T.k33 T.b33 .nil (fun _ => .nil) pass0 (da_cons (de_var (pv 4)) (da_cons (de_var (pv 13)) da_nil))) da_nil))) (dss_one (ds_if (dt_cmp (op_neD hu64) ne_d (de_callTy call_list_of list_d rfl T.n_list (by decide +kernel) (da_cons (de_var (pv 15)) da_nil)) (de_of (df_lc (own := [("k", 19)]) rfl nd (di_range1 rfl T.n_range (de_op op_mulA mul_d (de_var (pv 2)) (de_var (pv 11)))) (blkOk_by rfl) (by decide) (fun _ _ _ _ _ => dg_name (i := 19) nd rfl (by first | exact .inl rfl | exact .inr rfl)) (fun _ _ _ _ _ => dts_nil) (fun _ _ _ _ _ => (de_op op_addA add_d (de_ix (de_var (pv 6)) (de_op op_fdivN fdiv_d (de_var (pv 19)) (de_var (pv 11))) rfl (fun _ _ => rfl)) (de_ix (de_call rfl (ok_heights T) fnD_len (hr.mono (by decide)) rfl T.g_heights T.k24 T.b24 .nil (fun _ => .nil) pass0 (da_cons (de_var (pv 13)) da_nil)) (de_op op_modN mod_d (de_callTy call_int1 int_d rfl T.n_int (by decide +kernel) (da_cons (de_var (pv 19)) da_nil)) (de_var (pv 11))) rfl (fun _ _ => rfl)))))) (nomark _)) (dss_one (ds_ret (de_bl))) (dss_nil)))) (dss_nil)) (dss_one (ds_ret (de_bl)))))))))))))))
theorem ok_law (T : Tx K mg cls ad fo) {fa : Addr} {fd : FuncData} (F : FunG K "law" "law" (top 45) fa fd) (hm : ∀ ns : List Int, ns.length ≤ 63 → ∃ p', b_law (.un :: .pl .pen :: List.replicate 18 .un) (some (pen0 ns)) = .rt (.bl true) p') : FnOk P w K mg base CX0 8 fa fd ["script"] (spLaw K) := by
  refine F.ok sc_law (fun vs H Q E h => ?_) (fun cdv A outer s H vs Q E hr h => ?_)
  · obtain ⟨a, ns, rfl, _⟩ := h
    rfl
  · obtain ⟨a, ns, rfl, hS, hlen, k⟩ := h
    obtain ⟨p', hb⟩ := hm ns hlen
    refine ⟨_, pss_cons (ps_set (i := 1) sc_law.nd rfl (by first | exact .inl rfl | exact .inr rfl) (pe_call (okT_pen T) (hr.mono (by decide)) rfl T.g__law_pen T.k38 T.b38 .nil pass0 (pa_cons (pv 0) pa_nil)) (hf := by first | exact .inl rfl | exact .inr rfl)) (PSs.ex fun (x : Addr × Addr) => walk_law (cls := cls) (ad := ad) (fo := fo) T cdv A outer s H E x.1 x.2 x.1 ns hr), ?_⟩
    refine ⟨_, rfl, a, ns, rfl, hS, hlen, fun q ca H' hq hca hne h1 h2 hk => ⟨(q, ca), ⟨hid H' q, H', true⟩, _, some (pen0 ns), hid H' q, SRel.law (n := 18) h1 h2 hne rfl rfl rfl, ?_⟩⟩
    rw [hb]
    intro v env' σ' F' H'' _ _ r
    simp only [Rep] at r
    subst r
    exact k H''
theorem kit_same {C : Addr} : PySem.W.kitOne K (.ref C) (.ref C) = some true := by
  unfold PySem.W.kitOne
  rw [if_pos (by simp)]
theorem kit_tu {T : String} {C : Addr} (h1 : PySem.W.kitMeta T = true) (h3 : PySem.W.subIn K (.ref C) (.type T) = some false) : PySem.W.kitOne K (.ref C) (.type T) = some false := by
  have e : (Value.ref C == Value.type T) = false := by rfl
  unfold PySem.W.kitOne PySem.W.kitCls
  rw [e]
  show (if PySem.W.kitMeta T = true then PySem.W.subIn K (Value.ref C) (Value.type T) else none) = some false
  rw [h1, h3]
  rfl
theorem kit_rr {C C2 : Addr} {cc : ClassData} (h0 : (Value.ref C == Value.ref C2) = false) (h1 : PySem.W.clsIn K C2 = some cc) (h2 : PySem.W.typeIn K (.ref C2) = some (.type "type")) (h3 : PySem.W.subIn K (.ref C) (.ref C2) = some false) : PySem.W.kitOne K (.ref C) (.ref C2) = some false := by
  unfold PySem.W.kitOne PySem.W.kitCls
  rw [h0]
  show (if ((PySem.W.clsIn K C2).isSome && PySem.W.typeIn K (Value.ref C2) == some (Value.type "type")) = true then PySem.W.subIn K (Value.ref C) (Value.ref C2) else none) = some false
  rw [h1, h2, h3]
  rfl
theorem kit_ty {T : String} {C : Addr} {cc : ClassData} (h1 : PySem.W.clsIn K C = some cc) (h2 : PySem.W.typeIn K (.ref C) = some (.type "type")) (h3 : PySem.W.subIn K (.type T) (.ref C) = some false) : PySem.W.kitOne K (.type T) (.ref C) = some false := by
  have e : (Value.type T == Value.ref C) = false := by rfl
  unfold PySem.W.kitOne PySem.W.kitCls
  rw [e]
  show (if ((PySem.W.clsIn K C).isSome && PySem.W.typeIn K (Value.ref C) == some (Value.type "type")) = true then PySem.W.subIn K (Value.type T) (Value.ref C) else none) = some false
  rw [h1, h2, h3]
  rfl
end
def pickN {α : Type} : List (Nat × α) → α → Nat → α
  | [], d, _ => d
  | (k, x) :: r, d, n => cond (Nat.beq n k) x (pickN r d n)
def pickS : List (Str × Addr) → Str → Addr
  | [], _ => 0
  | (k, x) :: r, c => if c = k then x else pickS r c
theorem all_mk {l : PySem.W.OpenLaw} {w : World} {K : PySem.W.Frag} {h : Heap} {mg : Str → Option Value} {fa : Addr} (X : K.In h) (G : h.Ns mainGlobals mg) (hfa : mg "law" = some (.ref fa))
    {f15 f38 f39 f40 f43 f41 f42 f44 f8 f9 f12 f13 f14 f1300 t1300 f16 f17 f18 f19 f20 f21 f22 f23 f24 f1301 f25 f35 f36 f29 f27 f28 f31 f32 f30 f33 f45 : Addr}
    {od38 an38 : Option Addr} {sl38 : Array (Option Value)} {oc38 kV38 dc38 pm38 cd38 ct38 : Value}
    {od39 an39 : Option Addr} {sl39 : Array (Option Value)} {oc39 kV39 dc39 pm39 cd39 ct39 : Value}
    {od40 an40 : Option Addr} {sl40 : Array (Option Value)} {oc40 kV40 dc40 pm40 cd40 ct40 : Value}
    {od43 an43 : Option Addr} {sl43 : Array (Option Value)} {oc43 kV43 dc43 pm43 cd43 ct43 : Value}
    {od41 an41 : Option Addr} {sl41 : Array (Option Value)} {oc41 kV41 dc41 pm41 cd41 ct41 : Value}
    {od42 an42 : Option Addr} {sl42 : Array (Option Value)} {oc42 kV42 dc42 pm42 cd42 ct42 : Value}
    {od44 an44 : Option Addr} {sl44 : Array (Option Value)} {oc44 kV44 dc44 pm44 cd44 ct44 : Value}
    {od8 an8 : Option Addr} {sl8 : Array (Option Value)} {oc8 kV8 dc8 pm8 cd8 ct8 : Value}
    {od9 an9 : Option Addr} {sl9 : Array (Option Value)} {oc9 kV9 dc9 pm9 cd9 ct9 : Value}
    {od12 an12 : Option Addr} {sl12 : Array (Option Value)} {oc12 kV12 dc12 pm12 cd12 ct12 : Value}
    {od13 an13 : Option Addr} {sl13 : Array (Option Value)} {oc13 kV13 dc13 pm13 cd13 ct13 : Value}
    {od14 an14 : Option Addr} {sl14 : Array (Option Value)} {oc14 kV14 dc14 pm14 cd14 ct14 : Value}
    {od1300 an1300 : Option Addr} {sl1300 : Array (Option Value)} {oc1300 kV1300 dc1300 pm1300 cd1300 ct1300 : Value}
    {tod1300 : Option Addr} {tsl1300 : Array (Option Value)} {toc1300 : Value} {tn1300 : Nat} {u1300_0 : Value}
    {od16 an16 : Option Addr} {sl16 : Array (Option Value)} {oc16 kV16 dc16 pm16 cd16 ct16 : Value}
    {od17 an17 : Option Addr} {sl17 : Array (Option Value)} {oc17 kV17 dc17 pm17 cd17 ct17 : Value}
    {od18 an18 : Option Addr} {sl18 : Array (Option Value)} {oc18 kV18 dc18 pm18 cd18 ct18 : Value}
    {od19 an19 : Option Addr} {sl19 : Array (Option Value)} {oc19 kV19 dc19 pm19 cd19 ct19 : Value}
    {od20 an20 : Option Addr} {sl20 : Array (Option Value)} {oc20 kV20 dc20 pm20 cd20 ct20 : Value}
    {od21 an21 : Option Addr} {sl21 : Array (Option Value)} {oc21 kV21 dc21 pm21 cd21 ct21 : Value}
    {od22 an22 : Option Addr} {sl22 : Array (Option Value)} {oc22 kV22 dc22 pm22 cd22 ct22 : Value}
    {od23 an23 : Option Addr} {sl23 : Array (Option Value)} {oc23 kV23 dc23 pm23 cd23 ct23 : Value}
    {od24 an24 : Option Addr} {sl24 : Array (Option Value)} {oc24 kV24 dc24 pm24 cd24 ct24 : Value}
    {od1301 an1301 : Option Addr} {sl1301 : Array (Option Value)} {oc1301 kV1301 dc1301 pm1301 cd1301 ct1301 : Value}
    {od25 an25 : Option Addr} {sl25 : Array (Option Value)} {oc25 kV25 dc25 pm25 cd25 ct25 : Value}
    {od35 an35 : Option Addr} {sl35 : Array (Option Value)} {oc35 kV35 dc35 pm35 cd35 ct35 : Value}
    {od36 an36 : Option Addr} {sl36 : Array (Option Value)} {oc36 kV36 dc36 pm36 cd36 ct36 : Value}
    {od29 an29 : Option Addr} {sl29 : Array (Option Value)} {oc29 kV29 dc29 pm29 cd29 ct29 : Value}
    {od27 an27 : Option Addr} {sl27 : Array (Option Value)} {oc27 kV27 dc27 pm27 cd27 ct27 : Value}
    {od28 an28 : Option Addr} {sl28 : Array (Option Value)} {oc28 kV28 dc28 pm28 cd28 ct28 : Value}
    {od31 an31 : Option Addr} {sl31 : Array (Option Value)} {oc31 kV31 dc31 pm31 cd31 ct31 : Value}
    {od32 an32 : Option Addr} {sl32 : Array (Option Value)} {oc32 kV32 dc32 pm32 cd32 ct32 : Value}
    {od30 an30 : Option Addr} {sl30 : Array (Option Value)} {oc30 kV30 dc30 pm30 cd30 ct30 : Value}
    {od33 an33 : Option Addr} {sl33 : Array (Option Value)} {oc33 kV33 dc33 pm33 cd33 ct33 : Value}
    {od45 an45 : Option Addr} {sl45 : Array (Option Value)} {oc45 kV45 dc45 pm45 cd45 ct45 : Value}
    {cc15 : ClassData}
    {tk_MOST_POINTS : Tok}
    (a15 : PySem.W.nsIn K mainGlobals "Space" = some (some (.ref f15)))
    (a38 : PySem.W.nsIn K mainGlobals "_law_pen" = some (some (.ref f38)))
    (l38 : K.lookup f38 = some ⟨oc38, od38, .func (PySem.W.fnOf "_law_pen" "_law_pen" (defArgs (top 38)) (defBody (top 38)) (defScope (top 38)) .none kV38 dc38 pm38 an38 cd38 ct38), sl38⟩)
    (c38 : PySem.W.codeIn K cd38 "_law_pen" = true)
    (k38 : PySem.W.keepIn K (.ref f38) = true)
    (a39 : PySem.W.nsIn K mainGlobals "_law_draw" = some (some (.ref f39)))
    (l39 : K.lookup f39 = some ⟨oc39, od39, .func (PySem.W.fnOf "_law_draw" "_law_draw" (defArgs (top 39)) (defBody (top 39)) (defScope (top 39)) .none kV39 dc39 pm39 an39 cd39 ct39), sl39⟩)
    (c39 : PySem.W.codeIn K cd39 "_law_draw" = true)
    (k39 : PySem.W.keepIn K (.ref f39) = true)
    (a40 : PySem.W.nsIn K mainGlobals "_law_pick" = some (some (.ref f40)))
    (l40 : K.lookup f40 = some ⟨oc40, od40, .func (PySem.W.fnOf "_law_pick" "_law_pick" (defArgs (top 40)) (defBody (top 40)) (defScope (top 40)) .none kV40 dc40 pm40 an40 cd40 ct40), sl40⟩)
    (c40 : PySem.W.codeIn K cd40 "_law_pick" = true)
    (k40 : PySem.W.keepIn K (.ref f40) = true)
    (a43 : PySem.W.nsIn K mainGlobals "_law_known" = some (some (.ref f43)))
    (l43 : K.lookup f43 = some ⟨oc43, od43, .func (PySem.W.fnOf "_law_known" "_law_known" (defArgs (top 43)) (defBody (top 43)) (defScope (top 43)) .none kV43 dc43 pm43 an43 cd43 ct43), sl43⟩)
    (c43 : PySem.W.codeIn K cd43 "_law_known" = true)
    (k43 : PySem.W.keepIn K (.ref f43) = true)
    (a41 : PySem.W.nsIn K mainGlobals "_law_shuffled" = some (some (.ref f41)))
    (l41 : K.lookup f41 = some ⟨oc41, od41, .func (PySem.W.fnOf "_law_shuffled" "_law_shuffled" (defArgs (top 41)) (defBody (top 41)) (defScope (top 41)) .none kV41 dc41 pm41 an41 cd41 ct41), sl41⟩)
    (c41 : PySem.W.codeIn K cd41 "_law_shuffled" = true)
    (k41 : PySem.W.keepIn K (.ref f41) = true)
    (a42 : PySem.W.nsIn K mainGlobals "_law_some_pairs" = some (some (.ref f42)))
    (l42 : K.lookup f42 = some ⟨oc42, od42, .func (PySem.W.fnOf "_law_some_pairs" "_law_some_pairs" (defArgs (top 42)) (defBody (top 42)) (defScope (top 42)) .none kV42 dc42 pm42 an42 cd42 ct42), sl42⟩)
    (c42 : PySem.W.codeIn K cd42 "_law_some_pairs" = true)
    (k42 : PySem.W.keepIn K (.ref f42) = true)
    (a44 : PySem.W.nsIn K mainGlobals "_law_some_space" = some (some (.ref f44)))
    (l44 : K.lookup f44 = some ⟨oc44, od44, .func (PySem.W.fnOf "_law_some_space" "_law_some_space" (defArgs (top 44)) (defBody (top 44)) (defScope (top 44)) .none kV44 dc44 pm44 an44 cd44 ct44), sl44⟩)
    (c44 : PySem.W.codeIn K cd44 "_law_some_space" = true)
    (k44 : PySem.W.keepIn K (.ref f44) = true)
    (a8 : PySem.W.nsIn K mainGlobals "is_integer" = some (some (.ref f8)))
    (l8 : K.lookup f8 = some ⟨oc8, od8, .func (PySem.W.fnOf "is_integer" "is_integer" (defArgs (top 8)) (defBody (top 8)) (defScope (top 8)) .none kV8 dc8 pm8 an8 cd8 ct8), sl8⟩)
    (c8 : PySem.W.codeIn K cd8 "is_integer" = true)
    (k8 : PySem.W.keepIn K (.ref f8) = true)
    (a9 : PySem.W.nsIn K mainGlobals "is_row" = some (some (.ref f9)))
    (l9 : K.lookup f9 = some ⟨oc9, od9, .func (PySem.W.fnOf "is_row" "is_row" (defArgs (top 9)) (defBody (top 9)) (defScope (top 9)) .none kV9 dc9 pm9 an9 cd9 ct9), sl9⟩)
    (c9 : PySem.W.codeIn K cd9 "is_row" = true)
    (k9 : PySem.W.keepIn K (.ref f9) = true)
    (a12 : PySem.W.nsIn K mainGlobals "is_point_of" = some (some (.ref f12)))
    (l12 : K.lookup f12 = some ⟨oc12, od12, .func (PySem.W.fnOf "is_point_of" "is_point_of" (defArgs (top 12)) (defBody (top 12)) (defScope (top 12)) .none kV12 dc12 pm12 an12 cd12 ct12), sl12⟩)
    (c12 : PySem.W.codeIn K cd12 "is_point_of" = true)
    (k12 : PySem.W.keepIn K (.ref f12) = true)
    (a13 : PySem.W.nsIn K mainGlobals "is_pair_of" = some (some (.ref f13)))
    (l13 : K.lookup f13 = some ⟨oc13, od13, .func (PySem.W.fnOf "is_pair_of" "is_pair_of" (defArgs (top 13)) (defBody (top 13)) (defScope (top 13)) .none kV13 dc13 pm13 an13 cd13 ct13), sl13⟩)
    (c13 : PySem.W.codeIn K cd13 "is_pair_of" = true)
    (k13 : PySem.W.keepIn K (.ref f13) = true)
    (a14 : PySem.W.nsIn K mainGlobals "led_on" = some (some (.ref f14)))
    (l14 : K.lookup f14 = some ⟨oc14, od14, .func (PySem.W.fnOf "led_on" "led_on" (defArgs (top 14)) (defBody (top 14)) (defScope (top 14)) .none kV14 dc14 pm14 an14 cd14 ct14), sl14⟩)
    (c14 : PySem.W.codeIn K cd14 "led_on" = true)
    (k14 : PySem.W.keepIn K (.ref f14) = true)
    (a1300 : PySem.W.findIn K (.ref f15) "__init__" = some (some (.ref f1300)))
    (i1300 : PySem.W.isFn K (.ref f1300) = true)
    (l1300 : K.lookup f1300 = some ⟨oc1300, od1300, .func (PySem.W.fnOf "__init__" "Space.__init__" (defArgs (inClass (top 15) 0)) (defBody (inClass (top 15) 0)) (defScope (inClass (top 15) 0)) (.ref t1300) kV1300 dc1300 pm1300 an1300 cd1300 ct1300), sl1300⟩)
    (c1300 : PySem.W.codeIn K cd1300 "Space.__init__" = true)
    (k1300 : PySem.W.keepIn K (.ref f1300) = true)
    (t1300l : K.lookup t1300 = some ⟨toc1300, tod1300, .seq #[u1300_0] tn1300, tsl1300⟩)
    (a16 : PySem.W.nsIn K mainGlobals "need_space" = some (some (.ref f16)))
    (l16 : K.lookup f16 = some ⟨oc16, od16, .func (PySem.W.fnOf "need_space" "need_space" (defArgs (top 16)) (defBody (top 16)) (defScope (top 16)) .none kV16 dc16 pm16 an16 cd16 ct16), sl16⟩)
    (c16 : PySem.W.codeIn K cd16 "need_space" = true)
    (k16 : PySem.W.keepIn K (.ref f16) = true)
    (a17 : PySem.W.nsIn K mainGlobals "all_pairs" = some (some (.ref f17)))
    (l17 : K.lookup f17 = some ⟨oc17, od17, .func (PySem.W.fnOf "all_pairs" "all_pairs" (defArgs (top 17)) (defBody (top 17)) (defScope (top 17)) .none kV17 dc17 pm17 an17 cd17 ct17), sl17⟩)
    (c17 : PySem.W.codeIn K cd17 "all_pairs" = true)
    (k17 : PySem.W.keepIn K (.ref f17) = true)
    (a18 : PySem.W.nsIn K mainGlobals "parts_points" = some (some (.ref f18)))
    (l18 : K.lookup f18 = some ⟨oc18, od18, .func (PySem.W.fnOf "parts_points" "parts_points" (defArgs (top 18)) (defBody (top 18)) (defScope (top 18)) .none kV18 dc18 pm18 an18 cd18 ct18), sl18⟩)
    (c18 : PySem.W.codeIn K cd18 "parts_points" = true)
    (k18 : PySem.W.keepIn K (.ref f18) = true)
    (a19 : PySem.W.nsIn K mainGlobals "need_parted" = some (some (.ref f19)))
    (l19 : K.lookup f19 = some ⟨oc19, od19, .func (PySem.W.fnOf "need_parted" "need_parted" (defArgs (top 19)) (defBody (top 19)) (defScope (top 19)) .none kV19 dc19 pm19 an19 cd19 ct19), sl19⟩)
    (c19 : PySem.W.codeIn K cd19 "need_parted" = true)
    (k19 : PySem.W.keepIn K (.ref f19) = true)
    (a20 : PySem.W.nsIn K mainGlobals "is_cover" = some (some (.ref f20)))
    (l20 : K.lookup f20 = some ⟨oc20, od20, .func (PySem.W.fnOf "is_cover" "is_cover" (defArgs (top 20)) (defBody (top 20)) (defScope (top 20)) .none kV20 dc20 pm20 an20 cd20 ct20), sl20⟩)
    (c20 : PySem.W.codeIn K cd20 "is_cover" = true)
    (k20 : PySem.W.keepIn K (.ref f20) = true)
    (a21 : PySem.W.nsIn K mainGlobals "all_covers" = some (some (.ref f21)))
    (l21 : K.lookup f21 = some ⟨oc21, od21, .func (PySem.W.fnOf "all_covers" "all_covers" (defArgs (top 21)) (defBody (top 21)) (defScope (top 21)) .none kV21 dc21 pm21 an21 cd21 ct21), sl21⟩)
    (c21 : PySem.W.codeIn K cd21 "all_covers" = true)
    (k21 : PySem.W.keepIn K (.ref f21) = true)
    (a22 : PySem.W.nsIn K mainGlobals "covers" = some (some (.ref f22)))
    (l22 : K.lookup f22 = some ⟨oc22, od22, .func (PySem.W.fnOf "covers" "covers" (defArgs (top 22)) (defBody (top 22)) (defScope (top 22)) .none kV22 dc22 pm22 an22 cd22 ct22), sl22⟩)
    (c22 : PySem.W.codeIn K cd22 "covers" = true)
    (k22 : PySem.W.keepIn K (.ref f22) = true)
    (a23 : PySem.W.nsIn K mainGlobals "all_heights" = some (some (.ref f23)))
    (l23 : K.lookup f23 = some ⟨oc23, od23, .func (PySem.W.fnOf "all_heights" "all_heights" (defArgs (top 23)) (defBody (top 23)) (defScope (top 23)) .none kV23 dc23 pm23 an23 cd23 ct23), sl23⟩)
    (c23 : PySem.W.codeIn K cd23 "all_heights" = true)
    (k23 : PySem.W.keepIn K (.ref f23) = true)
    (a24 : PySem.W.nsIn K mainGlobals "heights" = some (some (.ref f24)))
    (l24 : K.lookup f24 = some ⟨oc24, od24, .func (PySem.W.fnOf "heights" "heights" (defArgs (top 24)) (defBody (top 24)) (defScope (top 24)) .none kV24 dc24 pm24 an24 cd24 ct24), sl24⟩)
    (c24 : PySem.W.codeIn K cd24 "heights" = true)
    (k24 : PySem.W.keepIn K (.ref f24) = true)
    (a1301 : PySem.W.findIn K (.ref f15) "__eq__" = some (some (.ref f1301)))
    (i1301 : PySem.W.isFn K (.ref f1301) = true)
    (l1301 : K.lookup f1301 = some ⟨oc1301, od1301, .func (PySem.W.fnOf "__eq__" "Space.__eq__" (defArgs (inClass (top 15) 1)) (defBody (inClass (top 15) 1)) (defScope (inClass (top 15) 1)) .none kV1301 dc1301 pm1301 an1301 cd1301 ct1301), sl1301⟩)
    (c1301 : PySem.W.codeIn K cd1301 "Space.__eq__" = true)
    (k1301 : PySem.W.keepIn K (.ref f1301) = true)
    (a25 : PySem.W.nsIn K mainGlobals "contrary" = some (some (.ref f25)))
    (l25 : K.lookup f25 = some ⟨oc25, od25, .func (PySem.W.fnOf "contrary" "contrary" (defArgs (top 25)) (defBody (top 25)) (defScope (top 25)) .none kV25 dc25 pm25 an25 cd25 ct25), sl25⟩)
    (c25 : PySem.W.codeIn K cd25 "contrary" = true)
    (k25 : PySem.W.keepIn K (.ref f25) = true)
    (a35 : PySem.W.nsIn K mainGlobals "hanging" = some (some (.ref f35)))
    (l35 : K.lookup f35 = some ⟨oc35, od35, .func (PySem.W.fnOf "hanging" "hanging" (defArgs (top 35)) (defBody (top 35)) (defScope (top 35)) .none kV35 dc35 pm35 an35 cd35 ct35), sl35⟩)
    (c35 : PySem.W.codeIn K cd35 "hanging" = true)
    (k35 : PySem.W.keepIn K (.ref f35) = true)
    (a36 : PySem.W.nsIn K mainGlobals "parts" = some (some (.ref f36)))
    (l36 : K.lookup f36 = some ⟨oc36, od36, .func (PySem.W.fnOf "parts" "parts" (defArgs (top 36)) (defBody (top 36)) (defScope (top 36)) .none kV36 dc36 pm36 an36 cd36 ct36), sl36⟩)
    (c36 : PySem.W.codeIn K cd36 "parts" = true)
    (k36 : PySem.W.keepIn K (.ref f36) = true)
    (a29 : PySem.W.nsIn K mainGlobals "need_two" = some (some (.ref f29)))
    (l29 : K.lookup f29 = some ⟨oc29, od29, .func (PySem.W.fnOf "need_two" "need_two" (defArgs (top 29)) (defBody (top 29)) (defScope (top 29)) .none kV29 dc29 pm29 an29 cd29 ct29), sl29⟩)
    (c29 : PySem.W.codeIn K cd29 "need_two" = true)
    (k29 : PySem.W.keepIn K (.ref f29) = true)
    (a27 : PySem.W.nsIn K mainGlobals "need_room" = some (some (.ref f27)))
    (l27 : K.lookup f27 = some ⟨oc27, od27, .func (PySem.W.fnOf "need_room" "need_room" (defArgs (top 27)) (defBody (top 27)) (defScope (top 27)) .none kV27 dc27 pm27 an27 cd27 ct27), sl27⟩)
    (c27 : PySem.W.codeIn K cd27 "need_room" = true)
    (k27 : PySem.W.keepIn K (.ref f27) = true)
    (a28 : PySem.W.nsIn K mainGlobals "shifted_pairs" = some (some (.ref f28)))
    (l28 : K.lookup f28 = some ⟨oc28, od28, .func (PySem.W.fnOf "shifted_pairs" "shifted_pairs" (defArgs (top 28)) (defBody (top 28)) (defScope (top 28)) .none kV28 dc28 pm28 an28 cd28 ct28), sl28⟩)
    (c28 : PySem.W.codeIn K cd28 "shifted_pairs" = true)
    (k28 : PySem.W.keepIn K (.ref f28) = true)
    (a31 : PySem.W.nsIn K mainGlobals "stacked_of" = some (some (.ref f31)))
    (l31 : K.lookup f31 = some ⟨oc31, od31, .func (PySem.W.fnOf "stacked_of" "stacked_of" (defArgs (top 31)) (defBody (top 31)) (defScope (top 31)) .none kV31 dc31 pm31 an31 cd31 ct31), sl31⟩)
    (c31 : PySem.W.codeIn K cd31 "stacked_of" = true)
    (k31 : PySem.W.keepIn K (.ref f31) = true)
    (a32 : PySem.W.nsIn K mainGlobals "stacked" = some (some (.ref f32)))
    (l32 : K.lookup f32 = some ⟨oc32, od32, .func (PySem.W.fnOf "stacked" "stacked" (defArgs (top 32)) (defBody (top 32)) (defScope (top 32)) .none kV32 dc32 pm32 an32 cd32 ct32), sl32⟩)
    (c32 : PySem.W.codeIn K cd32 "stacked" = true)
    (k32 : PySem.W.keepIn K (.ref f32) = true)
    (a30 : PySem.W.nsIn K mainGlobals "summed" = some (some (.ref f30)))
    (l30 : K.lookup f30 = some ⟨oc30, od30, .func (PySem.W.fnOf "summed" "summed" (defArgs (top 30)) (defBody (top 30)) (defScope (top 30)) .none kV30 dc30 pm30 an30 cd30 ct30), sl30⟩)
    (c30 : PySem.W.codeIn K cd30 "summed" = true)
    (k30 : PySem.W.keepIn K (.ref f30) = true)
    (a33 : PySem.W.nsIn K mainGlobals "product" = some (some (.ref f33)))
    (l33 : K.lookup f33 = some ⟨oc33, od33, .func (PySem.W.fnOf "product" "product" (defArgs (top 33)) (defBody (top 33)) (defScope (top 33)) .none kV33 dc33 pm33 an33 cd33 ct33), sl33⟩)
    (c33 : PySem.W.codeIn K cd33 "product" = true)
    (k33 : PySem.W.keepIn K (.ref f33) = true)
    (a45 : PySem.W.nsIn K mainGlobals "law" = some (some (.ref f45)))
    (l45 : K.lookup f45 = some ⟨oc45, od45, .func (PySem.W.fnOf "law" "law" (defArgs (top 45)) (defBody (top 45)) (defScope (top 45)) .none kV45 dc45 pm45 an45 cd45 ct45), sl45⟩)
    (c45 : PySem.W.codeIn K cd45 "law" = true)
    (k45 : PySem.W.keepIn K (.ref f45) = true)
    (pg15 : PySem.W.plainGet K f15 Str.empty = true)
    (hd15 : PySem.W.hasDictIn K f15 = true)
    (po15 : PySem.W.plainOver K f15 = true)
    (sa15 : PySem.W.findIn K (.ref f15) "__setattr__" = some (some (.builtin "object.__setattr__")))
    (mk15 : PySem.W.makesIn K f15 = true)
    (kc15 : PySem.W.keepIn K (.ref f15) = true)
    (en15 : PySem.W.findIn K (.ref f15) "__ne__" = some (some (.builtin "object.__ne__")))
    (n15_many : PySem.W.findIn K (.ref f15) "many" = some none)
    (n15_over : PySem.W.findIn K (.ref f15) "over" = some none)
    (n15_under : PySem.W.findIn K (.ref f15) "under" = some none)
    (sg : PySem.W.specialIn K (.builtin "object.__class__") "__get__" = some (some (.builtin "getset_descriptor.__get__")))
    (tk : PySem.W.takesIn K (.builtin "object.__class__") = some true)
    (ic15 : PySem.W.findIn K (.ref f15) "__class__" = some (some (.builtin "object.__class__")))
    (mo15 : PySem.W.mroIn K f15 (.type "object") = some true)
    (cs15 : PySem.W.clsIn K f15 = some cc15)
    (ty15 : PySem.W.typeIn K (.ref f15) = some (.type "type"))
    (kt15_NoneType : PySem.W.subIn K (.type "NoneType") (.ref f15) = some false)
    (kt15_bool : PySem.W.subIn K (.type "bool") (.ref f15) = some false)
    (kt15_int : PySem.W.subIn K (.type "int") (.ref f15) = some false)
    (kt15_str : PySem.W.subIn K (.type "str") (.ref f15) = some false)
    (kt15_tuple : PySem.W.subIn K (.type "tuple") (.ref f15) = some false)
    (kt15_list : PySem.W.subIn K (.type "list") (.ref f15) = some false)
    (ku15_int : PySem.W.subIn K (.ref f15) (.type "int") = some false)
    (ku15_bool : PySem.W.subIn K (.ref f15) (.type "bool") = some false)
    (ku15_str : PySem.W.subIn K (.ref f15) (.type "str") = some false)
    (ku15_tuple : PySem.W.subIn K (.ref f15) (.type "tuple") = some false)
    (ku15_list : PySem.W.subIn K (.ref f15) (.type "list") = some false)
    (z_all : PySem.W.nsIn K mainGlobals "all" = some none)
    (z_any : PySem.W.nsIn K mainGlobals "any" = some none)
    (z_bool : PySem.W.nsIn K mainGlobals "bool" = some none)
    (z_enumerate : PySem.W.nsIn K mainGlobals "enumerate" = some none)
    (z_int : PySem.W.nsIn K mainGlobals "int" = some none)
    (z_isinstance : PySem.W.nsIn K mainGlobals "isinstance" = some none)
    (z_len : PySem.W.nsIn K mainGlobals "len" = some none)
    (z_list : PySem.W.nsIn K mainGlobals "list" = some none)
    (z_max : PySem.W.nsIn K mainGlobals "max" = some none)
    (z_range : PySem.W.nsIn K mainGlobals "range" = some none)
    (z_sorted : PySem.W.nsIn K mainGlobals "sorted" = some none)
    (z_tuple : PySem.W.nsIn K mainGlobals "tuple" = some none)
    (y_MOST_POINTS : PySem.W.nsIn K mainGlobals "MOST_POINTS" = some (some (.int 24 tk_MOST_POINTS)))
    (hm : ∀ ns : List Int, ns.length ≤ 63 → ∃ p', b_law (.un :: .pl .pen :: List.replicate 18 .un) (some (pen0 ns)) = .rt (.bl true) p') :
    ∃ fd : FuncData, (∀ (s : Shared) (v : Value), BindsTo s fd ⟨[v], []⟩ [("script", v)]) ∧ ∀ base : Heap, K.In base → base.Ns mainGlobals mg → FnOk l.prog w K mg base CX0 8 fa fd ["script"] (spLaw K) := by
  have e := hfa.symm.trans (PySem.W.mg_of X G a45)
  cases e
  have F38 : FunG K "_law_pen" "_law_pen" (top 38) f38 (PySem.W.fnOf "_law_pen" "_law_pen" (defArgs (top 38)) (defBody (top 38)) (defScope (top 38)) .none kV38 dc38 pm38 an38 cd38 ct38) := ⟨⟨_, _, _, _, _, _, _, _, _, _, rfl, l38, c38⟩⟩
  have b38 : Binds K (PySem.W.fnOf "_law_pen" "_law_pen" (defArgs (top 38)) (defBody (top 38)) (defScope (top 38)) .none kV38 dc38 pm38 an38 cd38 ct38) ["script"] [] := .all fun us hl => match us, hl with | [_], _ => rfl
  have F39 : FunG K "_law_draw" "_law_draw" (top 39) f39 (PySem.W.fnOf "_law_draw" "_law_draw" (defArgs (top 39)) (defBody (top 39)) (defScope (top 39)) .none kV39 dc39 pm39 an39 cd39 ct39) := ⟨⟨_, _, _, _, _, _, _, _, _, _, rfl, l39, c39⟩⟩
  have b39 : Binds K (PySem.W.fnOf "_law_draw" "_law_draw" (defArgs (top 39)) (defBody (top 39)) (defScope (top 39)) .none kV39 dc39 pm39 an39 cd39 ct39) ["pen", "many"] [] := .all fun us hl => match us, hl with | [_, _], _ => rfl
  have F40 : FunG K "_law_pick" "_law_pick" (top 40) f40 (PySem.W.fnOf "_law_pick" "_law_pick" (defArgs (top 40)) (defBody (top 40)) (defScope (top 40)) .none kV40 dc40 pm40 an40 cd40 ct40) := ⟨⟨_, _, _, _, _, _, _, _, _, _, rfl, l40, c40⟩⟩
  have b40 : Binds K (PySem.W.fnOf "_law_pick" "_law_pick" (defArgs (top 40)) (defBody (top 40)) (defScope (top 40)) .none kV40 dc40 pm40 an40 cd40 ct40) ["pen", "some"] [] := .all fun us hl => match us, hl with | [_, _], _ => rfl
  have F43 : FunG K "_law_known" "_law_known" (top 43) f43 (PySem.W.fnOf "_law_known" "_law_known" (defArgs (top 43)) (defBody (top 43)) (defScope (top 43)) .none kV43 dc43 pm43 an43 cd43 ct43) := ⟨⟨_, _, _, _, _, _, _, _, _, _, rfl, l43, c43⟩⟩
  have b43 : Binds K (PySem.W.fnOf "_law_known" "_law_known" (defArgs (top 43)) (defBody (top 43)) (defScope (top 43)) .none kV43 dc43 pm43 an43 cd43 ct43) ["pen", "most"] [] := .all fun us hl => match us, hl with | [_, _], _ => rfl
  have F41 : FunG K "_law_shuffled" "_law_shuffled" (top 41) f41 (PySem.W.fnOf "_law_shuffled" "_law_shuffled" (defArgs (top 41)) (defBody (top 41)) (defScope (top 41)) .none kV41 dc41 pm41 an41 cd41 ct41) := ⟨⟨_, _, _, _, _, _, _, _, _, _, rfl, l41, c41⟩⟩
  have b41 : Binds K (PySem.W.fnOf "_law_shuffled" "_law_shuffled" (defArgs (top 41)) (defBody (top 41)) (defScope (top 41)) .none kV41 dc41 pm41 an41 cd41 ct41) ["pen", "some"] [] := .all fun us hl => match us, hl with | [_, _], _ => rfl
  have F42 : FunG K "_law_some_pairs" "_law_some_pairs" (top 42) f42 (PySem.W.fnOf "_law_some_pairs" "_law_some_pairs" (defArgs (top 42)) (defBody (top 42)) (defScope (top 42)) .none kV42 dc42 pm42 an42 cd42 ct42) := ⟨⟨_, _, _, _, _, _, _, _, _, _, rfl, l42, c42⟩⟩
  have b42 : Binds K (PySem.W.fnOf "_law_some_pairs" "_law_some_pairs" (defArgs (top 42)) (defBody (top 42)) (defScope (top 42)) .none kV42 dc42 pm42 an42 cd42 ct42) ["pen", "many", "most"] [] := .all fun us hl => match us, hl with | [_, _, _], _ => rfl
  have F44 : FunG K "_law_some_space" "_law_some_space" (top 44) f44 (PySem.W.fnOf "_law_some_space" "_law_some_space" (defArgs (top 44)) (defBody (top 44)) (defScope (top 44)) .none kV44 dc44 pm44 an44 cd44 ct44) := ⟨⟨_, _, _, _, _, _, _, _, _, _, rfl, l44, c44⟩⟩
  have b44 : Binds K (PySem.W.fnOf "_law_some_space" "_law_some_space" (defArgs (top 44)) (defBody (top 44)) (defScope (top 44)) .none kV44 dc44 pm44 an44 cd44 ct44) ["pen", "most"] [] := .all fun us hl => match us, hl with | [_, _], _ => rfl
  have F8 : FunG K "is_integer" "is_integer" (top 8) f8 (PySem.W.fnOf "is_integer" "is_integer" (defArgs (top 8)) (defBody (top 8)) (defScope (top 8)) .none kV8 dc8 pm8 an8 cd8 ct8) := ⟨⟨_, _, _, _, _, _, _, _, _, _, rfl, l8, c8⟩⟩
  have b8 : Binds K (PySem.W.fnOf "is_integer" "is_integer" (defArgs (top 8)) (defBody (top 8)) (defScope (top 8)) .none kV8 dc8 pm8 an8 cd8 ct8) ["value"] [] := .all fun us hl => match us, hl with | [_], _ => rfl
  have F9 : FunG K "is_row" "is_row" (top 9) f9 (PySem.W.fnOf "is_row" "is_row" (defArgs (top 9)) (defBody (top 9)) (defScope (top 9)) .none kV9 dc9 pm9 an9 cd9 ct9) := ⟨⟨_, _, _, _, _, _, _, _, _, _, rfl, l9, c9⟩⟩
  have b9 : Binds K (PySem.W.fnOf "is_row" "is_row" (defArgs (top 9)) (defBody (top 9)) (defScope (top 9)) .none kV9 dc9 pm9 an9 cd9 ct9) ["value"] [] := .all fun us hl => match us, hl with | [_], _ => rfl
  have F12 : FunG K "is_point_of" "is_point_of" (top 12) f12 (PySem.W.fnOf "is_point_of" "is_point_of" (defArgs (top 12)) (defBody (top 12)) (defScope (top 12)) .none kV12 dc12 pm12 an12 cd12 ct12) := ⟨⟨_, _, _, _, _, _, _, _, _, _, rfl, l12, c12⟩⟩
  have b12 : Binds K (PySem.W.fnOf "is_point_of" "is_point_of" (defArgs (top 12)) (defBody (top 12)) (defScope (top 12)) .none kV12 dc12 pm12 an12 cd12 ct12) ["many", "value"] [] := .all fun us hl => match us, hl with | [_, _], _ => rfl
  have F13 : FunG K "is_pair_of" "is_pair_of" (top 13) f13 (PySem.W.fnOf "is_pair_of" "is_pair_of" (defArgs (top 13)) (defBody (top 13)) (defScope (top 13)) .none kV13 dc13 pm13 an13 cd13 ct13) := ⟨⟨_, _, _, _, _, _, _, _, _, _, rfl, l13, c13⟩⟩
  have b13 : Binds K (PySem.W.fnOf "is_pair_of" "is_pair_of" (defArgs (top 13)) (defBody (top 13)) (defScope (top 13)) .none kV13 dc13 pm13 an13 cd13 ct13) ["many", "value"] [] := .all fun us hl => match us, hl with | [_, _], _ => rfl
  have F14 : FunG K "led_on" "led_on" (top 14) f14 (PySem.W.fnOf "led_on" "led_on" (defArgs (top 14)) (defBody (top 14)) (defScope (top 14)) .none kV14 dc14 pm14 an14 cd14 ct14) := ⟨⟨_, _, _, _, _, _, _, _, _, _, rfl, l14, c14⟩⟩
  have b14 : Binds K (PySem.W.fnOf "led_on" "led_on" (defArgs (top 14)) (defBody (top 14)) (defScope (top 14)) .none kV14 dc14 pm14 an14 cd14 ct14) ["many", "pairs"] [] := .all fun us hl => match us, hl with | [_, _], _ => rfl
  have F1300 : FunG K "__init__" "Space.__init__" (inClass (top 15) 0) f1300 (PySem.W.fnOf "__init__" "Space.__init__" (defArgs (inClass (top 15) 0)) (defBody (inClass (top 15) 0)) (defScope (inClass (top 15) 0)) (.ref t1300) kV1300 dc1300 pm1300 an1300 cd1300 ct1300) := ⟨⟨_, _, _, _, _, _, _, _, _, _, rfl, l1300, c1300⟩⟩
  have b1300 : Binds K (PySem.W.fnOf "__init__" "Space.__init__" (defArgs (inClass (top 15) 0)) (defBody (inClass (top 15) 0)) (defScope (inClass (top 15) 0)) (.ref t1300) kV1300 dc1300 pm1300 an1300 cd1300 ct1300) ["self", "many", "pairs"] [] := fun s us X hl => by
    refine BindsTo.of_looks fun M => ?_
    match us, hl with
    | [z0, z1, z2], _ => exact looks_items (k := _) X t1300l rfl (.of_pure rfl)
  have F16 : FunG K "need_space" "need_space" (top 16) f16 (PySem.W.fnOf "need_space" "need_space" (defArgs (top 16)) (defBody (top 16)) (defScope (top 16)) .none kV16 dc16 pm16 an16 cd16 ct16) := ⟨⟨_, _, _, _, _, _, _, _, _, _, rfl, l16, c16⟩⟩
  have b16 : Binds K (PySem.W.fnOf "need_space" "need_space" (defArgs (top 16)) (defBody (top 16)) (defScope (top 16)) .none kV16 dc16 pm16 an16 cd16 ct16) ["space"] [] := .all fun us hl => match us, hl with | [_], _ => rfl
  have F17 : FunG K "all_pairs" "all_pairs" (top 17) f17 (PySem.W.fnOf "all_pairs" "all_pairs" (defArgs (top 17)) (defBody (top 17)) (defScope (top 17)) .none kV17 dc17 pm17 an17 cd17 ct17) := ⟨⟨_, _, _, _, _, _, _, _, _, _, rfl, l17, c17⟩⟩
  have b17 : Binds K (PySem.W.fnOf "all_pairs" "all_pairs" (defArgs (top 17)) (defBody (top 17)) (defScope (top 17)) .none kV17 dc17 pm17 an17 cd17 ct17) ["space"] [] := .all fun us hl => match us, hl with | [_], _ => rfl
  have F18 : FunG K "parts_points" "parts_points" (top 18) f18 (PySem.W.fnOf "parts_points" "parts_points" (defArgs (top 18)) (defBody (top 18)) (defScope (top 18)) .none kV18 dc18 pm18 an18 cd18 ct18) := ⟨⟨_, _, _, _, _, _, _, _, _, _, rfl, l18, c18⟩⟩
  have b18 : Binds K (PySem.W.fnOf "parts_points" "parts_points" (defArgs (top 18)) (defBody (top 18)) (defScope (top 18)) .none kV18 dc18 pm18 an18 cd18 ct18) ["space"] [] := .all fun us hl => match us, hl with | [_], _ => rfl
  have F19 : FunG K "need_parted" "need_parted" (top 19) f19 (PySem.W.fnOf "need_parted" "need_parted" (defArgs (top 19)) (defBody (top 19)) (defScope (top 19)) .none kV19 dc19 pm19 an19 cd19 ct19) := ⟨⟨_, _, _, _, _, _, _, _, _, _, rfl, l19, c19⟩⟩
  have b19 : Binds K (PySem.W.fnOf "need_parted" "need_parted" (defArgs (top 19)) (defBody (top 19)) (defScope (top 19)) .none kV19 dc19 pm19 an19 cd19 ct19) ["space"] [] := .all fun us hl => match us, hl with | [_], _ => rfl
  have F20 : FunG K "is_cover" "is_cover" (top 20) f20 (PySem.W.fnOf "is_cover" "is_cover" (defArgs (top 20)) (defBody (top 20)) (defScope (top 20)) .none kV20 dc20 pm20 an20 cd20 ct20) := ⟨⟨_, _, _, _, _, _, _, _, _, _, rfl, l20, c20⟩⟩
  have b20 : Binds K (PySem.W.fnOf "is_cover" "is_cover" (defArgs (top 20)) (defBody (top 20)) (defScope (top 20)) .none kV20 dc20 pm20 an20 cd20 ct20) ["space", "x", "y"] [] := .all fun us hl => match us, hl with | [_, _, _], _ => rfl
  have F21 : FunG K "all_covers" "all_covers" (top 21) f21 (PySem.W.fnOf "all_covers" "all_covers" (defArgs (top 21)) (defBody (top 21)) (defScope (top 21)) .none kV21 dc21 pm21 an21 cd21 ct21) := ⟨⟨_, _, _, _, _, _, _, _, _, _, rfl, l21, c21⟩⟩
  have b21 : Binds K (PySem.W.fnOf "all_covers" "all_covers" (defArgs (top 21)) (defBody (top 21)) (defScope (top 21)) .none kV21 dc21 pm21 an21 cd21 ct21) ["space"] [] := .all fun us hl => match us, hl with | [_], _ => rfl
  have F22 : FunG K "covers" "covers" (top 22) f22 (PySem.W.fnOf "covers" "covers" (defArgs (top 22)) (defBody (top 22)) (defScope (top 22)) .none kV22 dc22 pm22 an22 cd22 ct22) := ⟨⟨_, _, _, _, _, _, _, _, _, _, rfl, l22, c22⟩⟩
  have b22 : Binds K (PySem.W.fnOf "covers" "covers" (defArgs (top 22)) (defBody (top 22)) (defScope (top 22)) .none kV22 dc22 pm22 an22 cd22 ct22) ["space"] [] := .all fun us hl => match us, hl with | [_], _ => rfl
  have F23 : FunG K "all_heights" "all_heights" (top 23) f23 (PySem.W.fnOf "all_heights" "all_heights" (defArgs (top 23)) (defBody (top 23)) (defScope (top 23)) .none kV23 dc23 pm23 an23 cd23 ct23) := ⟨⟨_, _, _, _, _, _, _, _, _, _, rfl, l23, c23⟩⟩
  have b23 : Binds K (PySem.W.fnOf "all_heights" "all_heights" (defArgs (top 23)) (defBody (top 23)) (defScope (top 23)) .none kV23 dc23 pm23 an23 cd23 ct23) ["space"] [] := .all fun us hl => match us, hl with | [_], _ => rfl
  have F24 : FunG K "heights" "heights" (top 24) f24 (PySem.W.fnOf "heights" "heights" (defArgs (top 24)) (defBody (top 24)) (defScope (top 24)) .none kV24 dc24 pm24 an24 cd24 ct24) := ⟨⟨_, _, _, _, _, _, _, _, _, _, rfl, l24, c24⟩⟩
  have b24 : Binds K (PySem.W.fnOf "heights" "heights" (defArgs (top 24)) (defBody (top 24)) (defScope (top 24)) .none kV24 dc24 pm24 an24 cd24 ct24) ["space"] [] := .all fun us hl => match us, hl with | [_], _ => rfl
  have F1301 : FunG K "__eq__" "Space.__eq__" (inClass (top 15) 1) f1301 (PySem.W.fnOf "__eq__" "Space.__eq__" (defArgs (inClass (top 15) 1)) (defBody (inClass (top 15) 1)) (defScope (inClass (top 15) 1)) .none kV1301 dc1301 pm1301 an1301 cd1301 ct1301) := ⟨⟨_, _, _, _, _, _, _, _, _, _, rfl, l1301, c1301⟩⟩
  have b1301 : Binds K (PySem.W.fnOf "__eq__" "Space.__eq__" (defArgs (inClass (top 15) 1)) (defBody (inClass (top 15) 1)) (defScope (inClass (top 15) 1)) .none kV1301 dc1301 pm1301 an1301 cd1301 ct1301) ["self", "other"] [] := .all fun us hl => match us, hl with | [_, _], _ => rfl
  have F25 : FunG K "contrary" "contrary" (top 25) f25 (PySem.W.fnOf "contrary" "contrary" (defArgs (top 25)) (defBody (top 25)) (defScope (top 25)) .none kV25 dc25 pm25 an25 cd25 ct25) := ⟨⟨_, _, _, _, _, _, _, _, _, _, rfl, l25, c25⟩⟩
  have b25 : Binds K (PySem.W.fnOf "contrary" "contrary" (defArgs (top 25)) (defBody (top 25)) (defScope (top 25)) .none kV25 dc25 pm25 an25 cd25 ct25) ["space"] [] := .all fun us hl => match us, hl with | [_], _ => rfl
  have F35 : FunG K "hanging" "hanging" (top 35) f35 (PySem.W.fnOf "hanging" "hanging" (defArgs (top 35)) (defBody (top 35)) (defScope (top 35)) .none kV35 dc35 pm35 an35 cd35 ct35) := ⟨⟨_, _, _, _, _, _, _, _, _, _, rfl, l35, c35⟩⟩
  have b35 : Binds K (PySem.W.fnOf "hanging" "hanging" (defArgs (top 35)) (defBody (top 35)) (defScope (top 35)) .none kV35 dc35 pm35 an35 cd35 ct35) ["space", "start"] [] := .all fun us hl => match us, hl with | [_, _], _ => rfl
  have F36 : FunG K "parts" "parts" (top 36) f36 (PySem.W.fnOf "parts" "parts" (defArgs (top 36)) (defBody (top 36)) (defScope (top 36)) .none kV36 dc36 pm36 an36 cd36 ct36) := ⟨⟨_, _, _, _, _, _, _, _, _, _, rfl, l36, c36⟩⟩
  have b36 : Binds K (PySem.W.fnOf "parts" "parts" (defArgs (top 36)) (defBody (top 36)) (defScope (top 36)) .none kV36 dc36 pm36 an36 cd36 ct36) ["space"] [] := .all fun us hl => match us, hl with | [_], _ => rfl
  have F29 : FunG K "need_two" "need_two" (top 29) f29 (PySem.W.fnOf "need_two" "need_two" (defArgs (top 29)) (defBody (top 29)) (defScope (top 29)) .none kV29 dc29 pm29 an29 cd29 ct29) := ⟨⟨_, _, _, _, _, _, _, _, _, _, rfl, l29, c29⟩⟩
  have b29 : Binds K (PySem.W.fnOf "need_two" "need_two" (defArgs (top 29)) (defBody (top 29)) (defScope (top 29)) .none kV29 dc29 pm29 an29 cd29 ct29) ["one", "other"] [] := .all fun us hl => match us, hl with | [_, _], _ => rfl
  have F27 : FunG K "need_room" "need_room" (top 27) f27 (PySem.W.fnOf "need_room" "need_room" (defArgs (top 27)) (defBody (top 27)) (defScope (top 27)) .none kV27 dc27 pm27 an27 cd27 ct27) := ⟨⟨_, _, _, _, _, _, _, _, _, _, rfl, l27, c27⟩⟩
  have b27 : Binds K (PySem.W.fnOf "need_room" "need_room" (defArgs (top 27)) (defBody (top 27)) (defScope (top 27)) .none kV27 dc27 pm27 an27 cd27 ct27) ["many"] [] := .all fun us hl => match us, hl with | [_], _ => rfl
  have F28 : FunG K "shifted_pairs" "shifted_pairs" (top 28) f28 (PySem.W.fnOf "shifted_pairs" "shifted_pairs" (defArgs (top 28)) (defBody (top 28)) (defScope (top 28)) .none kV28 dc28 pm28 an28 cd28 ct28) := ⟨⟨_, _, _, _, _, _, _, _, _, _, rfl, l28, c28⟩⟩
  have b28 : Binds K (PySem.W.fnOf "shifted_pairs" "shifted_pairs" (defArgs (top 28)) (defBody (top 28)) (defScope (top 28)) .none kV28 dc28 pm28 an28 cd28 ct28) ["space", "by"] [] := .all fun us hl => match us, hl with | [_, _], _ => rfl
  have F31 : FunG K "stacked_of" "stacked_of" (top 31) f31 (PySem.W.fnOf "stacked_of" "stacked_of" (defArgs (top 31)) (defBody (top 31)) (defScope (top 31)) .none kV31 dc31 pm31 an31 cd31 ct31) := ⟨⟨_, _, _, _, _, _, _, _, _, _, rfl, l31, c31⟩⟩
  have b31 : Binds K (PySem.W.fnOf "stacked_of" "stacked_of" (defArgs (top 31)) (defBody (top 31)) (defScope (top 31)) .none kV31 dc31 pm31 an31 cd31 ct31) ["one", "other"] [] := .all fun us hl => match us, hl with | [_, _], _ => rfl
  have F32 : FunG K "stacked" "stacked" (top 32) f32 (PySem.W.fnOf "stacked" "stacked" (defArgs (top 32)) (defBody (top 32)) (defScope (top 32)) .none kV32 dc32 pm32 an32 cd32 ct32) := ⟨⟨_, _, _, _, _, _, _, _, _, _, rfl, l32, c32⟩⟩
  have b32 : Binds K (PySem.W.fnOf "stacked" "stacked" (defArgs (top 32)) (defBody (top 32)) (defScope (top 32)) .none kV32 dc32 pm32 an32 cd32 ct32) ["one", "other"] [] := .all fun us hl => match us, hl with | [_, _], _ => rfl
  have F30 : FunG K "summed" "summed" (top 30) f30 (PySem.W.fnOf "summed" "summed" (defArgs (top 30)) (defBody (top 30)) (defScope (top 30)) .none kV30 dc30 pm30 an30 cd30 ct30) := ⟨⟨_, _, _, _, _, _, _, _, _, _, rfl, l30, c30⟩⟩
  have b30 : Binds K (PySem.W.fnOf "summed" "summed" (defArgs (top 30)) (defBody (top 30)) (defScope (top 30)) .none kV30 dc30 pm30 an30 cd30 ct30) ["one", "other"] [] := .all fun us hl => match us, hl with | [_, _], _ => rfl
  have F33 : FunG K "product" "product" (top 33) f33 (PySem.W.fnOf "product" "product" (defArgs (top 33)) (defBody (top 33)) (defScope (top 33)) .none kV33 dc33 pm33 an33 cd33 ct33) := ⟨⟨_, _, _, _, _, _, _, _, _, _, rfl, l33, c33⟩⟩
  have b33 : Binds K (PySem.W.fnOf "product" "product" (defArgs (top 33)) (defBody (top 33)) (defScope (top 33)) .none kV33 dc33 pm33 an33 cd33 ct33) ["one", "other"] [] := .all fun us hl => match us, hl with | [_, _], _ => rfl
  have F45 : FunG K "law" "law" (top 45) fa (PySem.W.fnOf "law" "law" (defArgs (top 45)) (defBody (top 45)) (defScope (top 45)) .none kV45 dc45 pm45 an45 cd45 ct45) := ⟨⟨_, _, _, _, _, _, _, _, _, _, rfl, l45, c45⟩⟩
  have T : Tx K mg (pickS [("Space", f15)]) (pickN [(15, f15), (38, f38), (39, f39), (40, f40), (43, f43), (41, f41), (42, f42), (44, f44), (8, f8), (9, f9), (12, f12), (13, f13), (14, f14), (1300, f1300), (16, f16), (17, f17), (18, f18), (19, f19), (20, f20), (21, f21), (22, f22), (23, f23), (24, f24), (1301, f1301), (25, f25), (35, f35), (36, f36), (29, f29), (27, f27), (28, f28), (31, f31), (32, f32), (30, f30), (33, f33)] 0) (pickN [(38, (PySem.W.fnOf "_law_pen" "_law_pen" (defArgs (top 38)) (defBody (top 38)) (defScope (top 38)) .none kV38 dc38 pm38 an38 cd38 ct38)), (39, (PySem.W.fnOf "_law_draw" "_law_draw" (defArgs (top 39)) (defBody (top 39)) (defScope (top 39)) .none kV39 dc39 pm39 an39 cd39 ct39)), (40, (PySem.W.fnOf "_law_pick" "_law_pick" (defArgs (top 40)) (defBody (top 40)) (defScope (top 40)) .none kV40 dc40 pm40 an40 cd40 ct40)), (43, (PySem.W.fnOf "_law_known" "_law_known" (defArgs (top 43)) (defBody (top 43)) (defScope (top 43)) .none kV43 dc43 pm43 an43 cd43 ct43)), (41, (PySem.W.fnOf "_law_shuffled" "_law_shuffled" (defArgs (top 41)) (defBody (top 41)) (defScope (top 41)) .none kV41 dc41 pm41 an41 cd41 ct41)), (42, (PySem.W.fnOf "_law_some_pairs" "_law_some_pairs" (defArgs (top 42)) (defBody (top 42)) (defScope (top 42)) .none kV42 dc42 pm42 an42 cd42 ct42)), (44, (PySem.W.fnOf "_law_some_space" "_law_some_space" (defArgs (top 44)) (defBody (top 44)) (defScope (top 44)) .none kV44 dc44 pm44 an44 cd44 ct44)), (8, (PySem.W.fnOf "is_integer" "is_integer" (defArgs (top 8)) (defBody (top 8)) (defScope (top 8)) .none kV8 dc8 pm8 an8 cd8 ct8)), (9, (PySem.W.fnOf "is_row" "is_row" (defArgs (top 9)) (defBody (top 9)) (defScope (top 9)) .none kV9 dc9 pm9 an9 cd9 ct9)), (12, (PySem.W.fnOf "is_point_of" "is_point_of" (defArgs (top 12)) (defBody (top 12)) (defScope (top 12)) .none kV12 dc12 pm12 an12 cd12 ct12)), (13, (PySem.W.fnOf "is_pair_of" "is_pair_of" (defArgs (top 13)) (defBody (top 13)) (defScope (top 13)) .none kV13 dc13 pm13 an13 cd13 ct13)), (14, (PySem.W.fnOf "led_on" "led_on" (defArgs (top 14)) (defBody (top 14)) (defScope (top 14)) .none kV14 dc14 pm14 an14 cd14 ct14)), (1300, (PySem.W.fnOf "__init__" "Space.__init__" (defArgs (inClass (top 15) 0)) (defBody (inClass (top 15) 0)) (defScope (inClass (top 15) 0)) (.ref t1300) kV1300 dc1300 pm1300 an1300 cd1300 ct1300)), (16, (PySem.W.fnOf "need_space" "need_space" (defArgs (top 16)) (defBody (top 16)) (defScope (top 16)) .none kV16 dc16 pm16 an16 cd16 ct16)), (17, (PySem.W.fnOf "all_pairs" "all_pairs" (defArgs (top 17)) (defBody (top 17)) (defScope (top 17)) .none kV17 dc17 pm17 an17 cd17 ct17)), (18, (PySem.W.fnOf "parts_points" "parts_points" (defArgs (top 18)) (defBody (top 18)) (defScope (top 18)) .none kV18 dc18 pm18 an18 cd18 ct18)), (19, (PySem.W.fnOf "need_parted" "need_parted" (defArgs (top 19)) (defBody (top 19)) (defScope (top 19)) .none kV19 dc19 pm19 an19 cd19 ct19)), (20, (PySem.W.fnOf "is_cover" "is_cover" (defArgs (top 20)) (defBody (top 20)) (defScope (top 20)) .none kV20 dc20 pm20 an20 cd20 ct20)), (21, (PySem.W.fnOf "all_covers" "all_covers" (defArgs (top 21)) (defBody (top 21)) (defScope (top 21)) .none kV21 dc21 pm21 an21 cd21 ct21)), (22, (PySem.W.fnOf "covers" "covers" (defArgs (top 22)) (defBody (top 22)) (defScope (top 22)) .none kV22 dc22 pm22 an22 cd22 ct22)), (23, (PySem.W.fnOf "all_heights" "all_heights" (defArgs (top 23)) (defBody (top 23)) (defScope (top 23)) .none kV23 dc23 pm23 an23 cd23 ct23)), (24, (PySem.W.fnOf "heights" "heights" (defArgs (top 24)) (defBody (top 24)) (defScope (top 24)) .none kV24 dc24 pm24 an24 cd24 ct24)), (1301, (PySem.W.fnOf "__eq__" "Space.__eq__" (defArgs (inClass (top 15) 1)) (defBody (inClass (top 15) 1)) (defScope (inClass (top 15) 1)) .none kV1301 dc1301 pm1301 an1301 cd1301 ct1301)), (25, (PySem.W.fnOf "contrary" "contrary" (defArgs (top 25)) (defBody (top 25)) (defScope (top 25)) .none kV25 dc25 pm25 an25 cd25 ct25)), (35, (PySem.W.fnOf "hanging" "hanging" (defArgs (top 35)) (defBody (top 35)) (defScope (top 35)) .none kV35 dc35 pm35 an35 cd35 ct35)), (36, (PySem.W.fnOf "parts" "parts" (defArgs (top 36)) (defBody (top 36)) (defScope (top 36)) .none kV36 dc36 pm36 an36 cd36 ct36)), (29, (PySem.W.fnOf "need_two" "need_two" (defArgs (top 29)) (defBody (top 29)) (defScope (top 29)) .none kV29 dc29 pm29 an29 cd29 ct29)), (27, (PySem.W.fnOf "need_room" "need_room" (defArgs (top 27)) (defBody (top 27)) (defScope (top 27)) .none kV27 dc27 pm27 an27 cd27 ct27)), (28, (PySem.W.fnOf "shifted_pairs" "shifted_pairs" (defArgs (top 28)) (defBody (top 28)) (defScope (top 28)) .none kV28 dc28 pm28 an28 cd28 ct28)), (31, (PySem.W.fnOf "stacked_of" "stacked_of" (defArgs (top 31)) (defBody (top 31)) (defScope (top 31)) .none kV31 dc31 pm31 an31 cd31 ct31)), (32, (PySem.W.fnOf "stacked" "stacked" (defArgs (top 32)) (defBody (top 32)) (defScope (top 32)) .none kV32 dc32 pm32 an32 cd32 ct32)), (30, (PySem.W.fnOf "summed" "summed" (defArgs (top 30)) (defBody (top 30)) (defScope (top 30)) .none kV30 dc30 pm30 an30 cd30 ct30)), (33, (PySem.W.fnOf "product" "product" (defArgs (top 33)) (defBody (top 33)) (defScope (top 33)) .none kV33 dc33 pm33 an33 cd33 ct33))] (PySem.W.fnOf "law" "law" (defArgs (top 45)) (defBody (top 45)) (defScope (top 45)) .none kV45 dc45 pm45 an45 cd45 ct45)) := {
    n_all := PySem.W.mg_none_of X G z_all,
    n_any := PySem.W.mg_none_of X G z_any,
    n_bool := PySem.W.mg_none_of X G z_bool,
    n_enumerate := PySem.W.mg_none_of X G z_enumerate,
    n_int := PySem.W.mg_none_of X G z_int,
    n_isinstance := PySem.W.mg_none_of X G z_isinstance,
    n_len := PySem.W.mg_none_of X G z_len,
    n_list := PySem.W.mg_none_of X G z_list,
    n_max := PySem.W.mg_none_of X G z_max,
    n_range := PySem.W.mg_none_of X G z_range,
    n_sorted := PySem.W.mg_none_of X G z_sorted,
    n_tuple := PySem.W.mg_none_of X G z_tuple,
    c_MOST_POINTS := ⟨_, PySem.W.mg_of X G y_MOST_POINTS⟩,
    F38 := F38,
    k38 := k38,
    b38 := b38,
    g__law_pen := PySem.W.mg_of X G a38,
    F39 := F39,
    k39 := k39,
    b39 := b39,
    g__law_draw := PySem.W.mg_of X G a39,
    F40 := F40,
    k40 := k40,
    b40 := b40,
    g__law_pick := PySem.W.mg_of X G a40,
    F43 := F43,
    k43 := k43,
    b43 := b43,
    g__law_known := PySem.W.mg_of X G a43,
    F41 := F41,
    k41 := k41,
    b41 := b41,
    g__law_shuffled := PySem.W.mg_of X G a41,
    F42 := F42,
    k42 := k42,
    b42 := b42,
    g__law_some_pairs := PySem.W.mg_of X G a42,
    F44 := F44,
    k44 := k44,
    b44 := b44,
    g__law_some_space := PySem.W.mg_of X G a44,
    F8 := F8,
    k8 := k8,
    b8 := b8,
    g_is_integer := PySem.W.mg_of X G a8,
    F9 := F9,
    k9 := k9,
    b9 := b9,
    g_is_row := PySem.W.mg_of X G a9,
    F12 := F12,
    k12 := k12,
    b12 := b12,
    g_is_point_of := PySem.W.mg_of X G a12,
    F13 := F13,
    k13 := k13,
    b13 := b13,
    g_is_pair_of := PySem.W.mg_of X G a13,
    F14 := F14,
    k14 := k14,
    b14 := b14,
    g_led_on := PySem.W.mg_of X G a14,
    F1300 := F1300,
    k1300 := k1300,
    b1300 := b1300,
    F16 := F16,
    k16 := k16,
    b16 := b16,
    g_need_space := PySem.W.mg_of X G a16,
    F17 := F17,
    k17 := k17,
    b17 := b17,
    g_all_pairs := PySem.W.mg_of X G a17,
    F18 := F18,
    k18 := k18,
    b18 := b18,
    g_parts_points := PySem.W.mg_of X G a18,
    F19 := F19,
    k19 := k19,
    b19 := b19,
    g_need_parted := PySem.W.mg_of X G a19,
    F20 := F20,
    k20 := k20,
    b20 := b20,
    g_is_cover := PySem.W.mg_of X G a20,
    F21 := F21,
    k21 := k21,
    b21 := b21,
    g_all_covers := PySem.W.mg_of X G a21,
    F22 := F22,
    k22 := k22,
    b22 := b22,
    g_covers := PySem.W.mg_of X G a22,
    F23 := F23,
    k23 := k23,
    b23 := b23,
    g_all_heights := PySem.W.mg_of X G a23,
    F24 := F24,
    k24 := k24,
    b24 := b24,
    g_heights := PySem.W.mg_of X G a24,
    F1301 := F1301,
    k1301 := k1301,
    b1301 := b1301,
    F25 := F25,
    k25 := k25,
    b25 := b25,
    g_contrary := PySem.W.mg_of X G a25,
    F35 := F35,
    k35 := k35,
    b35 := b35,
    g_hanging := PySem.W.mg_of X G a35,
    F36 := F36,
    k36 := k36,
    b36 := b36,
    g_parts := PySem.W.mg_of X G a36,
    F29 := F29,
    k29 := k29,
    b29 := b29,
    g_need_two := PySem.W.mg_of X G a29,
    F27 := F27,
    k27 := k27,
    b27 := b27,
    g_need_room := PySem.W.mg_of X G a27,
    F28 := F28,
    k28 := k28,
    b28 := b28,
    g_shifted_pairs := PySem.W.mg_of X G a28,
    F31 := F31,
    k31 := k31,
    b31 := b31,
    g_stacked_of := PySem.W.mg_of X G a31,
    F32 := F32,
    k32 := k32,
    b32 := b32,
    g_stacked := PySem.W.mg_of X G a32,
    F30 := F30,
    k30 := k30,
    b30 := b30,
    g_summed := PySem.W.mg_of X G a30,
    F33 := F33,
    k33 := k33,
    b33 := b33,
    g_product := PySem.W.mg_of X G a33,
    cl_Space := rfl,
    g_Space := PySem.W.mg_of X G a15,
    m_Space := ⟨mk15, a1300, i1300, kc15⟩,
    eq_Space := ⟨a1301, i1301, en15, mo15⟩,
    f_many := fun _ _ _ _ c hc => by
      simp only [List.mem_cons, List.not_mem_nil, or_false] at hc
      subst hc
      exact ⟨⟨pg15, hd15, po15, sa15⟩, n15_many⟩,
    f_over := fun _ _ _ _ c hc => by
      simp only [List.mem_cons, List.not_mem_nil, or_false] at hc
      subst hc
      exact ⟨⟨pg15, hd15, po15, sa15⟩, n15_over⟩,
    f_under := fun _ _ _ _ c hc => by
      simp only [List.mem_cons, List.not_mem_nil, or_false] at hc
      subst hc
      exact ⟨⟨pg15, hd15, po15, sa15⟩, n15_under⟩,
    isa := fun _ _ _ _ => ⟨fun c hc => by
      simp only [List.mem_cons, List.not_mem_nil, or_false] at hc
      rcases hc with rfl
      · exact ⟨⟨pg15, hd15, po15, sa15⟩, ic15, sg, tk, mo15⟩,
     fun c hc n hn => by
      simp only [List.mem_cons, List.not_mem_nil, or_false] at hc
      simp only [tyNames, List.mem_cons, List.not_mem_nil, or_false] at hn
      rcases hc with rfl
      · rcases hn with rfl | rfl | rfl | rfl | rfl | rfl
        · exact kit_ty cs15 ty15 kt15_NoneType
        · exact kit_ty cs15 ty15 kt15_bool
        · exact kit_ty cs15 ty15 kt15_int
        · exact kit_ty cs15 ty15 kt15_str
        · exact kit_ty cs15 ty15 kt15_tuple
        · exact kit_ty cs15 ty15 kt15_list,
     fun c hc n hn => by
      simp only [List.mem_cons, List.not_mem_nil, or_false] at hc
      simp only [List.mem_cons, List.not_mem_nil, or_false] at hn
      rcases hc with rfl
      · rcases hn with rfl | rfl | rfl | rfl | rfl
        · exact kit_tu (by decide +kernel) ku15_int
        · exact kit_tu (by decide +kernel) ku15_bool
        · exact kit_tu (by decide +kernel) ku15_str
        · exact kit_tu (by decide +kernel) ku15_tuple
        · exact kit_tu (by decide +kernel) ku15_list,
     fun c hc k hk => by
      simp only [List.mem_cons, List.not_mem_nil, or_false] at hc
      simp only [List.mem_cons, List.not_mem_nil, or_false] at hk
      rcases hc with rfl
      · rcases hk with rfl
        · exact kit_same⟩ }
  exact ⟨(PySem.W.fnOf "law" "law" (defArgs (top 45)) (defBody (top 45)) (defScope (top 45)) .none kV45 dc45 pm45 an45 cd45 ct45), fun s v => .of_eq rfl, fun base _ _ => ok_law T F45 hm⟩
theorem walk {l : PySem.W.OpenLaw} {q : Program} {loose : List Str} {XP : (Str → Option Value) → Heap → Prop} {YP : World → Heap → Prop} {d : DefRec} {K : Params → PySem.W.Frag} (hn : l.most = some 63) (hdf : d.params.defaults = [])
    (hY : ∀ (w : World) (h : Heap), YP w h → (K w.params).In h)
    (F : ∀ (w : World) (mg : Str → Option Value) (fa : Addr) (h : Heap), (K w.params).In h → h.Ns mainGlobals mg → mg d.name = some (.ref fa) →
      ∃ fd : FuncData, (∀ (s : Shared) (u : Value), BindsTo s fd ⟨[u], []⟩ [("script", u)]) ∧ ∀ base : Heap, (K w.params).In base → base.Ns mainGlobals mg → FnOk l.prog w (K w.params) mg base CX0 8 fa fd ["script"] (spLaw (K w.params))) :
    PySem.W.WalkO q loose XP YP l.row.toRowW d [] (fun f vs => PySem.call f vs) :=
  L2.walk_of (n := 63) (k := 8) (x := "script") (CX := fun _ => CX0) (sp := fun w => spLaw (K w.params)) hn (by decide) hdf ⟨rfl, by decide, by decide⟩ hY F (fun _ _ a ns hl _ hS => ⟨a, ns, rfl, hS, hl, fun _ => rfl⟩) fun _ _ _ _ _ z => z
end CS
namespace CS
open PySem L2
open Classical
theorem v_is_integer (i : Int) (p : Pn) : m_is_integer [.int i] p = .ok (.bl true, p) := run_fn rfl (pRet rfl)
theorem v_is_rowL (l : List D) (p : Pn) : m_is_row [.lst l] p = .ok (.bl true, p) := run_fn rfl (pRet rfl)
theorem v_is_rowT (l : List D) (p : Pn) : m_is_row [.tup l] p = .ok (.bl true, p) := run_fn rfl (pRet rfl)
theorem v_is_point_of (n i : Nat) (h : i < n) (p : Pn) : m_is_point_of [nI n, nI i] p = .ok (.bl true, p) := by
  refine run_fn rfl (pRet (pAndT (pCall rfl (v_is_integer _ _)) ?_))
  have h1 := le_nat 0 i
  have h2 := lt_nat i n
  rw [decide_eq_true (Nat.zero_le i)] at h1
  rw [decide_eq_true h] at h2
  exact pChain rfl rfl h1 rfl h2
theorem v_is_pair_of (n : Nat) (q : Nat × Nat) (h : q.1 < n ∧ q.2 < n) (p : Pn) : m_is_pair_of [nI n, prD q] p = .ok (.bl true, p) := by
  refine run_fn rfl (pRet (pAndT rfl (pAndT rfl ?_)))
  refine pCB (pOne (run_comp nI (fun _ => true) (fun _ => D.bl true) [q.1, q.2] rfl (fun a ha => ⟨_, rfl, _, rfl, fun _ => ⟨_, run_call rfl (v_is_point_of n a ?_ p)⟩⟩) (by show 2 ≤ sizeLine; decide))) rfl
  rcases List.mem_cons.mp ha with rfl | ha
  · exact h.1
  · rcases List.mem_cons.mp ha with rfl | ha
    · exact h.2
    · cases ha
theorem run_frz {env : Env'} {p : Pn} {i : Nat} {d : D} {s : SS} {o : Out} (h : env[i]? = some (.ow d)) (h2 : s (env.set i (.pl d)) p = o) : dFrz [i] s env p = o := by
  show s (frz1 env i) p = o
  unfold frz1
  rw [h]
  exact h2
noncomputable def nbP (ps : List (Nat × Nat)) (x : Nat) : List Nat := (ps.filter fun q => decide (q.1 = x)).map (·.2)
theorem mem_nbP {ps : List (Nat × Nat)} {x y : Nat} : y ∈ nbP ps x ↔ (x, y) ∈ ps := by
  simp only [nbP, List.mem_map, List.mem_filter, decide_eq_true_eq]
  constructor
  · rintro ⟨⟨a, b⟩, ⟨h, rfl⟩, rfl⟩; exact h
  · intro h; exact ⟨(x, y), ⟨h, rfl⟩, rfl⟩
theorem rn_rt {ps : List (Nat × Nat)} {x y : Nat} : Rn (nbP ps) x y ↔ Rt ps x y := by
  constructor
  · intro h
    induction h with
    | refl => exact .refl _
    | tail _ h2 ih => exact ih.tail (mem_nbP.mp h2)
  · intro h
    induction h with
    | refl => exact .refl
    | tail _ h2 ih => exact ih.tail (mem_nbP.mpr h2)
theorem v_led_on (n : Nat) (ps : List (Nat × Nat)) (hn : n ≤ 24) (hin : In n ps) (hl : ps.length ≤ 100000) (p : Pn) : m_led_on [nI n, .lst (ps.map prD)] p = .ok (.tup (rowsO n (Rt ps)), p) := by
  refine run_fn rfl ?_
  have hA : mComp (mRange1 (dVar 0)) [4] (bNm 4) mYes (mComp (mRow (dVar 1)) [8, 7] (bTup 2 (bCons (bNm 8) (bCons (bNm 7) bNil))) (mB (m2 eqD (dVar 8) (dVar 4))) (dVar 7)) [.pl (nI n), .pl (.lst (ps.map prD)), .un, .un, .un, .un, .un, .un, .un] p = .ok (.lst ((List.range n).map fun x => .lst ((nbP ps x).map nI)), [.pl (nI n), .pl (.lst (ps.map prD)), .un, .un, .un, .un, .un, .un, .un], p) := by
    have := run_comp (src := mRange1 (dVar 0)) (vs := [4]) (b := bNm 4) (t := mYes) (e := mComp (mRow (dVar 1)) [8, 7] (bTup 2 (bCons (bNm 8) (bCons (bNm 7) bNil))) (mB (m2 eqD (dVar 8) (dVar 4))) (dVar 7)) nI (fun _ => true) (fun x => .lst ((nbP ps x).map nI)) (List.range n) (run_range (env := [.pl (nI n), .pl (.lst (ps.map prD)), .un, .un, .un, .un, .un, .un, .un]) (p := p) rfl (by omega)) (fun x hx => ⟨_, rfl, _, rfl, fun _ => ⟨_, by
      have h2 := run_comp (src := mRow (dVar 1)) (vs := [8, 7]) (b := bTup 2 (bCons (bNm 8) (bCons (bNm 7) bNil))) (t := mB (m2 eqD (dVar 8) (dVar 4))) (e := dVar 7) prD (fun q => decide (q.1 = x)) (fun q => nI q.2) ps (env := [.pl (nI n), .pl (.lst (ps.map prD)), .un, .un, .pl (nI x), .un, .un, .un, .un]) (p := p) (run_row rfl rfl) (fun q _ => ⟨_, rfl, _, pB (pM2 rfl rfl (eq_nat _ _)), fun _ => ⟨_, rfl⟩⟩) (Nat.le_trans hl (by decide))
      rw [show (ps.filter fun q => decide (q.1 = x)).map (fun q => nI q.2) = (nbP ps x).map nI by unfold nbP; rw [List.map_map]; rfl] at h2
      exact h2⟩⟩) (by rw [List.length_range]; exact Nat.le_trans hn (by decide))
    rw [List.filter_eq_self.mpr (fun _ _ => rfl)] at this
    exact this
  refine run_seq (pSet hA) (run_seq (pSetO rfl) ?_)
  obtain ⟨e', p', h1, rfl, h2, h3⟩ := run_for (src := mRange1 (dVar 0)) (b := bNm 4) (body := (dSeq (dParO 5 6 (mLst (mCons (dVar 4) mNil)) (M.ret (.int 0))) (dSeq (dWhile (mB (m2 ltD (dVar 6) (mBor (mCB lenD (mCons (dVar 5) mNil))))) (dSeq (dFor (mRow (m2 ixD (dVar 2) (mIxO 5 (dVar 6)))) (bNm 7) (dIf (mBorT (mB (m2 notInD (dVar 7) (dVar 5)))) (dExpr (mAppend 5 (dVar 7))) (dNext))) (dAug 6 addI (M.ret (.int 1))))) (dFrz [5] (dExpr (mAppend 3 (mCB tupleD (mCons (mCB sortedB (mCons (dVar 5) mNil)) mNil))))))))
    (env := [.pl (nI n), .pl (.lst (ps.map prD)), .pl (.lst ((List.range n).map fun x => .lst ((nbP ps x).map nI))), .ow (.lst []), .un, .un, .un, .un, .un]) (p := p) nI (List.range n)
    (fun done env p1 => p1 = p ∧ env[3]? = some (.ow (.lst (done.map fun x => row n (Rt ps x)))) ∧ env.length = 9 ∧ env[2]? = some (.pl (.lst ((List.range n).map fun x => .lst ((nbP ps x).map nI)))))
    (run_range rfl (by omega)) ⟨rfl, rfl, rfl, rfl⟩ (fun done x rest env p1 hd ⟨hp, h3, hlen, h2⟩ => by
      subst hp
      have hxn : x < n := by
        have : x ∈ List.range n := by rw [hd]; simp
        exact List.mem_range.mp this
      have hdl : done.length < 24 := by
        have := congrArg List.length hd
        simp at this
        omega
      refine ⟨_, rfl, ?_⟩
      obtain ⟨e2, lot, g1, g2, g3, g4, g5⟩ := bfs_while (p := p1) (i := 5) (j := 7) (a := 6) (n := n) (s := x) (nb := nbP ps) (src := mRow (m2 ixD (dVar 2) (mIxO 5 (dVar 6)))) (e0 := ((env.set 4 (.pl (nI x))).set 5 (.ow (.lst [nI x]))).set 6 (.pl (.int 0))) (by decide) (by decide) (by decide) (by simp [hlen]) (by simp [hlen]) (by omega)
        (fun y z hy hz => (hin _ (mem_nbP.mp hz)).2)
        (fun env' lot k z F hi hk hz hzn => by
          have e2 : env'[2]? = some (.pl (.lst ((List.range n).map fun x => .lst ((nbP ps x).map nI)))) := by
            rw [F.at_ 2 (by decide)]
            rw [List.getElem?_set_ne (by decide), List.getElem?_set_ne (by decide), List.getElem?_set_ne (by decide)]
            exact h2
          refine run_row (pM2 (run_var e2) (run_ixO hi (run_var hk) (ix_nat rfl (by rw [List.getElem?_map, hz]; rfl))) (ix_nat rfl (by rw [List.getElem?_map, List.getElem?_range hzn]; rfl))) rfl)
        hxn (by rw [List.getElem?_set_ne (by decide), List.getElem?_set_self (by simp [hlen])]; rfl) (by rw [List.getElem?_set_self (by simp [hlen])]; rfl)
      have e3 : e2[3]? = some (.ow (.lst (done.map fun x => row n (Rt ps x)))) := by
        rw [g2.at_ 3 (by decide), List.getElem?_set_ne (by decide), List.getElem?_set_ne (by decide), List.getElem?_set_ne (by decide)]
        exact h3
      have e2l : e2.length = 9 := by rw [g2.len]; simp [hlen]
      have e22 : e2[2]? = some (.pl (.lst ((List.range n).map fun x => .lst ((nbP ps x).map nI)))) := by
        rw [g2.at_ 2 (by decide), List.getElem?_set_ne (by decide), List.getElem?_set_ne (by decide), List.getElem?_set_ne (by decide)]
        exact h2
      have hpar : dParO 5 6 (mLst (mCons (dVar 4) mNil)) (M.ret (.int 0)) (env.set 4 (.pl (nI x))) p1 = .nx (((env.set 4 (.pl (nI x))).set 5 (.ow (.lst [nI x]))).set 6 (.pl (.int 0))) p1 :=
        run_parO (run_lst (run_cons (run_var (List.getElem?_set_self (by rw [hlen]; decide))) rfl) (by show 1 ≤ sizeLine; decide)) rfl
      refine ⟨_, _, run_seq hpar (run_seq g1 (run_frz g3 (run_expr (run_append (p1 := p1) (d := row n (Rt ps x)) (by rw [List.getElem?_set_ne (by decide)]; exact e3) ?_ ?_)))), rfl, ?_, by simp [e2l], ?_⟩
      · refine pCB (pOne (pCB (pOne (run_var (List.getElem?_set_self (by rw [e2l]; decide)))) (sorted_sel (n := n) (P := Rt ps x) g4 fun y => ?_))) rfl
        rw [g5, rn_rt]
      · rw [List.length_map]; exact Nat.lt_trans hdl (by decide)
      · rw [List.getElem?_set_self (by simp [e2l]), List.map_append]; rfl
      · rw [List.getElem?_set_ne (by decide), List.getElem?_set_ne (by decide)]; exact e22)
  refine run_seq h1 (run_frz h2 (pRet (pCB (pOne (run_var (List.getElem?_set_self ?_))) rfl)))
  rw [h3.1]; decide
end CS
namespace CS
open PySem L2
open Classical
theorem fld_many {n : Nat} {r : Nat → Nat → Prop} : fldD ["Space"] "many" (spc n r) = .ok (nI n) := rfl
theorem fld_over {n : Nat} {r : Nat → Nat → Prop} : fldD ["Space"] "over" (spc n r) = .ok (.tup (rowsO n r)) := rfl
theorem fld_under {n : Nat} {r : Nat → Nat → Prop} : fldD ["Space"] "under" (spc n r) = .ok (.tup (rowsU n r)) := rfl
theorem rowsO_at {n x : Nat} {r : Nat → Nat → Prop} (h : x < n) : (rowsO n r)[x]? = some (row n (r x)) := by
  unfold rowsO
  rw [List.getElem?_map, List.getElem?_range h]; rfl
theorem rowsU_at {n y : Nat} {r : Nat → Nat → Prop} (h : y < n) : (rowsU n r)[y]? = some (row n fun x => r x y) := by
  unfold rowsU
  rw [List.getElem?_map, List.getElem?_range h]; rfl
def enP : Nat → List (Nat × Nat) → List (Nat × (Nat × Nat))
  | _, [] => []
  | k, q :: r => (k, q) :: enP (k + 1) r
def enD (z : Nat × (Nat × Nat)) : D := .tup [nI z.1, prD z.2]
theorem enP_eq : ∀ (k : Nat) (ps : List (Nat × Nat)), enumL k (ps.map prD) = (enP k ps).map enD
  | _, [] => rfl
  | k, q :: r => by
    show D.tup [D.int k, prD q] :: enumL (k + 1) (r.map prD) = _
    rw [enP_eq (k + 1) r]; rfl
theorem enP_mem : ∀ (k : Nat) (ps : List (Nat × Nat)) (z : Nat × (Nat × Nat)), z ∈ enP k ps → z.2 ∈ ps
  | _, [], z, h => by cases h
  | k, q :: r, z, h => by
    rcases List.mem_cons.mp h with rfl | h
    · exact List.mem_cons_self ..
    · exact List.mem_cons_of_mem _ (enP_mem _ r z h)
theorem run_fldS {env : Env'} {p p1 : Pn} {i : Nat} {cl : List Str} {f : Str} {m : M D} {d : D} {c : Str} {ns : List Str} {ds : List D} (h : m env p = .ok (d, env, p1)) (hi : env[i]? = some (.ow (.ins c ns ds))) (hc : c ∈ cl ∧ f ∉ ns ∧ ns.length < 1000 ∧ ds.length = ns.length) :
    dFldS i cl f m env p = .nx (env.set i (.ow (.ins c (ns ++ [f]) (ds ++ [d])))) p1 := by
  refine run_of h ?_
  have : getIW env i = .ok (c, ns, ds) := by unfold getIW; rw [hi]
  rw [this]
  dsimp only
  rw [if_pos hc]
theorem init_aux (n : Nat) (ps : List (Nat × Nat)) (X : D) (hX : X.row = .ok (ps.map prD)) (hrow : ∀ p, m_is_row [X] p = .ok (.bl true, p)) (hlist : listD [X] = .ok (.lst (ps.map prD))) (hn : n ≤ 24) (hin : In n ps) (hl : ps.length ≤ 100000) (p : Pn) : m_Space_init [nI n, X] p = .ok (spc n (Rt ps), p) := by
  have hb : ∃ env, b_Space_init [.ow (.ins "Space" [] []), .pl (nI n), .pl X, .un, .un, .un, .un] p = .nx env p ∧ env[0]? = some (.ow (spc n (Rt ps))) := by
    have c24 := le_nat n 24
    rw [decide_eq_true hn] at c24
    have c0 := le_nat 0 n
    rw [decide_eq_true (Nat.zero_le n)] at c0
    obtain ⟨e', p', h1, rfl, F⟩ := run_for (src := mEnum (dVar 2)) (b := bTup 2 (bCons (bNm 3) (bCons (bNm 4) bNil))) (body := dIf (mNot (mB (mCall m_is_pair_of [] (mCons (dVar 1) (mCons (dVar 4) mNil))))) (dBad) (dNext))
      (env := [.ow (.ins "Space" [] []), .pl (nI n), .pl X, .un, .un, .un, .un]) (p := p) enD (enP 0 ps) (fun _ env p1 => p1 = p ∧ Frm [3, 4] [.ow (.ins "Space" [] []), .pl (nI n), .pl X, .un, .un, .un, .un] env)
      (run_bind (a := X) (e1 := [.ow (.ins "Space" [] []), .pl (nI n), .pl X, .un, .un, .un, .un]) (p1 := p) rfl (run_res (by rw [hX]; show Res.ok _ = _; rw [enP_eq]))) ⟨rfl, Frm.refl⟩
      (fun done z rest env p1 hd ⟨hp, F⟩ => by
        subst hp
        have hz := hin z.2 (enP_mem 0 ps z (by rw [hd]; simp))
        have e1 : env[1]? = some (.pl (nI n)) := F.at_ 1 (by decide)
        have hlen : env.length = 7 := F.len
        refine ⟨(env.set 3 (.pl (nI z.1))).set 4 (.pl (prD z.2)), rfl, _, _, pIfF (pNot (b := true) (pB (pCall (pCons (run_var ?_) (pOne (run_var ?_))) (v_is_pair_of n z.2 hz p1)))) rfl, rfl, F.trans ((Frm.set (by simp)).trans (Frm.set (by simp)))⟩
        · rw [List.getElem?_set_ne (by decide), List.getElem?_set_ne (by decide)]; exact e1
        · exact List.getElem?_set_self (by simp [hlen]))
    have f0 : e'[0]? = some (.ow (.ins "Space" [] [])) := F.at_ 0 (by decide)
    have f1 : e'[1]? = some (.pl (nI n)) := F.at_ 1 (by decide)
    have f2 : e'[2]? = some (.pl X) := F.at_ 2 (by decide)
    have fl : e'.length = 7 := F.len
    refine ⟨_, run_seq (pIfF (pOrF (pNot (b := true) (pB (pCall rfl (v_is_integer _ _)))) (pNot (b := true) (pB (pChain rfl rfl c0 rfl c24)))) rfl) (run_seq (pIfF (pNot (b := true) (pB (pCall rfl (hrow _)))) rfl) (run_seq h1 (run_seq (run_fldS (run_var f1) f0 ⟨by decide, by decide, by decide, rfl⟩) (run_seq (run_fldS (d := .tup (rowsO n (Rt ps))) (pCall (pCons (run_var ?_) (pOne (pCB (pOne (run_var ?_)) hlist))) (v_led_on n ps hn hin hl _)) (List.getElem?_set_self (by rw [fl]; decide)) ⟨by decide, by decide, by decide, rfl⟩) (run_fldS (d := .tup (rowsU n (Rt ps))) (pCB (pOne (x := .lst (rowsU n (Rt ps))) ?_) rfl) (List.getElem?_set_self (by simp [fl])) ⟨by decide, by decide, by decide, rfl⟩))))), ?_⟩
    · rw [List.getElem?_set_ne (by decide)]; exact f1
    · rw [List.getElem?_set_ne (by decide)]; exact f2
    · -- under
      generalize hE : (e'.set 0 (Slot.ow (D.ins "Space" (([] : List Str) ++ (["many"] : List Str)) (([] : List D) ++ [nI n])))).set 0 (Slot.ow (D.ins "Space" ((([] : List Str) ++ (["many"] : List Str)) ++ (["over"] : List Str)) ((([] : List D) ++ [nI n]) ++ [D.tup (rowsO n (Rt ps))]))) = E
      have g0 : E[0]? = some (Slot.ow (D.ins "Space" ["many", "over"] [nI n, D.tup (rowsO n (Rt ps))])) := by rw [← hE]; exact List.getElem?_set_self (by simp [fl])
      have g1 : E[1]? = some (.pl (nI n)) := by rw [← hE, List.getElem?_set_ne (by decide), List.getElem?_set_ne (by decide)]; exact f1
      have gl : E.length = 7 := by rw [← hE]; simp [fl]
      have := run_comp (src := mRange1 (dVar 1)) (vs := [5]) (b := bNm 5) (t := mYes) (e := mCB tupleD (mCons (mComp (mRange1 (dVar 1)) [6] (bNm 6) ((mB (m2 inD (dVar 5) (m2 ixD (mFldO 0 ["Space"] "over") (dVar 6))))) (dVar 6)) mNil)) nI (fun _ => true) (fun y => row n fun x => Rt ps x y) (List.range n) (env := E) (p := p') (run_range (run_var g1) (by omega)) (fun y hy => ⟨_, rfl, _, rfl, fun _ => by
        generalize hE2 : (wipeE (E.map Slot.rd) [5]).set 5 (.pl (nI y)) = E2
        have k0 : E2[0]? = some (Slot.ro (D.ins "Space" ["many", "over"] [nI n, D.tup (rowsO n (Rt ps))])) := by
          rw [← hE2, List.getElem?_set_ne (by decide)]
          show ((wipeE (E.map Slot.rd) []).set 5 .un)[0]? = _
          rw [List.getElem?_set_ne (by decide)]
          show (E.map Slot.rd)[0]? = _
          rw [List.getElem?_map, g0]; rfl
        have k1 : E2[1]? = some (.pl (nI n)) := by
          rw [← hE2, List.getElem?_set_ne (by decide)]
          show ((wipeE (E.map Slot.rd) []).set 5 .un)[1]? = _
          rw [List.getElem?_set_ne (by decide)]
          show (E.map Slot.rd)[1]? = _
          rw [List.getElem?_map, g1]; rfl
        have kl : E2.length = 7 := by rw [← hE2, List.length_set, wipeE_length, List.length_map, gl]
        have k5 : E2[5]? = some (.pl (nI y)) := by
          rw [← hE2]; exact List.getElem?_set_self (by rw [wipeE_length, List.length_map, gl]; decide)
        refine ⟨_, pCB (pOne (x := .lst ((sel n fun x => Rt ps x y).map nI)) ?_) rfl⟩
        have h2 := run_comp (src := mRange1 (dVar 1)) (vs := [6]) (b := bNm 6) (t := mB (m2 inD (dVar 5) (m2 ixD (mFldO 0 ["Space"] "over") (dVar 6)))) (e := dVar 6) nI (fun x => decide (Rt ps x y)) nI (List.range n) (env := E2) (p := p') (run_range (run_var k1) (by omega)) (fun x hx => by
          have hxn := List.mem_range.mp hx
          have hyn := List.mem_range.mp hy
          generalize hE3 : (wipeE (E2.map Slot.rd) [6]).set 6 (.pl (nI x)) = E3
          have m0 : E3[0]? = some (Slot.ro (D.ins "Space" ["many", "over"] [nI n, D.tup (rowsO n (Rt ps))])) := by
            rw [← hE3, List.getElem?_set_ne (by decide)]
            show ((wipeE (E2.map Slot.rd) []).set 6 .un)[0]? = _
            rw [List.getElem?_set_ne (by decide)]
            show (E2.map Slot.rd)[0]? = _
            rw [List.getElem?_map, k0]; rfl
          have m5 : E3[5]? = some (.pl (nI y)) := by
            rw [← hE3, List.getElem?_set_ne (by decide)]
            show ((wipeE (E2.map Slot.rd) []).set 6 .un)[5]? = _
            rw [List.getElem?_set_ne (by decide)]
            show (E2.map Slot.rd)[5]? = _
            rw [List.getElem?_map, k5]; rfl
          have m6 : E3[6]? = some (.pl (nI x)) := by
            rw [← hE3]; exact List.getElem?_set_self (by rw [wipeE_length, List.length_map, kl]; decide)
          have hf : mFldO 0 ["Space"] "over" E3 p' = .ok (D.tup (rowsO n (Rt ps)), E3, p') := by
            unfold mFldO getI
            rw [m0]
            rfl
          refine ⟨_, by rw [← hE3]; rfl, E3, pB (pM2 (run_var m5) (pM2 hf (run_var m6) (ix_nat rfl (rowsO_at hxn))) ?_), fun _ => ⟨_, run_var m6⟩⟩
          rw [in_nums (l := sel n (Rt ps x)) rfl]
          congr 2
          exact decide_eq_decide.mpr (by rw [mem_sel]; exact ⟨fun h => h.2, fun h => ⟨hyn, h⟩⟩)) (by rw [List.length_range]; exact Nat.le_trans hn (by decide))
        exact h2⟩) (by rw [List.length_range]; exact Nat.le_trans hn (by decide))
      rw [List.filter_eq_self.mpr (fun _ _ => rfl)] at this
      exact this
    · rw [List.getElem?_set_self (by simp [fl])]
      rfl
  obtain ⟨env, h1, h2⟩ := hb
  show (if [nI n, X].length = 2 then (match b_Space_init [.ow (.ins "Space" [] []), .pl (nI n), .pl X, .un, .un, .un, .un] p with
    | .nx env p' => (ownIns env).bind fun d => .ok (d, p')
    | .exc c xs => .exc c xs
    | _ => .bad) else .bad) = _
  rw [if_pos (show ([nI n, X] : List D).length = 2 from rfl), h1]
  dsimp only
  unfold ownIns
  rw [h2]
  rfl
theorem v_Space (n : Nat) (ps : List (Nat × Nat)) (hn : n ≤ 24) (hin : In n ps) (hl : ps.length ≤ 100000) (p : Pn) : m_Space_init [nI n, .lst (ps.map prD)] p = .ok (spc n (Rt ps), p) :=
  init_aux n ps _ rfl (v_is_rowL _) rfl hn hin hl p
theorem v_SpaceT (n : Nat) (ps : List (Nat × Nat)) (hn : n ≤ 24) (hin : In n ps) (hl : ps.length ≤ 100000) (p : Pn) : m_Space_init [nI n, .tup (ps.map prD)] p = .ok (spc n (Rt ps), p) :=
  init_aux n ps _ rfl (v_is_rowT _) rfl hn hin hl p
end CS
namespace CS
open PySem L2
open Classical
theorem toBls_mapF {α : Type} (f : α → Bool) : ∀ l : List α, toBls (l.map fun a => D.bl (f a)) = .ok (l.map f)
  | [] => rfl
  | a :: l => by
    have ih := toBls_mapF f l
    rw [List.map_cons]
    unfold toBls
    show Res.bind (toBls (l.map fun a => D.bl (f a))) _ = _
    rw [ih]
    rfl
theorem any_map {α : Type} (f : α → Bool) (l : List α) : anyD [.lst (l.map fun a => D.bl (f a))] = .ok (.bl (l.any f)) := by
  unfold anyD
  dsimp only
  rw [toBls_mapF]
  show Res.ok (D.bl ((l.map f).any id)) = _
  rw [List.any_map]
  rfl
theorem filter_true {α : Type} (l : List α) : l.filter (fun _ => true) = l := List.filter_eq_self.mpr fun _ _ => rfl
section
variable {n : Nat} {r : Nat → Nat → Prop} {p : Pn}
theorem v_need_space : m_need_space [spc n r] p = .ok (.non, p) := run_fnN rfl (pIfF (pNot (b := true) (pB rfl)) rfl)
theorem prs_map : ((List.range n).flatMap fun x => ((sel n (r x)).filter fun y => decide (y ≠ x)).map fun y => prD (x, y)) = (prs n r).map prD := by
  unfold prs
  rw [List.map_flatMap]
  congr 1
  funext x
  rw [List.map_map]
  have : (sel n (r x)).filter (fun y => decide (y ≠ x)) = sel n fun y => r x y ∧ y ≠ x := by
    unfold sel
    rw [List.filter_filter]
    refine List.filter_congr fun y _ => ?_
    by_cases h1 : r x y <;> by_cases h2 : y = x <;> simp [h1, h2]
  rw [this]
  rfl
theorem v_all_pairs (hn : n ≤ 24) : m_all_pairs [spc n r] p = .ok (.lst ((prs n r).map prD), p) := by
  refine run_fn rfl (pRet ?_)
  have := run_comp2 (src := mRange1 (m1 (fldD ["Space"] "many") (dVar 0))) (vs := [1, 2]) (b := bNm 1) (t := mYes) (src1 := mRow (m2 ixD (m1 (fldD ["Space"] "over") (dVar 0)) (dVar 1))) (vs1 := [2]) (b1 := bNm 2) (t1 := mB (m2 neD (dVar 2) (dVar 1))) (e := mTup (mCons (dVar 1) (mCons (dVar 2) mNil)))
    nI (fun x => sel n (r x)) (fun _ y => nI y) (fun x y => decide (y ≠ x)) (fun x y => prD (x, y)) (List.range n) (env := [.pl (spc n r), .un, .un]) (p := p) (run_range (run_m1 rfl fld_many) (by omega))
    (fun x hx => ⟨_, rfl, _, rfl, _, run_row (pM2 (run_m1 rfl fld_over) rfl (ix_nat rfl (rowsO_at (List.mem_range.mp hx)))) rfl, fun y hy => ⟨_, rfl, _, pB (pM2 rfl rfl (ne_nat y x)), fun _ => ⟨_, run_tup rfl (by show 2 ≤ sizeLine; decide)⟩⟩⟩)
    (by rw [prs_map, List.length_map]; exact Nat.le_trans (prs_len n r) (Nat.le_trans (Nat.mul_le_mul hn hn) (by decide)))
  rw [prs_map] at this
  exact this
theorem v_parts_points (hn : n ≤ 24) (P : Po n r) : m_parts_points [spc n r] p = .ok (.bl true, p) := by
  refine run_fn rfl (pRet (pNotV (b := false) (pCB (xs := [.lst ((prs n r).map fun q => D.bl (decide (r q.2 q.1)))]) (pOne ?_) ?_)))
  · have := run_comp (src := mRow (mCall m_all_pairs [] (mCons (dVar 0) mNil))) (vs := [1, 2]) (b := bTup 2 (bCons (bNm 1) (bCons (bNm 2) bNil))) (t := mYes) (e := m2 inD (dVar 1) (m2 ixD (m1 (fldD ["Space"] "over") (dVar 0)) (dVar 2))) prD (fun _ => true) (fun q => D.bl (decide (r q.2 q.1))) (prs n r) (env := [.pl (spc n r), .un, .un]) (p := p) (run_row (pCall rfl (v_all_pairs hn)) rfl)
      (fun q hq => by
        obtain ⟨h1, h2, h3, h4⟩ := mem_prs.mp hq
        refine ⟨_, rfl, _, rfl, fun _ => ⟨_, pM2 rfl (pM2 (run_m1 rfl fld_over) rfl (ix_nat rfl (rowsO_at h2))) ?_⟩⟩
        have := in_nums (a := q.1) (y := row n (r q.2)) (l := sel n (r q.2)) rfl
        rw [show decide (q.1 ∈ sel n (r q.2)) = decide (r q.2 q.1) from decide_eq_decide.mpr (by rw [mem_sel]; exact ⟨fun h => h.2, fun h => ⟨h1, h⟩⟩)] at this
        exact this) (Nat.le_trans (prs_len n r) (Nat.le_trans (Nat.mul_le_mul hn hn) (by decide)))
    rw [filter_true] at this
    exact this
  · rw [any_map]
    congr 2
    rw [List.any_eq_false]
    intro q hq
    obtain ⟨h1, h2, h3, h4⟩ := mem_prs.mp hq
    rw [decide_eq_true_eq]
    exact fun h => h4 (P.anti _ _ h2 h1 h h3)
theorem v_need_parted (hn : n ≤ 24) (P : Po n r) : m_need_parted [spc n r] p = .ok (.non, p) :=
  run_fnN rfl (run_seq (pExpr (pCall rfl v_need_space)) (pIfF (pNot (b := true) (pB (pCall rfl (v_parts_points hn P)))) rfl))
/-- nothing stands between x and y -/
def Cov (n : Nat) (r : Nat → Nat → Prop) (x y : Nat) : Prop := ∀ z, z < n → r x z → r z y → z = x ∨ z = y
theorem v_is_cover {x y : Nat} (hn : n ≤ 24) (hx : x < n) (hy : y < n) : m_is_cover [spc n r, nI x, nI y] p = .ok (.bl (decide (Cov n r x y)), p) := by
  have e : decide (Cov n r x y) = !((sel n (r x)).any fun z => decide (z ≠ x) && (decide (z ≠ y) && decide (r z y))) := by
    by_cases h : Cov n r x y
    · rw [decide_eq_true h, eq_comm, Bool.not_eq_true', List.any_eq_false]
      intro z hz
      obtain ⟨h1, h2⟩ := mem_sel.mp hz
      simp only [Bool.and_eq_true, decide_eq_true_eq]
      rintro ⟨a, b, c⟩
      rcases h z h1 h2 c with e | e
      · exact a e
      · exact b e
    · rw [decide_eq_false h, eq_comm, Bool.not_eq_false', List.any_eq_true]
      apply Classical.byContradiction
      intro q
      refine h fun z h1 h2 h3 => ?_
      apply Classical.byContradiction
      intro q2
      refine q ⟨z, mem_sel.mpr ⟨h1, h2⟩, ?_⟩
      simp only [Bool.and_eq_true, decide_eq_true_eq]
      exact ⟨fun e => q2 (.inl e), fun e => q2 (.inr e), h3⟩
  rw [e]
  refine run_fn rfl (pRet (pNotV (pCB (xs := [.lst ((sel n (r x)).map fun z => D.bl (decide (z ≠ x) && (decide (z ≠ y) && decide (r z y))))]) (pOne ?_) (any_map _ _))))
  have := run_comp (src := mRow (m2 ixD (m1 (fldD ["Space"] "over") (dVar 0)) (dVar 1))) (vs := [3]) (b := bNm 3) (t := mYes) (e := mAndV (m2 neD (dVar 3) (dVar 1)) (mAndV (m2 neD (dVar 3) (dVar 2)) (m2 inD (dVar 3) (m2 ixD (m1 (fldD ["Space"] "under") (dVar 0)) (dVar 2))))) nI (fun _ => true) (fun z => D.bl (decide (z ≠ x) && (decide (z ≠ y) && decide (r z y)))) (sel n (r x)) (env := [.pl (spc n r), .pl (nI x), .pl (nI y), .un]) (p := p) (run_row (pM2 (run_m1 rfl fld_over) rfl (ix_nat rfl (rowsO_at hx))) rfl)
    (fun z hz => ⟨_, rfl, _, rfl, fun _ => ⟨_, pAndB (pM2 rfl rfl (ne_nat z x)) fun _ => pAndB (pM2 rfl rfl (ne_nat z y)) fun _ => pM2 rfl (pM2 (run_m1 rfl fld_under) rfl (ix_nat rfl (rowsU_at hy))) (by
      have hz1 := (mem_sel.mp hz).1
      have := in_nums (a := z) (y := row n fun x => r x y) (l := sel n fun x => r x y) rfl
      rw [show decide (z ∈ sel n fun x => r x y) = decide (r z y) from decide_eq_decide.mpr (by rw [mem_sel]; exact ⟨fun h => h.2, fun h => ⟨hz1, h⟩⟩)] at this
      exact this)⟩⟩) (Nat.le_trans (sel_length _ _) (Nat.le_trans hn (by decide)))
  rw [filter_true] at this
  exact this
noncomputable def covs (n : Nat) (r : Nat → Nat → Prop) : List (Nat × Nat) := (prs n r).filter fun q => decide (Cov n r q.1 q.2)
theorem sq_le (hn : n ≤ 24) : (prs n r).length ≤ sizeLine := Nat.le_trans (prs_len n r) (Nat.le_trans (Nat.mul_le_mul hn hn) (by decide))
theorem sq_le' (hn : n ≤ 24) : (prs n r).length ≤ 576 := Nat.le_trans (prs_len n r) (Nat.mul_le_mul hn hn)
theorem v_all_covers (hn : n ≤ 24) : m_all_covers [spc n r] p = .ok (.lst ((covs n r).map prD), p) := by
  refine run_fn rfl (pRet ?_)
  exact run_comp (src := mRow (mCall m_all_pairs [] (mCons (dVar 0) mNil))) (vs := [1, 2]) (b := bTup 2 (bCons (bNm 1) (bCons (bNm 2) bNil))) (t := mB (mCall m_is_cover [] (mCons (dVar 0) (mCons (dVar 1) (mCons (dVar 2) mNil))))) (e := mTup (mCons (dVar 1) (mCons (dVar 2) mNil))) prD (fun q => decide (Cov n r q.1 q.2)) prD (prs n r) (env := [.pl (spc n r), .un, .un]) (p := p) (run_row (pCall rfl (v_all_pairs hn)) rfl)
    (fun q hq => ⟨_, rfl, _, pB (pCall rfl (v_is_cover hn (mem_prs.mp hq).1 (mem_prs.mp hq).2.1)), fun _ => ⟨_, run_tup rfl (by show 2 ≤ sizeLine; decide)⟩⟩) (sq_le hn)
theorem v_covers (hn : n ≤ 24) (P : Po n r) : m_covers [spc n r] p = .ok (.tup ((covs n r).map prD), p) :=
  run_fn rfl (run_seq (pExpr (pCall rfl (v_need_parted hn P))) (pRet (pCB (pOne (pCall rfl (v_all_covers hn))) rfl)))
theorem rowsO_inj {s : Nat → Nat → Prop} : rowsO n r = rowsO n s ↔ ∀ x y, x < n → y < n → (r x y ↔ s x y) := by
  constructor
  · intro h x y hx hy
    have h1 := rowsO_at (n := n) (r := r) hx
    rw [h, rowsO_at hx] at h1
    have h2 : row n (s x) = row n (r x) := Option.some.inj h1
    unfold row at h2
    injection h2 with h2
    have h3 := map_nI_inj.mp h2
    have a := mem_sel (n := n) (P := r x) (y := y)
    have b := mem_sel (n := n) (P := s x) (y := y)
    rw [h3] at b
    exact ⟨fun h => (b.mp (a.mpr ⟨hy, h⟩)).2, fun h => (a.mp (b.mpr ⟨hy, h⟩)).2⟩
  · exact fun h => rowsO_congr h
def SameR (n : Nat) (r s : Nat → Nat → Prop) : Prop := ∀ x y, x < n → y < n → (r x y ↔ s x y)
theorem v_Space_eq {s : Nat → Nat → Prop} : m_Space_eq [spc n r, spc n s] p = .ok (.bl (decide (SameR n r s)), p) := by
  refine run_fn rfl (pRet (pAndT rfl ?_))
  have hp : ∀ t : Nat → Nat → Prop, (D.tup [nI n, .tup (rowsO n t)]).pl 9 = true := fun t => pl_mono (n := 3) (pl_tup (n := 2) fun d hd => by
    rcases List.mem_cons.mp hd with rfl | hd
    · rfl
    · rcases List.mem_cons.mp hd with rfl | hd
      · exact pl_tup (n := 1) (pl_rowsO n t)
      · cases hd) 9 (by decide)
  refine pM2 (run_tup (run_cons (run_m1 rfl fld_many) (run_cons (run_m1 rfl fld_over) rfl)) (by show 2 ≤ sizeLine; decide)) (run_tup (run_cons (run_m1 rfl fld_many) (run_cons (run_m1 rfl fld_over) rfl)) (by show 2 ≤ sizeLine; decide)) ?_
  rw [eqD_pl (hp r) (hp s)]
  congr 2
  refine decide_eq_decide.mpr ?_
  unfold SameR
  rw [← rowsO_inj]
  constructor
  · intro h
    injection h with h
    injection h with h1 h2
    injection h2 with h2 h3
    injection h2
  · intro h
    rw [h]
def swp (q : Nat × Nat) : Nat × Nat := (q.2, q.1)
def flp (r : Nat → Nat → Prop) : Nat → Nat → Prop := fun x y => r y x
theorem Qo.flp (Q : Qo n r) : Qo n (flp r) := ⟨Q.refl, fun x y z hx hy hz h1 h2 => Q.trans z y x hz hy hx h2 h1⟩
theorem Po.flp (P : Po n r) : Po n (flp r) := ⟨P.refl, fun x y z hx hy hz h1 h2 => P.trans z y x hz hy hx h2 h1, fun x y hx hy a b => P.anti x y hx hy b a⟩
theorem Po.qo (P : Po n r) : Qo n r := ⟨P.refl, P.trans⟩
theorem rt_swap {ps : List (Nat × Nat)} {x y : Nat} : Rt (ps.map swp) x y ↔ Rt ps y x := by
  constructor
  · intro h
    induction h with
    | refl => exact .refl _
    | tail _ h2 ih =>
      obtain ⟨q, hq, e⟩ := List.mem_map.mp h2
      unfold swp at e
      injection e with e1 e2
      exact Rt.head (by rw [← e1, ← e2]; exact hq) ih
  · intro h
    induction h with
    | refl => exact .refl _
    | tail _ h2 ih => exact Rt.head (List.mem_map.mpr ⟨_, h2, rfl⟩) ih
theorem v_contrary (hn : n ≤ 24) (Q : Qo n r) : m_contrary [spc n r] p = .ok (spc n (flp r), p) := by
  have hin : In n ((prs n r).map swp) := fun q hq => by
    obtain ⟨z, hz, rfl⟩ := List.mem_map.mp hq
    obtain ⟨h1, h2, _⟩ := mem_prs.mp hz
    exact ⟨h2, h1⟩
  have e : spc n (Rt ((prs n r).map swp)) = spc n (flp r) := spc_congr fun x y hx hy => by
    rw [rt_swap]
    exact rt_prs Q hy hx
  refine run_fn rfl (run_seq (pExpr (pCall rfl v_need_space)) (pRet (pCall (pCons (run_m1 rfl fld_many) (pOne ?_)) ((v_Space n ((prs n r).map swp) hn hin (by rw [List.length_map]; have := sq_le' (r := r) hn; omega) p).trans (by rw [e])))))
  have := run_comp (src := mRow (mCall m_all_pairs [] (mCons (dVar 0) mNil))) (vs := [1, 2]) (b := bTup 2 (bCons (bNm 1) (bCons (bNm 2) bNil))) (t := mYes) (e := mTup (mCons (dVar 2) (mCons (dVar 1) mNil))) prD (fun _ => true) (fun q => prD (swp q)) (prs n r) (env := [.pl (spc n r), .un, .un]) (p := p) (run_row (pCall rfl (v_all_pairs hn)) rfl)
    (fun q hq => ⟨_, rfl, _, rfl, fun _ => ⟨_, run_tup rfl (by show 2 ≤ sizeLine; decide)⟩⟩) (sq_le hn)
  rw [filter_true] at this
  rw [List.map_map]
  exact this
end
end CS
namespace CS
open PySem L2
open Classical
/-! ## heights -/
def rlx (f : Nat → Nat) (q : Nat × Nat) : Nat → Nat := fun z => if z = q.2 then max (f q.2) (f q.1 + 1) else f z
def lapF (ps : List (Nat × Nat)) (f : Nat → Nat) : Nat → Nat := ps.foldl rlx f
def lapsF (ps : List (Nat × Nat)) : Nat → (Nat → Nat) → Nat → Nat
  | 0, f => f
  | k + 1, f => lapF ps (lapsF ps k f)
noncomputable def ht (n : Nat) (r : Nat → Nat → Prop) : Nat → Nat := lapsF (prs n r) n fun _ => 0
inductive Chn (ps : List (Nat × Nat)) : Nat → Nat → Prop
  | zero (y : Nat) : Chn ps y 0
  | succ {x y k : Nat} : Chn ps x k → (x, y) ∈ ps → Chn ps y (k + 1)
theorem rlx_le (f : Nat → Nat) (q : Nat × Nat) (z : Nat) : f z ≤ rlx f q z := by
  unfold rlx
  split
  · rename_i e; subst e; exact Nat.le_max_left ..
  · exact Nat.le_refl _
theorem lapF_le : ∀ (ps : List (Nat × Nat)) (f : Nat → Nat) (z : Nat), f z ≤ lapF ps f z
  | [], f, z => Nat.le_refl _
  | q :: ps, f, z => Nat.le_trans (rlx_le f q z) (lapF_le ps (rlx f q) z)
theorem lapF_chn {qs : List (Nat × Nat)} : ∀ (ps : List (Nat × Nat)) (f : Nat → Nat), (∀ q ∈ ps, q ∈ qs) → (∀ z, Chn qs z (f z)) → ∀ z, Chn qs z (lapF ps f z)
  | [], f, _, h, z => h z
  | q :: ps, f, hq, h, z => by
    refine lapF_chn ps (rlx f q) (fun x hx => hq x (List.mem_cons_of_mem _ hx)) (fun y => ?_) z
    unfold rlx
    split
    · rename_i e
      subst e
      rcases Nat.le_total (f q.1 + 1) (f q.2) with h1 | h1
      · rw [Nat.max_eq_left h1]; exact h _
      · rw [Nat.max_eq_right h1]; exact .succ (h q.1) (hq q (List.mem_cons_self ..))
    · exact h y
theorem lapF_get : ∀ (ps : List (Nat × Nat)) (f : Nat → Nat) (x y : Nat), (x, y) ∈ ps → f x + 1 ≤ lapF ps f y
  | q :: ps, f, x, y, h => by
    rcases List.mem_cons.mp h with e | h
    · subst e
      refine Nat.le_trans ?_ (lapF_le ps (rlx f (x, y)) y)
      unfold rlx
      rw [if_pos rfl]
      exact Nat.le_max_right ..
    · refine Nat.le_trans ?_ (lapF_get ps (rlx f q) x y h)
      have := rlx_le f q x
      omega
theorem lapsF_chn (ps : List (Nat × Nat)) : ∀ (k : Nat) (z : Nat), Chn ps z (lapsF ps k (fun _ => 0) z)
  | 0, z => .zero z
  | k + 1, z => lapF_chn ps _ (fun _ h => h) (fun z => lapsF_chn ps k z) z
theorem lapsF_ge (ps : List (Nat × Nat)) : ∀ (k : Nat) (z m : Nat), Chn ps z m → m ≤ k → m ≤ lapsF ps k (fun _ => 0) z
  | 0, z, m, _, h => by omega
  | k + 1, z, m, c, h => by
    cases c with
    | zero => omega
    | @succ x _ j c1 c2 =>
      have := lapsF_ge ps k x j c1 (by omega)
      have h2 := lapF_get ps (lapsF ps k fun _ => 0) x z c2
      show j + 1 ≤ lapF ps (lapsF ps k fun _ => 0) z
      omega
section
variable {n : Nat} {r : Nat → Nat → Prop}
theorem chn_list (P : Po n r) {y m : Nat} (hy : y < n) (c : Chn (prs n r) y m) : ∃ l : List Nat, l.length = m + 1 ∧ l.Nodup ∧ ∀ z ∈ l, z < n ∧ r z y := by
  induction c with
  | zero y => exact ⟨[y], rfl, by simp, fun z hz => by rw [List.mem_singleton] at hz; subst hz; exact ⟨hy, P.refl _ hy⟩⟩
  | @succ x y k c1 c2 ih =>
    obtain ⟨hx, _, h3, h4⟩ : x < n ∧ _ < n ∧ r x _ ∧ _ ≠ x := mem_prs.mp c2
    obtain ⟨l, l1, l2, l3⟩ := ih hx
    refine ⟨y :: l, by simp [l1], List.nodup_cons.mpr ⟨fun h => ?_, l2⟩, fun z hz => ?_⟩
    · exact h4 (P.anti _ _ hy hx (l3 y h).2 h3)
    · rcases List.mem_cons.mp hz with rfl | hz
      · exact ⟨hy, P.refl _ hy⟩
      · obtain ⟨a, b⟩ := l3 z hz
        exact ⟨a, P.trans _ _ _ a hx hy b h3⟩
theorem chn_lt (P : Po n r) {y m : Nat} (hy : y < n) (c : Chn (prs n r) y m) : m < n := by
  obtain ⟨l, l1, l2, l3⟩ := chn_list P hy c
  have := nodup_len l2 fun z hz => (l3 z hz).1
  omega
theorem ht_max (P : Po n r) {y m : Nat} (hy : y < n) (c : Chn (prs n r) y m) : m ≤ ht n r y := lapsF_ge _ n y m c (Nat.le_of_lt (chn_lt P hy c))
theorem ht_chn (y : Nat) : Chn (prs n r) y (ht n r y) := lapsF_chn _ n y
theorem ht_up (P : Po n r) {x y : Nat} (hx : x < n) (hy : y < n) (h : r x y) (hne : y ≠ x) : ht n r x + 1 ≤ ht n r y := ht_max P hy (.succ (ht_chn x) (mem_prs.mpr ⟨hx, hy, h, hne⟩))
theorem ht_down (P : Po n r) {y : Nat} (hy : y < n) : ht n r y = 0 ∨ ∃ x, x < n ∧ r x y ∧ y ≠ x ∧ ht n r y = ht n r x + 1 := by
  have c := ht_chn (n := n) (r := r) y
  generalize e : ht n r y = k at c
  cases c with
  | zero => exact .inl rfl
  | @succ x _ j c1 c2 =>
    obtain ⟨hx, _, h3, h4⟩ : x < n ∧ _ < n ∧ r x _ ∧ _ ≠ x := mem_prs.mp c2
    have h5 := ht_max P hx c1
    have h6 := ht_up P hx hy h3 h4
    exact .inr ⟨x, hx, h3, h4, by omega⟩
/-- what tells the heights -/
theorem ht_eq (P : Po n r) {g : Nat → Nat} (up : ∀ x y, x < n → y < n → r x y → y ≠ x → g x + 1 ≤ g y) (down : ∀ y, y < n → g y = 0 ∨ ∃ x, x < n ∧ r x y ∧ y ≠ x ∧ g y = g x + 1) {y : Nat} (hy : y < n) : ht n r y = g y := by
  have h1 : ∀ z m, z < n → Chn (prs n r) z m → m ≤ g z := fun z m hz c => by
    induction c with
    | zero => omega
    | @succ x y k c1 c2 ih =>
      obtain ⟨hx, _, h3, h4⟩ : x < n ∧ _ < n ∧ r x _ ∧ _ ≠ x := mem_prs.mp c2
      have := ih hx
      have := up _ _ hx hz h3 h4
      omega
  have h2 : ∀ k z, z < n → g z = k → Chn (prs n r) z k := by
    intro k
    induction k with
    | zero => exact fun z _ _ => .zero z
    | succ k ih =>
      intro z hz hk
      rcases down z hz with h | ⟨x, hx, h3, h4, h5⟩
      · omega
      · exact .succ (ih x hx (by omega)) (mem_prs.mpr ⟨hx, hz, h3, h4⟩)
  have a := h1 y _ hy (ht_chn y)
  have b := ht_max P hy (h2 _ y hy rfl)
  omega
/-! the mirror -/
def hts (n : Nat) (f : Nat → Nat) : List D := (List.range n).map fun i => nI (f i)
theorem hts_at {f : Nat → Nat} {x : Nat} (h : x < n) : (hts n f)[x]? = some (nI (f x)) := by
  unfold hts
  rw [List.getElem?_map, List.getElem?_range h]; rfl
theorem hts_len {f : Nat → Nat} : (hts n f).length = n := by simp [hts]
theorem hts_set {f : Nat → Nat} {q : Nat × Nat} : (hts n f).set q.2 (nI (max (f q.2) (f q.1 + 1))) = hts n (rlx f q) := by
  apply List.ext_getElem?
  intro i
  rw [List.getElem?_set]
  by_cases hi : i < n
  · have hR : (hts n (rlx f q))[i]? = some (nI (rlx f q i)) := hts_at hi
    rw [hR]
    unfold rlx
    by_cases e : q.2 = i
    · subst e
      rw [if_pos rfl, hts_len, if_pos hi, if_pos rfl]
    · rw [if_neg e, hts_at hi, if_neg (fun z => e z.symm)]
  · have h1 : (hts n f)[i]? = none := List.getElem?_eq_none (by rw [hts_len]; omega)
    have h2 : (hts n (rlx f q))[i]? = none := List.getElem?_eq_none (by rw [hts_len]; omega)
    rw [h1, h2]
    split
    · rw [hts_len]; split
      · omega
      · rfl
    · rfl
theorem max_nat (a b : Nat) : max2D [nI a, nI b] = .ok (nI (max a b)) := by
  show Res.ok (D.int (if (b : Int) > (a : Int) then (b : Int) else (a : Int))) = _
  unfold nI
  congr 2
  split <;> omega
theorem putAt_nat {ds : List D} {k : Nat} {d : D} (h : k < ds.length) : putAt ds (nI k) d = .ok (ds.set k d) := by
  have e : ixN ds.length (k : Int) = some k := by
    unfold ixN
    rw [if_pos (by omega), if_pos (by omega), Int.toNat_natCast]
  show (match ixN ds.length (k : Int) with
    | some n => Res.ok (ds.set n d)
    | none => .bad) = _
  rw [e]
theorem run_setItem {env : Env'} {p p1 : Pn} {i : Nat} {m k : M D} {d j : D} {ds ds' : List D} (hm : m env p = .ok (d, env, p1)) (hi : env[i]? = some (.ow (.lst ds))) (hk : k env p1 = .ok (j, env, p1)) (h : putAt ds j d = .ok ds') : dSetItem i m k env p = .nx (env.set i (.ow (.lst ds'))) p1 := by
  refine run_of (a := ()) (e1 := env.set i (.ow (.lst ds'))) (p1 := p1) ?_ rfl
  refine run_bind hm (run_bind (run_chk hi) (run_bind hk (run_bind (a := ds) (e1 := env) (p1 := p1) ?_ (run_bind (run_res h) rfl))))
  unfold mGetW; rw [getW_ow hi]; rfl
theorem mulL_gen {ds : List D} {k A B : Int} (h1 : k < A) (h2 : B ≤ k) : (if k < A ∧ B ≤ k then mkL (List.replicate k.toNat ds).flatten else .bad) = mkL (List.replicate k.toNat ds).flatten := if_pos ⟨h1, h2⟩
theorem lt63 {n : Nat} (hn : n ≤ 24) : (n : Int) < 2 ^ 63 := by omega
theorem ge63 {n : Nat} : -(2 ^ 63) ≤ (n : Int) := by omega
theorem mulL_nat (hn : n ≤ 24) : mulL (.lst [nI 0]) (nI n) = .ok (.lst (hts n fun _ => 0)) := by
  have h0 : mulL (.lst [nI 0]) (nI n) = mkL (List.replicate ((n : Int).toNat) [nI 0]).flatten := by
    show mulL (.lst [nI 0]) (.int n) = _
    unfold mulL
    dsimp only
    exact mulL_gen (lt63 hn) ge63
  have h1 : (List.replicate n [nI 0]).flatten = hts n fun _ => 0 := by
    unfold hts
    rw [List.flatten_replicate_singleton, List.map_const', List.length_range]
  rw [h0, Int.toNat_natCast, h1]
  unfold mkL
  rw [if_pos (by rw [hts_len]; exact Nat.le_trans hn (by decide))]
theorem v_all_heights {p : Pn} (hn : n ≤ 24) : m_all_heights [spc n r] p = .ok (.tup (hts n (ht n r)), p) := by
  refine run_fn rfl (run_seq (pSetO (run_m2 (run_lst rfl (by show 1 ≤ sizeLine; decide)) (run_m1 rfl fld_many) (mulL_nat hn))) ?_)
  obtain ⟨e', p', h1, rfl, h2, F⟩ := run_for (src := mRange1 (m1 (fldD ["Space"] "many") (dVar 0))) (b := bNm 2) (body := dFor (mRow (mCall m_all_pairs [] (mCons (dVar 0) mNil))) (bTup 2 (bCons (bNm 3) (bCons (bNm 4) bNil))) (dSetItem 1 (mCB max2D (mCons (mIxO 1 (dVar 4)) (mCons (m2 addD (mIxO 1 (dVar 3)) (M.ret (.int 1))) mNil))) (dVar 4)))
    (env := [.pl (spc n r), .ow (.lst (hts n fun _ => 0)), .un, .un, .un]) (p := p) nI (List.range n) (fun done env p1 => p1 = p ∧ env[1]? = some (.ow (.lst (hts n (lapsF (prs n r) done.length fun _ => 0)))) ∧ Frm [1, 2, 3, 4] [.pl (spc n r), .ow (.lst (hts n fun _ => 0)), .un, .un, .un] env)
    (run_range (run_m1 rfl fld_many) (by omega)) ⟨rfl, rfl, Frm.refl⟩ (fun done k rest env p1 _ ⟨hp, h2, F⟩ => by
      subst hp
      have f0 : (env.set 2 (.pl (nI k)))[0]? = some (.pl (spc n r)) := by rw [List.getElem?_set_ne (by decide)]; exact F.at_ 0 (by decide)
      have fl : env.length = 5 := F.len
      obtain ⟨e2, p2, g1, rfl, g2, G⟩ := run_for (src := mRow (mCall m_all_pairs [] (mCons (dVar 0) mNil))) (b := bTup 2 (bCons (bNm 3) (bCons (bNm 4) bNil))) (body := dSetItem 1 (mCB max2D (mCons (mIxO 1 (dVar 4)) (mCons (m2 addD (mIxO 1 (dVar 3)) (M.ret (.int 1))) mNil))) (dVar 4))
        (env := env.set 2 (.pl (nI k))) (p := p1) prD (prs n r) (fun dn env' p2 => p2 = p1 ∧ env'[1]? = some (.ow (.lst (hts n (dn.foldl rlx (lapsF (prs n r) done.length fun _ => 0))))) ∧ Frm [1, 3, 4] (env.set 2 (.pl (nI k))) env')
        (run_row (pCall (pOne (run_var f0)) (v_all_pairs hn)) rfl) ⟨rfl, by rw [List.getElem?_set_ne (by decide)]; exact h2, Frm.refl⟩ (fun dn q rs env' p2 hd ⟨hp2, k2, G⟩ => by
          subst hp2
          obtain ⟨hq1, hq2, _, _⟩ := mem_prs.mp (show q ∈ prs n r by rw [hd]; simp)
          have gl : env'.length = 5 := by rw [G.len]; simp [fl]
          refine ⟨(env'.set 3 (.pl (nI q.1))).set 4 (.pl (nI q.2)), rfl, ?_⟩
          generalize hE : (env'.set 3 (.pl (nI q.1))).set 4 (.pl (nI q.2)) = E
          have E1 : E[1]? = some (.ow (.lst (hts n (dn.foldl rlx (lapsF (prs n r) done.length fun _ => 0))))) := by rw [← hE, List.getElem?_set_ne (by decide), List.getElem?_set_ne (by decide)]; exact k2
          have E3 : E[3]? = some (.pl (nI q.1)) := by rw [← hE, List.getElem?_set_ne (by decide)]; exact List.getElem?_set_self (by rw [gl]; decide)
          have E4 : E[4]? = some (.pl (nI q.2)) := by rw [← hE]; exact List.getElem?_set_self (by simp [gl])
          have El : E.length = 5 := by rw [← hE]; simp [gl]
          refine ⟨_, _, run_setItem (pCB (pCons (run_ixO E1 (run_var E4) (ix_nat rfl (hts_at hq2))) (pOne (pM2 (run_ixO E1 (run_var E3) (ix_nat rfl (hts_at hq1))) rfl (add_nat _ 1)))) (max_nat _ _)) E1 (run_var E4) (putAt_nat (by rw [hts_len]; exact hq2)), rfl, ?_, ?_⟩
          · rw [List.getElem?_set_self (by rw [El]; decide), hts_set, List.foldl_append]
            rfl
          · refine G.trans (Frm.trans ?_ (Frm.set (by simp)))
            rw [← hE]
            exact (Frm.set (by simp)).trans (Frm.set (by simp)))
      refine ⟨_, rfl, e2, _, g1, rfl, ?_, F.trans ((Frm.set (by simp)).trans ⟨G.len, fun q hq => G.at_ q (by simp at hq ⊢; exact ⟨hq.1, hq.2.2.1, hq.2.2.2⟩)⟩)⟩
      rw [g2, List.length_append]
      rfl)
  rw [List.length_range] at h2
  refine run_seq h1 (run_frz h2 (pRet (pCB (pOne (run_var (List.getElem?_set_self ?_))) rfl)))
  rw [F.len]; show 1 < 5; decide
theorem v_heights {p : Pn} (hn : n ≤ 24) (P : Po n r) : m_heights [spc n r] p = .ok (.tup (hts n (ht n r)), p) :=
  run_fn rfl (run_seq (pExpr (pCall rfl (v_need_parted hn P))) (pRet (pCall rfl (v_all_heights hn))))
end
end CS
namespace CS
open PySem L2
open Classical
theorem gt_nat (a b : Nat) : gtD (nI a) (nI b) = .ok (.bl (decide (b < a))) := by
  show Res.ok (D.bl (decide ((b : Int) < (a : Int)))) = _
  congr 2
  exact decide_eq_decide.mpr Int.ofNat_lt
theorem addL_ok {a b : List D} (h : a.length + b.length ≤ 100000) : addD (.lst a) (.lst b) = .ok (.lst (a ++ b)) := by
  show mkL (a ++ b) = _
  unfold mkL
  rw [if_pos (by rw [List.length_append]; exact Nat.le_trans h (by decide))]
theorem rg2_gen {a m : Nat} {A B : Int} (h1 : (a : Int) < A) (h2 : B ≤ (a : Int)) (h3 : ((a + m : Nat) : Int) < A) (h4 : B ≤ ((a + m : Nat) : Int)) : ((asI (D.int a)).bind fun x => (asI (D.int (a + m : Nat))).bind fun y => if (x < A ∧ B ≤ x) ∧ y < A ∧ B ≤ y then Res.ok ((List.range (y - x).toNat).map fun (i : Nat) => D.int (x + i)) else Res.bad) = Res.ok ((List.range m).map fun i => nI (a + i)) := by
  have e1 : asI (D.int a) = .ok (a : Int) := rfl
  have e2 : asI (D.int (a + m : Nat)) = .ok ((a + m : Nat) : Int) := rfl
  rw [e1, e2]
  simp only [Res.bind]
  rw [if_pos ⟨⟨h1, h2⟩, h3, h4⟩]
  have e3 : (((a + m : Nat) : Int) - (a : Int)).toNat = m := by omega
  rw [e3]
  congr 1
theorem run_range2 {env : Env'} {p : Pn} {m1 m2 : M D} {a m : Nat} (h1 : m1 env p = .ok (nI a, env, p)) (h2 : m2 env p = .ok (nI (a + m), env, p)) (ha : a ≤ 16777216) (hb : a + m ≤ 16777216) : mRange2 m1 m2 env p = .ok ((List.range m).map fun i => nI (a + i), env, p) := by
  unfold mRange2
  refine run_bind h1 (run_bind h2 ?_)
  refine run_res ?_
  exact rg2_gen (le62 ha) ge62 (le62 hb) ge62
def shf (k : Nat) (q : Nat × Nat) : Nat × Nat := (q.1 + k, q.2 + k)
section
variable {n m : Nat} {r s : Nat → Nat → Prop} {p : Pn}
theorem v_need_two : m_need_two [spc n r, spc m s] p = .ok (.non, p) := run_fnN rfl (run_seq (pExpr (pCall rfl v_need_space)) (pExpr (pCall rfl v_need_space)))
theorem v_need_room {k : Nat} (h : k ≤ 24) : m_need_room [nI k] p = .ok (.non, p) := by
  have := gt_nat k 24
  rw [decide_eq_false (by omega)] at this
  exact run_fnN rfl (pIfF (pB (pM2 rfl rfl this)) rfl)
theorem v_shifted {k : Nat} (hn : n ≤ 24) : m_shifted_pairs [spc n r, nI k] p = .ok (.lst (((prs n r).map (shf k)).map prD), p) := by
  refine run_fn rfl (pRet ?_)
  have := run_comp (src := mRow (mCall m_all_pairs [] (mCons (dVar 0) mNil))) (vs := [2, 3]) (b := bTup 2 (bCons (bNm 2) (bCons (bNm 3) bNil))) (t := mYes) (e := mTup (mCons (m2 addD (dVar 2) (dVar 1)) (mCons (m2 addD (dVar 3) (dVar 1)) mNil))) prD (fun _ => true) (fun q => prD (shf k q)) (prs n r) (env := [.pl (spc n r), .pl (nI k), .un, .un]) (p := p) (run_row (pCall rfl (v_all_pairs hn)) rfl)
    (fun q hq => ⟨_, rfl, _, rfl, fun _ => ⟨_, run_tup (run_cons (pM2 rfl rfl (add_nat _ _)) (run_cons (pM2 rfl rfl (add_nat _ _)) rfl)) (by show 2 ≤ sizeLine; decide)⟩⟩) (sq_le hn)
  rw [filter_true] at this
  rw [List.map_map]
  exact this
def sumR (n : Nat) (r s : Nat → Nat → Prop) (x y : Nat) : Prop := (x < n ∧ y < n ∧ r x y) ∨ (n ≤ x ∧ n ≤ y ∧ s (x - n) (y - n))
def stkR (n : Nat) (r s : Nat → Nat → Prop) (x y : Nat) : Prop := sumR n r s x y ∨ (x < n ∧ n ≤ y)
theorem Qo.sum (Q : Qo n r) (S : Qo m s) : Qo (n + m) (sumR n r s) := by
  refine ⟨fun x hx => ?_, fun x y z hx hy hz h1 h2 => ?_⟩
  · by_cases h : x < n
    · exact .inl ⟨h, h, Q.refl x h⟩
    · exact .inr ⟨by omega, by omega, S.refl _ (by omega)⟩
  · rcases h1 with ⟨a, b, c⟩ | ⟨a, b, c⟩ <;> rcases h2 with ⟨a', b', c'⟩ | ⟨a', b', c'⟩
    · exact .inl ⟨a, b', Q.trans _ _ _ a b b' c c'⟩
    · omega
    · omega
    · exact .inr ⟨a, b', S.trans _ _ _ (by omega) (by omega) (by omega) c c'⟩
theorem Po.sum (Q : Po n r) (S : Po m s) : Po (n + m) (sumR n r s) := by
  refine ⟨(Qo.sum Q.qo S.qo).refl, (Qo.sum Q.qo S.qo).trans, fun x y hx hy h1 h2 => ?_⟩
  rcases h1 with ⟨a, b, c⟩ | ⟨a, b, c⟩ <;> rcases h2 with ⟨a', b', c'⟩ | ⟨a', b', c'⟩
  · exact Q.anti _ _ a b c c'
  · omega
  · omega
  · have := S.anti _ _ (by omega) (by omega) c c'
    omega
theorem Po.stk (Q : Po n r) (S : Po m s) : Po (n + m) (stkR n r s) := by
  refine ⟨fun x hx => .inl ((Qo.sum Q.qo S.qo).refl x hx), fun x y z hx hy hz h1 h2 => ?_, fun x y hx hy h1 h2 => ?_⟩
  · rcases h1 with h1 | ⟨a, b⟩
    · rcases h2 with h2 | ⟨a', b'⟩
      · exact .inl ((Qo.sum Q.qo S.qo).trans x y z hx hy hz h1 h2)
      · refine .inr ⟨?_, b'⟩
        rcases h1 with ⟨a, _, _⟩ | ⟨_, b, _⟩
        · exact a
        · omega
    · refine .inr ⟨a, ?_⟩
      rcases h2 with (⟨a', _, _⟩ | ⟨_, b', _⟩) | ⟨_, b'⟩
      · omega
      · exact b'
      · exact b'
  · rcases h1 with h1 | ⟨a, b⟩
    · rcases h2 with h2 | ⟨a', b'⟩
      · exact (Po.sum Q S).anti x y hx hy h1 h2
      · rcases h1 with ⟨a, b, _⟩ | ⟨a, b, _⟩ <;> omega
    · rcases h2 with (⟨_, b', _⟩ | ⟨_, b', _⟩) | ⟨_, b'⟩ <;> omega
/-- a closure is known where the pairs lie within and lead everywhere -/
theorem rt_is {N : Nat} {ps : List (Nat × Nat)} {R : Nat → Nat → Prop} (Q : Qo N R) (h1 : ∀ x y, (x, y) ∈ ps → x < N ∧ y < N ∧ R x y) (h2 : ∀ x y, x < N → y < N → R x y → y ≠ x → Rt ps x y) {x y : Nat} (hx : x < N) (hy : y < N) : Rt ps x y ↔ R x y := by
  constructor
  · intro h
    have : y < N ∧ R x y := by
      clear hy
      induction h with
      | refl => exact ⟨hx, Q.refl _ hx⟩
      | tail _ h3 ih =>
        obtain ⟨a, b, c⟩ := h1 _ _ h3
        exact ⟨b, Q.trans _ _ _ hx a b ih.2 c⟩
    exact this.2
  · intro h
    by_cases e : y = x
    · subst e; exact .refl _
    · exact h2 x y hx hy h e
theorem mem_shf {k x y : Nat} {ps : List (Nat × Nat)} : (x, y) ∈ ps.map (shf k) ↔ ∃ a b, (a, b) ∈ ps ∧ x = a + k ∧ y = b + k := by
  rw [List.mem_map]
  constructor
  · rintro ⟨⟨a, b⟩, h, e⟩
    cases e
    exact ⟨a, b, h, rfl, rfl⟩
  · rintro ⟨a, b, h, rfl, rfl⟩
    exact ⟨(a, b), h, rfl⟩
theorem in_sum : In (n + m) (prs n r ++ (prs m s).map (shf n)) := fun q hq => by
  obtain ⟨x, y⟩ := q
  rcases List.mem_append.mp hq with h | h
  · obtain ⟨h1, h2, _⟩ := mem_prs.mp h
    exact ⟨Nat.lt_of_lt_of_le h1 (Nat.le_add_right ..), Nat.lt_of_lt_of_le h2 (Nat.le_add_right ..)⟩
  · obtain ⟨a, b, h9, rfl, rfl⟩ := mem_shf.mp h
    have hh := mem_prs.mp h9
    have h1 : a < m := hh.1
    have h2 : b < m := hh.2.1
    exact ⟨by show a + n < n + m; omega, by show b + n < n + m; omega⟩
theorem rt_sum (Q : Qo n r) (S : Qo m s) {x y : Nat} (hx : x < n + m) (hy : y < n + m) : Rt (prs n r ++ (prs m s).map (shf n)) x y ↔ sumR n r s x y := by
  refine rt_is (Qo.sum Q S) (fun x y h => ?_) (fun x y hx hy h hne => ?_) hx hy
  · refine ⟨(in_sum _ h).1, (in_sum _ h).2, ?_⟩
    rcases List.mem_append.mp h with h | h
    · obtain ⟨h1, h2, h3, _⟩ : x < n ∧ y < n ∧ r x y ∧ _ := mem_prs.mp h
      exact .inl ⟨h1, h2, h3⟩
    · obtain ⟨a, b, h9, rfl, rfl⟩ := mem_shf.mp h
      have hh := mem_prs.mp h9
      have h1 : a < m := hh.1
      have h2 : b < m := hh.2.1
      have h3 : s a b := hh.2.2.1
      exact .inr ⟨by omega, by omega, by rw [Nat.add_sub_cancel, Nat.add_sub_cancel]; exact h3⟩
  · rcases h with ⟨a, b, c⟩ | ⟨a, b, c⟩
    · exact .one (List.mem_append.mpr (.inl (mem_prs.mpr ⟨a, b, c, hne⟩)))
    · exact .one (List.mem_append.mpr (.inr (mem_shf.mpr ⟨x - n, y - n, mem_prs.mpr ⟨by show x - n < m; omega, by show y - n < m; omega, c, by show y - n ≠ x - n; omega⟩, by omega, by omega⟩)))
theorem v_summed (hnm : n + m ≤ 24) (Q : Qo n r) (S : Qo m s) : m_summed [spc n r, spc m s] p = .ok (spc (n + m) (sumR n r s), p) := by
  have hn : n ≤ 24 := by omega
  have hm : m ≤ 24 := by omega
  have l1 := sq_le' (n := n) (r := r) hn
  have l2 := sq_le' (n := m) (r := s) hm
  have e : spc (n + m) (Rt (prs n r ++ (prs m s).map (shf n))) = spc (n + m) (sumR n r s) := spc_congr fun x y hx hy => rt_sum Q S hx hy
  have hs : ∀ {f : D → D → Res D}, f = addD → m2 f (m1 (fldD ["Space"] "many") (dVar 0)) (m1 (fldD ["Space"] "many") (dVar 1)) [.pl (spc n r), .pl (spc m s)] p = .ok (nI (n + m), [.pl (spc n r), .pl (spc m s)], p) := by
    rintro f rfl
    exact pM2 (run_m1 rfl fld_many) (run_m1 rfl fld_many) (add_nat _ _)
  refine run_fn rfl (run_seq (pExpr (pCall rfl v_need_two)) (run_seq (pExpr (pCall (pOne (hs rfl)) (v_need_room hnm))) (pRet (pCall (pCons (hs rfl) (pOne (x := .lst ((prs n r ++ (prs m s).map (shf n)).map prD)) (pM2 (pCall rfl (v_all_pairs hn)) (pCall (pCons rfl (pOne (run_m1 rfl fld_many))) (v_shifted hm)) ?_))) ((v_Space (n + m) _ hnm in_sum ?_ p).trans (by rw [e]))))))
  · rw [addL_ok (by simp; omega), List.map_append]
  · rw [List.length_append, List.length_map]; omega
/-! stacked -/
def btw (n m : Nat) : List (Nat × Nat) := (List.range n).flatMap fun x => (List.range m).map fun i => (x, n + i)
theorem mem_btw {x y : Nat} : (x, y) ∈ btw n m ↔ x < n ∧ n ≤ y ∧ y < n + m := by
  simp only [btw, List.mem_flatMap, List.mem_range, List.mem_map, Prod.mk.injEq]
  constructor
  · rintro ⟨a, ha, i, hi, rfl, rfl⟩
    omega
  · rintro ⟨a, b, c⟩
    exact ⟨x, a, y - n, by omega, rfl, by omega⟩
theorem btw_len : (btw n m).length ≤ n * m := by
  have := flat_len (fun x => (List.range m).map fun i => (x, n + i)) m (List.range n) fun x _ => by simp
  simpa [btw] using this
theorem in_stk : In (n + m) (prs n r ++ (prs m s).map (shf n) ++ btw n m) := fun q hq => by
  rcases List.mem_append.mp hq with h | h
  · exact in_sum q h
  · obtain ⟨x, y⟩ := q
    obtain ⟨a, b, c⟩ := mem_btw.mp h
    exact ⟨Nat.lt_of_lt_of_le a (Nat.le_add_right ..), c⟩
theorem rt_stk (Q : Po n r) (S : Po m s) {x y : Nat} (hx : x < n + m) (hy : y < n + m) : Rt (prs n r ++ (prs m s).map (shf n) ++ btw n m) x y ↔ stkR n r s x y := by
  refine rt_is (Po.stk Q S).qo (fun x y h => ?_) (fun x y hx hy h hne => ?_) hx hy
  · refine ⟨(in_stk _ h).1, (in_stk _ h).2, ?_⟩
    rcases List.mem_append.mp h with h | h
    · exact .inl ((rt_sum Q.qo S.qo (in_sum _ h).1 (in_sum _ h).2).mp (.one h))
    · obtain ⟨a, b, c⟩ := mem_btw.mp h
      exact .inr ⟨a, b⟩
  · rcases h with h | ⟨a, b⟩
    · exact Rt.mono (fun q hq => List.mem_append.mpr (.inl hq)) ((rt_sum Q.qo S.qo hx hy).mpr h)
    · exact .one (List.mem_append.mpr (.inr (mem_btw.mpr ⟨a, b, hy⟩)))
theorem v_stacked (hnm : n + m ≤ 24) (Q : Po n r) (S : Po m s) : m_stacked [spc n r, spc m s] p = .ok (spc (n + m) (stkR n r s), p) := by
  have hn : n ≤ 24 := by omega
  have hm : m ≤ 24 := by omega
  have l1 := sq_le' (n := n) (r := r) hn
  have l2 := sq_le' (n := m) (r := s) hm
  have l3 : (btw n m).length ≤ 576 := Nat.le_trans btw_len (Nat.mul_le_mul hn hm)
  have e : spc (n + m) (Rt (prs n r ++ (prs m s).map (shf n) ++ btw n m)) = spc (n + m) (stkR n r s) := spc_congr fun x y hx hy => rt_stk Q S hx hy
  have hb : m_stacked_of [spc n r, spc m s] p = .ok (spc (n + m) (stkR n r s), p) := by
    refine run_fn rfl (run_seq (pSet (pM2 (run_m1 rfl fld_many) (run_m1 rfl fld_many) (add_nat _ _))) (run_seq (pExpr (pCall rfl (v_need_room hnm))) (run_seq (pSet (d := .lst ((btw n m).map prD)) ?_) (pRet (pCall (pCons rfl (pOne (x := .lst ((prs n r ++ (prs m s).map (shf n) ++ btw n m).map prD)) (pM2 (pM2 (pCall rfl (v_all_pairs hn)) (pCall (pCons rfl (pOne (run_m1 rfl fld_many))) (v_shifted hm)) (addL_ok ?_)) rfl ?_))) ((v_Space (n + m) _ hnm in_stk ?_ p).trans (by rw [e])))))))
    · have := run_comp2 (src := mRange1 (m1 (fldD ["Space"] "many") (dVar 0))) (vs := [4, 5]) (b := bNm 4) (t := mYes) (src1 := mRange2 (m1 (fldD ["Space"] "many") (dVar 0)) (dVar 2)) (vs1 := [5]) (b1 := bNm 5) (t1 := mYes) (e := mTup (mCons (dVar 4) (mCons (dVar 5) mNil)))
        nI (fun _ => List.range m) (fun _ i => nI (n + i)) (fun _ _ => true) (fun x i => prD (x, n + i)) (List.range n) (env := [.pl (spc n r), .pl (spc m s), .pl (nI (n + m)), .un, .un, .un]) (p := p) (run_range (run_m1 rfl fld_many) (by omega))
        (fun x hx => ⟨_, rfl, _, rfl, _, run_range2 (run_m1 rfl fld_many) rfl (by omega) (by omega), fun y hy => ⟨_, rfl, _, rfl, fun _ => ⟨_, run_tup rfl (by show 2 ≤ sizeLine; decide)⟩⟩⟩)
      have e2 : ((List.range n).flatMap fun x => ((List.range m).filter fun _ => true).map fun i => prD (x, n + i)) = (btw n m).map prD := by
        unfold btw
        rw [List.map_flatMap]
        congr 1
        funext x
        rw [filter_true, List.map_map]
        rfl
      rw [e2] at this
      exact this (by rw [List.length_map]; exact Nat.le_trans l3 (by decide))
    · simp; omega
    · rw [addL_ok (by simp; omega), List.map_append, List.map_append]
    · simp only [List.length_append, List.length_map]; omega
  exact run_fn rfl (run_seq (pExpr (pCall rfl v_need_two)) (pRet (pCall rfl hb)))
end
end CS
namespace CS
open PySem L2
open Classical
theorem mul_gen {a b : Int} {A : Nat} (h : a.natAbs < A) : (if a.natAbs < A ∨ b.natAbs < A then Res.ok (D.int (a * b)) else .bad) = .ok (D.int (a * b)) := if_pos (.inl h)
theorem lt64 {a : Nat} (h : a ≤ 100000) : ((a : Int)).natAbs < 2 ^ 64 := by omega
theorem mul_nat {a b : Nat} (h : a ≤ 100000) : mulD (nI a) (nI b) = .ok (nI (a * b)) := by
  have h0 : mulD (nI a) (nI b) = .ok (D.int ((a : Int) * (b : Int))) := by
    show mulD (.int a) (.int b) = _
    unfold mulD
    dsimp only
    exact mul_gen (lt64 h)
  rw [h0]
  unfold nI
  rw [Int.natCast_mul]
section
variable {n m : Nat} {r s : Nat → Nat → Prop} {p : Pn}
def proR (m : Nat) (r s : Nat → Nat → Prop) (x y : Nat) : Prop := r (x / m) (y / m) ∧ s (x % m) (y % m)
theorem div_lt {x : Nat} (h : x < n * m) : x / m < n := Nat.div_lt_of_lt_mul (by rw [Nat.mul_comm]; exact h)
theorem mod_lt' {x : Nat} (h : x < n * m) : x % m < m := by
  refine Nat.mod_lt _ ?_
  cases m with
  | zero => simp at h
  | succ m => omega
theorem Qo.pro (Q : Qo n r) (S : Qo m s) : Qo (n * m) (proR m r s) :=
  ⟨fun x hx => ⟨Q.refl _ (div_lt hx), S.refl _ (mod_lt' hx)⟩, fun x y z hx hy hz h1 h2 => ⟨Q.trans _ _ _ (div_lt hx) (div_lt hy) (div_lt hz) h1.1 h2.1, S.trans _ _ _ (mod_lt' hx) (mod_lt' hy) (mod_lt' hz) h1.2 h2.2⟩⟩
theorem dm_ext {x y : Nat} (h1 : x / m = y / m) (h2 : x % m = y % m) : x = y := by
  have a := Nat.div_add_mod x m
  have b := Nat.div_add_mod y m
  rw [h1, h2] at a
  omega
theorem Po.pro (Q : Po n r) (S : Po m s) : Po (n * m) (proR m r s) :=
  ⟨(Q.qo.pro S.qo).refl, (Q.qo.pro S.qo).trans, fun x y hx hy h1 h2 => dm_ext (Q.anti _ _ (div_lt hx) (div_lt hy) h1.1 h2.1) (S.anti _ _ (mod_lt' hx) (mod_lt' hy) h1.2 h2.2)⟩
noncomputable def pr1 (n m : Nat) (r : Nat → Nat → Prop) : List (Nat × Nat) := (prs n r).flatMap fun q => (List.range m).map fun u => (q.1 * m + u, q.2 * m + u)
noncomputable def pr2 (n m : Nat) (s : Nat → Nat → Prop) : List (Nat × Nat) := (List.range n).flatMap fun x => (prs m s).map fun q => (x * m + q.1, x * m + q.2)
theorem enc_lt {a u : Nat} (ha : a < n) (hu : u < m) : a * m + u < n * m := by
  have : (a + 1) * m ≤ n * m := Nat.mul_le_mul_right m ha
  rw [Nat.add_mul] at this
  omega
theorem enc_div {a u : Nat} (hu : u < m) : (a * m + u) / m = a := by
  rw [Nat.mul_comm, Nat.mul_add_div (by omega), Nat.div_eq_of_lt hu, Nat.add_zero]
theorem enc_mod {a u : Nat} (hu : u < m) : (a * m + u) % m = u := by
  rw [Nat.mul_comm, Nat.mul_add_mod, Nat.mod_eq_of_lt hu]
theorem mem_pr1 {x y : Nat} : (x, y) ∈ pr1 n m r ↔ ∃ a b u, a < n ∧ b < n ∧ r a b ∧ b ≠ a ∧ u < m ∧ x = a * m + u ∧ y = b * m + u := by
  simp only [pr1, List.mem_flatMap, List.mem_range, List.mem_map, Prod.mk.injEq]
  constructor
  · rintro ⟨q, hq, u, hu, rfl, rfl⟩
    obtain ⟨h1, h2, h3, h4⟩ := mem_prs.mp hq
    exact ⟨q.1, q.2, u, h1, h2, h3, h4, hu, rfl, rfl⟩
  · rintro ⟨a, b, u, h1, h2, h3, h4, hu, rfl, rfl⟩
    exact ⟨(a, b), mem_prs.mpr ⟨h1, h2, h3, h4⟩, u, hu, rfl, rfl⟩
theorem mem_pr2 {x y : Nat} : (x, y) ∈ pr2 n m s ↔ ∃ a u v, a < n ∧ u < m ∧ v < m ∧ s u v ∧ v ≠ u ∧ x = a * m + u ∧ y = a * m + v := by
  simp only [pr2, List.mem_flatMap, List.mem_range, List.mem_map, Prod.mk.injEq]
  constructor
  · rintro ⟨a, ha, q, hq, rfl, rfl⟩
    obtain ⟨h1, h2, h3, h4⟩ := mem_prs.mp hq
    exact ⟨a, q.1, q.2, ha, h1, h2, h3, h4, rfl, rfl⟩
  · rintro ⟨a, u, v, ha, h1, h2, h3, h4, rfl, rfl⟩
    exact ⟨a, ha, (u, v), mem_prs.mpr ⟨h1, h2, h3, h4⟩, rfl, rfl⟩
theorem in_pro : In (n * m) (pr1 n m r ++ pr2 n m s) := fun q hq => by
  obtain ⟨x, y⟩ := q
  rcases List.mem_append.mp hq with h | h
  · obtain ⟨a, b, u, h1, h2, h3, h4, hu, rfl, rfl⟩ := mem_pr1.mp h
    exact ⟨enc_lt h1 hu, enc_lt h2 hu⟩
  · obtain ⟨a, u, v, ha, h1, h2, h3, h4, rfl, rfl⟩ := mem_pr2.mp h
    exact ⟨enc_lt ha h1, enc_lt ha h2⟩
theorem rt_pro (Q : Qo n r) (S : Qo m s) {x y : Nat} (hx : x < n * m) (hy : y < n * m) : Rt (pr1 n m r ++ pr2 n m s) x y ↔ proR m r s x y := by
  refine rt_is (Q.pro S) (fun x y h => ?_) (fun x y hx hy h hne => ?_) hx hy
  · refine ⟨(in_pro _ h).1, (in_pro _ h).2, ?_⟩
    rcases List.mem_append.mp h with h | h
    · obtain ⟨a, b, u, h1, h2, h3, h4, hu, rfl, rfl⟩ := mem_pr1.mp h
      unfold proR
      rw [enc_div hu, enc_div hu, enc_mod hu, enc_mod hu]
      exact ⟨h3, S.refl _ hu⟩
    · obtain ⟨a, u, v, ha, h1, h2, h3, h4, rfl, rfl⟩ := mem_pr2.mp h
      unfold proR
      rw [enc_div h1, enc_div h2, enc_mod h1, enc_mod h2]
      exact ⟨Q.refl _ ha, h3⟩
  · have hm := mod_lt' hx
    have hm2 := mod_lt' hy
    have h1 : Rt (pr1 n m r ++ pr2 n m s) x (y / m * m + x % m) := by
      by_cases e : y / m = x / m
      · have : y / m * m + x % m = x := by rw [e, Nat.mul_comm]; exact Nat.div_add_mod x m
        rw [this]; exact .refl _
      · refine .one (List.mem_append.mpr (.inl (mem_pr1.mpr ⟨x / m, y / m, x % m, div_lt hx, div_lt hy, h.1, e, hm, ?_, rfl⟩)))
        rw [Nat.mul_comm]; exact (Nat.div_add_mod x m).symm
    have h2 : Rt (pr1 n m r ++ pr2 n m s) (y / m * m + x % m) y := by
      by_cases e : y % m = x % m
      · have : y / m * m + x % m = y := by rw [← e, Nat.mul_comm]; exact Nat.div_add_mod y m
        rw [this]; exact .refl _
      · refine .one (List.mem_append.mpr (.inr (mem_pr2.mpr ⟨y / m, x % m, y % m, div_lt hy, hm, hm2, h.2, e, rfl, ?_⟩)))
        rw [Nat.mul_comm]; exact (Nat.div_add_mod y m).symm
    exact h1.trans h2
theorem pr1_len (hn : n ≤ 24) (hm : m ≤ 24) : (pr1 n m r).length ≤ 20000 := by
  have := flat_len (fun q : Nat × Nat => (List.range m).map fun u => (q.1 * m + u, q.2 * m + u)) m (prs n r) fun x _ => by simp
  have h2 : (prs n r).length * m ≤ 576 * 24 := Nat.mul_le_mul (sq_le' hn) hm
  unfold pr1
  omega
theorem pr2_len (hn : n ≤ 24) (hm : m ≤ 24) : (pr2 n m s).length ≤ 20000 := by
  have := flat_len (fun x : Nat => (prs m s).map fun q => (x * m + q.1, x * m + q.2)) 576 (List.range n) fun x _ => by rw [List.length_map]; exact sq_le' hm
  rw [List.length_range] at this
  have h2 : n * 576 ≤ 24 * 576 := Nat.mul_le_mul_right _ hn
  unfold pr2
  omega
theorem v_product (hn : n ≤ 24) (hm : m ≤ 24) (hnm : n * m ≤ 24) (Q : Qo n r) (S : Qo m s) : m_product [spc n r, spc m s] p = .ok (spc (n * m) (proR m r s), p) := by
  have l1 := pr1_len (r := r) hn hm
  have l2 := pr2_len (s := s) hn hm
  have e : spc (n * m) (Rt (pr1 n m r ++ pr2 n m s)) = spc (n * m) (proR m r s) := spc_congr fun x y hx hy => rt_pro Q S hx hy
  have hk : ∀ (env : Env'), env[0]? = some (.pl (spc n r)) → env[1]? = some (.pl (spc m s)) → m2 mulD (m1 (fldD ["Space"] "many") (dVar 0)) (m1 (fldD ["Space"] "many") (dVar 1)) env p = .ok (nI (n * m), env, p) := fun env h1 h2 => pM2 (run_m1 (run_var h1) fld_many) (run_m1 (run_var h2) fld_many) (mul_nat (by omega))
  refine run_fn rfl (run_seq (pExpr (pCall rfl v_need_two)) (run_seq (pExpr (pCall (pOne (hk _ rfl rfl)) (v_need_room hnm))) (run_seq (pSet (p1 := p) (d := .lst ((pr1 n m r).map prD)) ?_) (run_seq (pSet (pM2 (p2 := p) rfl (y := .lst ((pr2 n m s).map prD)) ?_ (addL_ok ?_))) (pRet (pCall (pCons (hk _ rfl rfl) (pOne (x := .lst ((pr1 n m r ++ pr2 n m s).map prD)) ?_)) ((v_Space (n * m) _ hnm in_pro ?_ p).trans (by rw [e]))))))))
  · have := run_comp2 (src := mRow (mCall m_all_pairs [] (mCons (dVar 0) mNil))) (vs := [3, 4, 5]) (b := bTup 2 (bCons (bNm 3) (bCons (bNm 4) bNil))) (t := mYes) (src1 := mRange1 (m1 (fldD ["Space"] "many") (dVar 1))) (vs1 := [5]) (b1 := bNm 5) (t1 := mYes) (e := mTup (mCons (m2 addD (m2 mulD (dVar 3) (m1 (fldD ["Space"] "many") (dVar 1))) (dVar 5)) (mCons (m2 addD (m2 mulD (dVar 4) (m1 (fldD ["Space"] "many") (dVar 1))) (dVar 5)) mNil)))
      prD (fun _ => List.range m) (fun _ => nI) (fun _ _ => true) (fun q u => prD (q.1 * m + u, q.2 * m + u)) (prs n r) (env := [.pl (spc n r), .pl (spc m s), .un, .un, .un, .un, .un]) (p := p) (run_row (pCall rfl (v_all_pairs hn)) rfl)
      (fun q hq => ⟨_, rfl, _, rfl, _, run_range (run_m1 rfl fld_many) (by omega), fun u hu => ⟨_, rfl, _, rfl, fun _ => ⟨_, run_tup (run_cons (pM2 (pM2 rfl (run_m1 rfl fld_many) (mul_nat (by have := (mem_prs.mp hq).1; omega))) rfl (add_nat _ _)) (run_cons (pM2 (pM2 rfl (run_m1 rfl fld_many) (mul_nat (by have := (mem_prs.mp hq).2.1; omega))) rfl (add_nat _ _)) rfl)) (by show 2 ≤ sizeLine; decide)⟩⟩⟩)
    have e2 : ((prs n r).flatMap fun q => ((List.range m).filter fun _ => true).map fun u => prD (q.1 * m + u, q.2 * m + u)) = (pr1 n m r).map prD := by
      unfold pr1
      rw [List.map_flatMap]
      congr 1
      funext x
      rw [filter_true, List.map_map]
      rfl
    rw [e2] at this
    exact this (by rw [List.length_map]; exact Nat.le_trans l1 (by decide))
  · have := run_comp2 (src := mRange1 (m1 (fldD ["Space"] "many") (dVar 0))) (vs := [3, 5, 6]) (b := bNm 3) (t := mYes) (src1 := mRow (mCall m_all_pairs [] (mCons (dVar 1) mNil))) (vs1 := [5, 6]) (b1 := bTup 2 (bCons (bNm 5) (bCons (bNm 6) bNil))) (t1 := mYes) (e := mTup (mCons (m2 addD (m2 mulD (dVar 3) (m1 (fldD ["Space"] "many") (dVar 1))) (dVar 5)) (mCons (m2 addD (m2 mulD (dVar 3) (m1 (fldD ["Space"] "many") (dVar 1))) (dVar 6)) mNil)))
      nI (fun _ => prs m s) (fun _ => prD) (fun _ _ => true) (fun x q => prD (x * m + q.1, x * m + q.2)) (List.range n) (env := [.pl (spc n r), .pl (spc m s), .pl (.lst ((pr1 n m r).map prD)), .un, .un, .un, .un]) (p := p) (run_range (run_m1 rfl fld_many) (by omega))
      (fun x hx => ⟨_, rfl, _, rfl, _, run_row (pCall rfl (v_all_pairs hm)) rfl, fun u hu => ⟨_, rfl, _, rfl, fun _ => ⟨_, run_tup (run_cons (pM2 (pM2 rfl (run_m1 rfl fld_many) (mul_nat (by have := List.mem_range.mp hx; omega))) rfl (add_nat _ _)) (run_cons (pM2 (pM2 rfl (run_m1 rfl fld_many) (mul_nat (by have := List.mem_range.mp hx; omega))) rfl (add_nat _ _)) rfl)) (by show 2 ≤ sizeLine; decide)⟩⟩⟩)
    have e2 : ((List.range n).flatMap fun x => ((prs m s).filter fun _ => true).map fun q => prD (x * m + q.1, x * m + q.2)) = (pr2 n m s).map prD := by
      unfold pr2
      rw [List.map_flatMap]
      congr 1
      funext x
      rw [filter_true, List.map_map]
      rfl
    rw [e2] at this
    exact this (by rw [List.length_map]; exact Nat.le_trans l2 (by decide))
  · simp; omega
  · rw [List.map_append]; rfl
  · rw [List.length_append]; omega
end
end CS
namespace CS
open PySem L2
open Classical
theorem Rn.trans {nb : Nat → List Nat} {x y z : Nat} (h : Rn nb x y) (h2 : Rn nb y z) : Rn nb x z := by
  induction h2 with
  | refl => exact h
  | tail _ h3 ih => exact ih.tail h3
theorem Rn.lt {nb : Nat → List Nat} {n x y : Nat} (hnb : ∀ y z, y < n → z ∈ nb y → z < n) (h : Rn nb x y) (hx : x < n) : y < n := by
  induction h with
  | refl => exact hx
  | tail _ h3 ih => exact hnb _ _ ih h3
theorem Rn.symm {nb : Nat → List Nat} {n x y : Nat} (hnb : ∀ y z, y < n → z ∈ nb y → z < n) (hs : ∀ y z, y < n → z < n → z ∈ nb y → y ∈ nb z) (h : Rn nb x y) (hx : x < n) : Rn nb y x := by
  induction h with
  | refl => exact .refl
  | tail h1 h3 ih =>
    have hy := h1.lt hnb hx
    have hz := hnb _ _ hy h3
    exact Rn.trans (.tail .refl (hs _ _ hy hz h3)) ih
theorem Rn.mono {nb nb' : Nat → List Nat} {n x y : Nat} (hnb : ∀ y z, y < n → z ∈ nb y → z < n) (hs : ∀ y z, y < n → z ∈ nb y → z ∈ nb' y) (h : Rn nb x y) (hx : x < n) : Rn nb' x y := by
  induction h with
  | refl => exact .refl
  | tail h1 h3 ih => exact ih.tail (hs _ _ (h1.lt hnb hx) h3)
theorem addT_ok {a b : List D} (h0 : a ≠ []) (h : a.length + b.length ≤ 100000) : addD (.tup a) (.tup b) = .ok (.tup (a ++ b)) := by
  show (if a.isEmpty then Res.bad else mkT (a ++ b)) = _
  rw [if_neg (by cases a with
    | nil => exact absurd rfl h0
    | cons _ _ => simp)]
  unfold mkT
  rw [if_pos (by rw [List.length_append]; exact Nat.le_trans h (by decide))]
section
variable {n : Nat} {r : Nat → Nat → Prop} {p : Pn}
noncomputable def nbH (n : Nat) (r : Nat → Nat → Prop) (x : Nat) : List Nat := sel n (fun z => r z x) ++ sel n (r x)
theorem mem_nbH {x y : Nat} : y ∈ nbH n r x ↔ y < n ∧ (r y x ∨ r x y) := by
  unfold nbH
  rw [List.mem_append, mem_sel, mem_sel]
  constructor
  · rintro (⟨a, b⟩ | ⟨a, b⟩)
    · exact ⟨a, .inl b⟩
    · exact ⟨a, .inr b⟩
  · rintro ⟨a, b | b⟩
    · exact .inl ⟨a, b⟩
    · exact .inr ⟨a, b⟩
theorem nbH_lt (y z : Nat) (_ : y < n) (h : z ∈ nbH n r y) : z < n := (mem_nbH.mp h).1
theorem nbH_sym (y z : Nat) (hy : y < n) (_ : z < n) (h : z ∈ nbH n r y) : y ∈ nbH n r z := mem_nbH.mpr ⟨hy, (mem_nbH.mp h).2.symm⟩
theorem v_hanging {x : Nat} (hn : n ≤ 24) (Q : Qo n r) (hx : x < n) : m_hanging [spc n r, nI x] p = .ok (row n (Rn (nbH n r) x), p) := by
  refine run_fn rfl ?_
  have hpar : dParO 2 3 (mLst (mCons (dVar 1) mNil)) (M.ret (.int 0)) [.pl (spc n r), .pl (nI x), .un, .un, .un] p = .nx (([Slot.pl (spc n r), .pl (nI x), .un, .un, .un].set 2 (.ow (.lst [nI x]))).set 3 (.pl (.int 0))) p := run_parO (run_lst (xs := [nI x]) rfl (by show 1 ≤ sizeLine; decide)) rfl
  obtain ⟨e2, lot, g1, g2, g3, g4, g5⟩ := bfs_while (p := p) (i := 2) (j := 4) (a := 3) (n := n) (s := x) (nb := nbH n r) (src := mRow (m2 addD (m2 ixD (m1 (fldD ["Space"] "under") (dVar 0)) (mIxO 2 (dVar 3))) (m2 ixD (m1 (fldD ["Space"] "over") (dVar 0)) (mIxO 2 (dVar 3))))) (e0 := [.pl (spc n r), .pl (nI x), .ow (.lst [nI x]), .pl (.int 0), .un]) (by decide) (by decide) (by decide) (by show 4 < 5; decide) (by show 3 < 5; decide) (by omega)
    nbH_lt (fun env' lot k z F hi hk hz hzn => by
      have e0 : env'[0]? = some (.pl (spc n r)) := F.at_ 0 (by decide)
      have hix : mIxO 2 (dVar 3) env' p = .ok (nI z, env', p) := run_ixO hi (run_var hk) (ix_nat rfl (by rw [List.getElem?_map, hz]; rfl))
      have hne : (sel n fun w => r w z).map nI ≠ [] := by
        intro h
        have : z ∈ sel n fun w => r w z := mem_sel.mpr ⟨hzn, Q.refl _ hzn⟩
        have h2 := mem_nI.mpr this
        rw [h] at h2
        cases h2
      have h1 := sel_length n fun w => r w z
      have h2 := sel_length n (r z)
      refine run_row (pM2 (pM2 (run_m1 (run_var e0) fld_under) hix (ix_nat rfl (rowsU_at hzn))) (pM2 (run_m1 (run_var e0) fld_over) hix (ix_nat rfl (rowsO_at hzn))) (addT_ok hne (by rw [List.length_map, List.length_map]; omega))) ?_
      show Res.ok _ = _
      rw [← List.map_append]
      rfl) hx rfl rfl
  have e2l : e2.length = 5 := g2.len
  refine run_seq hpar (run_seq g1 (run_frz g3 (pRet (pCB (pOne (pCB (pOne (run_var (List.getElem?_set_self (by rw [e2l]; decide)))) (sorted_sel (n := n) (P := Rn (nbH n r) x) g4 fun y => ?_))) rfl))))
  rw [g5]
/-- the least points of what hangs together -/
noncomputable def ldr (n : Nat) (r : Nat → Nat → Prop) (k : Nat) : List Nat := (List.range k).filter fun x => decide (∀ z, z < x → ¬ Rn (nbH n r) z x)
theorem ldr_succ (k : Nat) : ldr n r (k + 1) = ldr n r k ++ (if ∀ z, z < k → ¬ Rn (nbH n r) z k then [k] else []) := by
  unfold ldr
  rw [List.range_succ, List.filter_append]
  congr 1
  by_cases h : ∀ z, z < k → ¬ Rn (nbH n r) z k
  · rw [if_pos h, List.filter_cons, if_pos (decide_eq_true h)]; rfl
  · rw [if_neg h, List.filter_cons, if_neg (by rw [decide_eq_false h]; exact Bool.false_ne_true)]; rfl
theorem ldr_any {k : Nat} (hk : k < n) : (∃ z, z ∈ ldr n r k ∧ Rn (nbH n r) z k) ↔ ∃ z, z < k ∧ Rn (nbH n r) z k := by
  constructor
  · rintro ⟨z, h1, h2⟩
    unfold ldr at h1
    exact ⟨z, List.mem_range.mp (List.mem_filter.mp h1).1, h2⟩
  · intro h
    have main : ∀ m z, z = m → z < k → Rn (nbH n r) z k → ∃ z, z ∈ ldr n r k ∧ Rn (nbH n r) z k := by
      intro m
      induction m using Nat.strongRecOn with
      | ind m ih =>
        rintro z rfl hz h
        by_cases hl : ∀ w, w < z → ¬ Rn (nbH n r) w z
        · refine ⟨z, ?_, h⟩
          unfold ldr
          exact List.mem_filter.mpr ⟨List.mem_range.mpr hz, decide_eq_true hl⟩
        · obtain ⟨w, hw⟩ := Classical.not_forall.mp hl
          obtain ⟨h1, h2⟩ := Classical.not_imp.mp hw
          exact ih w h1 w rfl (by omega) ((Classical.not_not.mp h2).trans h)
    obtain ⟨z, h1, h2⟩ := h
    exact main z z rfl h1 h2
theorem ldr_len (k : Nat) : (ldr n r k).length ≤ k := by
  have := List.length_filter_le (fun x => decide (∀ z, z < x → ¬ Rn (nbH n r) z x)) (List.range k)
  simpa [ldr] using this
noncomputable def prt (n : Nat) (r : Nat → Nat → Prop) : D := .tup ((ldr n r n).map fun x => row n (Rn (nbH n r) x))
theorem v_parts (hn : n ≤ 24) (Q : Qo n r) : m_parts [spc n r] p = .ok (prt n r, p) := by
  refine run_fn rfl (run_seq (pExpr (pCall rfl v_need_space)) (run_seq (pSetO rfl) ?_))
  obtain ⟨e', p', h1, rfl, h2, F⟩ := run_for (src := mRange1 (m1 (fldD ["Space"] "many") (dVar 0))) (b := bNm 2) (body := dIf (mNot (mB (mBor (mCB anyD (mCons (mComp (mRow (dVar 1)) [3] (bNm 3) (mYes) (m2 inD (dVar 2) (dVar 3))) mNil))))) (dExpr (mAppend 1 (mCall m_hanging [] (mCons (dVar 0) (mCons (dVar 2) mNil))))) (dNext))
    (env := [.pl (spc n r), .ow (.lst []), .un, .un]) (p := p) nI (List.range n) (fun done env p1 => p1 = p ∧ env[1]? = some (.ow (.lst ((ldr n r done.length).map fun x => row n (Rn (nbH n r) x)))) ∧ Frm [1, 2] [.pl (spc n r), .ow (.lst []), .un, .un] env)
    (run_range (run_m1 rfl fld_many) (by omega)) ⟨rfl, rfl, Frm.refl⟩ (fun done k rest env p1 hd ⟨hp, h2, F⟩ => by
      subst hp
      have hkn : k < n := by
        have : k ∈ List.range n := by rw [hd]; simp
        exact List.mem_range.mp this
      have hdk : done.length = k := by
        have := congrArg (fun l => l[done.length]?) hd
        simp at this
        have h3 : done.length < n := by
          have := congrArg List.length hd
          simp at this
          omega
        rw [List.getElem?_range h3] at this
        exact Option.some.inj this
      have fl : env.length = 4 := F.len
      refine ⟨env.set 2 (.pl (nI k)), rfl, ?_⟩
      generalize hE : env.set 2 (.pl (nI k)) = E
      have E0 : E[0]? = some (.pl (spc n r)) := by rw [← hE, List.getElem?_set_ne (by decide)]; exact F.at_ 0 (by decide)
      have E1 : E[1]? = some (.ow (.lst ((ldr n r k).map fun x => row n (Rn (nbH n r) x)))) := by rw [← hE, List.getElem?_set_ne (by decide), h2, hdk]
      have E2 : E[2]? = some (.pl (nI k)) := by rw [← hE]; exact List.getElem?_set_self (by rw [fl]; decide)
      have El : E.length = 4 := by rw [← hE]; simp [fl]
      have FE : Frm [1, 2] [.pl (spc n r), .ow (.lst []), .un, .un] E := by rw [← hE]; exact F.trans (Frm.set (by simp))
      have hany : mBor (mCB anyD (mCons (mComp (mRow (dVar 1)) [3] (bNm 3) (mYes) (m2 inD (dVar 2) (dVar 3))) mNil)) E p1 = .ok (.bl (decide (∃ z, z < k ∧ Rn (nbH n r) z k)), E, p1) := by
        have Z1 : (E.map Slot.fz)[1]? = some (.pl (.lst ((ldr n r k).map fun x => row n (Rn (nbH n r) x)))) := by rw [List.getElem?_map, E1]; rfl
        have Z2 : (E.map Slot.fz)[2]? = some (.pl (nI k)) := by rw [List.getElem?_map, E2]; rfl
        have Zl : (E.map Slot.fz).length = 4 := by simp [El]
        generalize hZ : E.map Slot.fz = Z at Z1 Z2 Zl
        have hc := run_comp (src := mRow (dVar 1)) (vs := [3]) (b := bNm 3) (t := mYes) (e := m2 inD (dVar 2) (dVar 3)) (fun x => row n (Rn (nbH n r) x)) (fun _ => true) (fun x => D.bl (decide (Rn (nbH n r) x k))) (ldr n r k) (env := Z) (p := p1) (run_row (run_var Z1) rfl) (fun x hx => by
          refine ⟨_, rfl, _, rfl, fun _ => ?_⟩
          generalize hW : (wipeE (Z.map Slot.rd) [3]).set 3 (.pl (row n (Rn (nbH n r) x))) = W
          have W2 : W[2]? = some (.pl (nI k)) := by
            rw [← hW, List.getElem?_set_ne (by decide)]
            show ((wipeE (Z.map Slot.rd) []).set 3 .un)[2]? = _
            rw [List.getElem?_set_ne (by decide)]
            show (Z.map Slot.rd)[2]? = _
            rw [List.getElem?_map, Z2]; rfl
          have W3 : W[3]? = some (.pl (row n (Rn (nbH n r) x))) := by
            rw [← hW]; exact List.getElem?_set_self (by rw [wipeE_length, List.length_map, Zl]; decide)
          refine ⟨_, pM2 (run_var W2) (run_var W3) ?_⟩
          have := in_nums (a := k) (y := row n (Rn (nbH n r) x)) (l := sel n (Rn (nbH n r) x)) rfl
          rw [show decide (k ∈ sel n (Rn (nbH n r) x)) = decide (Rn (nbH n r) x k) from decide_eq_decide.mpr (by rw [mem_sel]; exact ⟨fun h => h.2, fun h => ⟨hkn, h⟩⟩)] at this
          exact this) (Nat.le_trans (ldr_len k) (Nat.le_trans (Nat.le_of_lt hkn) (Nat.le_trans hn (by decide))))
        rw [filter_true] at hc
        refine run_bor (e1 := Z) ?_ rfl
        rw [hZ]
        refine pCB (pOne hc) ?_
        rw [any_map]
        congr 2
        refine bool_iff ?_
        rw [List.any_eq_true, ← ldr_any hkn]
        simp only [decide_eq_true_eq]
      by_cases hx : ∃ z, z < k ∧ Rn (nbH n r) z k
      · rw [decide_eq_true hx] at hany
        refine ⟨E, p1, pIfF (pNot (b := true) (pB hany)) rfl, rfl, ?_, FE⟩
        rw [E1, List.length_append, hdk]
        show _ = some (Slot.ow (.lst ((ldr n r (k + 1)).map _)))
        rw [ldr_succ, if_neg (fun h => by obtain ⟨z, a, b⟩ := hx; exact h z a b), List.append_nil]
      · rw [decide_eq_false hx] at hany
        refine ⟨_, p1, pIfT (pNot (b := false) (pB hany)) (run_expr (run_append E1 (pCall (pCons (run_var E0) (pOne (run_var E2))) (v_hanging hn Q hkn)) ?_)), rfl, ?_, FE.trans (Frm.set (by simp))⟩
        · rw [List.length_map]
          have := ldr_len (n := n) (r := r) k
          show _ < 16777216
          omega
        · rw [List.getElem?_set_self (by rw [El]; decide), List.length_append, hdk]
          show _ = some (Slot.ow (.lst ((ldr n r (k + 1)).map _)))
          rw [ldr_succ, if_pos (fun z a b => hx ⟨z, a, b⟩), List.map_append]
          rfl)
  rw [List.length_range] at h2
  refine run_seq h1 (run_frz h2 (pRet (pCB (pOne (run_var (List.getElem?_set_self ?_))) rfl)))
  rw [F.len]; show 1 < 4; decide
/-- fewer relations: no fewer parts -/
theorem ldr_mono {r' : Nat → Nat → Prop} (h : ∀ x y, x < n → y < n → r' x y → r x y) : (ldr n r n).length ≤ (ldr n r' n).length := by
  have hm : ∀ x z, x < n → z < n → Rn (nbH n r') z x → Rn (nbH n r) z x := fun x z hx hz a => a.mono nbH_lt (fun y w hy hw => by
    obtain ⟨b, c⟩ := mem_nbH.mp hw
    exact mem_nbH.mpr ⟨b, c.imp (h _ _ b hy) (h _ _ hy b)⟩) hz
  have sub : (ldr n r n) = (ldr n r' n).filter fun x => decide (∀ z, z < x → ¬ Rn (nbH n r) z x) := by
    unfold ldr
    rw [List.filter_filter]
    refine List.filter_congr fun x hx => ?_
    have hxn := List.mem_range.mp hx
    by_cases q : ∀ z, z < x → ¬ Rn (nbH n r) z x
    · have q' : ∀ z, z < x → ¬ Rn (nbH n r') z x := fun z hz a => q z hz (hm x z hxn (by omega) a)
      rw [decide_eq_true q, decide_eq_true q']; rfl
    · rw [decide_eq_false q]; simp
  rw [sub]
  exact List.length_filter_le ..
end
end CS
namespace CS
open PySem L2
open Classical
theorem Pen.Ok.mono {P : Pen} {a b : Nat} (h : P.Ok a) (hab : a ≤ b) : P.Ok b := ⟨h.f0, h.f1, Nat.le_trans h.c hab⟩
theorem lt50 {c : Nat} (h : c ≤ 1000000) : c < 2 ^ 50 := Nat.lt_of_le_of_lt h (by decide)
theorem vd {P : Pen} {c m : Nat} (h : P.Ok c) (hc : c ≤ 1000000) (hm : 0 < m) (hm2 : m ≤ 1000000) : ∃ k P', k < m ∧ drawF [.pen, nI m] (some P) = .ok (nI k, some P') ∧ P'.Ok (c + 1) := by
  obtain ⟨r, P', h1, h2, h3, h4⟩ := draw_ok (m := (m : Int)) h (by omega) (by omega) (lt50 hc)
  refine ⟨r.toNat, P', by omega, ?_, h4⟩
  have e : nI r.toNat = D.int r := by
    unfold nI
    rw [Int.toNat_of_nonneg h2]
  rw [e]
  exact h1
theorem v_pick {P : Pen} {c : Nat} {X : D} {ds : List D} (h : P.Ok c) (hc : c ≤ 1000000) (hr : X.row = .ok ds) (hlen : lenD [X] = .ok (nI ds.length)) (h0 : ds ≠ []) (h1 : ds.length ≤ 1000000) : ∃ d P', d ∈ ds ∧ m_law_pick [.pen, X] (some P) = .ok (d, some P') ∧ P'.Ok (c + 1) := by
  obtain ⟨k, P', hk, hd, ho⟩ := vd h hc (m := ds.length) (List.length_pos_iff.mpr h0) h1
  refine ⟨ds[k], P', List.getElem_mem hk, ?_, ho⟩
  exact run_fn rfl (pRet (pM2 rfl (pCall (pCons rfl (pOne (pCB rfl hlen))) hd) (ix_nat hr (List.getElem?_eq_getElem hk))))
theorem at_gen {ds : List D} {k : Nat} {d : D} {A : Int} (h : ds[k]? = some d) (hA : (k : Int) < A) : ((asI (D.int k)).bind fun k => if 0 ≤ k ∧ k < A then (match ds[k.toNat]? with
  | some d => Res.ok (d, k.toNat)
  | none => .bad) else .bad) = .ok (d, k) := by
  have h0 : asI (D.int k) = .ok (k : Int) := rfl
  rw [h0]
  simp only [Res.bind]
  rw [if_pos ⟨by omega, hA⟩, Int.toNat_natCast, h]
theorem lt63' {n : Nat} (hn : n ≤ 1000000) : (n : Int) < 2 ^ 63 := by omega
theorem atD_nat {ds : List D} {k : Nat} {d : D} (h : ds[k]? = some d) (hk : k ≤ 1000000) : atD ds (nI k) = .ok (d, k) := by
  unfold atD
  exact at_gen h (lt63' hk)
theorem run_popAt {env : Env'} {p p1 : Pn} {i : Nat} {m : M D} {k : Nat} {d : D} {ds : List D} (h : env[i]? = some (.ow (.lst ds))) (hm : m env p = .ok (nI k, env, p1)) (hx : ds[k]? = some d) (hk : k ≤ 1000000) : mPopAt i m env p = .ok (d, env.set i (.ow (.lst (ds.eraseIdx k))), p1) := by
  refine run_bind (run_chk h) (run_bind hm (run_bind (a := ds) (e1 := env) (p1 := p1) ?_ (run_bind (run_res (atD_nat hx hk)) (run_bind (a := ()) (e1 := env.set i (.ow (.lst (ds.eraseIdx k)))) (p1 := p1) rfl rfl))))
  unfold mGetW; rw [getW_ow h]; rfl
theorem erase_perm {α : Type} : ∀ (l : List α) (k : Nat) (d : α), l[k]? = some d → (d :: l.eraseIdx k).Perm l
  | [], k, d, h => by simp at h
  | a :: l, 0, d, h => by
    simp at h; subst h; exact .refl _
  | a :: l, k + 1, d, h => by
    have := erase_perm l k d (by simpa using h)
    rw [List.eraseIdx_cons_succ]
    exact (List.Perm.swap a d _).trans (this.cons a)
theorem v_shuffled {P : Pen} {c : Nat} {X : D} {ds : List D} (h : P.Ok c) (hc : c ≤ 100000) (hr : listD [X] = .ok (.lst ds)) (hlen : lenD [X] = .ok (nI ds.length)) (hl : ds.length ≤ 1000) :
    ∃ ds' P', ds'.Perm ds ∧ m_law_shuffled [.pen, X] (some P) = .ok (.lst ds', some P') ∧ P'.Ok (c + ds.length) := by
  have hpar : dParOO 2 3 (mCB listD (mCons (dVar 1) mNil)) (mLst mNil) [.pl .pen, .pl X, .un, .un, .un] (some P) = .nx (([Slot.pl .pen, .pl X, .un, .un, .un].set 2 (.ow (.lst ds))).set 3 (.ow (.lst []))) (some P) := run_parOO (pCB rfl hr) rfl
  obtain ⟨e', p', h1, P', rest, found, rfl, hO, g2, g3, hp, hL, F⟩ := run_for (src := mRange1 (mCB lenD (mCons (dVar 1) mNil))) (b := bNm 4) (body := dExpr (mAppend 3 (mPopAt 2 (mCall drawF [] (mCons (dVar 0) (mCons (mBor (mCB lenD (mCons (dVar 2) mNil))) mNil))))))
    (env := [.pl .pen, .pl X, .ow (.lst ds), .ow (.lst []), .un]) (p := some P) nI (List.range ds.length)
    (fun done env p1 => ∃ (P1 : Pen) (rest found : List D), p1 = some P1 ∧ P1.Ok (c + done.length) ∧ env[2]? = some (.ow (.lst rest)) ∧ env[3]? = some (.ow (.lst found)) ∧ (found ++ rest).Perm ds ∧ rest.length + done.length = ds.length ∧ Frm [2, 3, 4] [.pl .pen, .pl X, .ow (.lst ds), .ow (.lst []), .un] env)
    (run_range (pCB rfl hlen) (by omega)) ⟨P, ds, [], rfl, h, rfl, rfl, .refl _, rfl, Frm.refl⟩ (fun done x rs env p1 hd ⟨P1, rest, found, hp1, hO, g2, g3, hp, hL, F⟩ => by
      subst hp1
      have hdl : done.length < ds.length := by
        have := congrArg List.length hd
        simp at this
        omega
      refine ⟨env.set 4 (.pl (nI x)), rfl, ?_⟩
      have fl : env.length = 5 := F.len
      generalize hE : env.set 4 (.pl (nI x)) = E
      have E0 : E[0]? = some (.pl .pen) := by rw [← hE, List.getElem?_set_ne (by decide)]; exact F.at_ 0 (by decide)
      have E2 : E[2]? = some (.ow (.lst rest)) := by rw [← hE, List.getElem?_set_ne (by decide)]; exact g2
      have E3 : E[3]? = some (.ow (.lst found)) := by rw [← hE, List.getElem?_set_ne (by decide)]; exact g3
      have El : E.length = 5 := by rw [← hE]; simp [fl]
      have FE : Frm [2, 3, 4] [.pl .pen, .pl X, .ow (.lst ds), .ow (.lst []), .un] E := by rw [← hE]; exact F.trans (Frm.set (by simp))
      obtain ⟨k, P2, hk, hdr, hO2⟩ := vd hO (by omega) (m := rest.length) (by omega) (by omega)
      have hx := List.getElem?_eq_getElem hk
      have hpop := run_popAt E2 (m := mCall drawF [] (mCons (dVar 0) (mCons (mBor (mCB lenD (mCons (dVar 2) mNil))) mNil))) (p := some P1) (pCall (pCons (run_var E0) (pOne (run_lenO E2))) hdr) hx (by omega)
      have E3' : (E.set 2 (.ow (.lst (rest.eraseIdx k))))[3]? = some (.ow (.lst found)) := by rw [List.getElem?_set_ne (by decide)]; exact E3
      have happ : mAppend 3 (mPopAt 2 (mCall drawF [] (mCons (dVar 0) (mCons (mBor (mCB lenD (mCons (dVar 2) mNil))) mNil)))) E (some P1) = .ok (.non, (E.set 2 (.ow (.lst (rest.eraseIdx k)))).set 3 (.ow (.lst (found ++ [rest[k]]))), some P2) := by
        refine run_bind (run_chk E3) (run_bind hpop (run_bind (a := found) (e1 := E.set 2 (.ow (.lst (rest.eraseIdx k)))) (p1 := some P2) ?_ (run_bind (a := ()) (e1 := E.set 2 (.ow (.lst (rest.eraseIdx k)))) (p1 := some P2) (run_res ?_) rfl)))
        · unfold mGetW; rw [getW_ow E3']; rfl
        · have := hp.length_eq
          rw [List.length_append] at this
          exact if_pos (show found.length < 16777216 by omega)
      have hpe := erase_perm rest k _ hx
      refine ⟨_, _, run_expr happ, P2, rest.eraseIdx k, found ++ [rest[k]], rfl, ?_, ?_, ?_, ?_, ?_, FE.trans ((Frm.set (by simp)).trans (Frm.set (by simp)))⟩
      · rw [List.length_append]; exact hO2
      · rw [List.getElem?_set_ne (by decide)]; exact List.getElem?_set_self (by rw [El]; decide)
      · exact List.getElem?_set_self (by simp [El])
      · rw [List.append_assoc]
        exact (List.Perm.append_left found hpe).trans hp
      · have := hpe.length_eq
        rw [List.length_cons] at this
        rw [List.length_append, List.length_singleton]
        omega)
  rw [List.length_range] at hO hL
  have hr0 : rest = [] := List.eq_nil_of_length_eq_zero (by omega)
  subst hr0
  rw [List.append_nil] at hp
  refine ⟨found, P', hp, run_fn rfl (run_seq hpar (run_seq h1 (run_frz g3 (pRet (run_var (List.getElem?_set_self ?_)))))), hO⟩
  rw [F.len]; show 3 < 5; decide
def unI : D → Nat
  | .int i => i.toNat
  | _ => 0
theorem perm_nums {ds : List D} {l0 : List Nat} (h : ds.Perm (l0.map nI)) : ∃ l : List Nat, ds = l.map nI ∧ l.Perm l0 := by
  refine ⟨ds.map unI, ?_, ?_⟩
  · rw [List.map_map]
    conv => lhs; rw [← List.map_id ds]
    refine List.map_congr_left fun d hd => ?_
    obtain ⟨i, _, rfl⟩ := List.mem_map.mp (h.mem_iff.mp hd)
    rfl
  · have := h.map unI
    rw [List.map_map] at this
    rwa [show l0.map (unI ∘ nI) = l0 from by
      conv => rhs; rw [← List.map_id l0]
      exact List.map_congr_left fun i _ => rfl] at this
theorem rgL_gen {n : Nat} {B : Int} (hn : n ≤ 16777216) (h3 : B ≤ (n : Int)) : (if (n : Int) ≤ 16777216 ∧ B ≤ (n : Int) then Res.ok (D.lst ((List.range (n : Int).toNat).map fun (i : Nat) => D.int i)) else .bad) = .ok (.lst ((List.range n).map nI)) := by
  rw [if_pos ⟨by omega, h3⟩, Int.toNat_natCast]
  rfl
theorem rgL_nat {n : Nat} (hn : n ≤ 16777216) : rgL (nI n) = .ok (.lst ((List.range n).map nI)) := by
  have h0 : asI (nI n) = .ok (n : Int) := rfl
  unfold rgL
  rw [h0]
  simp only [Res.bind]
  exact rgL_gen hn ge62
/-- an order of the points below n -/
theorem v_order {P : Pen} {c n : Nat} (h : P.Ok c) (hc : c ≤ 100000) (hn : n ≤ 1000) : ∃ (l : List Nat) (P' : Pen), l.Perm (List.range n) ∧ m_law_shuffled [.pen, .lst ((List.range n).map nI)] (some P) = .ok (.lst (l.map nI), some P') ∧ P'.Ok (c + n) := by
  obtain ⟨ds, P', h1, h2, h3⟩ := v_shuffled (X := .lst ((List.range n).map nI)) (ds := (List.range n).map nI) h hc rfl rfl (by simpa using hn)
  obtain ⟨l, rfl, hl⟩ := perm_nums h1
  exact ⟨l, P', hl, h2, by simpa using h3⟩
theorem nodup_inj {l : List Nat} (h : l.Nodup) {i j : Nat} (hi : i < l.length) (hj : j < l.length) (e : l[i] = l[j]) : i = j := by
  have h2 := List.pairwise_iff_getElem.mp h
  rcases Nat.lt_trichotomy i j with q | q | q
  · exact absurd e (h2 i j hi hj q)
  · exact q
  · exact absurd e.symm (h2 j i hj hi q)
theorem pos_ex {n : Nat} {l : List Nat} (h : l.Perm (List.range n)) : ∃ f : Nat → Nat, ∀ i x, l[i]? = some x → f x = i := by
  have nd : l.Nodup := h.nodup_iff.mpr List.nodup_range
  refine ⟨fun x => if q : ∃ i, l[i]? = some x then q.choose else 0, fun i x hx => ?_⟩
  have q : ∃ i, l[i]? = some x := ⟨i, hx⟩
  show (if q : ∃ i, l[i]? = some x then q.choose else 0) = i
  rw [dif_pos q]
  have h2 := q.choose_spec
  obtain ⟨a1, a2⟩ := List.getElem?_eq_some_iff.mp h2
  obtain ⟨b1, b2⟩ := List.getElem?_eq_some_iff.mp hx
  exact nodup_inj nd a1 b1 (a2.trans b2.symm)
theorem ord_at {n i : Nat} {l : List Nat} (h : l.Perm (List.range n)) (hi : i < n) : ∃ x, l[i]? = some x ∧ x < n := by
  have hl : i < l.length := by rw [h.length_eq, List.length_range]; exact hi
  exact ⟨l[i], List.getElem?_eq_getElem hl, List.mem_range.mp (h.mem_iff.mp (List.getElem_mem hl))⟩
end CS
namespace CS
open PySem L2
open Classical
theorem sub_nat {a b : Nat} (h : b ≤ a) : subD (nI a) (nI b) = .ok (nI (a - b)) := by
  show Res.ok (D.int ((a : Int) - (b : Int))) = _
  unfold nI
  congr 2
  omega
structure Good (n : Nat) (ps : List (Nat × Nat)) : Prop where
  pos : 1 ≤ n
  inn : In n ps
  rk : ∃ f : Nat → Nat, ∀ q ∈ ps, f q.1 < f q.2
  len : ps.length ≤ 100
theorem v_some_pairs {P : Pen} {c n m : Nat} (h : P.Ok c) (hc : c ≤ 50000) (h1 : 1 ≤ n) (hn : n ≤ 24) (hm : m ≤ 100) : ∃ (ps : List (Nat × Nat)) (P' : Pen), m_law_some_pairs [.pen, nI n, nI m] (some P) = .ok (.lst (ps.map prD), some P') ∧ Good n ps ∧ P'.Ok (c + 300) := by
  obtain ⟨l, P0, hl, ho, hO0⟩ := v_order h (by omega) (n := n) (by omega)
  obtain ⟨f, hf⟩ := pos_ex hl
  have hsrc : ∃ (K : Nat) (P1 : Pen), K ≤ m ∧ (0 < K → 1 < n) ∧ P1.Ok (c + n + 1) ∧ mRange1 (mIf (mB (m2 gtD (dVar 1) (M.ret (.int 1)))) (mCall drawF [] (mCons (dVar 0) (mCons (m2 addD (dVar 2) (M.ret (.int 1))) mNil))) (M.ret (.int 0))) [.pl .pen, .pl (nI n), .pl (nI m), .pl (.lst (l.map nI)), .ow (.lst []), .un, .un, .un] (some P0) = .ok ((List.range K).map nI, [.pl .pen, .pl (nI n), .pl (nI m), .pl (.lst (l.map nI)), .ow (.lst []), .un, .un, .un], some P1) := by
    have hg := gt_nat n 1
    by_cases h2 : 1 < n
    · rw [decide_eq_true h2] at hg
      obtain ⟨K, P1, hK, hd, hO1⟩ := vd hO0 (by omega) (m := m + 1) (by omega) (by omega)
      exact ⟨K, P1, by omega, fun _ => h2, hO1, run_range (run_bind (run_B (run_m2 rfl rfl hg)) (pCall (pCons rfl (pOne (pM2 rfl rfl (add_nat _ 1)))) hd)) (by omega)⟩
    · rw [decide_eq_false h2] at hg
      exact ⟨0, P0, by omega, fun h => by omega, hO0.mono (by omega), run_range (n := 0) (run_bind (run_B (run_m2 rfl rfl hg)) rfl) (by omega)⟩
  obtain ⟨K, P1, hK, hK1, hO1, hS⟩ := hsrc
  obtain ⟨e', p', g1, P2, ps, rfl, hO2, k4, kl, kin, krk, F⟩ := run_for (b := bNm 5) (body := dSeq (dSet 6 (mCall drawF [] (mCons (dVar 0) (mCons (m2 subD (dVar 1) (M.ret (.int 1))) mNil)))) (dSeq (dSet 7 (m2 addD (m2 addD (dVar 6) (M.ret (.int 1))) (mCall drawF [] (mCons (dVar 0) (mCons (m2 subD (m2 subD (dVar 1) (M.ret (.int 1))) (dVar 6)) mNil))))) (dExpr (mAppend 4 (mTup (mCons (m2 ixD (dVar 3) (dVar 6)) (mCons (m2 ixD (dVar 3) (dVar 7)) mNil)))))))
    nI (List.range K) (fun done env p1 => ∃ (P2 : Pen) (ps : List (Nat × Nat)), p1 = some P2 ∧ P2.Ok (c + n + 1 + 2 * done.length) ∧ env[4]? = some (.ow (.lst (ps.map prD))) ∧ ps.length = done.length ∧ In n ps ∧ (∀ q ∈ ps, f q.1 < f q.2) ∧ Frm [4, 5, 6, 7] [.pl .pen, .pl (nI n), .pl (nI m), .pl (.lst (l.map nI)), .ow (.lst []), .un, .un, .un] env)
    hS ⟨P1, [], rfl, hO1, rfl, rfl, (fun _ h => nomatch h), (fun _ h => nomatch h), Frm.refl⟩ (fun done x rs env p1 hd ⟨P2, ps, hp1, hO2, k4, kl, kin, krk, F⟩ => by
      subst hp1
      have hdl : done.length < K := by
        have := congrArg List.length hd
        simp at this
        omega
      have h2 : 1 < n := hK1 (by omega)
      refine ⟨env.set 5 (.pl (nI x)), rfl, ?_⟩
      have fl : env.length = 8 := F.len
      obtain ⟨a, P3, ha, hda, hO3⟩ := vd hO2 (by omega) (m := n - 1) (by omega) (by omega)
      obtain ⟨b, P4, hb, hdb, hO4⟩ := vd hO3 (by omega) (m := n - 1 - a) (by omega) (by omega)
      obtain ⟨u, hu, hun⟩ := ord_at hl (i := a) (by omega)
      obtain ⟨v, hv, hvn⟩ := ord_at hl (i := a + 1 + b) (by omega)
      generalize hE : env.set 5 (.pl (nI x)) = E
      have E0 : E[0]? = some (.pl .pen) := by rw [← hE, List.getElem?_set_ne (by decide)]; exact F.at_ 0 (by decide)
      have E1 : E[1]? = some (.pl (nI n)) := by rw [← hE, List.getElem?_set_ne (by decide)]; exact F.at_ 1 (by decide)
      have E3 : E[3]? = some (.pl (.lst (l.map nI))) := by rw [← hE, List.getElem?_set_ne (by decide)]; exact F.at_ 3 (by decide)
      have E4 : E[4]? = some (.ow (.lst (ps.map prD))) := by rw [← hE, List.getElem?_set_ne (by decide)]; exact k4
      have El : E.length = 8 := by rw [← hE]; simp [fl]
      have FE : Frm [4, 5, 6, 7] [.pl .pen, .pl (nI n), .pl (nI m), .pl (.lst (l.map nI)), .ow (.lst []), .un, .un, .un] E := by rw [← hE]; exact F.trans (Frm.set (by simp))
      have hA : dSet 6 (mCall drawF [] (mCons (dVar 0) (mCons (m2 subD (dVar 1) (M.ret (.int 1))) mNil))) E (some P2) = .nx (E.set 6 (.pl (nI a))) (some P3) := pSet (pCall (pCons (run_var E0) (pOne (pM2 (run_var E1) rfl (sub_nat (b := 1) h1)))) hda)
      generalize hG : E.set 6 (.pl (nI a)) = G at hA
      have G0 : G[0]? = some (.pl .pen) := by rw [← hG, List.getElem?_set_ne (by decide)]; exact E0
      have G1 : G[1]? = some (.pl (nI n)) := by rw [← hG, List.getElem?_set_ne (by decide)]; exact E1
      have G3 : G[3]? = some (.pl (.lst (l.map nI))) := by rw [← hG, List.getElem?_set_ne (by decide)]; exact E3
      have G4 : G[4]? = some (.ow (.lst (ps.map prD))) := by rw [← hG, List.getElem?_set_ne (by decide)]; exact E4
      have G6 : G[6]? = some (.pl (nI a)) := by rw [← hG]; exact List.getElem?_set_self (by rw [El]; decide)
      have Gl : G.length = 8 := by rw [← hG]; simp [El]
      have hB : dSet 7 (m2 addD (m2 addD (dVar 6) (M.ret (.int 1))) (mCall drawF [] (mCons (dVar 0) (mCons (m2 subD (m2 subD (dVar 1) (M.ret (.int 1))) (dVar 6)) mNil)))) G (some P3) = .nx (G.set 7 (.pl (nI (a + 1 + b)))) (some P4) :=
        pSet (pM2 (pM2 (run_var G6) rfl (add_nat _ 1)) (pCall (pCons (run_var G0) (pOne (pM2 (pM2 (run_var G1) rfl (sub_nat (b := 1) h1)) (run_var G6) (sub_nat (by omega))))) hdb) (add_nat _ _))
      generalize hJ : G.set 7 (.pl (nI (a + 1 + b))) = J at hB
      have J3 : J[3]? = some (.pl (.lst (l.map nI))) := by rw [← hJ, List.getElem?_set_ne (by decide)]; exact G3
      have J4 : J[4]? = some (.ow (.lst (ps.map prD))) := by rw [← hJ, List.getElem?_set_ne (by decide)]; exact G4
      have J6 : J[6]? = some (.pl (nI a)) := by rw [← hJ, List.getElem?_set_ne (by decide)]; exact G6
      have J7 : J[7]? = some (.pl (nI (a + 1 + b))) := by rw [← hJ]; exact List.getElem?_set_self (by rw [Gl]; decide)
      have Jl : J.length = 8 := by rw [← hJ]; simp [Gl]
      refine ⟨_, _, run_seq hA (run_seq hB (run_expr (run_append (d := prD (u, v)) J4 (run_tup (run_cons (pM2 (run_var J3) (run_var J6) (ix_nat rfl (by rw [List.getElem?_map, hu]; rfl))) (run_cons (pM2 (run_var J3) (run_var J7) (ix_nat rfl (by rw [List.getElem?_map, hv]; rfl))) rfl)) (by show 2 ≤ sizeLine; decide)) ?_))), P4, ps ++ [(u, v)], rfl, ?_, ?_, ?_, ?_, ?_, ?_⟩
      · rw [List.length_map]
        show _ < 16777216
        omega
      · rw [List.length_append, List.length_singleton]
        exact hO4.mono (by omega)
      · rw [List.getElem?_set_self (by rw [Jl]; decide), List.map_append]; rfl
      · rw [List.length_append, List.length_append, kl]; rfl
      · intro q hq
        rcases List.mem_append.mp hq with hq | hq
        · exact kin q hq
        · rw [List.mem_singleton] at hq; subst hq; exact ⟨hun, hvn⟩
      · intro q hq
        rcases List.mem_append.mp hq with hq | hq
        · exact krk q hq
        · rw [List.mem_singleton] at hq; subst hq
          show f u < f v
          rw [hf a u hu, hf (a + 1 + b) v hv]
          omega
      · refine FE.trans (Frm.trans ?_ (Frm.set (by simp)))
        rw [← hJ, ← hG]
        exact (Frm.set (by simp)).trans (Frm.set (by simp)))
  rw [List.length_range] at hO2 kl
  refine ⟨ps, P2, run_fn rfl (run_seq (pSet (pCall (pCons rfl (pOne (run_m1 rfl (rgL_nat (by omega))))) ho)) (run_seq (pSetO rfl) (run_seq g1 (run_frz k4 (pRet (run_var (List.getElem?_set_self ?_))))))), ⟨h1, kin, ⟨f, krk⟩, by omega⟩, hO2.mono (by omega)⟩
  rw [F.len]; show 4 < 8; decide
end CS
namespace CS
open PySem L2
def kD (z : Nat × List (Nat × Nat)) : D := .tup [nI z.1, .lst (z.2.map prD)]
def kn1 : List (Nat × List (Nat × Nat)) := [(4, [(0, 2), (0, 3), (1, 2), (1, 3)]), (6, [(0, 3), (0, 4), (1, 4), (1, 5), (2, 5), (2, 3)])]
def kn2 : List (Nat × List (Nat × Nat)) := kn1 ++ [(5, [(0, 1), (2, 1), (2, 3), (4, 3)]), (3, [(0, 1), (1, 2)]), (3, [])]
def kn3 : List (Nat × List (Nat × Nat)) := kn2 ++ [(5, [(0, 1), (0, 2), (1, 3), (2, 3), (4, 3)]), (1, []), (2, [(0, 1)])]
def kn4 : List (Nat × List (Nat × Nat)) := kn3 ++ [(6, [(0, 2), (0, 3), (1, 2), (1, 3), (2, 4), (2, 5), (3, 4), (3, 5)])]
/-- the known ones with ranks of their points -/
def knR : List (Nat × List (Nat × Nat) × List Nat) := [(4, [(0, 2), (0, 3), (1, 2), (1, 3)], [0, 0, 1, 1]), (6, [(0, 3), (0, 4), (1, 4), (1, 5), (2, 5), (2, 3)], [0, 0, 0, 1, 1, 1]),
  (5, [(0, 1), (2, 1), (2, 3), (4, 3)], [0, 1, 0, 1, 0]), (3, [(0, 1), (1, 2)], [0, 1, 2]), (3, [], []), (5, [(0, 1), (0, 2), (1, 3), (2, 3), (4, 3)], [0, 1, 1, 2, 0]), (1, [], []), (2, [(0, 1)], [0, 1]),
  (6, [(0, 2), (0, 3), (1, 2), (1, 3), (2, 4), (2, 5), (3, 4), (3, 5)], [0, 0, 1, 1, 2, 2])]
theorem knR_eq : knR.map (fun z => (z.1, z.2.1)) = kn4 := by rfl
theorem knR_ok : ∀ z ∈ knR, 1 ≤ z.1 ∧ (∀ q ∈ z.2.1, q.1 < z.1 ∧ q.2 < z.1) ∧ (∀ q ∈ z.2.1, z.2.2.getD q.1 0 < z.2.2.getD q.2 0) ∧ z.2.1.length ≤ 100 := by decide +kernel
theorem kn_good {z : Nat × List (Nat × Nat)} (h : z ∈ kn4) : Good z.1 z.2 := by
  rw [← knR_eq] at h
  obtain ⟨w, hw, rfl⟩ := List.mem_map.mp h
  obtain ⟨a, b, c, d⟩ := knR_ok w hw
  exact ⟨a, b, ⟨fun i => w.2.2.getD i 0, c⟩, d⟩
theorem v_known {P : Pen} {c m : Nat} (h : P.Ok c) (hc : c ≤ 100000) (hm : 1 ≤ m) (hm2 : m ≤ 100) : ∃ (z : Nat × List (Nat × Nat)) (P' : Pen), m_law_known [.pen, nI m] (some P) = .ok (kD z, some P') ∧ Good z.1 z.2 ∧ z.1 ≤ m ∧ P'.Ok (c + 1) := by
  have hmem : ((1, []) : Nat × List (Nat × Nat)) ∈ kn4.filter fun z => decide (z.1 ≤ m) := List.mem_filter.mpr ⟨by decide, decide_eq_true hm⟩
  have hl : (kn4.filter fun z => decide (z.1 ≤ m)).length ≤ 9 := List.length_filter_le ..
  obtain ⟨d, P', hd, hp, hO⟩ := v_pick (X := .lst ((kn4.filter fun z => decide (z.1 ≤ m)).map kD)) (ds := (kn4.filter fun z => decide (z.1 ≤ m)).map kD) h (by omega) rfl rfl (fun e => by
    rw [List.map_eq_nil_iff.mp e] at hmem
    cases hmem) (by rw [List.length_map]; omega)
  obtain ⟨z, hz, rfl⟩ := List.mem_map.mp hd
  obtain ⟨hz1, hz2⟩ := List.mem_filter.mp hz
  refine ⟨z, P', ?_, kn_good hz1, of_decide_eq_true hz2, hO⟩
  have hcomp : mComp (mRow (dVar 2)) [3] (bNm 3) (mB (m2 leD (m2 ixD (dVar 3) (M.ret (.int 0))) (dVar 1))) (dVar 3) [.pl .pen, .pl (nI m), .pl (.lst (kn4.map kD)), .un] (some P) = .ok (.lst ((kn4.filter fun z => decide (z.1 ≤ m)).map kD), [.pl .pen, .pl (nI m), .pl (.lst (kn4.map kD)), .un], some P) :=
    run_comp kD (fun z => decide (z.1 ≤ m)) kD kn4 (run_row rfl rfl) (fun z _ => ⟨_, rfl, _, pB (pM2 (pM2 rfl rfl (ix_nat (i := 0) rfl rfl)) rfl (le_nat _ _)), fun _ => ⟨_, rfl⟩⟩) (by show 9 ≤ sizeLine; decide)
  refine run_fn rfl (run_seq (pSet (d := .lst (kn1.map kD)) rfl) (run_seq (pSet (d := .lst (kn2.map kD)) rfl) (run_seq (pSet (d := .lst (kn3.map kD)) rfl) (run_seq (pSet (d := .lst (kn4.map kD)) rfl) (pRet (pCall (pCons rfl (pOne hcomp)) hp))))))
def nmd (l : List Nat) (q : Nat × Nat) : Nat × Nat := (l.getD q.1 0, l.getD q.2 0)
theorem v_some_space {P : Pen} {c m : Nat} (h : P.Ok c) (hc : c ≤ 10000) (hm : 1 ≤ m) (hm2 : m ≤ 24) : ∃ (n : Nat) (ps : List (Nat × Nat)) (P' : Pen), m_law_some_space [.pen, nI m] (some P) = .ok (.tup [nI n, .lst (ps.map prD)], some P') ∧ Good n ps ∧ n ≤ m ∧ P'.Ok (c + 1000) := by
  obtain ⟨a, P1, ha, hda, hO1⟩ := vd h (by omega) (m := m) (by omega) (by omega)
  obtain ⟨b, P2, hb, hdb, hO2⟩ := vd hO1 (by omega) (m := 3) (by omega) (by omega)
  have hpar : dPar 2 3 (m2 addD (M.ret (.int 1)) (mCall drawF [] (mCons (dVar 0) (mCons (dVar 1) mNil)))) (M.ret .non) [.pl .pen, .pl (nI m), .un, .un, .un, .un, .un] (some P) = .nx (([Slot.pl .pen, .pl (nI m), .un, .un, .un, .un, .un].set 2 (.pl (nI (1 + a)))).set 3 (.pl .non)) (some P1) :=
    run_par (run_m2 rfl (pCall rfl hda) (add_nat 1 a)) rfl
  have htest : mB (m2 eqD (mCall drawF [] (mCons (dVar 0) (mCons (M.ret (.int 3)) mNil))) (M.ret (.int 0))) [.pl .pen, .pl (nI m), .pl (nI (1 + a)), .pl .non, .un, .un, .un] (some P1) = .ok (decide (b = 0), [.pl .pen, .pl (nI m), .pl (nI (1 + a)), .pl .non, .un, .un, .un], some P2) :=
    pB (pM2 (pCall rfl hdb) rfl (eq_nat b 0))
  by_cases hb0 : b = 0
  · rw [decide_eq_true hb0] at htest
    obtain ⟨z, P3, hk, hg, hzm, hO3⟩ := v_known hO2 (by omega) (m := m) (by omega) (by omega)
    have hzn : z.1 ≤ 24 := by omega
    obtain ⟨l, P4, hl, ho, hO4⟩ := v_order hO3 (by omega) (n := z.1) (by omega)
    obtain ⟨f, hf⟩ := pos_ex hl
    obtain ⟨g, hgk⟩ := hg.rk
    have hat : ∀ i, i < z.1 → l[i]? = some (l.getD i 0) ∧ l.getD i 0 < z.1 ∧ f (l.getD i 0) = i := fun i hi => by
      obtain ⟨x, hx, hxn⟩ := ord_at hl hi
      have e : l.getD i 0 = x := by rw [List.getD_eq_getElem?_getD, hx]; rfl
      rw [e]
      exact ⟨hx, hxn, hf i x hx⟩
    refine ⟨z.1, z.2.map (nmd l), P4, ?_, ⟨hg.pos, fun q hq => ?_, ⟨fun x => g (f x), fun q hq => ?_⟩, by rw [List.length_map]; exact hg.len⟩, hzm, hO4.mono (by omega)⟩
    · have hcomp := run_comp (src := mRow (dVar 3)) (vs := [5, 6]) (b := bTup 2 (bCons (bNm 5) (bCons (bNm 6) bNil))) (t := mYes) (e := mTup (mCons (m2 ixD (dVar 4) (dVar 5)) (mCons (m2 ixD (dVar 4) (dVar 6)) mNil))) prD (fun _ => true) (fun q => prD (nmd l q)) z.2 (env := [.pl .pen, .pl (nI m), .pl (nI z.1), .pl (.lst (z.2.map prD)), .pl (.lst (l.map nI)), .un, .un]) (p := some P4) (run_row rfl rfl) (fun q hq => by
        obtain ⟨q1, q2⟩ := hg.inn q hq
        exact ⟨_, rfl, _, rfl, fun _ => ⟨_, run_tup (run_cons (pM2 rfl rfl (ix_nat rfl (by rw [List.getElem?_map, (hat _ q1).1]; rfl))) (run_cons (pM2 rfl rfl (ix_nat rfl (by rw [List.getElem?_map, (hat _ q2).1]; rfl))) rfl)) (by show 2 ≤ sizeLine; decide)⟩⟩) (Nat.le_trans hg.len (by decide))
      rw [filter_true] at hcomp
      refine run_fn rfl (run_seq hpar (run_seqR (pIfT htest (run_seq (run_asg (pCall rfl hk) rfl) (run_seq (pSet (pCall (pCons rfl (pOne (run_m1 rfl (rgL_nat (by omega))))) ho)) (pRet (run_tup (xs := [nI z.1, .lst ((z.2.map (nmd l)).map prD)]) (run_cons rfl (run_cons ?_ rfl)) (by show 2 ≤ sizeLine; decide))))))))
      rw [List.map_map]
      exact hcomp
    · obtain ⟨w, hw, rfl⟩ := List.mem_map.mp hq
      obtain ⟨q1, q2⟩ := hg.inn w hw
      exact ⟨(hat _ q1).2.1, (hat _ q2).2.1⟩
    · obtain ⟨w, hw, rfl⟩ := List.mem_map.mp hq
      obtain ⟨q1, q2⟩ := hg.inn w hw
      show g (f (l.getD w.1 0)) < g (f (l.getD w.2 0))
      rw [(hat _ q1).2.2, (hat _ q2).2.2]
      exact hgk w hw
  · rw [decide_eq_false hb0] at htest
    obtain ⟨ps, P3, h1, h2, h3⟩ := v_some_pairs hO2 (by omega) (n := 1 + a) (m := 2 * (1 + a)) (by omega) (by omega) (by omega)
    refine ⟨1 + a, ps, P3, run_fn rfl (run_seq hpar (run_seq (pIfF htest rfl) (pRet (run_tup (xs := [nI (1 + a), .lst (ps.map prD)]) (run_cons rfl (run_cons (pCall (pCons rfl (pCons rfl (pOne (pM2 rfl rfl (mul_nat (a := 2) (by decide)))))) h1) rfl)) (by show 2 ≤ sizeLine; decide))))), h2, by omega, h3.mono (by omega)⟩
end CS
namespace CS
open PySem L2
open Classical
theorem maxL_nat : ∀ (a : Nat) (l : List Nat), ∃ M : Nat, maxL ((a :: l).map fun (i : Nat) => (i : Int)) = (M : Int) ∧ M ∈ a :: l ∧ ∀ x ∈ a :: l, x ≤ M
  | a, [] => ⟨a, rfl, by simp, fun x hx => by rw [List.mem_singleton] at hx; omega⟩
  | a, b :: l => by
    obtain ⟨M, h1, h2, h3⟩ := maxL_nat b l
    refine ⟨max a M, ?_, ?_, fun x hx => ?_⟩
    · show max (a : Int) (maxL ((b :: l).map fun (i : Nat) => (i : Int))) = _
      rw [h1]; omega
    · rcases Nat.le_total a M with h | h
      · rw [Nat.max_eq_right h]; exact List.mem_cons_of_mem _ h2
      · rw [Nat.max_eq_left h]; exact List.mem_cons_self ..
    · rcases List.mem_cons.mp hx with rfl | hx
      · exact Nat.le_max_left ..
      · exact Nat.le_trans (h3 x hx) (Nat.le_max_right ..)
theorem max1_lst {l : List Nat} (h : l ≠ []) : ∃ M, max1D [.lst (l.map nI)] = .ok (nI M) ∧ M ∈ l ∧ ∀ x ∈ l, x ≤ M := by
  cases l with
  | nil => exact absurd rfl h
  | cons a l =>
    obtain ⟨M, h1, h2, h3⟩ := maxL_nat a l
    refine ⟨M, ?_, h2, h3⟩
    unfold max1D
    dsimp only
    rw [toInts_nums]
    show (if ((a :: l).map fun (i : Nat) => (i : Int)).isEmpty then Res.bad else Res.ok (D.int (maxL ((a :: l).map fun (i : Nat) => (i : Int))))) = _
    rw [h1]
    rfl
theorem maxA_of (ds : List D) : maxA [.lst ds] = max1D [.lst ds] := rfl
theorem max1_tup {l : List Nat} (h : l ≠ []) : ∃ M, maxA [.tup (l.map nI)] = .ok (nI M) ∧ M ∈ l ∧ ∀ x ∈ l, x ≤ M := by
  obtain ⟨M, h1, h2, h3⟩ := max1_lst h
  exact ⟨M, h1, h2, h3⟩
section
variable {n m : Nat} {r s : Nat → Nat → Prop} {p : Pn}
theorem prs_nodup : (prs n r).Nodup := by
  unfold prs
  refine List.pairwise_flatMap.mpr ⟨fun x _ => ?_, ?_⟩
  · rw [List.pairwise_map]
    exact (sel_nodup n _).imp fun h e => h (by injection e)
  · refine List.pairwise_lt_range.imp fun {a b} hab x hx y hy e => ?_
    obtain ⟨_, _, rfl⟩ := List.mem_map.mp hx
    obtain ⟨_, _, rfl⟩ := List.mem_map.mp hy
    injection e with e1 e2
    omega
theorem covs_nodup : (covs n r).Nodup := prs_nodup.filter _
theorem mem_covs {q : Nat × Nat} : q ∈ covs n r ↔ q.1 < n ∧ q.2 < n ∧ r q.1 q.2 ∧ q.2 ≠ q.1 ∧ Cov n r q.1 q.2 := by
  unfold covs
  rw [List.mem_filter, mem_prs, decide_eq_true_eq]
  constructor
  · rintro ⟨⟨a, b, c, d⟩, e⟩; exact ⟨a, b, c, d, e⟩
  · rintro ⟨a, b, c, d, e⟩; exact ⟨⟨a, b, c, d⟩, e⟩
theorem nodup_sub {N : Nat} {Q : Nat → Prop} {l : List Nat} (h : l.Nodup) (hl : ∀ y ∈ l, y < N ∧ Q y) : l.length ≤ (sel N Q).length := by
  have e : (sel N fun y => y ∈ l).Perm l := (List.perm_ext_iff_of_nodup (sel_nodup _ _) h).mpr fun a => by
    rw [mem_sel]
    exact ⟨fun h => h.2, fun h => ⟨(hl a h).1, h⟩⟩
  have e2 : (sel N fun y => y ∈ l) = (sel N Q).filter fun y => decide (y ∈ l) := by
    unfold sel
    rw [List.filter_filter]
    refine List.filter_congr fun y _ => ?_
    by_cases q : y ∈ l
    · simp [q, (hl y q).2]
    · simp [q]
  rw [← e.length_eq, e2]
  exact List.length_filter_le ..
theorem sel36 : (sel 81 fun c => c / 9 < c % 9).length = 36 := by
  have e : (sel 81 fun c => c / 9 < c % 9) = (List.range 81).filter fun c => Nat.blt (c / 9) (c % 9) := by
    unfold sel
    refine List.filter_congr fun c _ => ?_
    cases hb : Nat.blt (c / 9) (c % 9) with
    | true => exact @decide_eq_true _ (propDecidable _) (Nat.blt_eq.mp hb)
    | false => exact @decide_eq_false _ (propDecidable _) fun h => by rw [Nat.blt_eq.mpr h] at hb; cases hb
  rw [e]
  decide +kernel
theorem covs_len (P : Po n r) (hn : n ≤ 9) : (covs n r).length ≤ 36 := by
  have h1 : (covs n r).length ≤ (prs n r).length := List.length_filter_le ..
  have h2 : ((prs n r).map fun q => min q.1 q.2 * 9 + max q.1 q.2).length ≤ (sel 81 fun c => c / 9 < c % 9).length := by
    refine nodup_sub ?_ fun y hy => ?_
    · unfold List.Nodup
      rw [List.pairwise_map]
      refine List.Pairwise.imp_of_mem (fun {a b} ha hb hab e => ?_) prs_nodup
      obtain ⟨a1, a2, a3, a4⟩ := mem_prs.mp ha
      obtain ⟨b1, b2, b3, b4⟩ := mem_prs.mp hb
      obtain ⟨x, y⟩ := a
      obtain ⟨u, v⟩ := b
      simp only at a1 a2 a3 a4 b1 b2 b3 b4 e
      have k : (x = u ∧ y = v) ∨ (x = v ∧ y = u) := by omega
      rcases k with ⟨rfl, rfl⟩ | ⟨rfl, rfl⟩
      · exact hab rfl
      · exact a4 (P.anti _ _ a2 a1 b3 a3)
    · obtain ⟨q, hq, rfl⟩ := List.mem_map.mp hy
      obtain ⟨a1, a2, a3, a4⟩ := mem_prs.mp hq
      have hmm : min q.1 q.2 < max q.1 q.2 := by omega
      have hm9 : max q.1 q.2 < 9 := by omega
      refine ⟨by omega, ?_⟩
      show (min q.1 q.2 * 9 + max q.1 q.2) / 9 < (min q.1 q.2 * 9 + max q.1 q.2) % 9
      omega
  rw [List.length_map, sel36] at h2
  omega
/-- covers tell the space back -/
theorem rt_covs (P : Po n r) {x y : Nat} (hx : x < n) (hy : y < n) : Rt (covs n r) x y ↔ r x y := by
  refine rt_is P.qo (fun x y h => ?_) (fun x y hx hy h hne => ?_) hx hy
  · obtain ⟨a, b, c, _⟩ := mem_covs.mp h
    exact ⟨a, b, c⟩
  · have main : ∀ k x y, x < n → y < n → r x y → y ≠ x → ht n r y - ht n r x ≤ k → Rt (covs n r) x y := by
      intro k
      induction k with
      | zero =>
        intro x y hx hy h hne hk
        have := ht_up P hx hy h hne
        omega
      | succ k ih =>
        intro x y hx hy h hne hk
        by_cases hc : Cov n r x y
        · exact .one (mem_covs.mpr ⟨hx, hy, h, hne, hc⟩)
        · obtain ⟨z, hz⟩ := Classical.not_forall.mp hc
          obtain ⟨hzn, hz⟩ := Classical.not_imp.mp hz
          obtain ⟨h1, hz⟩ := Classical.not_imp.mp hz
          obtain ⟨h2, hz⟩ := Classical.not_imp.mp hz
          have n1 : z ≠ x := fun e => hz (.inl e)
          have n2 : y ≠ z := fun e => hz (.inr e.symm)
          have u1 := ht_up P hx hzn h1 n1
          have u2 := ht_up P hzn hy h2 n2
          exact (ih x z hx hzn h1 n1 (by omega)).trans (ih z y hzn hy h2 n2 (by omega))
    exact main _ x y hx hy h hne (Nat.le_refl _)
theorem in_covs : In n (covs n r) := fun q hq => ⟨(mem_covs.mp hq).1, (mem_covs.mp hq).2.1⟩
/-- heights by the covers -/
theorem ht_cov (P : Po n r) {y : Nat} (hy : y < n) : (∀ x, (x, y) ∈ covs n r → ht n r x + 1 ≤ ht n r y) ∧ (ht n r y = 0 ∨ ∃ x, (x, y) ∈ covs n r ∧ ht n r y = ht n r x + 1) := by
  refine ⟨fun x h => ?_, ?_⟩
  · obtain ⟨a, b, c, d, _⟩ : x < n ∧ y < n ∧ r x y ∧ y ≠ x ∧ Cov n r x y := mem_covs.mp h
    exact ht_up P a b c d
  · rcases ht_down P hy with h | ⟨x, hx, h1, h2, h3⟩
    · exact .inl h
    · refine .inr ⟨x, mem_covs.mpr ⟨hx, hy, h1, h2, fun z hz a b => ?_⟩, h3⟩
      apply Classical.byContradiction
      intro q
      have q1 : z ≠ x := fun e => q (.inl e)
      have q2 : y ≠ z := fun e => q (.inr e.symm)
      have u1 := ht_up P hx hz a q1
      have u2 := ht_up P hz hy b q2
      omega
/-! sorted pairs -/
theorem toEnc_prs : ∀ l : List (Nat × Nat), (∀ q ∈ l, q.1 < 4096 ∧ q.2 < 4096) → toEnc (l.map prD) = .ok (l.map fun q => ((q.1 * 4096 + q.2 : Nat) : Int))
  | [], _ => rfl
  | q :: l, h => by
    have ih := toEnc_prs l fun x hx => h x (List.mem_cons_of_mem _ hx)
    obtain ⟨h1, h2⟩ := h q (List.mem_cons_self ..)
    have e : encP (prD q) = .ok (((q.1 * 4096 + q.2 : Nat) : Int)) := by
      show (if 0 ≤ (q.1 : Int) ∧ (q.1 : Int) < 4096 ∧ 0 ≤ (q.2 : Int) ∧ (q.2 : Int) < 4096 then Res.ok ((q.1 : Int) * 4096 + (q.2 : Int)) else .bad) = _
      rw [if_pos ⟨by omega, by omega, by omega, by omega⟩]
      congr 1
    rw [List.map_cons]
    show (encP (prD q)).bind _ = _
    rw [e]
    show (toEnc (l.map prD)).bind _ = _
    rw [ih]
    rfl
theorem sortedB_prs {l : List (Nat × Nat)} : sortedB [.lst (l.map prD)] = encsOf (l.map prD) := by
  cases l with
  | nil => rfl
  | cons q l =>
    rw [sortedB_of]
    unfold sortedA
    dsimp only
    have e : toInts (((q :: l) : List (Nat × Nat)).map prD) = .bad := rfl
    rw [e]
    rfl
theorem encs_perm {l l' : List (Nat × Nat)} (hp : l.Perm l') (h : ∀ q ∈ l, q.1 < 4096 ∧ q.2 < 4096) (hl : l.length < 64) : ∃ cs : List Int, encsOf (l.map prD) = .ok (.lst (cs.map decP)) ∧ encsOf (l'.map prD) = .ok (.lst (cs.map decP)) := by
  refine ⟨sortI (l.map fun q => ((q.1 * 4096 + q.2 : Nat) : Int)), ?_, ?_⟩
  · unfold encsOf
    rw [toEnc_prs l h]
    show (if _ then _ else _) = _
    rw [if_pos (by rw [List.length_map]; exact hl)]
  · unfold encsOf
    rw [toEnc_prs l' fun q hq => h q (hp.mem_iff.mpr hq)]
    show (if _ then _ else _) = _
    rw [if_pos (by rw [List.length_map, ← hp.length_eq]; exact hl)]
    rw [sorted_unique ((sortI_perm _).trans ((hp.map _).symm.trans (sortI_perm _).symm)) (sortI_sorted _) (sortI_sorted _)]
theorem pl_decs (cs : List Int) : (D.lst (cs.map decP)).pl 9 = true := pl_mono (n := 2) (pl_lst (n := 1) fun d hd => by
  obtain ⟨c, _, rfl⟩ := List.mem_map.mp hd
  exact pl_tup (n := 0) fun d h => by
    rcases List.mem_cons.mp h with rfl | h
    · rfl
    · rcases List.mem_cons.mp h with rfl | h
      · rfl
      · cases h) 9 (by decide)
theorem neD_self {d : D} (h : d.pl 9 = true) : neD d d = .ok (.bl false) := by
  rw [neD_pl h h]
  simp
theorem covs_flp : (covs n (flp r)).Perm ((covs n r).map swp) := by
  refine (List.perm_ext_iff_of_nodup covs_nodup ?_).mpr fun q => ?_
  · unfold List.Nodup
    rw [List.pairwise_map]
    exact covs_nodup.imp fun {a b} h e => h (by
      obtain ⟨a1, a2⟩ := a
      obtain ⟨b1, b2⟩ := b
      unfold swp at e
      injection e with e1 e2
      simp only at e1 e2
      rw [e1, e2])
  · obtain ⟨x, y⟩ := q
    rw [mem_covs, List.mem_map]
    constructor
    · rintro ⟨a, b, c, d, e⟩
      exact ⟨(y, x), mem_covs.mpr ⟨b, a, c, Ne.symm d, fun z hz h1 h2 => (e z hz h2 h1).symm⟩, rfl⟩
    · rintro ⟨⟨u, v⟩, h, e⟩
      unfold swp at e
      injection e with e1 e2
      simp only at e1 e2
      subst e1
      subst e2
      obtain ⟨a, b, c, d, e⟩ := mem_covs.mp h
      exact ⟨b, a, c, Ne.symm d, fun z hz h1 h2 => (e z hz h2 h1).symm⟩
end
end CS
namespace CS
open PySem L2
open Classical
theorem wp_pl {env : Env'} {k : Nat} {d : D} (h : env[k]? = some (.pl d)) : ∀ {vs : List Nat}, k ∉ vs → (wipeE (env.map Slot.rd) vs)[k]? = some (.pl d)
  | [], _ => by
    show (env.map Slot.rd)[k]? = _
    rw [List.getElem?_map, h]; rfl
  | v :: vs, hk => by
    show ((wipeE (env.map Slot.rd) vs).set v .un)[k]? = _
    rw [List.getElem?_set_ne (fun e => hk (by rw [e]; exact List.mem_cons_self ..))]
    exact wp_pl h fun h => hk (List.mem_cons_of_mem _ h)
theorem wp_len {env : Env'} {vs : List Nat} : (wipeE (env.map Slot.rd) vs).length = env.length := by rw [wipeE_length, List.length_map]
structure LF (n : Nat) (r : Nat → Nat → Prop) (env : Env') : Prop where
  len : env.length = 20
  e1 : env[1]? = some (.pl .pen)
  e2 : env[2]? = some (.pl (nI n))
  e4 : env[4]? = some (.pl (spc n r))
  e5 : env[5]? = some (.pl (.tup ((covs n r).map prD)))
  e6 : env[6]? = some (.pl (.tup (hts n (ht n r))))
section
variable {n : Nat} {r : Nat → Nat → Prop} {env : Env'} {p : Pn}
theorem LF.set (L : LF n r env) {i : Nat} {s : Slot} (h : i ∉ [1, 2, 4, 5, 6]) : LF n r (env.set i s) := by
  have k : ∀ j, j ∈ [1, 2, 4, 5, 6] → (env.set i s)[j]? = env[j]? := fun j hj => List.getElem?_set_ne fun e => h (by rw [e]; exact hj)
  exact ⟨by simp [L.len], (k 1 (by decide)).trans L.e1, (k 2 (by decide)).trans L.e2, (k 4 (by decide)).trans L.e4, (k 5 (by decide)).trans L.e5, (k 6 (by decide)).trans L.e6⟩
theorem run_m2M {f : D → D → M D} {a b : M D} {x y : D} {R : Res (D × Env' × Pn)} (h : a env p = .ok (x, env, p)) (h2 : b env p = .ok (y, env, p)) (h3 : f x y env p = R) : m2M f a b env p = R := run_bind h (run_bind h2 h3)
theorem run_eqM {neg : Bool} {s : Nat → Nat → Prop} : eqM neg "Space" m_Space_eq (spc n r) (spc n s) env p = .ok (.bl (if neg then !decide (SameR n r s) else decide (SameR n r s)), env, p) := by
  have h : eqM neg "Space" m_Space_eq (spc n r) (spc n s) = (M.fn (m_Space_eq [spc n r, spc n s]) >>= fun r => M.res (asB r) >>= fun k => M.ret (.bl (if neg then !k else k))) := by
    unfold eqM spc
    dsimp only
    rw [if_pos ⟨rfl, rfl⟩]
  rw [h]
  refine run_bind (a := .bl (decide (SameR n r s))) (e1 := env) (p1 := p) ?_ ?_
  · show (m_Space_eq [spc n r, spc n s] p).bind _ = _
    rw [v_Space_eq]; rfl
  · exact run_bind (a := decide (SameR n r s)) (e1 := env) (p1 := p) rfl rfl
theorem s_told (hn : n ≤ 9) (P : Po n r) (L : LF n r env) : dIf ((mOr (mB (m2M (eqM true "Space" m_Space_eq) (mCall m_Space_init [] (mCons (dVar 2) (mCons (dVar 5) mNil))) (dVar 4))) (mB (m2 neD (mComp (mRow (dVar 5)) [9, 7] (bTup 2 (bCons (bNm 9) (bCons (bNm 7) bNil))) ((mB (m2 leD (m2 ixD (dVar 6) (dVar 7)) (m2 ixD (dVar 6) (dVar 9))))) (M.ret (.int 1))) (mLst mNil))))) (dRet (M.ret (.bl false))) (dNext) env p = .nx env p := by
  have same : SameR n (Rt (covs n r)) r := fun x y hx hy => rt_covs P hx hy
  have hcl := covs_len P hn
  have t1 := run_eqM (n := n) (neg := true) (r := Rt (covs n r)) (s := r) (env := env) (p := p)
  rw [decide_eq_true same] at t1
  refine pIfF (pOrF (pB (b := false) (run_m2M (pCall (pCons (run_var L.e2) (pOne (run_var L.e5))) (v_SpaceT n (covs n r) (by omega) in_covs (by omega) p)) (run_var L.e4) t1)) (pB (pM2 (x := .lst []) ?_ rfl (neD_self rfl)))) rfl
  have := run_comp (src := mRow (dVar 5)) (vs := [9, 7]) (b := bTup 2 (bCons (bNm 9) (bCons (bNm 7) bNil))) (t := mB (m2 leD (m2 ixD (dVar 6) (dVar 7)) (m2 ixD (dVar 6) (dVar 9)))) (e := M.ret (.int 1)) prD (fun q => decide (ht n r q.2 ≤ ht n r q.1)) (fun _ => D.int 1) (covs n r) (env := env) (p := p) (run_row (run_var L.e5) rfl)
    (fun q hq => by
      obtain ⟨h1, h2, h3, h4, _⟩ := mem_covs.mp hq
      refine ⟨_, rfl, ?_⟩
      have g6 : (((wipeE (env.map Slot.rd) [9, 7]).set 9 (.pl (nI q.1))).set 7 (.pl (nI q.2)))[6]? = some (.pl (.tup (hts n (ht n r)))) := by
        rw [List.getElem?_set_ne (by decide), List.getElem?_set_ne (by decide)]; exact wp_pl L.e6 (by decide)
      have g7 : (((wipeE (env.map Slot.rd) [9, 7]).set 9 (.pl (nI q.1))).set 7 (.pl (nI q.2)))[7]? = some (.pl (nI q.2)) := List.getElem?_set_self (by rw [List.length_set, wp_len, L.len]; decide)
      have g9 : (((wipeE (env.map Slot.rd) [9, 7]).set 9 (.pl (nI q.1))).set 7 (.pl (nI q.2)))[9]? = some (.pl (nI q.1)) := by
        rw [List.getElem?_set_ne (by decide)]; exact List.getElem?_set_self (by rw [wp_len, L.len]; decide)
      exact ⟨_, pB (pM2 (pM2 (run_var g6) (run_var g7) (ix_nat rfl (hts_at h2))) (pM2 (run_var g6) (run_var g9) (ix_nat rfl (hts_at h1))) (le_nat _ _)), fun _ => ⟨_, rfl⟩⟩) (by show _ ≤ 16777216; omega)
  rw [List.filter_eq_nil_iff.mpr (fun q hq => by
    obtain ⟨h1, h2, h3, h4, _⟩ := mem_covs.mp hq
    rw [decide_eq_true_eq]
    have := ht_up P h1 h2 h3 h4
    omega)] at this
  exact this
noncomputable def bel (n : Nat) (r : Nat → Nat → Prop) (y : Nat) : List Nat := ((covs n r).filter fun q => decide (q.2 = y)).map (·.1)
theorem mem_bel {x y : Nat} : x ∈ bel n r y ↔ (x, y) ∈ covs n r := by
  simp only [bel, List.mem_map, List.mem_filter, decide_eq_true_eq]
  constructor
  · rintro ⟨⟨a, b⟩, ⟨h, rfl⟩, rfl⟩; exact h
  · intro h; exact ⟨(x, y), ⟨h, rfl⟩, rfl⟩
theorem bel_len {y : Nat} : (bel n r y).length ≤ (covs n r).length := by
  unfold bel
  rw [List.length_map]
  exact List.length_filter_le ..
theorem s_below {y : Nat} (hn : n ≤ 9) (P : Po n r) (hy : y < n) (L : LF n r env) (e7 : env[7]? = some (.pl (nI y))) : ∃ env', dSeq (dSet 8 (mComp (mRow (dVar 5)) [9, 16] (bTup 2 (bCons (bNm 9) (bCons (bNm 16) bNil))) ((mB (m2 eqD (dVar 16) (dVar 7)))) (dVar 9))) (dIf (mB (m2 neD (m2 ixD (dVar 6) (dVar 7)) (mIf (mB (m2 neD (dVar 8) (mLst mNil))) (m2 addD (mCB maxA (mCons (mComp (mRow (dVar 8)) [9] (bNm 9) (mYes) (m2 ixD (dVar 6) (dVar 9))) mNil)) (M.ret (.int 1))) (M.ret (.int 0))))) (dRet (M.ret (.bl false))) (dNext)) env p = .nx env' p ∧ LF n r env' := by
  have hcl := covs_len P hn
  have hb := run_comp (src := mRow (dVar 5)) (vs := [9, 16]) (b := bTup 2 (bCons (bNm 9) (bCons (bNm 16) bNil))) (t := mB (m2 eqD (dVar 16) (dVar 7))) (e := dVar 9) prD (fun q => decide (q.2 = y)) (fun q => nI q.1) (covs n r) (env := env) (p := p) (run_row (run_var L.e5) rfl)
    (fun q hq => by
      refine ⟨_, rfl, ?_⟩
      have g7 : (((wipeE (env.map Slot.rd) [9, 16]).set 9 (.pl (nI q.1))).set 16 (.pl (nI q.2)))[7]? = some (.pl (nI y)) := by
        rw [List.getElem?_set_ne (by decide), List.getElem?_set_ne (by decide)]; exact wp_pl e7 (by decide)
      have g16 : (((wipeE (env.map Slot.rd) [9, 16]).set 9 (.pl (nI q.1))).set 16 (.pl (nI q.2)))[16]? = some (.pl (nI q.2)) := List.getElem?_set_self (by rw [List.length_set, wp_len, L.len]; decide)
      have g9 : (((wipeE (env.map Slot.rd) [9, 16]).set 9 (.pl (nI q.1))).set 16 (.pl (nI q.2)))[9]? = some (.pl (nI q.1)) := by
        rw [List.getElem?_set_ne (by decide)]; exact List.getElem?_set_self (by rw [wp_len, L.len]; decide)
      exact ⟨_, pB (pM2 (run_var g16) (run_var g7) (eq_nat _ _)), fun _ => ⟨_, run_var g9⟩⟩) (by show _ ≤ 16777216; omega)
  rw [show ((covs n r).filter fun q => decide (q.2 = y)).map (fun q => nI q.1) = (bel n r y).map nI by unfold bel; rw [List.map_map]; rfl] at hb
  have L' : LF n r (env.set 8 (.pl (.lst ((bel n r y).map nI)))) := L.set (by decide)
  have e7' : (env.set 8 (.pl (.lst ((bel n r y).map nI))))[7]? = some (.pl (nI y)) := by rw [List.getElem?_set_ne (by decide)]; exact e7
  have e8' : (env.set 8 (.pl (.lst ((bel n r y).map nI))))[8]? = some (.pl (.lst ((bel n r y).map nI))) := List.getElem?_set_self (by rw [L.len]; decide)
  refine ⟨_, run_seq (pSet hb) ?_, L'⟩
  generalize env.set 8 (.pl (.lst ((bel n r y).map nI))) = E at L' e7' e8'
  have hval : mIf (mB (m2 neD (dVar 8) (mLst mNil))) (m2 addD (mCB maxA (mCons (mComp (mRow (dVar 8)) [9] (bNm 9) (mYes) (m2 ixD (dVar 6) (dVar 9))) mNil)) (M.ret (.int 1))) (M.ret (.int 0)) E p = .ok (nI (ht n r y), E, p) := by
    have hpl : (D.lst ((bel n r y).map nI)).pl 9 = true := pl_lst (n := 8) (pl_nums _ 8)
    have hne := neD_pl hpl (show (D.lst []).pl 9 = true from rfl)
    obtain ⟨up, down⟩ := ht_cov P hy
    by_cases h0 : bel n r y = []
    · have hz : ht n r y = 0 := by
        rcases down with h | ⟨x, hx, _⟩
        · exact h
        · have := mem_bel.mpr hx
          rw [h0] at this
          cases this
      rw [show decide (D.lst ((bel n r y).map nI) ≠ D.lst []) = false by rw [h0]; simp] at hne
      rw [hz]
      exact run_bind (pB (pM2 (run_var e8') rfl hne)) rfl
    · rw [show decide (D.lst ((bel n r y).map nI) ≠ D.lst []) = true by
        rw [decide_eq_true_eq]
        intro e
        injection e with e
        exact h0 (List.map_eq_nil_iff.mp e)] at hne
      obtain ⟨M, hM, hM1, hM2⟩ := max1_lst (l := (bel n r y).map (ht n r)) (fun e => h0 (List.map_eq_nil_iff.mp e))
      have hMe : M + 1 = ht n r y := by
        obtain ⟨x, hx, rfl⟩ := List.mem_map.mp hM1
        have h1 := up x (mem_bel.mp hx)
        rcases down with h | ⟨x', hx', h2⟩
        · omega
        · have := hM2 _ (List.mem_map.mpr ⟨x', mem_bel.mpr hx', rfl⟩)
          omega
      rw [← hMe]
      refine run_bind (pB (pM2 (run_var e8') rfl hne)) (pM2 (pCB (pOne (x := .lst (((bel n r y).map (ht n r)).map nI)) ?_) ((maxA_of _).trans hM)) rfl (add_nat _ 1))
      have := run_comp (src := mRow (dVar 8)) (vs := [9]) (b := bNm 9) (t := mYes) (e := m2 ixD (dVar 6) (dVar 9)) nI (fun _ => true) (fun x => nI (ht n r x)) (bel n r y) (env := E) (p := p) (run_row (run_var e8') rfl)
        (fun x hx => by
          refine ⟨_, rfl, _, rfl, fun _ => ?_⟩
          have hxn : x < n := (mem_covs.mp (mem_bel.mp hx)).1
          have g6 : ((wipeE (E.map Slot.rd) [9]).set 9 (.pl (nI x)))[6]? = some (.pl (.tup (hts n (ht n r)))) := by
            rw [List.getElem?_set_ne (by decide)]; exact wp_pl L'.e6 (by decide)
          have g9 : ((wipeE (E.map Slot.rd) [9]).set 9 (.pl (nI x)))[9]? = some (.pl (nI x)) := List.getElem?_set_self (by rw [wp_len, L'.len]; decide)
          exact ⟨_, pM2 (run_var g6) (run_var g9) (ix_nat rfl (hts_at hxn))⟩) (by have := bel_len (n := n) (r := r) (y := y); show _ ≤ 16777216; omega)
      rw [filter_true] at this
      rw [List.map_map]
      exact this
  have hne := ne_nat (ht n r y) (ht n r y)
  rw [show decide (ht n r y ≠ ht n r y) = false by simp] at hne
  exact pIfF (pB (pM2 (pM2 (run_var L'.e6) (run_var e7') (ix_nat rfl (hts_at hy))) hval hne)) rfl
theorem s_contrary (hn : n ≤ 9) (P : Po n r) (L : LF n r env) : dIf (mB (m2 neD (mCB sortedB (mCons (mCall m_covers [] (mCons (mCall m_contrary [] (mCons (dVar 4) mNil)) mNil)) mNil)) (mCB sortedB (mCons (mComp (mRow (dVar 5)) [9, 7] (bTup 2 (bCons (bNm 9) (bCons (bNm 7) bNil))) (mYes) (mTup (mCons (dVar 7) (mCons (dVar 9) mNil)))) mNil)))) (dRet (M.ret (.bl false))) (dNext) env p = .nx env p := by
  have hcl := covs_len P hn
  have hperm := covs_flp (n := n) (r := r)
  obtain ⟨cs, h1, h2⟩ := encs_perm hperm (fun q hq => by
    have a := (mem_covs.mp hq).1
    have b := (mem_covs.mp hq).2.1
    omega) (by have := covs_len P.flp hn; omega)
  have hs : mComp (mRow (dVar 5)) [9, 7] (bTup 2 (bCons (bNm 9) (bCons (bNm 7) bNil))) (mYes) (mTup (mCons (dVar 7) (mCons (dVar 9) mNil))) env p = .ok (.lst (((covs n r).map swp).map prD), env, p) := by
    have := run_comp (src := mRow (dVar 5)) (vs := [9, 7]) (b := bTup 2 (bCons (bNm 9) (bCons (bNm 7) bNil))) (t := mYes) (e := mTup (mCons (dVar 7) (mCons (dVar 9) mNil))) prD (fun _ => true) (fun q => prD (swp q)) (covs n r) (env := env) (p := p) (run_row (run_var L.e5) rfl)
      (fun q hq => by
        refine ⟨_, rfl, _, rfl, fun _ => ?_⟩
        have g7 : (((wipeE (env.map Slot.rd) [9, 7]).set 9 (.pl (nI q.1))).set 7 (.pl (nI q.2)))[7]? = some (.pl (nI q.2)) := List.getElem?_set_self (by rw [List.length_set, wp_len, L.len]; decide)
        have g9 : (((wipeE (env.map Slot.rd) [9, 7]).set 9 (.pl (nI q.1))).set 7 (.pl (nI q.2)))[9]? = some (.pl (nI q.1)) := by
          rw [List.getElem?_set_ne (by decide)]; exact List.getElem?_set_self (by rw [wp_len, L.len]; decide)
        exact ⟨_, run_tup (run_cons (run_var g7) (run_cons (run_var g9) rfl)) (by show 2 ≤ sizeLine; decide)⟩) (by show _ ≤ 16777216; omega)
    rw [filter_true] at this
    rw [List.map_map]
    exact this
  exact pIfF (pB (pM2 (pCB (pOne (pCall (pOne (pCall (pOne (run_var L.e4)) (v_contrary (by omega) P.qo))) (v_covers (by omega) P.flp))) h1) (pCB (pOne hs) (sortedB_prs.trans h2)) (neD_self (pl_decs cs)))) rfl
end
end CS
namespace CS
open PySem L2
open Classical
theorem rt_head {ps : List (Nat × Nat)} {x y : Nat} (h : Rt ps x y) : x = y ∨ ∃ z, (x, z) ∈ ps ∧ Rt ps z y := by
  induction h with
  | refl => exact .inl rfl
  | tail h1 h2 ih =>
    rcases ih with rfl | ⟨z, h3, h4⟩
    · exact .inr ⟨_, h2, .refl _⟩
    · exact .inr ⟨z, h3, h4.tail h2⟩
section
variable {n m : Nat} {r s : Nat → Nat → Prop} {env : Env'} {p : Pn}
noncomputable def les (n : Nat) (r : Nat → Nat → Prop) (q : Nat × Nat) : List (Nat × Nat) := (covs n r).filter fun z => decide (prD z ≠ prD q)
theorem mem_les {q z : Nat × Nat} : z ∈ les n r q ↔ z ∈ covs n r ∧ z ≠ q := by
  unfold les
  rw [List.mem_filter, decide_eq_true_eq]
  exact and_congr_right fun _ => not_congr prD_inj
theorem les_not (P : Po n r) {q : Nat × Nat} (hq : q ∈ covs n r) : ¬ Rt (les n r q) q.1 q.2 := by
  intro h
  obtain ⟨h1, h2, h3, h4, h5⟩ := mem_covs.mp hq
  rcases rt_head h with e | ⟨z, a, b⟩
  · exact h4 e.symm
  · obtain ⟨a1, a2⟩ := mem_les.mp a
    obtain ⟨z1, z2, z3, z4, _⟩ : q.1 < n ∧ z < n ∧ r q.1 z ∧ z ≠ q.1 ∧ Cov n r q.1 z := mem_covs.mp a1
    have hzy : r z q.2 := (rt_covs P z2 h2).mp (b.mono fun w hw => (mem_les.mp hw).1)
    rcases h5 z z2 z3 hzy with e | e
    · exact z4 e
    · exact a2 (by rw [e])
theorem s_less {c : Nat} {P0 : Pen} (hn : n ≤ 9) (P : Po n r) (L : LF n r env) (hO : P0.Ok c) (hc : c ≤ 10000) : ∃ env' P', dIf (mB (m2 neD (dVar 5) (mTup mNil))) (dSeq (dAsg (mCall m_law_pick [] (mCons (dVar 1) (mCons (dVar 5) mNil))) (bTup 2 (bCons (bNm 9) (bCons (bNm 7) bNil)))) (dSeq (dSet 10 (mCall m_Space_init [] (mCons (dVar 2) (mCons (mComp (mRow (dVar 5)) [17] (bNm 17) ((mB (m2 neD (dVar 17) (mTup (mCons (dVar 9) (mCons (dVar 7) mNil)))))) (dVar 17)) mNil)))) (dIf ((mOr (mB (m2M (eqM false "Space" m_Space_eq) (dVar 10) (dVar 4))) (mOr (mB (m2 inD (dVar 7) (m2 ixD (m1 (fldD ["Space"] "over") (dVar 10)) (dVar 9)))) (mB (m2 ltD (mCB lenD (mCons (mCall m_parts [] (mCons (dVar 10) mNil)) mNil)) (mCB lenD (mCons (mCall m_parts [] (mCons (dVar 4) mNil)) mNil))))))) (dRet (M.ret (.bl false))) (dNext)))) (dNext) env (some P0) = .nx env' (some P') ∧ LF n r env' ∧ P'.Ok (c + 1) := by
  have hcl := covs_len P hn
  have hpl : (D.tup ((covs n r).map prD)).pl 9 = true := pl_mono (n := 2) (pl_tup (n := 1) fun d hd => by
    obtain ⟨q, _, rfl⟩ := List.mem_map.mp hd
    exact pl_prD q) 9 (by decide)
  have hne := neD_pl hpl (show (D.tup []).pl 9 = true from rfl)
  by_cases h0 : covs n r = []
  · rw [show decide (D.tup ((covs n r).map prD) ≠ D.tup []) = false by rw [h0]; simp] at hne
    exact ⟨env, P0, pIfF (pB (pM2 (run_var L.e5) rfl hne)) rfl, L, hO.mono (by omega)⟩
  · rw [show decide (D.tup ((covs n r).map prD) ≠ D.tup []) = true by
      rw [decide_eq_true_eq]
      intro e
      injection e with e
      exact h0 (List.map_eq_nil_iff.mp e)] at hne
    obtain ⟨d, P1, hd, hp, hO1⟩ := v_pick (X := .tup ((covs n r).map prD)) (ds := (covs n r).map prD) hO (by omega) rfl rfl (fun e => h0 (List.map_eq_nil_iff.mp e)) (by rw [List.length_map]; omega)
    obtain ⟨q, hq, rfl⟩ := List.mem_map.mp hd
    obtain ⟨h1, h2, h3, h4, _⟩ := mem_covs.mp hq
    have hA : dAsg (mCall m_law_pick [] (mCons (dVar 1) (mCons (dVar 5) mNil))) (bTup 2 (bCons (bNm 9) (bCons (bNm 7) bNil))) env (some P0) = .nx ((env.set 9 (.pl (nI q.1))).set 7 (.pl (nI q.2))) (some P1) :=
      run_asg (pCall (pCons (run_var L.e1) (pOne (run_var L.e5))) hp) rfl
    have LE : LF n r ((env.set 9 (.pl (nI q.1))).set 7 (.pl (nI q.2))) := (L.set (by decide)).set (by decide)
    have E9 : ((env.set 9 (.pl (nI q.1))).set 7 (.pl (nI q.2)))[9]? = some (.pl (nI q.1)) := by
      rw [List.getElem?_set_ne (by decide)]; exact List.getElem?_set_self (by rw [L.len]; decide)
    have E7 : ((env.set 9 (.pl (nI q.1))).set 7 (.pl (nI q.2)))[7]? = some (.pl (nI q.2)) := List.getElem?_set_self (by rw [List.length_set, L.len]; decide)
    generalize (env.set 9 (.pl (nI q.1))).set 7 (.pl (nI q.2)) = E at hA LE E9 E7
    have hcomp : mComp (mRow (dVar 5)) [17] (bNm 17) ((mB (m2 neD (dVar 17) (mTup (mCons (dVar 9) (mCons (dVar 7) mNil)))))) (dVar 17) E (some P1) = .ok (.lst ((les n r q).map prD), E, some P1) :=
      run_comp prD (fun z => decide (prD z ≠ prD q)) prD (covs n r) (run_row (run_var LE.e5) rfl) (fun z hz => by
        refine ⟨_, rfl, ?_⟩
        have g9 : ((wipeE (E.map Slot.rd) [17]).set 17 (.pl (prD z)))[9]? = some (.pl (nI q.1)) := by
          rw [List.getElem?_set_ne (by decide)]; exact wp_pl E9 (by decide)
        have g7 : ((wipeE (E.map Slot.rd) [17]).set 17 (.pl (prD z)))[7]? = some (.pl (nI q.2)) := by
          rw [List.getElem?_set_ne (by decide)]; exact wp_pl E7 (by decide)
        have g17 : ((wipeE (E.map Slot.rd) [17]).set 17 (.pl (prD z)))[17]? = some (.pl (prD z)) := List.getElem?_set_self (by rw [wp_len, LE.len]; decide)
        exact ⟨_, pB (pM2 (run_var g17) (run_tup (run_cons (run_var g9) (run_cons (run_var g7) rfl)) (by show 2 ≤ sizeLine; decide)) (neD_pl (pl_mono (pl_prD z) 9 (by decide)) (pl_mono (pl_prD q) 9 (by decide)))), fun _ => ⟨_, run_var g17⟩⟩) (by show _ ≤ 16777216; omega)
    have hin : In n (les n r q) := fun z hz => in_covs z (mem_les.mp hz).1
    have hlen : (les n r q).length ≤ 36 := Nat.le_trans (List.length_filter_le ..) hcl
    have hB : dSet 10 (mCall m_Space_init [] (mCons (dVar 2) (mCons (mComp (mRow (dVar 5)) [17] (bNm 17) ((mB (m2 neD (dVar 17) (mTup (mCons (dVar 9) (mCons (dVar 7) mNil)))))) (dVar 17)) mNil))) E (some P1) = .nx (E.set 10 (.pl (spc n (Rt (les n r q))))) (some P1) :=
      pSet (pCall (pCons (run_var LE.e2) (pOne hcomp)) (v_Space n (les n r q) (by omega) hin (by omega) _))
    have LG : LF n r (E.set 10 (.pl (spc n (Rt (les n r q))))) := LE.set (by decide)
    have G10 : (E.set 10 (.pl (spc n (Rt (les n r q)))))[10]? = some (.pl (spc n (Rt (les n r q)))) := List.getElem?_set_self (by rw [LE.len]; decide)
    have G9 : (E.set 10 (.pl (spc n (Rt (les n r q)))))[9]? = some (.pl (nI q.1)) := by rw [List.getElem?_set_ne (by decide)]; exact E9
    have G7 : (E.set 10 (.pl (spc n (Rt (les n r q)))))[7]? = some (.pl (nI q.2)) := by rw [List.getElem?_set_ne (by decide)]; exact E7
    generalize E.set 10 (.pl (spc n (Rt (les n r q)))) = G at hB LG G10 G9 G7
    have hno := les_not P hq
    have t1 := run_eqM (n := n) (neg := false) (r := Rt (les n r q)) (s := r) (env := G) (p := some P1)
    rw [decide_eq_false (fun h => hno ((h _ _ h1 h2).mpr h3))] at t1
    have t2 := in_nums (a := q.2) (y := row n (Rt (les n r q) q.1)) (l := sel n (Rt (les n r q) q.1)) rfl
    rw [decide_eq_false (fun h => hno (mem_sel.mp h).2)] at t2
    have t3 := lt_nat (ldr n (Rt (les n r q)) n).length (ldr n r n).length
    have hmono := ldr_mono (n := n) (r := r) (r' := Rt (les n r q)) fun x y hx hy h => (rt_covs P hx hy).mp (h.mono fun w hw => (mem_les.mp hw).1)
    rw [decide_eq_false (by omega)] at t3
    have hlenp : ∀ t : Nat → Nat → Prop, lenD [prt n t] = .ok (nI (ldr n t n).length) := fun t => by
      show Res.ok (nI ((ldr n t n).map fun x => row n (Rn (nbH n t) x)).length) = _
      rw [List.length_map]
    refine ⟨G, P1, pIfT (pB (pM2 (run_var L.e5) rfl hne)) (run_seq hA (run_seq hB (pIfF (pOrF (pB (b := false) (run_m2M (run_var G10) (run_var LG.e4) t1)) (pOrF (pB (pM2 (run_var G7) (pM2 (run_m1 (run_var G10) fld_over) (run_var G9) (ix_nat rfl (rowsO_at h1))) t2)) (pB (pM2 (pCB (pOne (pCall (pOne (run_var G10)) (v_parts (by omega) Qo.rt))) (hlenp _)) (pCB (pOne (pCall (pOne (run_var LG.e4)) (v_parts (by omega) P.qo))) (hlenp _)) t3)))) rfl))), LG, hO1⟩
end
end CS
namespace CS
open PySem L2
open Classical
section
variable {n m : Nat} {r s : Nat → Nat → Prop} {env : Env'} {p : Pn}
theorem hts_eq {f g : Nat → Nat} (h : ∀ y, y < n → f y = g y) : hts n f = hts n g := by
  unfold hts
  exact List.map_congr_left fun i hi => by rw [h i (List.mem_range.mp hi)]
theorem hts_add {f : Nat → Nat} : hts (n + m) f = hts n f ++ (List.range m).map fun i => nI (f (n + i)) := by
  unfold hts
  rw [List.range_add, List.map_append, List.map_map]
  rfl
theorem pl_hts {f : Nat → Nat} : ∀ d ∈ hts n f, d.pl 0 = true := fun d h => by
  obtain ⟨i, _, rfl⟩ := List.mem_map.mp h
  rfl
theorem pl_htsT {f : Nat → Nat} : (D.tup (hts n f)).pl 9 = true := pl_mono (n := 1) (pl_tup pl_hts) 9 (by decide)
theorem pl_htsL {f : Nat → Nat} : (D.lst (hts n f)).pl 9 = true := pl_mono (n := 1) (pl_lst pl_hts) 9 (by decide)
theorem ht_sum (P : Po n r) (S : Po m s) {y : Nat} (hy : y < n + m) : ht (n + m) (sumR n r s) y = if y < n then ht n r y else ht m s (y - n) := by
  refine ht_eq (P.sum S) (g := fun y => if y < n then ht n r y else ht m s (y - n)) (fun x y hx hy h hne => ?_) (fun y hy => ?_) hy
  · rcases h with ⟨a, b, c⟩ | ⟨a, b, c⟩
    · rw [if_pos a, if_pos b]; exact ht_up P a b c hne
    · rw [if_neg (by omega), if_neg (by omega)]; exact ht_up S (by omega) (by omega) c (by omega)
  · by_cases h : y < n
    · rw [if_pos h]
      rcases ht_down P h with e | ⟨x, hx, h1, h2, h3⟩
      · exact .inl e
      · exact .inr ⟨x, by omega, .inl ⟨hx, h, h1⟩, h2, by rw [if_pos hx]; exact h3⟩
    · rw [if_neg h]
      rcases ht_down S (y := y - n) (by omega) with e | ⟨x, hx, h1, h2, h3⟩
      · exact .inl e
      · refine .inr ⟨n + x, by omega, .inr ⟨by omega, by omega, ?_⟩, by omega, ?_⟩
        · rw [Nat.add_sub_cancel_left]; exact h1
        · rw [if_neg (by omega), Nat.add_sub_cancel_left]; exact h3
theorem ht_stk (P : Po n r) (S : Po m s) {M : Nat} (hM : ∃ x, x < n ∧ ht n r x = M) (hM2 : ∀ x, x < n → ht n r x ≤ M) {y : Nat} (hy : y < n + m) : ht (n + m) (stkR n r s) y = if y < n then ht n r y else M + 1 + ht m s (y - n) := by
  refine ht_eq (P.stk S) (g := fun y => if y < n then ht n r y else M + 1 + ht m s (y - n)) (fun x y hx hy h hne => ?_) (fun y hy => ?_) hy
  · rcases h with (⟨a, b, c⟩ | ⟨a, b, c⟩) | ⟨a, b⟩
    · rw [if_pos a, if_pos b]; exact ht_up P a b c hne
    · rw [if_neg (by omega), if_neg (by omega)]
      have := ht_up S (by omega) (by omega) c (by omega : y - n ≠ x - n)
      omega
    · rw [if_pos a, if_neg (by omega)]
      have := hM2 x a
      omega
  · by_cases h : y < n
    · rw [if_pos h]
      rcases ht_down P h with e | ⟨x, hx, h1, h2, h3⟩
      · exact .inl e
      · exact .inr ⟨x, by omega, .inl (.inl ⟨hx, h, h1⟩), h2, by rw [if_pos hx]; exact h3⟩
    · rw [if_neg h]
      rcases ht_down S (y := y - n) (by omega) with e | ⟨x, hx, h1, h2, h3⟩
      · obtain ⟨x, hx, hxM⟩ := hM
        exact .inr ⟨x, by omega, .inr ⟨hx, by omega⟩, by omega, by rw [if_pos hx, e, hxM]⟩
      · refine .inr ⟨n + x, by omega, .inl (.inr ⟨by omega, by omega, ?_⟩), by omega, ?_⟩
        · rw [Nat.add_sub_cancel_left]; exact h1
        · rw [if_neg (by omega), Nat.add_sub_cancel_left, h3]; omega
theorem ht_le (P : Po n r) {x y : Nat} (hx : x < n) (hy : y < n) (h : r x y) : ht n r x ≤ ht n r y := by
  by_cases e : y = x
  · rw [e]; exact Nat.le_refl _
  · have := ht_up P hx hy h e; omega
theorem ht_pro (P : Po n r) (S : Po m s) {k : Nat} (hk : k < n * m) : ht (n * m) (proR m r s) k = ht n r (k / m) + ht m s (k % m) := by
  refine ht_eq (P.pro S) (g := fun k => ht n r (k / m) + ht m s (k % m)) (fun x y hx hy h hne => ?_) (fun y hy => ?_) hk
  · obtain ⟨a, b⟩ := h
    have l1 := ht_le P (div_lt hx) (div_lt hy) a
    have l2 := ht_le S (mod_lt' hx) (mod_lt' hy) b
    by_cases e : y / m = x / m
    · have e2 : y % m ≠ x % m := fun e2 => hne (dm_ext e e2)
      have := ht_up S (mod_lt' hx) (mod_lt' hy) b e2
      show ht n r (x / m) + ht m s (x % m) + 1 ≤ ht n r (y / m) + ht m s (y % m)
      omega
    · have := ht_up P (div_lt hx) (div_lt hy) a e
      show ht n r (x / m) + ht m s (x % m) + 1 ≤ ht n r (y / m) + ht m s (y % m)
      omega
  · have hd := div_lt hy
    have hm := mod_lt' hy
    have hy2 := Nat.div_add_mod y m
    rcases ht_down P hd with e | ⟨x, hx, h1, h2, h3⟩
    · rcases ht_down S hm with e2 | ⟨x, hx, h1, h2, h3⟩
      · left
        show ht n r (y / m) + ht m s (y % m) = 0
        omega
      · refine .inr ⟨y / m * m + x, enc_lt hd hx, ?_, ?_, ?_⟩
        · unfold proR
          rw [enc_div hx, enc_mod hx]
          exact ⟨P.refl _ hd, h1⟩
        · intro e3
          have := congrArg (· % m) e3
          simp only [enc_mod hx] at this
          exact h2 this
        · show ht n r (y / m) + ht m s (y % m) = ht n r ((y / m * m + x) / m) + ht m s ((y / m * m + x) % m) + 1
          rw [enc_div hx, enc_mod hx]; omega
    · refine .inr ⟨x * m + y % m, enc_lt hx hm, ?_, ?_, ?_⟩
      · unfold proR
        rw [enc_div hm, enc_mod hm]
        exact ⟨h1, S.refl _ hm⟩
      · intro e3
        have := congrArg (· / m) e3
        simp only [enc_div hm] at this
        exact h2 this
      · show ht n r (y / m) + ht m s (y % m) = ht n r ((x * m + y % m) / m) + ht m s ((x * m + y % m) % m) + 1
        rw [enc_div hm, enc_mod hm]; omega
theorem s_stack (hn : n ≤ 9) (hn1 : 1 ≤ n) (hm : m ≤ 4) (P : Po n r) (S : Po m s) (L : LF n r env) (e13 : env[13]? = some (.pl (spc m s))) (e14 : env[14]? = some (.pl (spc (n + m) (stkR n r s)))) : dIf (mB (m2 neD (mCB listD (mCons (mCall m_heights [] (mCons (dVar 14) mNil)) mNil)) (m2 addD (mCB listD (mCons (dVar 6) mNil)) (mComp (mRow (mCall m_heights [] (mCons (dVar 13) mNil))) [18] (bNm 18) (mYes) (m2 addD (m2 addD (mCB maxA (mCons (dVar 6) mNil)) (M.ret (.int 1))) (dVar 18)))))) (dRet (M.ret (.bl false))) (dNext) env p = .nx env p := by
  obtain ⟨U, hM0, hM1, hM2⟩ := max1_tup (l := (List.range n).map (ht n r)) (fun e => by
    have := congrArg List.length e
    simp at this
    omega)
  have hM : maxA [.tup (hts n (ht n r))] = .ok (nI U) := by
    rw [List.map_map] at hM0
    exact hM0
  have ha : ∃ x, x < n ∧ ht n r x = U := by
    obtain ⟨x, hx, e⟩ := List.mem_map.mp hM1
    exact ⟨x, List.mem_range.mp hx, e⟩
  have hb : ∀ x, x < n → ht n r x ≤ U := fun x hx => hM2 _ (List.mem_map.mpr ⟨x, List.mem_range.mpr hx, rfl⟩)
  have hc := run_comp (src := mRow (mCall m_heights [] (mCons (dVar 13) mNil))) (vs := [18]) (b := bNm 18) (t := mYes) (e := m2 addD (m2 addD (mCB maxA (mCons (dVar 6) mNil)) (M.ret (.int 1))) (dVar 18)) (fun i => nI (ht m s i)) (fun _ => true) (fun i => nI (U + 1 + ht m s i)) (List.range m) (env := env) (p := p) (run_row (pCall (pOne (run_var e13)) (v_heights (by omega) S)) rfl)
    (fun i hi => by
      refine ⟨_, rfl, _, rfl, fun _ => ?_⟩
      have g6 : ((wipeE (env.map Slot.rd) [18]).set 18 (.pl (nI (ht m s i))))[6]? = some (.pl (.tup (hts n (ht n r)))) := by
        rw [List.getElem?_set_ne (by decide)]; exact wp_pl L.e6 (by decide)
      have g18 : ((wipeE (env.map Slot.rd) [18]).set 18 (.pl (nI (ht m s i))))[18]? = some (.pl (nI (ht m s i))) := List.getElem?_set_self (by rw [wp_len, L.len]; decide)
      exact ⟨_, pM2 (pM2 (pCB (pOne (run_var g6)) hM) rfl (add_nat _ 1)) (run_var g18) (add_nat _ _)⟩) (by rw [List.length_range]; show _ ≤ 16777216; omega)
  rw [filter_true] at hc
  have heq : hts n (ht n r) ++ (List.range m).map (fun i => nI (U + 1 + ht m s i)) = hts (n + m) (ht (n + m) (stkR n r s)) := by
    rw [hts_eq (fun y hy => ht_stk P S ha hb hy), hts_add]
    congr 1
    · exact hts_eq fun y hy => by rw [if_pos hy]
    · refine List.map_congr_left fun i hi => ?_
      rw [if_neg (by omega), Nat.add_sub_cancel_left]
  refine pIfF (pB (pM2 (pCB (pOne (pCall (pOne (run_var e14)) (v_heights (by omega) (P.stk S)))) rfl) (pM2 (pCB (pOne (run_var L.e6)) rfl) hc (addL_ok ?_)) ?_)) rfl
  · rw [hts_len, List.length_map, List.length_range]; omega
  · rw [heq]
    exact neD_self pl_htsL
theorem s_sum (hn : n ≤ 9) (hn1 : 1 ≤ n) (hm : m ≤ 4) (P : Po n r) (S : Po m s) (L : LF n r env) (e13 : env[13]? = some (.pl (spc m s))) : dIf (mB (m2 neD (mCall m_heights [] (mCons (mCall m_summed [] (mCons (dVar 4) (mCons (dVar 13) mNil))) mNil)) (m2 addD (dVar 6) (mCall m_heights [] (mCons (dVar 13) mNil))))) (dRet (M.ret (.bl false))) (dNext) env p = .nx env p := by
  have heq : hts n (ht n r) ++ hts m (ht m s) = hts (n + m) (ht (n + m) (sumR n r s)) := by
    rw [hts_eq (fun y hy => ht_sum P S hy), hts_add]
    congr 1
    · exact hts_eq fun y hy => by rw [if_pos hy]
    · unfold hts
      refine List.map_congr_left fun i hi => ?_
      rw [if_neg (by omega), Nat.add_sub_cancel_left]
  have hne : hts n (ht n r) ≠ [] := fun e => by
    have := congrArg List.length e
    rw [hts_len] at this
    simp at this
    omega
  refine pIfF (pB (pM2 (pCall (pOne (pCall (pCons (run_var L.e4) (pOne (run_var e13))) (v_summed (by omega) P.qo S.qo))) (v_heights (by omega) (P.sum S))) (pM2 (run_var L.e6) (pCall (pOne (run_var e13)) (v_heights (by omega) S)) (addT_ok hne ?_)) ?_)) rfl
  · rw [hts_len, hts_len]; omega
  · rw [heq]
    exact neD_self pl_htsT
theorem fdiv_nat {a b : Nat} (hb : 0 < b) (hb2 : b ≤ 1000) : fdivD (nI a) (nI b) = .ok (nI (a / b)) := by
  show (if (b : Int) ≠ 0 ∧ (b : Int).natAbs < 1073741824 then Res.ok (D.int ((a : Int).fdiv (b : Int))) else .bad) = _
  rw [if_pos ⟨by omega, by omega⟩, Int.fdiv_eq_ediv_of_nonneg _ (by omega)]
  unfold nI
  rw [Int.natCast_ediv]
theorem mod_nat {a b : Nat} (hb : 0 < b) : modD (nI a) (nI b) = .ok (nI (a % b)) := by
  show (if (b : Int) = 0 then Res.bad else .ok (D.int ((a : Int).fmod (b : Int)))) = _
  rw [if_neg (by omega), Int.fmod_eq_emod_of_nonneg _ (by omega)]
  unfold nI
  rw [Int.natCast_emod]
theorem s_prod (hn : n ≤ 9) (hn1 : 1 ≤ n) (hm : m ≤ 4) (hm1 : 1 ≤ m) (P : Po n r) (S : Po m s) (L : LF n r env) (e11 : env[11]? = some (.pl (nI m))) (e13 : env[13]? = some (.pl (spc m s))) : ∃ env', dIf (mB (m2 ltD (m2 mulD (dVar 2) (dVar 11)) (M.ret (.int 25)))) (dSeq (dSet 15 (mCall m_heights [] (mCons (mCall m_product [] (mCons (dVar 4) (mCons (dVar 13) mNil))) mNil))) (dIf (mB (m2 neD (mCB listD (mCons (dVar 15) mNil)) (mComp (mRange1 (m2 mulD (dVar 2) (dVar 11))) [19] (bNm 19) (mYes) (m2 addD (m2 ixD (dVar 6) (m2 fdivD (dVar 19) (dVar 11))) (m2 ixD (mCall m_heights [] (mCons (dVar 13) mNil)) (m2 modD (mCB intD (mCons (dVar 19) mNil)) (dVar 11))))))) (dRet (M.ret (.bl false))) (dNext))) (dNext) env p = .nx env' p := by
  have t := lt_nat (n * m) 25
  by_cases hnm : n * m < 25
  · rw [decide_eq_true hnm] at t
    refine ⟨env.set 15 (.pl (.tup (hts (n * m) (ht (n * m) (proR m r s))))), pIfT (pB (pM2 (pM2 (run_var L.e2) (run_var e11) (mul_nat (by omega))) rfl t)) (run_seq (pSet (pCall (pOne (pCall (pCons (run_var L.e4) (pOne (run_var e13))) (v_product (by omega) (by omega) (by omega) P.qo S.qo))) (v_heights (by omega) (P.pro S)))) ?_)⟩
    have L' : LF n r (env.set 15 (.pl (.tup (hts (n * m) (ht (n * m) (proR m r s)))))) := L.set (by decide)
    have g11 : (env.set 15 (.pl (.tup (hts (n * m) (ht (n * m) (proR m r s))))))[11]? = some (.pl (nI m)) := by rw [List.getElem?_set_ne (by decide)]; exact e11
    have g13 : (env.set 15 (.pl (.tup (hts (n * m) (ht (n * m) (proR m r s))))))[13]? = some (.pl (spc m s)) := by rw [List.getElem?_set_ne (by decide)]; exact e13
    have g15 : (env.set 15 (.pl (.tup (hts (n * m) (ht (n * m) (proR m r s))))))[15]? = some (.pl (.tup (hts (n * m) (ht (n * m) (proR m r s))))) := List.getElem?_set_self (by rw [L.len]; decide)
    generalize env.set 15 (.pl (.tup (hts (n * m) (ht (n * m) (proR m r s))))) = E at L' g11 g13 g15
    have hc := run_comp (src := mRange1 (m2 mulD (dVar 2) (dVar 11))) (vs := [19]) (b := bNm 19) (t := mYes) (e := m2 addD (m2 ixD (dVar 6) (m2 fdivD (dVar 19) (dVar 11))) (m2 ixD (mCall m_heights [] (mCons (dVar 13) mNil)) (m2 modD (mCB intD (mCons (dVar 19) mNil)) (dVar 11)))) nI (fun _ => true) (fun k => nI (ht n r (k / m) + ht m s (k % m))) (List.range (n * m)) (env := E) (p := p) (run_range (pM2 (run_var L'.e2) (run_var g11) (mul_nat (by omega))) (by omega))
      (fun k hk => by
        have hkn := List.mem_range.mp hk
        refine ⟨_, rfl, _, rfl, fun _ => ?_⟩
        have w6 : ((wipeE (E.map Slot.rd) [19]).set 19 (.pl (nI k)))[6]? = some (.pl (.tup (hts n (ht n r)))) := by
          rw [List.getElem?_set_ne (by decide)]; exact wp_pl L'.e6 (by decide)
        have w11 : ((wipeE (E.map Slot.rd) [19]).set 19 (.pl (nI k)))[11]? = some (.pl (nI m)) := by
          rw [List.getElem?_set_ne (by decide)]; exact wp_pl g11 (by decide)
        have w13 : ((wipeE (E.map Slot.rd) [19]).set 19 (.pl (nI k)))[13]? = some (.pl (spc m s)) := by
          rw [List.getElem?_set_ne (by decide)]; exact wp_pl g13 (by decide)
        have w19 : ((wipeE (E.map Slot.rd) [19]).set 19 (.pl (nI k)))[19]? = some (.pl (nI k)) := List.getElem?_set_self (by rw [wp_len, L'.len]; decide)
        exact ⟨_, pM2 (pM2 (run_var w6) (pM2 (run_var w19) (run_var w11) (fdiv_nat hm1 (by omega))) (ix_nat rfl (hts_at (div_lt hkn)))) (pM2 (pCall (pOne (run_var w13)) (v_heights (by omega) S)) (pM2 (pCB (pOne (run_var w19)) rfl) (run_var w11) (mod_nat hm1)) (ix_nat rfl (hts_at (mod_lt' hkn)))) (add_nat _ _)⟩) (by rw [List.length_range]; show _ ≤ 16777216; omega)
    rw [filter_true] at hc
    have heq : (List.range (n * m)).map (fun k => nI (ht n r (k / m) + ht m s (k % m))) = hts (n * m) (ht (n * m) (proR m r s)) := (hts_eq fun y hy => ht_pro P S hy).symm
    rw [heq] at hc
    exact pIfF (pB (pM2 (pCB (pOne (run_var g15)) rfl) hc (neD_self pl_htsL))) rfl
  · rw [decide_eq_false hnm] at t
    exact ⟨env, pIfF (pB (pM2 (pM2 (run_var L.e2) (run_var e11) (mul_nat (by omega))) rfl t)) rfl⟩
end
theorem law_true (ns : List Int) (_ : ns.length ≤ 63) : ∃ p', b_law (.un :: .pl .pen :: List.replicate 18 .un) (some (pen0 ns)) = .rt (.bl true) p' := by
  obtain ⟨n, ps, P1, h1, g1, hn, hO1⟩ := v_some_space (pen0_ok ns) (by omega) (m := 9) (by omega) (by omega)
  obtain ⟨f, hf⟩ := g1.rk
  have P : Po n (Rt ps) := Po.rt hf
  have hlen := g1.len
  generalize hE : (((((((Slot.un :: .pl .pen :: List.replicate 18 .un).set 2 (.pl (nI n))).set 3 (.pl (.lst (ps.map prD)))).set 4 (.pl (spc n (Rt ps)))).set 5 (.pl (.tup ((covs n (Rt ps)).map prD)))).set 6 (.pl (.tup (hts n (ht n (Rt ps))))))) = E
  have L : LF n (Rt ps) E := by rw [← hE]; exact ⟨rfl, rfl, rfl, rfl, rfl, rfl⟩
  obtain ⟨e', p', k1, kp, kL⟩ := run_for (src := mRange1 (dVar 2)) (b := bNm 7) (body := dSeq (dSet 8 (mComp (mRow (dVar 5)) [9, 16] (bTup 2 (bCons (bNm 9) (bCons (bNm 16) bNil))) ((mB (m2 eqD (dVar 16) (dVar 7)))) (dVar 9))) (dIf (mB (m2 neD (m2 ixD (dVar 6) (dVar 7)) (mIf (mB (m2 neD (dVar 8) (mLst mNil))) (m2 addD (mCB maxA (mCons (mComp (mRow (dVar 8)) [9] (bNm 9) (mYes) (m2 ixD (dVar 6) (dVar 9))) mNil)) (M.ret (.int 1))) (M.ret (.int 0))))) (dRet (M.ret (.bl false))) (dNext)))
    (env := E) (p := some P1) nI (List.range n) (fun _ env p1 => p1 = some P1 ∧ LF n (Rt ps) env) (run_range (run_var L.e2) (by omega)) ⟨rfl, L⟩ (fun done y rest env p1 hd ⟨hp, L⟩ => by
      subst hp
      have hy : y < n := by
        have : y ∈ List.range n := by rw [hd]; simp
        exact List.mem_range.mp this
      obtain ⟨e2, a, b⟩ := s_below (p := some P1) hn P hy (L.set (i := 7) (s := .pl (nI y)) (by decide)) (List.getElem?_set_self (by rw [L.len]; decide))
      exact ⟨_, rfl, e2, _, a, rfl, b⟩)
  subst kp
  obtain ⟨e2, P2, k2, L2, hO2⟩ := s_less hn P kL hO1 (by omega)
  obtain ⟨m, qs, P3, h3, g3, hm, hO3⟩ := v_some_space hO2 (by omega) (m := 4) (by omega) (by omega)
  obtain ⟨g, hg⟩ := g3.rk
  have S : Po m (Rt qs) := Po.rt hg
  have hlen2 := g3.len
  have hA : dAsg (mCall m_law_some_space [] (mCons (dVar 1) (mCons (M.ret (.int 4)) mNil))) (bTup 2 (bCons (bNm 11) (bCons (bNm 12) bNil))) e2 (some P2) = .nx ((e2.set 11 (.pl (nI m))).set 12 (.pl (.lst (qs.map prD)))) (some P3) := run_asg (pCall (pCons (run_var L2.e1) (pOne rfl)) h3) rfl
  have LA : LF n (Rt ps) ((e2.set 11 (.pl (nI m))).set 12 (.pl (.lst (qs.map prD)))) := (L2.set (by decide)).set (by decide)
  have A11 : ((e2.set 11 (.pl (nI m))).set 12 (.pl (.lst (qs.map prD))))[11]? = some (.pl (nI m)) := by rw [List.getElem?_set_ne (by decide)]; exact List.getElem?_set_self (by rw [L2.len]; decide)
  have A12 : ((e2.set 11 (.pl (nI m))).set 12 (.pl (.lst (qs.map prD))))[12]? = some (.pl (.lst (qs.map prD))) := List.getElem?_set_self (by rw [List.length_set, L2.len]; decide)
  generalize (e2.set 11 (.pl (nI m))).set 12 (.pl (.lst (qs.map prD))) = A at hA LA A11 A12
  have hB : dSet 13 (mCall m_Space_init [] (mCons (dVar 11) (mCons (dVar 12) mNil))) A (some P3) = .nx (A.set 13 (.pl (spc m (Rt qs)))) (some P3) := pSet (pCall (pCons (run_var A11) (pOne (run_var A12))) (v_Space m qs (by omega) g3.inn (by omega) _))
  have LB : LF n (Rt ps) (A.set 13 (.pl (spc m (Rt qs)))) := LA.set (by decide)
  have B11 : (A.set 13 (.pl (spc m (Rt qs))))[11]? = some (.pl (nI m)) := by rw [List.getElem?_set_ne (by decide)]; exact A11
  have B13 : (A.set 13 (.pl (spc m (Rt qs))))[13]? = some (.pl (spc m (Rt qs))) := List.getElem?_set_self (by rw [LA.len]; decide)
  generalize A.set 13 (.pl (spc m (Rt qs))) = B at hB LB B11 B13
  have hC : dSet 14 (mCall m_stacked [] (mCons (dVar 4) (mCons (dVar 13) mNil))) B (some P3) = .nx (B.set 14 (.pl (spc (n + m) (stkR n (Rt ps) (Rt qs))))) (some P3) := pSet (pCall (pCons (run_var LB.e4) (pOne (run_var B13))) (v_stacked (by omega) P S))
  have LC : LF n (Rt ps) (B.set 14 (.pl (spc (n + m) (stkR n (Rt ps) (Rt qs))))) := LB.set (by decide)
  have C11 : (B.set 14 (.pl (spc (n + m) (stkR n (Rt ps) (Rt qs)))))[11]? = some (.pl (nI m)) := by rw [List.getElem?_set_ne (by decide)]; exact B11
  have C13 : (B.set 14 (.pl (spc (n + m) (stkR n (Rt ps) (Rt qs)))))[13]? = some (.pl (spc m (Rt qs))) := by rw [List.getElem?_set_ne (by decide)]; exact B13
  have C14 : (B.set 14 (.pl (spc (n + m) (stkR n (Rt ps) (Rt qs)))))[14]? = some (.pl (spc (n + m) (stkR n (Rt ps) (Rt qs)))) := List.getElem?_set_self (by rw [LB.len]; decide)
  generalize B.set 14 (.pl (spc (n + m) (stkR n (Rt ps) (Rt qs)))) = C at hC LC C11 C13 C14
  obtain ⟨e5, k5⟩ := s_prod (p := some P3) hn g1.pos hm g3.pos P S LC C11 C13
  refine ⟨some P3, ?_⟩
  refine run_seq (run_asg (pCall (pCons rfl (pOne rfl)) h1) rfl) (run_seq (pSet (pCall (pCons rfl (pOne rfl)) (v_Space n ps (by omega) g1.inn (by omega) _))) (run_seq (run_asg (e2 := E) (run_tup (run_cons (pCall (pOne rfl) (v_covers (by omega) P)) (run_cons (pCall (pOne rfl) (v_heights (by omega) P)) rfl)) (by show 2 ≤ sizeLine; decide)) (by rw [← hE]; rfl)) (run_seq (s_told hn P L) (run_seq k1 (run_seq (s_contrary hn P kL) (run_seq k2 (run_seq hA (run_seq hB (run_seq hC (run_seq (s_stack hn g1.pos hm P S LC C13 C14) (run_seq (s_sum hn g1.pos hm P S LC C13) (run_seq k5 (pRet rfl)))))))))))))
end CS
open PySem PySem.W PyProof.Rows
set_option maxRecDepth 100000 in
set_option maxHeartbeats 0 in
theorem PySem.Challenge.cw_corespaces_k13_whole_covers_and_heights_holds : PySem.Challenge.rw_corespaces_k13_whole_covers_and_heights.Holds := by
  w_on; o_law; k_head; (case hw => w_witness2)
  k_fill
  refine CS.walk (l := PySem.Challenge.rw_corespaces_k13_whole_covers_and_heights) rfl rfl (fun w h Y => PySem.W.kIn_of Y) ?F
  case F =>
    intro w mg fa h KX G hmg
    refine' CS.all_mk KX G hmg ?a15 ?a38 ?l38 ?c38 ?k38 ?a39 ?l39 ?c39 ?k39 ?a40 ?l40 ?c40 ?k40 ?a43 ?l43 ?c43 ?k43 ?a41 ?l41 ?c41 ?k41 ?a42 ?l42 ?c42 ?k42 ?a44 ?l44 ?c44 ?k44 ?a8 ?l8 ?c8 ?k8 ?a9 ?l9 ?c9 ?k9 ?a12 ?l12 ?c12 ?k12 ?a13 ?l13 ?c13 ?k13 ?a14 ?l14 ?c14 ?k14 ?a1300 ?i1300 ?l1300 ?c1300 ?k1300 ?t1300l ?a16 ?l16 ?c16 ?k16 ?a17 ?l17 ?c17 ?k17 ?a18 ?l18 ?c18 ?k18 ?a19 ?l19 ?c19 ?k19 ?a20 ?l20 ?c20 ?k20 ?a21 ?l21 ?c21 ?k21 ?a22 ?l22 ?c22 ?k22 ?a23 ?l23 ?c23 ?k23 ?a24 ?l24 ?c24 ?k24 ?a1301 ?i1301 ?l1301 ?c1301 ?k1301 ?a25 ?l25 ?c25 ?k25 ?a35 ?l35 ?c35 ?k35 ?a36 ?l36 ?c36 ?k36 ?a29 ?l29 ?c29 ?k29 ?a27 ?l27 ?c27 ?k27 ?a28 ?l28 ?c28 ?k28 ?a31 ?l31 ?c31 ?k31 ?a32 ?l32 ?c32 ?k32 ?a30 ?l30 ?c30 ?k30 ?a33 ?l33 ?c33 ?k33 ?a45 ?l45 ?c45 ?k45 ?pg15 ?hd15 ?po15 ?sa15 ?mk15 ?kc15 ?en15 ?n15_many ?n15_over ?n15_under ?sg ?tk ?ic15 ?mo15 ?cs15 ?ty15 ?kt15_NoneType ?kt15_bool ?kt15_int ?kt15_str ?kt15_tuple ?kt15_list ?ku15_int ?ku15_bool ?ku15_str ?ku15_tuple ?ku15_list ?z_all ?z_any ?z_bool ?z_enumerate ?z_int ?z_isinstance ?z_len ?z_list ?z_max ?z_range ?z_sorted ?z_tuple ?y_MOST_POINTS CS.law_true
    (case a15 => k_is)
    (case a38 => k_is)
    (case l38 => k_is)
    (case c38 => k_is)
    (case k38 => k_is)
    (case a39 => k_is)
    (case l39 => k_is)
    (case c39 => k_is)
    (case k39 => k_is)
    (case a40 => k_is)
    (case l40 => k_is)
    (case c40 => k_is)
    (case k40 => k_is)
    (case a43 => k_is)
    (case l43 => k_is)
    (case c43 => k_is)
    (case k43 => k_is)
    (case a41 => k_is)
    (case l41 => k_is)
    (case c41 => k_is)
    (case k41 => k_is)
    (case a42 => k_is)
    (case l42 => k_is)
    (case c42 => k_is)
    (case k42 => k_is)
    (case a44 => k_is)
    (case l44 => k_is)
    (case c44 => k_is)
    (case k44 => k_is)
    (case a8 => k_is)
    (case l8 => k_is)
    (case c8 => k_is)
    (case k8 => k_is)
    (case a9 => k_is)
    (case l9 => k_is)
    (case c9 => k_is)
    (case k9 => k_is)
    (case a12 => k_is)
    (case l12 => k_is)
    (case c12 => k_is)
    (case k12 => k_is)
    (case a13 => k_is)
    (case l13 => k_is)
    (case c13 => k_is)
    (case k13 => k_is)
    (case a14 => k_is)
    (case l14 => k_is)
    (case c14 => k_is)
    (case k14 => k_is)
    (case a1300 => k_is)
    (case i1300 => k_is)
    (case l1300 => k_is)
    (case c1300 => k_is)
    (case k1300 => k_is)
    (case t1300l => k_is)
    (case a16 => k_is)
    (case l16 => k_is)
    (case c16 => k_is)
    (case k16 => k_is)
    (case a17 => k_is)
    (case l17 => k_is)
    (case c17 => k_is)
    (case k17 => k_is)
    (case a18 => k_is)
    (case l18 => k_is)
    (case c18 => k_is)
    (case k18 => k_is)
    (case a19 => k_is)
    (case l19 => k_is)
    (case c19 => k_is)
    (case k19 => k_is)
    (case a20 => k_is)
    (case l20 => k_is)
    (case c20 => k_is)
    (case k20 => k_is)
    (case a21 => k_is)
    (case l21 => k_is)
    (case c21 => k_is)
    (case k21 => k_is)
    (case a22 => k_is)
    (case l22 => k_is)
    (case c22 => k_is)
    (case k22 => k_is)
    (case a23 => k_is)
    (case l23 => k_is)
    (case c23 => k_is)
    (case k23 => k_is)
    (case a24 => k_is)
    (case l24 => k_is)
    (case c24 => k_is)
    (case k24 => k_is)
    (case a1301 => k_is)
    (case i1301 => k_is)
    (case l1301 => k_is)
    (case c1301 => k_is)
    (case k1301 => k_is)
    (case a25 => k_is)
    (case l25 => k_is)
    (case c25 => k_is)
    (case k25 => k_is)
    (case a35 => k_is)
    (case l35 => k_is)
    (case c35 => k_is)
    (case k35 => k_is)
    (case a36 => k_is)
    (case l36 => k_is)
    (case c36 => k_is)
    (case k36 => k_is)
    (case a29 => k_is)
    (case l29 => k_is)
    (case c29 => k_is)
    (case k29 => k_is)
    (case a27 => k_is)
    (case l27 => k_is)
    (case c27 => k_is)
    (case k27 => k_is)
    (case a28 => k_is)
    (case l28 => k_is)
    (case c28 => k_is)
    (case k28 => k_is)
    (case a31 => k_is)
    (case l31 => k_is)
    (case c31 => k_is)
    (case k31 => k_is)
    (case a32 => k_is)
    (case l32 => k_is)
    (case c32 => k_is)
    (case k32 => k_is)
    (case a30 => k_is)
    (case l30 => k_is)
    (case c30 => k_is)
    (case k30 => k_is)
    (case a33 => k_is)
    (case l33 => k_is)
    (case c33 => k_is)
    (case k33 => k_is)
    (case a45 => k_is)
    (case l45 => k_is)
    (case c45 => k_is)
    (case k45 => k_is)
    (case pg15 => k_is)
    (case hd15 => k_is)
    (case po15 => k_is)
    (case sa15 => k_is)
    (case mk15 => k_is)
    (case kc15 => k_is)
    (case en15 => k_is)
    (case n15_many => k_is)
    (case n15_over => k_is)
    (case n15_under => k_is)
    (case sg => k_is)
    (case tk => k_is)
    (case ic15 => k_is)
    (case mo15 => k_is)
    (case cs15 => k_is)
    (case ty15 => k_is)
    (case kt15_NoneType => k_is)
    (case kt15_bool => k_is)
    (case kt15_int => k_is)
    (case kt15_str => k_is)
    (case kt15_tuple => k_is)
    (case kt15_list => k_is)
    (case ku15_int => k_is)
    (case ku15_bool => k_is)
    (case ku15_str => k_is)
    (case ku15_tuple => k_is)
    (case ku15_list => k_is)
    (case z_all => k_is)
    (case z_any => k_is)
    (case z_bool => k_is)
    (case z_enumerate => k_is)
    (case z_int => k_is)
    (case z_isinstance => k_is)
    (case z_len => k_is)
    (case z_list => k_is)
    (case z_max => k_is)
    (case z_range => k_is)
    (case z_sorted => k_is)
    (case z_tuple => k_is)
    (case y_MOST_POINTS => k_is)
#print axioms PySem.Challenge.cw_corespaces_k13_whole_covers_and_heights_holds
