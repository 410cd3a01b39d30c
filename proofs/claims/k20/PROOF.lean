import PyProof.Rows.All
import Wide.All
import OpenK.AllK
import Wide.FinOn
import HandS.ForMost
import HandS.Exc
import HandS.EndBits
import HandS.TupAny
import HandS.TupMul
import HandS.Style
import HandS.IsInst
import HandS.Wide
import HandS.WideBits
import HandS.Conv
import HandS.Deep
import HandS.SortInts
import HandS.Strs
import HandS.More
import HandS.Flow
import HandS.Iter
import HandS.Zip
import HandS.Comp
import HandS.List
import HandS.SetKeys
import HandS.Finally
import HandS.CallSlots
import HandS.Defaults
import HandS.MakeKwOnly
import HandS.Property
import HandS.HeadHook4
import HandS.Small
import HandS.SetFor
import HandS.Ends
import HandS.HeadEnd
import HandS.Head2
import HandS.Words
import PySem.Challenge.RW_allloads_k20_ends_of_rules
set_option Elab.async false
section
set_option Elab.async false
set_option linter.all false
set_option maxRecDepth 100000
/-! MP1: trees, their representation over the abstract heap, environments of trees, the readings. -/
namespace MP
open PySem PySem.Spec L2

/-! ### trees -/
inductive T where
  | non | bl (b : Bool) | int (i : Int) | str (s : Str)
  | tup (xs : List T) | lst (xs : List T) | dic (kvs : List (Key × T)) | ins (c : Nat) (fs : List (Str × T)) | drw
  | slf (c : Nat) (fs : List (Str × T))

/-- the law's draw -/
structure DS where
  large : List Int
  cells : List Int
  rest : Int
  turn : Int
  mix : Int
  deriving Inhabited

structure Wd where
  K : PySem.W.Frag
  ct : Nat → Addr

/-- where the draw lies; the object in the making whose __init__ runs -/
structure DG where
  dr : Option (Addr × Addr × Addr)
  me : Option Addr
def DD (g : DG) (a : Addr) : Prop := ∃ d b c, g.dr = some (d, b, c) ∧ (a = d ∨ a = b ∨ a = c)

/-- a list to be read, its address outside A (or the text's own) -/
def SqLA (K : PySem.W.Frag) (H : Hp) (A : Addr → Prop) (a : Addr) (vs : List V) : Prop :=
  (Rd H a (.lst vs) ∧ ¬ A a) ∨
    ∃ (o : Obj) (its : Array Value) (n : Nat), K.lookup a = some o ∧ o.cls = .type "list" ∧ o.dict = none ∧ o.data = .seq its n ∧ its.size ≤ sizeLine ∧ Vals vs its.toList
theorem SqLA.sq {K : PySem.W.Frag} {H : Hp} {A : Addr → Prop} {a : Addr} {vs : List V} (h : SqLA K H A a vs) : SqL K H a vs := by
  rcases h with ⟨h, _⟩ | h
  · exact .inl h
  · exact .inr h

/-- kept: all outside A is as it was; tuples and locked things too -/
structure Kp (A : Addr → Prop) (H H' : Hp) : Prop where
  same : ∀ b o, H b = some o → ¬ A b → H' b = some o
  tups : ∀ b xs, H b = some (.tup xs) → H' b = some (.tup xs)
  frzs : ∀ b o u, H b = some (.frz o u) → H' b = some (.frz o u)
theorem Kp.refl {A : Addr → Prop} {H : Hp} : Kp A H H := ⟨fun _ _ h _ => h, fun _ _ h => h, fun _ _ _ h => h⟩
theorem Kp.trans {A : Addr → Prop} {H H1 H2 : Hp} (x : Kp A H H1) (y : Kp A H1 H2) : Kp A H H2 :=
  ⟨fun b o h n => y.same b o (x.same b o h n) n, fun b xs h => y.tups b xs (x.tups b xs h), fun b o u h => y.frzs b o u (x.frzs b o u h)⟩
theorem Kp.mono {A B : Addr → Prop} {H H1 : Hp} (x : Kp A H H1) (h : ∀ a, A a → B a) : Kp B H H1 :=
  ⟨fun b o e n => x.same b o e fun z => n (h b z), x.tups, x.frzs⟩
/-- a new object -/
theorem Kp.new {A : Addr → Prop} {H : Hp} {p : Addr} {o : HO} (h : H p = none) : Kp A H (upd H p o) :=
  ⟨fun b u e _ => by rw [upd_ne (ne_of_none e h)]; exact e, fun b u e => by rw [upd_ne (ne_of_none e h)]; exact e, fun b u v e => by rw [upd_ne (ne_of_none e h)]; exact e⟩
theorem Kp.rdT {A : Addr → Prop} {H H' : Hp} {K : PySem.W.Frag} {a : Addr} {vs : List V} (x : Kp A H H') (h : SqT K H a vs) : SqT K H' a vs := by
  rcases h with (h | ⟨o, h⟩) | h
  · exact .inl (.inl (x.tups _ _ h))
  · exact .inl (.inr ⟨o, x.frzs _ _ _ h⟩)
  · exact .inr h
theorem Kp.rdL {A : Addr → Prop} {H H' : Hp} {K : PySem.W.Frag} {a : Addr} {vs : List V} (x : Kp A H H') (h : SqLA K H A a vs) : SqLA K H' A a vs := by
  rcases h with ⟨h | ⟨o, h⟩, n⟩ | h
  · exact .inl ⟨.inl (x.same _ _ h n), n⟩
  · exact .inl ⟨.inr ⟨o, x.frzs _ _ _ h⟩, n⟩
  · exact .inr h

mutual
/-- v stands for the tree t; what may change (A) is not looked at -/
inductive VRep (w : Wd) (g : DG) (H : Hp) (A : Addr → Prop) : T → V → Prop
  | non : VRep w g H A .non .non
  | bl (b : Bool) : VRep w g H A (.bl b) (.bl b)
  | int (i : Int) : VRep w g H A (.int i) (.int i)
  | str (s : Str) : VRep w g H A (.str s) (.str s)
  | tup {ts : List T} {a : Addr} {vs : List V} : SqT w.K H a vs → VReps w g H A ts vs → VRep w g H A (.tup ts) (.ref a)
  | lst {ts : List T} {a : Addr} {vs : List V} : SqLA w.K H A a vs → VReps w g H A ts vs → VRep w g H A (.lst ts) (.ref a)
  | dic {kts : List (Key × T)} {a : Addr} {kvs : List (Key × V)} : H a = some (.dK kvs) → ¬ A a → kvs.map (·.1) = kts.map (·.1) → VReps w g H A (kts.map (·.2)) (kvs.map (·.2)) → VRep w g H A (.dic kts) (.ref a)
  | ins {c : Nat} {fs : List (Str × T)} {a dx : Addr} {gs : List (Str × V)} : H a = some (.ins (w.ct c) dx gs) → ¬ A a → gs.map (·.1) = fs.map (·.1) → VReps w g H A (fs.map (·.2)) (gs.map (·.2)) → VRep w g H A (.ins c fs) (.ref a)
  | drw {d b c : Addr} : g.dr = some (d, b, c) → VRep w g H A .drw (.ref d)
  | slf {c : Nat} {fs : List (Str × T)} {a dx : Addr} {gs : List (Str × V)} : H a = some (.ins (w.ct c) dx gs) → ¬ A a → gs.map (·.1) = fs.map (·.1) → VReps w g H A (fs.map (·.2)) (gs.map (·.2)) → VRep w g H A (.slf c fs) (.ref a)
inductive VReps (w : Wd) (g : DG) (H : Hp) (A : Addr → Prop) : List T → List V → Prop
  | nil : VReps w g H A [] []
  | cons {t : T} {v : V} {ts : List T} {vs : List V} : VRep w g H A t v → VReps w g H A ts vs → VReps w g H A (t :: ts) (v :: vs)
end

section
variable {w : Wd} {g : DG} {H H' : Hp} {A A' : Addr → Prop}
mutual
theorem VRep.keep (k : Kp A H H') : ∀ {t : T} {v : V}, VRep w g H A t v → VRep w g H' A t v
  | _, _, .non => .non
  | _, _, .bl b => .bl b
  | _, _, .int i => .int i
  | _, _, .str s => .str s
  | _, _, .tup h hs => .tup (k.rdT h) (VReps.keep k hs)
  | _, _, .lst h hs => .lst (k.rdL h) (VReps.keep k hs)
  | _, _, .dic h n e hs => .dic (k.same _ _ h n) n e (VReps.keep k hs)
  | _, _, .ins h n e hs => .ins (k.same _ _ h n) n e (VReps.keep k hs)
  | _, _, .slf h n e hs => .slf (k.same _ _ h n) n e (VReps.keep k hs)
  | _, _, .drw h => .drw h
theorem VReps.keep (k : Kp A H H') : ∀ {ts : List T} {vs : List V}, VReps w g H A ts vs → VReps w g H' A ts vs
  | _, _, .nil => .nil
  | _, _, .cons h hs => .cons (VRep.keep k h) (VReps.keep k hs)
end
theorem SqLA.weak {K : PySem.W.Frag} {a : Addr} {vs : List V} (k : ∀ a, A' a → A a) (h : SqLA K H A a vs) : SqLA K H A' a vs := by
  rcases h with ⟨h, n⟩ | h
  · exact .inl ⟨h, fun z => n (k _ z)⟩
  · exact .inr h
mutual
theorem VRep.weak (k : ∀ a, A' a → A a) : ∀ {t : T} {v : V}, VRep w g H A t v → VRep w g H A' t v
  | _, _, .non => .non
  | _, _, .bl b => .bl b
  | _, _, .int i => .int i
  | _, _, .str s => .str s
  | _, _, .tup h hs => .tup h (VReps.weak k hs)
  | _, _, .lst h hs => .lst (h.weak k) (VReps.weak k hs)
  | _, _, .dic h n e hs => .dic h (fun z => n (k _ z)) e (VReps.weak k hs)
  | _, _, .ins h n e hs => .ins h (fun z => n (k _ z)) e (VReps.weak k hs)
  | _, _, .slf h n e hs => .slf h (fun z => n (k _ z)) e (VReps.weak k hs)
  | _, _, .drw h => .drw h
theorem VReps.weak (k : ∀ a, A' a → A a) : ∀ {ts : List T} {vs : List V}, VReps w g H A ts vs → VReps w g H A' ts vs
  | _, _, .nil => .nil
  | _, _, .cons h hs => .cons (VRep.weak k h) (VReps.weak k hs)
end
mutual
theorem VRep.me {m : Option Addr} : ∀ {t : T} {v : V}, VRep w g H A t v → VRep w ⟨g.dr, m⟩ H A t v
  | _, _, .non => .non
  | _, _, .bl b => .bl b
  | _, _, .int i => .int i
  | _, _, .str s => .str s
  | _, _, .tup h hs => .tup h (VReps.me hs)
  | _, _, .lst h hs => .lst h (VReps.me hs)
  | _, _, .dic h n e hs => .dic h n e (VReps.me hs)
  | _, _, .ins h n e hs => .ins h n e (VReps.me hs)
  | _, _, .slf h n e hs => .slf h n e (VReps.me hs)
  | _, _, .drw h => .drw h
theorem VReps.me {m : Option Addr} : ∀ {ts : List T} {vs : List V}, VReps w g H A ts vs → VReps w ⟨g.dr, m⟩ H A ts vs
  | _, _, .nil => .nil
  | _, _, .cons h hs => .cons (VRep.me h) (VReps.me hs)
end
/-- A with one address more -/
def adj (A : Addr → Prop) (p : Addr) : Addr → Prop := fun a => A a ∨ a = p
theorem SqLA.grow {K : PySem.W.Frag} {a p : Addr} {vs : List V} (hp : H p = none) (h : SqLA K H A a vs) : SqLA K H (adj A p) a vs := by
  rcases h with ⟨h, n⟩ | h
  · refine .inl ⟨h, fun z => ?_⟩
    rcases z with z | rfl
    · exact n z
    · rcases h with h | ⟨o, h⟩ <;> (rw [hp] at h; cases h)
  · exact .inr h
theorem grow_no {a p : Addr} {o : HO} (hp : H p = none) (h : H a = some o) (n : ¬ A a) : ¬ adj A p a := fun z => by
  rcases z with z | rfl
  · exact n z
  · rw [hp] at h; cases h
mutual
theorem VRep.grow {p : Addr} (hp : H p = none) : ∀ {t : T} {v : V}, VRep w g H A t v → VRep w g H (adj A p) t v
  | _, _, .non => .non
  | _, _, .bl b => .bl b
  | _, _, .int i => .int i
  | _, _, .str s => .str s
  | _, _, .tup h hs => .tup h (VReps.grow hp hs)
  | _, _, .lst h hs => .lst (h.grow hp) (VReps.grow hp hs)
  | _, _, .dic h n e hs => .dic h (grow_no hp h n) e (VReps.grow hp hs)
  | _, _, .ins h n e hs => .ins h (grow_no hp h n) e (VReps.grow hp hs)
  | _, _, .slf h n e hs => .slf h (grow_no hp h n) e (VReps.grow hp hs)
  | _, _, .drw h => .drw h
theorem VReps.grow {p : Addr} (hp : H p = none) : ∀ {ts : List T} {vs : List V}, VReps w g H A ts vs → VReps w g H (adj A p) ts vs
  | _, _, .nil => .nil
  | _, _, .cons h hs => .cons (VRep.grow hp h) (VReps.grow hp hs)
end
theorem VReps.length : ∀ {ts : List T} {vs : List V}, VReps w g H A ts vs → ts.length = vs.length
  | _, _, .nil => rfl
  | _, _, .cons _ hs => congrArg Nat.succ (VReps.length hs)
theorem VReps.get : ∀ {ts : List T} {vs : List V} {i : Nat} {t : T}, VReps w g H A ts vs → ts[i]? = some t → ∃ v, vs[i]? = some v ∧ VRep w g H A t v
  | _, _, _, _, .nil, e => by simp at e
  | _, _, 0, _, .cons h _, e => by simp at e; subst e; exact ⟨_, rfl, h⟩
  | _, _, i + 1, t, .cons _ hs, e => by
    obtain ⟨v, h1, h2⟩ := VReps.get (i := i) (t := t) hs (by simpa using e)
    exact ⟨v, by simpa using h1, h2⟩
theorem VReps.append : ∀ {ts us : List T} {vs xs : List V}, VReps w g H A ts vs → VReps w g H A us xs → VReps w g H A (ts ++ us) (vs ++ xs)
  | _, _, _, _, .nil, s => s
  | _, _, _, _, .cons r t, s => .cons r (VReps.append t s)
theorem VReps.take (n : Nat) : ∀ {ts : List T} {vs : List V}, VReps w g H A ts vs → VReps w g H A (ts.take n) (vs.take n) := by
  intro ts vs h
  induction n generalizing ts vs with
  | zero => simpa using VReps.nil
  | succ n ih =>
    cases h with
    | nil => exact .nil
    | cons r t => exact .cons r (ih t)
theorem VReps.drop (n : Nat) : ∀ {ts : List T} {vs : List V}, VReps w g H A ts vs → VReps w g H A (ts.drop n) (vs.drop n) := by
  intro ts vs h
  induction n generalizing ts vs with
  | zero => simpa using h
  | succ n ih =>
    cases h with
    | nil => exact .nil
    | cons r t => exact ih t
theorem VReps.reverse : ∀ {ts : List T} {vs : List V}, VReps w g H A ts vs → VReps w g H A ts.reverse vs.reverse
  | _, _, .nil => .nil
  | _, _, .cons r t => by
    rw [List.reverse_cons, List.reverse_cons]
    exact (VReps.reverse t).append (.cons r .nil)
theorem VReps.set {t : T} {v : V} (r : VRep w g H A t v) : ∀ {ts : List T} {vs : List V} (i : Nat), VReps w g H A ts vs → VReps w g H A (ts.set i t) (vs.set i v)
  | _, _, _, .nil => .nil
  | _, _, 0, .cons _ s => .cons r s
  | _, _, i + 1, .cons q s => .cons q (VReps.set r i s)
end

/-- an object of one's own: the tree t stands at a, its parts outside A -/
def ORep (w : Wd) (g : DG) (H : Hp) (A : Addr → Prop) : T → Addr → Prop
  | .lst ts, a => ∃ vs, H a = some (.lst vs) ∧ VReps w g H A ts vs
  | .dic kts, a => ∃ kvs, H a = some (.dK kvs) ∧ kvs.map (·.1) = kts.map (·.1) ∧ VReps w g H A (kts.map (·.2)) (kvs.map (·.2))
  | .ins c fs, a => ∃ dx gs, H a = some (.ins (w.ct c) dx gs) ∧ gs.map (·.1) = fs.map (·.1) ∧ VReps w g H A (fs.map (·.2)) (gs.map (·.2))
  | .slf c fs, a => g.me = some a ∧ ∃ dx gs, H a = some (.ins (w.ct c) dx gs) ∧ gs.map (·.1) = fs.map (·.1) ∧ VReps w g H A (fs.map (·.2)) (gs.map (·.2))
  | _, _ => False
section
variable {w : Wd} {g : DG} {H H' : Hp} {A A' : Addr → Prop}
theorem ORep.share {t : T} {a : Addr} (h : ORep w g H A t a) (k : ∀ b, A' b → A b) (n : ¬ A' a) : VRep w g H A' t (.ref a) := by
  cases t with
  | lst ts => obtain ⟨vs, h1, h2⟩ := h; exact .lst (.inl ⟨.inl h1, n⟩) (h2.weak k)
  | dic kts => obtain ⟨kvs, h1, h2, h3⟩ := h; exact .dic h1 n h2 (h3.weak k)
  | ins c fs => obtain ⟨dx, gs, h1, h2, h3⟩ := h; exact .ins h1 n h2 (h3.weak k)
  | non => exact h.elim
  | bl _ => exact h.elim
  | int _ => exact h.elim
  | str _ => exact h.elim
  | tup _ => exact h.elim
  | slf c fs => obtain ⟨_, dx, gs, h1, h2, h3⟩ := h; exact .slf h1 n h2 (h3.weak k)
  | drw => exact h.elim
theorem ORep.keep {t : T} {a : Addr} (h : ORep w g H A t a) (k : Kp A H H') (e : H' a = H a) : ORep w g H' A t a := by
  cases t with
  | lst ts => obtain ⟨vs, h1, h2⟩ := h; exact ⟨vs, e.trans h1, h2.keep k⟩
  | dic kts => obtain ⟨kvs, h1, h2, h3⟩ := h; exact ⟨kvs, e.trans h1, h2, h3.keep k⟩
  | ins c fs => obtain ⟨dx, gs, h1, h2, h3⟩ := h; exact ⟨dx, gs, e.trans h1, h2, h3.keep k⟩
  | non => exact h.elim
  | bl _ => exact h.elim
  | int _ => exact h.elim
  | str _ => exact h.elim
  | tup _ => exact h.elim
  | slf c fs => obtain ⟨h0, dx, gs, h1, h2, h3⟩ := h; exact ⟨h0, dx, gs, e.trans h1, h2, h3.keep k⟩
  | drw => exact h.elim
theorem ORep.weak {t : T} {a : Addr} (h : ORep w g H A t a) (k : ∀ b, A' b → A b) : ORep w g H A' t a := by
  cases t with
  | lst ts => obtain ⟨vs, h1, h2⟩ := h; exact ⟨vs, h1, h2.weak k⟩
  | dic kts => obtain ⟨kvs, h1, h2, h3⟩ := h; exact ⟨kvs, h1, h2, h3.weak k⟩
  | ins c fs => obtain ⟨dx, gs, h1, h2, h3⟩ := h; exact ⟨dx, gs, h1, h2, h3.weak k⟩
  | non => exact h.elim
  | bl _ => exact h.elim
  | int _ => exact h.elim
  | str _ => exact h.elim
  | tup _ => exact h.elim
  | slf c fs => obtain ⟨h0, dx, gs, h1, h2, h3⟩ := h; exact ⟨h0, dx, gs, h1, h2, h3.weak k⟩
  | drw => exact h.elim
theorem ORep.grow {t : T} {a p : Addr} (h : ORep w g H A t a) (hp : H p = none) : ORep w g H (adj A p) t a := by
  cases t with
  | lst ts => obtain ⟨vs, h1, h2⟩ := h; exact ⟨vs, h1, h2.grow hp⟩
  | dic kts => obtain ⟨kvs, h1, h2, h3⟩ := h; exact ⟨kvs, h1, h2, h3.grow hp⟩
  | ins c fs => obtain ⟨dx, gs, h1, h2, h3⟩ := h; exact ⟨dx, gs, h1, h2, h3.grow hp⟩
  | non => exact h.elim
  | bl _ => exact h.elim
  | int _ => exact h.elim
  | str _ => exact h.elim
  | tup _ => exact h.elim
  | slf c fs => obtain ⟨h0, dx, gs, h1, h2, h3⟩ := h; exact ⟨h0, dx, gs, h1, h2, h3.grow hp⟩
  | drw => exact h.elim
theorem ORep.there {t : T} {a : Addr} (h : ORep w g H A t a) : ∃ o, H a = some o ∧ (∀ xs, o ≠ .tup xs) ∧ (∀ ob u, o ≠ .frz ob u) ∧ Mut (some o) := by
  cases t with
  | lst ts => obtain ⟨vs, h1, _⟩ := h; exact ⟨_, h1, (fun _ z => nomatch z), (fun _ _ z => nomatch z), True.intro⟩
  | dic kts => obtain ⟨vs, h1, _⟩ := h; exact ⟨_, h1, (fun _ z => nomatch z), (fun _ _ z => nomatch z), True.intro⟩
  | ins c fs => obtain ⟨_, vs, h1, _⟩ := h; exact ⟨_, h1, (fun _ z => nomatch z), (fun _ _ z => nomatch z), True.intro⟩
  | non => exact h.elim
  | bl _ => exact h.elim
  | int _ => exact h.elim
  | str _ => exact h.elim
  | tup _ => exact h.elim
  | slf c fs => obtain ⟨_, _, vs, h1, _⟩ := h; exact ⟨_, h1, (fun _ z => nomatch z), (fun _ _ z => nomatch z), True.intro⟩
  | drw => exact h.elim
end

/-! ### the draw -/
def drawKV (b c : Addr) (st : DS) : List (Key × V) :=
  [(Sum.inr "large", V.ref b), (Sum.inr "cells", V.ref c), (Sum.inr "rest", V.int st.rest), (Sum.inr "turn", V.int st.turn), (Sum.inr "mix", V.int st.mix)]
structure DOk (st : DS) : Prop where
  lg : st.large.length ≤ 63
  cl : st.cells.length ≤ 63
  lgB : ∀ z ∈ st.large, 0 ≤ z ∧ Builtin.Int.intBits z ≤ 1048577
  clB : ∀ z ∈ st.cells, Builtin.Int.intBits z ≤ 1048576
  rest0 : 0 ≤ st.rest
  restB : Builtin.Int.intBits st.rest ≤ 1048577
  turn0 : 0 ≤ st.turn
  mix0 : 0 ≤ st.mix ∧ st.mix < 2147483629
structure DrawAt (H : Hp) (d b c : Addr) (st : DS) : Prop where
  dd : H d = some (.dK (drawKV b c st))
  db : H b = some (.lst (st.large.map V.int))
  dc : H c = some (.lst (st.cells.map V.int))
  bc : b ≠ c
  ok : DOk st

/-! ### environments -/
structure Ev where
  sl : List (Option (Bool × T))
  dr : DS

/-- the entry: the heap, what the callers keep apart -/
structure En where
  h : Hp
  A : Addr → Prop
/-- laid since the entry -/
def En.New (H0 : En) (a : Addr) : Prop := H0.h a = none ∧ ¬ H0.A a
structure SR (w : Wd) (g : DG) (H0 : En) (H : Hp) (A : Addr → Prop) (ρ : Ev) (σ : St) : Prop where
  len : ρ.sl.length = σ.length
  up : ∀ a, H0.A a → A a
  sh : ∀ (i : Nat) (t : T), ρ.sl[i]? = some (some (false, t)) → ∃ v, σ[i]? = some (some v) ∧ VRep w g H A t v
  own : ∀ (i : Nat) (t : T), ρ.sl[i]? = some (some (true, t)) → ∃ a, σ[i]? = some (some (.ref a)) ∧ ORep w g H A t a ∧ A a ∧ ¬ DD g a ∧ H0.New a
  apart : ∀ (i j : Nat) (t u : T) (a : Addr), i ≠ j → ρ.sl[i]? = some (some (true, t)) → ρ.sl[j]? = some (some (true, u)) → σ[i]? = some (some (.ref a)) → σ[j]? ≠ some (some (.ref a))
  draw : ∀ d b c, g.dr = some (d, b, c) → DrawAt H d b c ρ.dr
  dA : ∀ a, DD g a → A a
  aT : ∀ a, A a → H a ≠ none
  fr : Kp (DD g) H0.h H
/-- a value to be looked at: it stands still, or it is an object of one's own -/
def LRep (w : Wd) (g : DG) (H : Hp) (A : Addr → Prop) (t : T) (v : V) : Prop := VRep w g H A t v ∨ ∃ a, v = .ref a ∧ ORep w g H A t a ∧ A a ∧ ¬ DD g a
inductive LReps (w : Wd) (g : DG) (H : Hp) (A : Addr → Prop) : List T → List V → Prop
  | nil : LReps w g H A [] []
  | cons {t : T} {v : V} {ts : List T} {vs : List V} : LRep w g H A t v → LReps w g H A ts vs → LReps w g H A (t :: ts) (v :: vs)

inductive Out (α : Type) where
  | ok (a : α) (ρ : Ev) | ex (c : Nat) (f : Option (Str × T)) (ρ : Ev) | bad
abbrev M (α : Type) := Ev → Out α
inductive SO where
  | nx (ρ : Ev) | rt (fr : Bool) (t : T) (ρ : Ev) | bk (ρ : Ev) | ct (ρ : Ev) | ex (c : Nat) (f : Option (Str × T)) (ρ : Ev) | bad
abbrev SM := Ev → SO

/-- what was shared stays -/
structure Pe (w : Wd) (g : DG) (H : Hp) (A : Addr → Prop) (H' : Hp) (A' : Addr → Prop) : Prop where
  vr : ∀ t v, VRep w g H A t v → VRep w g H' A' t v
  sl : ∀ a vs, SqLA w.K H A a vs → SqLA w.K H' A' a vs
  st : ∀ a vs, SqT w.K H a vs → SqT w.K H' a vs
theorem Pe.refl {w : Wd} {g : DG} {H : Hp} {A : Addr → Prop} : Pe w g H A H A := ⟨fun _ _ h => h, fun _ _ h => h, fun _ _ h => h⟩
theorem Pe.trans {w : Wd} {g : DG} {H H1 H2 : Hp} {A A1 A2 : Addr → Prop} (x : Pe w g H A H1 A1) (y : Pe w g H1 A1 H2 A2) : Pe w g H A H2 A2 :=
  ⟨fun t v h => y.vr t v (x.vr t v h), fun a vs h => y.sl a vs (x.sl a vs h), fun a vs h => y.st a vs (x.st a vs h)⟩
theorem Pe.of {w : Wd} {g : DG} {H H1 : Hp} {A A1 : Addr → Prop} (hA : ∀ a, A1 a → A a) (k : Kp A H H1) : Pe w g H A H1 A1 :=
  ⟨fun t v h => (h.keep k).weak hA, fun a vs h => (k.rdL h).weak hA, fun a vs h => k.rdT h⟩
theorem Pe.grow {w : Wd} {g : DG} {H H1 : Hp} {A A1 : Addr → Prop} {p : Addr} (hA : ∀ a, A1 a → A a) (k : Kp A H H1) (hp : H p = none) : Pe w g H A H1 (adj A1 p) :=
  ⟨fun t v h => ((h.grow hp).keep (k.mono fun _ z => .inl z)).weak fun a z => z.elim (fun z => .inl (hA a z)) .inr, fun a vs h => ((k.mono fun _ z => .inl z).rdL (h.grow hp)).weak fun a z => z.elim (fun z => .inl (hA a z)) .inr, fun a vs h => k.rdT h⟩
theorem Pe.vrs {w : Wd} {g : DG} {H H1 : Hp} {A A1 : Addr → Prop} (x : Pe w g H A H1 A1) : ∀ {ts : List T} {vs : List V}, VReps w g H A ts vs → VReps w g H1 A1 ts vs
  | _, _, .nil => .nil
  | _, _, .cons h hs => .cons (x.vr _ _ h) (Pe.vrs x hs)
/-- an exception of the class c, perhaps with one field -/
def XRep (w : Wd) (g : DG) (H : Hp) (A : Addr → Prop) (c : Nat) (f : Option (Str × T)) (cls : Value) (d : Option Addr) : Prop :=
  cls = .ref (w.ct c) ∧ match f with
    | none => True
    | some (n, t) => ∃ dx v, d = some dx ∧ H dx = some (.xd [(n, v)]) ∧ VRep w g H A t v

section
variable (w : Wd) (H0 : En) (W : WX)
/-- an expression's reading: its tree, never to be changed any more -/
def rdE (m : M T) : TE := fun σ H Q => ∃ g A ρ, SR w g H0 H A ρ σ ∧ match m ρ with
  | .ok t ρ' => ∀ A' H' v, (∀ a, A' a → A a) → Kp (DD g) H H' → SR w g H0 H' A' ρ' σ → VRep w g H' A' t v → Q v H'
  | .ex c f ρ' => ∀ A' H' cls d, (∀ a, A' a → A a) → SR w g H0 H' A' ρ' σ → XRep w g H' A' c f cls d → W cls d σ H'
  | .bad => False
/-- the same, the value perhaps an object of one's own (to be looked at, not kept) -/
def rdL (m : M T) : TE := fun σ H Q => ∃ g A ρ, SR w g H0 H A ρ σ ∧ match m ρ with
  | .ok t ρ' => ∀ A' H' v, (∀ a, A' a → A a) → Kp (DD g) H H' → SR w g H0 H' A' ρ' σ → LRep w g H' A' t v → Q v H'
  | .ex c f ρ' => ∀ A' H' cls d, (∀ a, A' a → A a) → SR w g H0 H' A' ρ' σ → XRep w g H' A' c f cls d → W cls d σ H'
  | .bad => False
/-- a new object -/
def rdF (m : M T) : TE := fun σ H Q => ∃ g A ρ, SR w g H0 H A ρ σ ∧ match m ρ with
  | .ok t ρ' => ∀ A' H' a, (∀ b, A' b → A b) → Kp (DD g) H H' → H a = none → SR w g H0 H' A' ρ' σ → SR w g H0 H' (adj A' a) ρ' σ → ORep w g H' (adj A' a) t a → Q (.ref a) H'
  | .ex c f ρ' => ∀ A' H' cls d, (∀ a, A' a → A a) → SR w g H0 H' A' ρ' σ → XRep w g H' A' c f cls d → W cls d σ H'
  | .bad => False
/-- a test -/
def rdT (m : M Bool) : TT := fun σ H Q => ∃ g A ρ, SR w g H0 H A ρ σ ∧ match m ρ with
  | .ok t ρ' => ∀ A' H', (∀ a, A' a → A a) → Kp (DD g) H H' → SR w g H0 H' A' ρ' σ → Q t H'
  | .ex c f ρ' => ∀ A' H' cls d, (∀ a, A' a → A a) → SR w g H0 H' A' ρ' σ → XRep w g H' A' c f cls d → W cls d σ H'
  | .bad => False
/-- arguments -/
def rdA (m : M (List T)) : TA := fun σ H Q => ∃ g A ρ, SR w g H0 H A ρ σ ∧ match m ρ with
  | .ok ts ρ' => ∀ A' H' vs, (∀ a, A' a → A a) → Kp (DD g) H H' → SR w g H0 H' A' ρ' σ → VReps w g H' A' ts vs → Q vs H'
  | .ex c f ρ' => ∀ A' H' cls d, (∀ a, A' a → A a) → SR w g H0 H' A' ρ' σ → XRep w g H' A' c f cls d → W cls d σ H'
  | .bad => False
/-- arguments that are only looked at -/
def rdAL (m : M (List T)) : TA := fun σ H Q => ∃ g A ρ, SR w g H0 H A ρ σ ∧ match m ρ with
  | .ok ts ρ' => ∀ A' H' vs, (∀ a, A' a → A a) → Kp (DD g) H H' → SR w g H0 H' A' ρ' σ → LReps w g H' A' ts vs → Q vs H'
  | .ex c f ρ' => ∀ A' H' cls d, (∀ a, A' a → A a) → SR w g H0 H' A' ρ' σ → XRep w g H' A' c f cls d → W cls d σ H'
  | .bad => False
/-- what is handed back: new, or shared -/
def RetRep (g : DG) (H' : Hp) (A : Addr → Prop) (fr : Bool) (t : T) (v : V) : Prop :=
  if fr = true then ∃ a, v = .ref a ∧ H0.h a = none ∧ ORep w g H' (adj A a) t a else VRep w g H' A t v
def rdS (m : SM) : TS := fun D σ H => ∃ g A ρ, SR w g H0 H A ρ σ ∧ match m ρ with
  | .nx ρ' => ∀ A' H' σ', Pe w g H A H' A' → SR w g H0 H' A' ρ' σ' → D.nx σ' H'
  | .bk ρ' => ∀ A' H' σ', Pe w g H A H' A' → SR w g H0 H' A' ρ' σ' → D.bk σ' H'
  | .ct ρ' => ∀ A' H' σ', Pe w g H A H' A' → SR w g H0 H' A' ρ' σ' → D.ct σ' H'
  | .rt fr t ρ' => ∀ A' H' σ' v, SR w g H0 H' A' ρ' σ' → RetRep w H0 g H' A' fr t v → D.rt v H'
  | .ex c f ρ' => ∀ A' H' σ' cls d, SR w g H0 H' A' ρ' σ' → XRep w g H' A' c f cls d → W cls d σ' H'
  | .bad => False
end
end MP
end

section
set_option Elab.async false
set_option linter.all false
set_option maxRecDepth 100000
/-! MP2: the rules for expressions. -/
namespace L2
open PySem PySem.Spec
section
variable {X : Cx} {e : Expr}
theorem PE.imp {t t' : TE} (h : PE X e t) (k : ∀ σ H Q, t' σ H Q → t σ H Q) : PE X e t' := ⟨fun pins s σ H Q I q => h.run pins s σ H Q I (k σ H Q q)⟩
theorem PT.imp {t t' : TT} (h : PT X e t) (k : ∀ σ H Q, t' σ H Q → t σ H Q) : PT X e t' := ⟨fun pins s σ H Q I q => h.run pins s σ H Q I (k σ H Q q)⟩
theorem PA.imp {es : List Expr} {t t' : TA} (h : PA X es t) (k : ∀ σ H Q, t' σ H Q → t σ H Q) : PA X es t' := ⟨fun pos pins s σ H Q I q => h.run pos pins s σ H Q I (k σ H Q q)⟩
theorem PK.imp {es : List Keyword} {t t' : TA} (h : PK X es t) (k : ∀ σ H Q, t' σ H Q → t σ H Q) : PK X es t' := ⟨fun pos pins s σ H Q I q => h.run pos pins s σ H Q I (k σ H Q q)⟩
theorem PS.imp {st : Stmt} {t t' : TS} (h : PS X st t) (k : ∀ D σ H, t' D σ H → t D σ H) : PS X st t' := ⟨fun pins s σ H D I q => h.run pins s σ H D I (k D σ H q)⟩
theorem PSs.imp {st : List Stmt} {t t' : TS} (h : PSs X st t) (k : ∀ D σ H, t' D σ H → t D σ H) : PSs X st t' := ⟨fun pins s σ H D I q => h.run pins s σ H D I (k D σ H q)⟩

end
end L2
namespace MP
open PySem PySem.Spec L2

/-! ### how things stay -/
section
variable {w : Wd} {g : DG} {H0 : En} {H H' : Hp} {A A' : Addr → Prop} {ρ : Ev} {σ : L2.St}
theorem VRep.next {t : T} {v : V} (h : VRep w g H A t v) (hA : ∀ a, A' a → A a) (dA : ∀ a, DD g a → A a) (k : Kp (DD g) H H') : VRep w g H' A' t v := (h.keep (k.mono dA)).weak hA
theorem VReps.next {t : List T} {v : List V} (h : VReps w g H A t v) (hA : ∀ a, A' a → A a) (dA : ∀ a, DD g a → A a) (k : Kp (DD g) H H') : VReps w g H' A' t v := (h.keep (k.mono dA)).weak hA
theorem ORep.next {t : T} {a : Addr} (h : ORep w g H A t a) (na : ¬ DD g a) (hA : ∀ a, A' a → A a) (dA : ∀ a, DD g a → A a) (k : Kp (DD g) H H') : ORep w g H' A' t a := by
  obtain ⟨o, e, _⟩ := h.there
  exact (h.keep (k.mono dA) ((k.same _ _ e na).trans e.symm)).weak hA
theorem LRep.next {t : T} {v : V} (h : LRep w g H A t v) (hA : ∀ a, A' a → A a) (dA : ∀ a, DD g a → A a) (k : Kp (DD g) H H') : LRep w g H' A' t v := by
  rcases h with h | ⟨a, rfl, h, ha, nd⟩
  · exact .inl (h.next hA dA k)
  · by_cases c : A' a
    · exact .inr ⟨a, rfl, h.next nd hA dA k, c, nd⟩
    · exact .inl ((h.next nd (fun _ z => z) dA k).share hA c)
theorem LReps.next : ∀ {t : List T} {v : List V}, LReps w g H A t v → (∀ a, A' a → A a) → (∀ a, DD g a → A a) → Kp (DD g) H H' → LReps w g H' A' t v
  | _, _, .nil, _, _, _ => .nil
  | _, _, .cons h hs, hA, dA, k => .cons (h.next hA dA k) (LReps.next hs hA dA k)
theorem LReps.length : ∀ {t : List T} {v : List V}, LReps w g H A t v → t.length = v.length
  | _, _, .nil => rfl
  | _, _, .cons _ hs => congrArg Nat.succ (LReps.length hs)
theorem LReps.of : ∀ {t : List T} {v : List V}, VReps w g H A t v → LReps w g H A t v
  | _, _, .nil => .nil
  | _, _, .cons h hs => .cons (.inl h) (LReps.of hs)
/-- all that is tracked is as it was: the environment stands -/
theorem SR.same (S : SR w g H0 H A ρ σ) (k : Kp (fun _ => False) H H') : SR w g H0 H' A ρ σ where
  len := S.len
  up := S.up
  sh := fun i t e => let ⟨v, h1, h2⟩ := S.sh i t e; ⟨v, h1, h2.keep (k.mono fun _ z => z.elim)⟩
  own := fun i t e => by
    obtain ⟨a, h1, h2, h3⟩ := S.own i t e
    obtain ⟨o, e2, _⟩ := h2.there
    exact ⟨a, h1, h2.keep (k.mono fun _ z => z.elim) ((k.same _ _ e2 id).trans e2.symm), h3⟩
  apart := S.apart
  draw := fun d b c e => let D := S.draw d b c e; ⟨k.same _ _ D.dd id, k.same _ _ D.db id, k.same _ _ D.dc id, D.bc, D.ok⟩
  dA := S.dA
  aT := fun a ha z => by
    cases q : H a with
    | none => exact S.aT a ha q
    | some o => rw [k.same _ _ q id] at z; cases z
  fr := S.fr.trans (k.mono fun _ z => z.elim)
/-- fewer are kept apart: none of one's own -/
theorem SR.less (S : SR w g H0 H A ρ σ) (hA : ∀ a, A' a → A a) (dA : ∀ a, DD g a → A' a) (up : ∀ a, H0.A a → A' a) (ho : ∀ (i : Nat) (t : T) (a : Addr), ρ.sl[i]? = some (some (true, t)) → σ[i]? = some (some (V.ref a)) → A' a) : SR w g H0 H A' ρ σ where
  len := S.len
  up := up
  sh := fun i t e => let ⟨v, h1, h2⟩ := S.sh i t e; ⟨v, h1, h2.weak hA⟩
  own := fun i t e => let ⟨a, h1, h2, _, h4⟩ := S.own i t e; ⟨a, h1, h2.weak hA, ho i t a e h1, h4⟩
  apart := S.apart
  draw := S.draw
  dA := dA
  aT := fun a ha => S.aT a (hA a ha)
  fr := S.fr
end

section
variable {X : Cx} {w : Wd} {H0 : En} {W : WX} {e a b : Expr} {pos : Pos}
/-! ### constants and names -/
def mC (t : T) : M T := fun ρ => .ok t ρ
theorem rdE_C {t : T} {v : V} {σ : L2.St} {H : Hp} {Q : VK} (hv : ∀ g A, VRep w g H A t v) (h : rdE w H0 W (mC t) σ H Q) : Q v H := by
  obtain ⟨g, A, ρ, S, h⟩ := h
  exact h A H v (fun _ z => z) Kp.refl S (hv g A)
theorem e_int {i j pos} : PE X (.Constant (.int i) j pos) (rdE w H0 W (mC (.int i))) := pe_int.imp fun σ H Q h => rdE_C (fun _ _ => .int i) h
theorem e_bl {b j pos} : PE X (.Constant (.bool b) j pos) (rdE w H0 W (mC (.bl b))) := pe_bl.imp fun σ H Q h => rdE_C (fun _ _ => .bl b) h
theorem e_non {j pos} : PE X (.Constant .none j pos) (rdE w H0 W (mC .non)) := pe_non.imp fun σ H Q h => rdE_C (fun _ _ => .non) h
theorem e_str {x j pos} : PE X (.Constant (.str x) j pos) (rdE w H0 W (mC (.str x))) := pe_str.imp fun σ H Q h => rdE_C (fun _ _ => .str x) h
/-- a module's int -/
theorem e_gint {x : Str} {i : Int} {pos : Pos} (hg : Gl X x) (hm : ∃ t, X.mg x = some (.int i t)) (hd : (x == ("__debug__" : Str)) = false := by decide) : PE X (.Name x pos) (rdE w H0 W (mC (.int i))) := by
  obtain ⟨t, hm⟩ := hm
  exact (pe_glob hg hm (v := .int i) ⟨t, rfl⟩ hd).imp fun σ H Q h => rdE_C (fun _ _ => .int i) h

def setSl (ρ : Ev) (i : Nat) (o : Option (Bool × T)) : Ev := { ρ with sl := ρ.sl.set i o }
/-- a name: its value is shared from here on -/
def mV (i : Nat) : M T := fun ρ => match ρ.sl[i]? with
  | some (some (false, t)) => .ok t ρ
  | some (some (true, t)) => .ok t (setSl ρ i (some (false, t)))
  | _ => .bad
/-- a name, looked at -/
def mL (i : Nat) : M T := fun ρ => match ρ.sl[i]? with
  | some (some (_, t)) => .ok t ρ
  | _ => .bad
theorem SR.shared {g : DG} {H : Hp} {A : Addr → Prop} {ρ : Ev} {σ : L2.St} {i : Nat} {t : T} (S : SR w g H0 H A ρ σ) (e : ρ.sl[i]? = some (some (true, t))) :
    ∃ a, σ[i]? = some (some (.ref a)) ∧ SR w g H0 H (fun b => A b ∧ b ≠ a) (setSl ρ i (some (false, t))) σ ∧ VRep w g H (fun b => A b ∧ b ≠ a) t (.ref a) := by
  obtain ⟨a, h1, h2, h3, h4, h5⟩ := S.own i t e
  have hv : VRep w g H (fun b => A b ∧ b ≠ a) t (.ref a) := h2.share (fun b z => z.1) fun z => z.2 rfl
  have hi : i < ρ.sl.length := (List.getElem?_eq_some_iff.mp e).1
  refine ⟨a, h1, ⟨by rw [← S.len]; exact List.length_set .., fun b hb => ⟨S.up b hb, fun z => h5.2 (z ▸ hb)⟩, fun j u ej => ?_, fun j u ej => ?_, fun j k u u' b hjk ej ek => ?_, S.draw, fun b hb => ⟨S.dA b hb, fun z => h4 (z ▸ hb)⟩, fun b hb => S.aT b hb.1, S.fr⟩, hv⟩
  · by_cases c : j = i
    · subst c
      have ej : ((ρ.sl.set j (some (false, t))))[j]? = some (some (false, u)) := ej
      rw [List.getElem?_set_self hi] at ej
      cases ej
      exact ⟨_, h1, hv⟩
    · have ej : ((ρ.sl.set i (some (false, t))))[j]? = some (some (false, u)) := ej
      rw [List.getElem?_set_ne (Ne.symm c)] at ej
      obtain ⟨v, q1, q2⟩ := S.sh j u ej
      exact ⟨v, q1, q2.weak fun b z => z.1⟩
  · have c : j ≠ i := by
      rintro rfl
      have ej : ((ρ.sl.set j (some (false, t))))[j]? = some (some (true, u)) := ej
      rw [List.getElem?_set_self hi] at ej
      cases ej
    have ej : ((ρ.sl.set i (some (false, t))))[j]? = some (some (true, u)) := ej
    rw [List.getElem?_set_ne (Ne.symm c)] at ej
    obtain ⟨b, q1, q2, q3, q4, q5⟩ := S.own j u ej
    refine ⟨b, q1, q2.weak fun b z => z.1, ⟨q3, ?_⟩, q4, q5⟩
    rintro rfl
    exact S.apart j i u t b c ej e q1 h1
  · have back : ∀ {j : Nat} {u : T}, (setSl ρ i (some (false, t))).sl[j]? = some (some (true, u)) → ρ.sl[j]? = some (some (true, u)) := fun {j u} ej => by
      have ej : ((ρ.sl.set i (some (false, t))))[j]? = some (some (true, u)) := ej
      by_cases c : j = i
      · subst c
        rw [List.getElem?_set_self hi] at ej
        cases ej
      · rw [List.getElem?_set_ne (Ne.symm c)] at ej
        exact ej
    exact S.apart j k u u' b hjk (back ej) (back ek)
theorem e_var {x : Str} {pos : Pos} (i : Nat) (hN : X.N[i]? = some x := by rfl) (hv : Vis X.env.scope x := by first | exact Or.inl rfl | exact Or.inr (Or.inl rfl) | exact Or.inr (Or.inr rfl)) (hd : (x == ("__debug__" : Str)) = false := by decide)
    (hcd : (x == ("__classdict__" : Str)) = false := by decide) : PE X (.Name x pos) (rdE w H0 W (mV i)) := (pe_var hN hv hd hcd).imp fun σ H Q h => by
  obtain ⟨g, A, ρ, S, h⟩ := h
  unfold mV at h
  cases e : ρ.sl[i]? with
  | none => rw [e] at h; exact h.elim
  | some o =>
    cases o with
    | none => rw [e] at h; exact h.elim
    | some p =>
      obtain ⟨fl, t⟩ := p
      cases fl with
      | false =>
        rw [e] at h
        obtain ⟨v, h1, h2⟩ := S.sh i t e
        exact ⟨v, h1, h A H v (fun _ z => z) Kp.refl S h2⟩
      | true =>
        rw [e] at h
        obtain ⟨a, h1, h2, h3⟩ := S.shared e
        exact ⟨_, h1, h _ H _ (fun _ z => z.1) Kp.refl h2 h3⟩
theorem l_var {x : Str} {pos : Pos} (i : Nat) (hN : X.N[i]? = some x := by rfl) (hv : Vis X.env.scope x := by first | exact Or.inl rfl | exact Or.inr (Or.inl rfl) | exact Or.inr (Or.inr rfl)) (hd : (x == ("__debug__" : Str)) = false := by decide)
    (hcd : (x == ("__classdict__" : Str)) = false := by decide) : PE X (.Name x pos) (rdL w H0 W (mL i)) := (pe_var hN hv hd hcd).imp fun σ H Q h => by
  obtain ⟨g, A, ρ, S, h⟩ := h
  unfold mL at h
  cases e : ρ.sl[i]? with
  | none => rw [e] at h; exact h.elim
  | some o =>
    cases o with
    | none => rw [e] at h; exact h.elim
    | some p =>
      obtain ⟨fl, t⟩ := p
      rw [e] at h
      cases fl with
      | false =>
        obtain ⟨v, h1, h2⟩ := S.sh i t e
        exact ⟨v, h1, h A H v (fun _ z => z) Kp.refl S (.inl h2)⟩
      | true =>
        obtain ⟨a, h1, h2, h3, h4, _⟩ := S.own i t e
        exact ⟨_, h1, h A H _ (fun _ z => z) Kp.refl S (.inr ⟨a, rfl, h2, h3, h4⟩)⟩
/-- shared values may be looked at -/
theorem toL {m : M T} (h : PE X e (rdE w H0 W m)) : PE X e (rdL w H0 W m) := h.imp fun σ H Q q => by
  obtain ⟨g, A, ρ, S, q⟩ := q
  refine ⟨g, A, ρ, S, ?_⟩
  cases hm : m ρ with
  | ok t ρ' => rw [hm] at q; exact fun A' H' v h1 h2 h3 h4 => q A' H' v h1 h2 h3 (.inl h4)
  | ex c f ρ' => rw [hm] at q; exact q
  | bad => rw [hm] at q; exact q
/-- a new object may be shared -/
theorem toE {m : M T} (h : PE X e (rdF w H0 W m)) : PE X e (rdE w H0 W m) := h.imp fun σ H Q q => by
  obtain ⟨g, A, ρ, S, q⟩ := q
  refine ⟨g, A, ρ, S, ?_⟩
  cases hm : m ρ with
  | ok t ρ' =>
    rw [hm] at q
    intro A' H' a h1 h2 h3 S' _ ho
    have na : ¬ A' a := fun z => S.aT a (h1 a z) h3
    exact q A' H' _ h1 h2 S' (ho.share (fun b z => .inl z) na)
  | ex c f ρ' => rw [hm] at q; exact q
  | bad => rw [hm] at q; exact q
end
end MP
end

section
set_option Elab.async false
set_option linter.all false
set_option maxRecDepth 100000
/-! MP3: operators, comparisons, tests, displays. -/
namespace MP
open PySem PySem.Spec L2

section
variable {w : Wd} {g : DG} {H0 : En} {H H' : Hp} {A A' : Addr → Prop} {ρ : Ev} {σ : L2.St}
abbrev KpS (H H' : Hp) : Prop := Kp (fun _ => False) H H'
theorem VRep.same {t : T} {v : V} (h : VRep w g H A t v) (k : KpS H H') : VRep w g H' A t v := h.keep (k.mono fun _ z => z.elim)
theorem VReps.same {t : List T} {v : List V} (h : VReps w g H A t v) (k : KpS H H') : VReps w g H' A t v := h.keep (k.mono fun _ z => z.elim)
theorem VRep.newTup {ts : List T} {vs : List V} {p : Addr} (h : VReps w g H A ts vs) (hp : H p = none) : VRep w g (upd H p (.tup vs)) A (.tup ts) (.ref p) := .tup (SqT.of upd_same) (h.same (Kp.new hp))
theorem VRep.newLst {ts : List T} {vs : List V} {p : Addr} (h : VReps w g H A ts vs) (hp : H p = none) (na : ¬ A p) : VRep w g (upd H p (.lst vs)) A (.lst ts) (.ref p) := .lst (.inl ⟨.inl upd_same, na⟩) (h.same (Kp.new hp))
theorem LRep.sqT {ts : List T} {v : V} (h : LRep w g H A (.tup ts) v) : ∃ a vs, v = .ref a ∧ SqT w.K H a vs ∧ VReps w g H A ts vs := by
  rcases h with h | ⟨a, _, h, _⟩
  · cases h with
    | tup h hs => exact ⟨_, _, rfl, h, hs⟩
  · exact h.elim
theorem LRep.sqL {ts : List T} {v : V} (h : LRep w g H A (.lst ts) v) : ∃ a vs, v = .ref a ∧ SqL w.K H a vs ∧ VReps w g H A ts vs := by
  rcases h with h | ⟨a, rfl, h, _⟩
  · cases h with
    | lst h hs => exact ⟨_, _, rfl, h.sq, hs⟩
  · obtain ⟨vs, h1, h2⟩ := h
    exact ⟨a, vs, rfl, SqL.of h1, h2⟩
theorem LRep.int {i : Int} {v : V} (h : LRep w g H A (.int i) v) : v = .int i := by
  rcases h with h | ⟨a, _, h, _⟩
  · cases h; rfl
  · exact h.elim
theorem LRep.bl {i : Bool} {v : V} (h : LRep w g H A (.bl i) v) : v = .bl i := by
  rcases h with h | ⟨a, _, h, _⟩
  · cases h; rfl
  · exact h.elim
theorem LRep.str {i : Str} {v : V} (h : LRep w g H A (.str i) v) : v = .str i := by
  rcases h with h | ⟨a, _, h, _⟩
  · cases h; rfl
  · exact h.elim
theorem LRep.non {v : V} (h : LRep w g H A .non v) : v = .non := by
  rcases h with h | ⟨a, _, h, _⟩
  · cases h; rfl
  · exact h.elim
end

/-! ### binary operators -/
section
variable {X : Cx} {w : Wd} {H0 : En} {W : WX} {e a b c : Expr} {pos : Pos}
/-- an operator over trees -/
def BinT (X : Cx) (w : Wd) (rel : Value → Value → Sem Value) (f : T → T → Option T) : Prop := ∃ r : R2, OpR X rel r ∧
  ∀ (g : DG) (H : Hp) (A : Addr → Prop) (t u y : T) (v x : V) (Q : VK), LRep w g H A t v → LRep w g H A u x → (∀ a, A a → H a ≠ none) → f t u = some y → (∀ H' z, KpS H H' → VRep w g H' A y z → Q z H') → r v x H Q
def mBin (f : T → T → Option T) (ma mb : M T) : M T := fun ρ => match ma ρ with
  | .ok t ρ1 => match mb ρ1 with
    | .ok u ρ2 => match f t u with
      | some y => .ok y ρ2
      | none => .bad
    | .ex c f ρ2 => .ex c f ρ2
    | .bad => .bad
  | .ex c f ρ1 => .ex c f ρ1
  | .bad => .bad
theorem bin_core {f : T → T → Option T} {ma mb : M T} {r : R2}
    (hr : ∀ (g : DG) (H : Hp) (A : Addr → Prop) (t u y : T) (v x : V) (Q : VK), LRep w g H A t v → LRep w g H A u x → (∀ a, A a → H a ≠ none) → f t u = some y → (∀ H' z, KpS H H' → VRep w g H' A y z → Q z H') → r v x H Q)
    {σ : L2.St} {H : Hp} {Q : VK} (h : rdE w H0 W (mBin f ma mb) σ H Q) : tOp r (rdL w H0 W ma) (rdL w H0 W mb) σ H Q := by
  obtain ⟨g, A, ρ, S, h⟩ := h
  refine ⟨g, A, ρ, S, ?_⟩
  unfold mBin at h
  cases e1 : ma ρ with
  | bad => rw [e1] at h; exact h.elim
  | ex c f ρ1 => rw [e1] at h; exact h
  | ok t ρ1 =>
    rw [e1] at h
    intro A1 H1 v1 a1 k1 S1 r1
    refine ⟨g, A1, ρ1, S1, ?_⟩
    cases e2 : mb ρ1 with
    | bad => simp only [e2] at h
    | ex c f ρ2 =>
      simp only [e2] at h
      exact fun A2 H2 cls d a2 => h A2 H2 cls d (fun a z => a1 a (a2 a z))
    | ok u ρ2 =>
      simp only [e2] at h
      intro A2 H2 v2 a2 k2 S2 r2
      cases e3 : f t u with
      | none => simp only [e3] at h
      | some y =>
        simp only [e3] at h
        refine hr g H2 A2 t u y v1 v2 Q (r1.next a2 S1.dA k2) r2 S2.aT e3 fun H3 z k3 rz => ?_
        exact h A2 H3 z (fun a q => a1 a (a2 a q)) ((k1.trans k2).trans (k3.mono fun _ q => q.elim)) (S2.same k3) rz
theorem e_bin {op : Operator} {f : T → T → Option T} {ma mb : M T} (hb : BinT X w (binaryOp op) f) (ha : PE X a (rdL w H0 W ma)) (hbb : PE X b (rdL w H0 W mb)) : PE X (.BinOp a op b pos) (rdE w H0 W (mBin f ma mb)) := by
  obtain ⟨r, h1, h2⟩ := hb
  exact (pe_op h1 ha hbb).imp fun σ H Q h => bin_core h2 h
theorem e_cmp {op : CmpOp} {f : T → T → Option T} {ma mb : M T} (hb : BinT X w (compareOp op) f) (ha : PE X a (rdL w H0 W ma)) (hbb : PE X b (rdL w H0 W mb)) (hm : behindInMarks op b = false) : PE X (.Compare a [op] [b] pos) (rdE w H0 W (mBin f ma mb)) := by
  obtain ⟨r, h1, h2⟩ := hb
  exact (pe_cmpR h1 ha hbb hm).imp fun σ H Q h => bin_core h2 h
/-- two ints -/
def intT (C : Int → Int → Bool) (g : Int → Int → T) : T → T → Option T
  | .int i, .int j => if C i j then some (g i j) else none
  | _, _ => none
theorem intT_some {C : Int → Int → Bool} {g : Int → Int → T} {t u y : T} (h : intT C g t u = some y) : ∃ i j, t = .int i ∧ u = .int j ∧ C i j = true ∧ y = g i j := by
  cases t <;> cases u <;> first | (simp [intT] at h; done) | skip
  rename_i i j
  simp only [intT] at h
  split at h
  · rename_i hc
    cases h
    exact ⟨i, j, rfl, rfl, hc, rfl⟩
  · cases h
theorem bin_int {rel : Value → Value → Sem Value} {P : Int → Int → Prop} {C : Int → Int → Bool} {gv : Int → Int → V} {gt : Int → Int → T} (ho : OpR X rel (rI P gv)) (hC : ∀ i j, C i j = true → P i j) (hg : ∀ g H A i j, VRep w g H A (gt i j) (gv i j)) : BinT X w rel (intT C gt) := by
  refine ⟨_, ho, fun g H A t u y v x Q ht hu _ hf hq => ?_⟩
  obtain ⟨i, j, rfl, rfl, hc, rfl⟩ := intT_some hf
  exact ⟨i, j, ht.int, hu.int, hC i j hc, hq H _ Kp.refl (hg g H A i j)⟩
theorem rI0_rI {rel : Value → Value → Sem Value} {gv : Int → Int → V} (h : OpR X rel (rI0 gv)) : OpR X rel (rI (fun _ _ => True) gv) := fun pins s σ H x y v u Q I rx ry ⟨i, j, e1, e2, _, q⟩ => h pins s σ H x y v u Q I rx ry ⟨i, j, e1, e2, q⟩
abbrev cYes : Int → Int → Bool := fun _ _ => true
def cMul : Int → Int → Bool := fun i j => decide ((Builtin.Int.intBits i : Int) + (Builtin.Int.intBits j : Int) ≤ 134217728)
theorem cMul_of {i j : Int} {a b : Nat} (h1 : i.natAbs < 2 ^ a) (h2 : j.natAbs < 2 ^ b) (h : a + b ≤ 134217728) : cMul i j = true := by
  have x := PyProof.Rows.intBits_le h1
  have y := PyProof.Rows.intBits_le h2
  exact decide_eq_true (by omega)
abbrev cDiv : Int → Int → Bool := fun _ j => decide (0 < j ∧ j.natAbs.log2 < 9000)
abbrev cMod : Int → Int → Bool := fun _ j => decide (0 < j)
abbrev cPow : Int → Int → Bool := fun i j => decide (0 ≤ j ∧ j ≤ 1000000 ∧ i.natAbs < 2 ^ 64)
abbrev subT := intT cYes fun i j => .int (i - j)
abbrev divT := intT cDiv fun i j => .int (i / j)
abbrev modT := intT cMod fun i j => .int (i % j)
abbrev powT := intT cPow fun i j => .int (i ^ j.toNat)
abbrev ltT := intT cYes fun i j => .bl (decide (i < j))
abbrev leT := intT cYes fun i j => .bl (decide (i ≤ j))
abbrev gtT := intT cYes fun i j => .bl (decide (j < i))
abbrev geT := intT cYes fun i j => .bl (decide (j ≤ i))
theorem b_sub : BinT X w (binaryOp .Sub) subT := bin_int (rI0_rI op_sub) (fun _ _ _ => True.intro) fun _ _ _ _ _ => .int _
theorem b_div : BinT X w (binaryOp .FloorDiv) divT := bin_int op_fdivW (fun i j h => of_decide_eq_true (p := 0 < j ∧ j.natAbs.log2 < 9000) h) fun _ _ _ _ _ => .int _
theorem b_mod : BinT X w (binaryOp .Mod) modT := bin_int op_mod (fun _ _ h => of_decide_eq_true h) fun _ _ _ _ _ => .int _
theorem b_pow : BinT X w (binaryOp .Pow) powT := bin_int op_pow (fun i j h => of_decide_eq_true (p := 0 ≤ j ∧ j ≤ 1000000 ∧ i.natAbs < 2 ^ 64) h) fun _ _ _ _ _ => .int _
theorem b_lt : BinT X w (compareOp .Lt) ltT := bin_int (rI0_rI op_lt) (fun _ _ _ => True.intro) fun _ _ _ _ _ => .bl _
theorem b_le : BinT X w (compareOp .LtE) leT := bin_int (rI0_rI op_le) (fun _ _ _ => True.intro) fun _ _ _ _ _ => .bl _
theorem b_gt : BinT X w (compareOp .Gt) gtT := bin_int (rI0_rI op_gt) (fun _ _ _ => True.intro) fun _ _ _ _ _ => .bl _
theorem b_ge : BinT X w (compareOp .GtE) geT := bin_int (rI0_rI op_ge) (fun _ _ _ => True.intro) fun _ _ _ _ _ => .bl _
theorem BinT.or {rel : Value → Value → Sem Value} {f f' : T → T → Option T} (h : BinT X w rel f) (h' : BinT X w rel f') : BinT X w rel (fun t u => (f t u).or (f' t u)) := by
  obtain ⟨r, o, k⟩ := h
  obtain ⟨r', o', k'⟩ := h'
  refine ⟨_, o.or o', fun g H A t u y v x Q ht hu ha hf hq => ?_⟩
  have hf : (f t u).or (f' t u) = some y := hf
  cases e : f t u with
  | some z =>
    rw [e] at hf
    cases hf
    exact .inl (k g H A t u _ v x Q ht hu ha e hq)
  | none =>
    rw [e] at hf
    exact .inr (k' g H A t u y v x Q ht hu ha hf hq)
theorem op_catL : OpR X (binaryOp .Add) (fun x y H Q => ∃ a b xs zs, x = .ref a ∧ y = .ref b ∧ SqL X.K H a xs ∧ SqL X.K H b zs ∧ xs.length + zs.length ≤ sizeLine ∧ ∀ p, H p = none → Q (.ref p) (upd H p (.lst (xs ++ zs)))) := by
  intro pins s σ H x y v u Q I rx ry h
  obtain ⟨a, b, xs, zs, rfl, rfl, h1, h2, hz, q⟩ := h
  cases rx
  cases ry
  obtain ⟨its, r, pl, _⟩ := I.list h1
  obtain ⟨its2, r2, pl2, _⟩ := I.list h2
  obtain ⟨⟨cls, dd, data, sl⟩, n, ho, hc, hdd, hd⟩ := pl
  obtain ⟨⟨cls2, dd2, data2, sl2⟩, n2, ho2, hc2, hdd2, hd2⟩ := pl2
  simp only at hc hd hc2 hd2
  subst hc hd hc2 hd2
  have e : its.toArray ++ its2.toArray = (its ++ its2).toArray := by simp
  refine concat_meets ⟨_, ho, rfl⟩ ⟨_, ho2, rfl⟩ noFill_list_add seq_list_add PySem.F.slot_list_add PySem.F.entry_list_add (PySem.F.args_list_add_2 _ _) (PyProof.Rows.list_addW a b its.toArray its2.toArray n n2 dd dd2 sl sl2 (by rw [List.size_toArray, List.size_toArray, ← r.length, ← r2.length]; exact hz)) ⟨ho, ho2, ?_⟩
  rw [e]
  exact ⟨.ref _, _, I.lnew (t' := s.toks) (r.append r2) (by rw [List.length_append]; exact hz), rfl, q _ I.fresh⟩
def addS : T → T → Option T
  | .str x, .str y => if x.length + y.length ≤ sizeLine then some (.str (x ++ y)) else none
  | .tup xs, .tup ys => if xs.length + ys.length ≤ sizeLine then some (.tup (xs ++ ys)) else none
  | .lst xs, .lst ys => if xs.length + ys.length ≤ sizeLine then some (.lst (xs ++ ys)) else none
  | _, _ => none
/-- strs, tuples -/
theorem b_addS (hK : X.K = w.K) : BinT X w (binaryOp .Add) addS := by
  refine ⟨_, op_add_str.or ((op_catA (X := X)).or op_catL), fun g H A t u y v x Q ht hu ha hf hq => ?_⟩
  cases t <;> cases u <;> first | (simp [addS] at hf; done) | skip
  · rename_i i j
    simp only [addS] at hf
    split at hf
    · rename_i hc
      cases hf
      exact .inl ⟨i, j, ht.str, hu.str, hc, hq H _ Kp.refl (.str _)⟩
    · cases hf
  · rename_i xs ys
    simp only [addS] at hf
    split at hf
    · rename_i hc
      cases hf
      obtain ⟨a, vs, rfl, q1, r1⟩ := ht.sqT
      obtain ⟨b, us, rfl, q2, r2⟩ := hu.sqT
      refine .inr (.inl ⟨a, b, vs, us, rfl, rfl, by rw [hK]; exact q1, by rw [hK]; exact q2, by rw [← r1.length, ← r2.length]; exact hc, fun e => ?_, fun _ e => ?_, fun _ _ p hp => ?_⟩)
      · subst e
        cases r1
        exact hq H _ Kp.refl (.tup q2 r2)
      · subst e
        cases r2
        rw [List.append_nil] at hq
        exact hq H _ Kp.refl (.tup q1 r1)
      · exact hq _ _ (Kp.new hp) (VRep.newTup (r1.append r2) hp)
    · cases hf
  · rename_i xs ys
    simp only [addS] at hf
    split at hf
    · rename_i hc
      cases hf
      obtain ⟨a, vs, rfl, q1, r1⟩ := ht.sqL
      obtain ⟨b, us, rfl, q2, r2⟩ := hu.sqL
      exact .inr (.inr ⟨a, b, vs, us, rfl, rfl, by rw [hK]; exact q1, by rw [hK]; exact q2, by rw [← r1.length, ← r2.length]; exact hc, fun p hp => hq _ _ (Kp.new hp) (VRep.newLst (r1.append r2) hp fun z => ha p z hp)⟩)
    · cases hf
abbrev addI := intT cYes fun i j => .int (i + j)
theorem b_addI : BinT X w (binaryOp .Add) addI := bin_int (rI0_rI op_add) (fun _ _ _ => True.intro) fun _ _ _ _ _ => .int _
def addT : T → T → Option T := fun t u => (addI t u).or (addS t u)
theorem b_add (hK : X.K = w.K := by rfl) : BinT X w (binaryOp .Add) addT := b_addI.or (b_addS hK)
abbrev mulI := intT cMul fun i j => .int (i * j)
theorem b_mul : BinT X w (binaryOp .Mult) mulI := bin_int op_mulX (fun i j h => of_decide_eq_true (p := (Builtin.Int.intBits i : Int) + (Builtin.Int.intBits j : Int) ≤ 134217728) h) fun _ _ _ _ _ => .int _

/-! ### equality of data -/
mutual
def toPD : T → PyData
  | .non => .none
  | .bl b => .bool b
  | .int i => .int i
  | .str s => .str s
  | .tup xs => .tuple (toPDs xs)
  | .lst xs => .list (toPDs xs)
  | .dic _ => .dict []
  | .ins _ _ => .dict []
  | .drw => .dict []
  | .slf _ _ => .dict []
def toPDs : List T → List PyData
  | [] => []
  | x :: xs => toPD x :: toPDs xs
end
mutual
theorem dp_of {g : DG} {H : Hp} {A : Addr → Prop} : ∀ {t : T} {v : V}, VRep w g H A t v → (toPD t).canLay0 = true → Dp w.K H v (toPD t)
  | _, _, .non, _ => by simp only [toPD]; exact .non
  | _, _, .bl b, _ => by simp only [toPD]; exact .bl b
  | _, _, .int i, _ => by simp only [toPD]; exact .int i
  | _, _, .str s, _ => by simp only [toPD]; exact .str s
  | _, _, .tup h hs, q => by
    simp only [toPD, PyData.canLay0] at q ⊢
    exact .tup h (dps_of hs q)
  | _, _, .lst h hs, q => by
    simp only [toPD, PyData.canLay0] at q ⊢
    exact .lst h.sq (dps_of hs q)
  | _, _, .dic _ _ _ _, q => by simp [toPD, PyData.canLay0] at q
  | _, _, .ins _ _ _ _, q => by simp [toPD, PyData.canLay0] at q
  | _, _, .drw _, q => by simp [toPD, PyData.canLay0] at q
  | _, _, .slf _ _ _ _, q => by simp [toPD, PyData.canLay0] at q
theorem dps_of {g : DG} {H : Hp} {A : Addr → Prop} : ∀ {ts : List T} {vs : List V}, VReps w g H A ts vs → PyData.canLayAll0 (toPDs ts) = true → DpAll w.K H vs (toPDs ts)
  | _, _, .nil, _ => by simp only [toPDs]; exact .nil
  | _, _, .cons h hs, q => by
    simp only [toPDs, PyData.canLayAll0, Bool.and_eq_true] at q ⊢
    exact .cons (dp_of h q.1) (dps_of hs q.2)
end
theorem dp_ofL {g : DG} {H : Hp} {A : Addr → Prop} {t : T} {v : V} (h : LRep w g H A t v) (q : (toPD t).canLay0 = true) : Dp w.K H v (toPD t) := by
  rcases h with h | ⟨a, rfl, h, _⟩
  · exact dp_of h q
  · cases t with
    | lst ts =>
      obtain ⟨vs, h1, h2⟩ := h
      simp only [toPD, PyData.canLay0] at q ⊢
      exact .lst (SqL.of h1) (dps_of h2 q)
    | dic kts => simp [toPD, PyData.canLay0] at q
    | ins c fs => simp [toPD, PyData.canLay0] at q
    | slf c fs => simp [toPD, PyData.canLay0] at q
    | non => exact h.elim
    | bl _ => exact h.elim
    | int _ => exact h.elim
    | str _ => exact h.elim
    | tup _ => exact h.elim
    | drw => exact h.elim
def dat (t : T) : Bool := SeqAt.shaped (toPD t)
def eqB (t u : T) : Bool := PyData.eqv (toPD t) (toPD u)
def eqDT (t u : T) : Option T := if (dat t && dat u) = true then some (.bl (eqB t u)) else none
def neDT (t u : T) : Option T := if (dat t && dat u) = true then some (.bl (!eqB t u)) else none
theorem b_eqD (hu : X.A.units + 64 < cLine) (hK : X.K = w.K := by rfl) : BinT X w (compareOp .Eq) eqDT := by
  refine ⟨_, op_eqD hu, fun g H A t u y v x Q ht hu _ hf hq => ?_⟩
  unfold eqDT at hf
  split at hf
  · rename_i hc
    rw [Bool.and_eq_true] at hc
    cases hf
    exact ⟨toPD t, toPD u, by rw [hK]; exact dp_ofL ht (SeqAt.canLay_of_shaped hc.1), by rw [hK]; exact dp_ofL hu (SeqAt.canLay_of_shaped hc.2), hc.1, hc.2, hq H _ Kp.refl (.bl _)⟩
  · cases hf
theorem b_neD (hu : X.A.units + 64 < cLine) (hK : X.K = w.K := by rfl) : BinT X w (compareOp .NotEq) neDT := by
  refine ⟨_, op_neD hu, fun g H A t u y v x Q ht hu _ hf hq => ?_⟩
  unfold neDT at hf
  split at hf
  · rename_i hc
    rw [Bool.and_eq_true] at hc
    cases hf
    exact ⟨toPD t, toPD u, by rw [hK]; exact dp_ofL ht (SeqAt.canLay_of_shaped hc.1), by rw [hK]; exact dp_ofL hu (SeqAt.canLay_of_shaped hc.2), hc.1, hc.2, hq H _ Kp.refl (.bl _)⟩
  · cases hf
/-- texts beside scalars: no bound -/
def eqS : T → T → Option Bool
  | .str a, .str b => some (decide (a = b))
  | .str _, .non => some false
  | .non, .str _ => some false
  | .str _, .int _ => some false
  | .int _, .str _ => some false
  | .str _, .bl _ => some false
  | .bl _, .str _ => some false
  | _, _ => none
theorem b_eqS : BinT X w (compareOp .Eq) (fun t u => (eqS t u).map T.bl) := by
  refine ⟨_, op_eq, fun g H A t u y v x Q ht hu _ hf hq => ?_⟩
  cases t <;> cases u <;> first | (cases hf; done) | skip
  all_goals (cases hf; first | (cases ht.str) | (cases ht.int) | (cases ht.bl) | (cases ht.non))
  all_goals first | (cases hu.str) | (cases hu.int) | (cases hu.bl) | (cases hu.non)
  all_goals refine ⟨rfl, ?_⟩
  · exact hq H _ Kp.refl (.bl _)
  · exact hq H _ Kp.refl (.bl _)
  · exact hq H _ Kp.refl (.bl _)
  · exact hq H _ Kp.refl (.bl _)
  · exact hq H _ Kp.refl (.bl _)
  · exact hq H _ Kp.refl (.bl _)
  · rename_i a b
    have e : decide (V.str a = V.str b) = decide (a = b) := by
      rw [Bool.eq_iff_iff, decide_eq_true_iff, decide_eq_true_iff]
      exact ⟨fun h => by cases h; rfl, fun h => by rw [h]⟩
    rw [e]
    exact hq H _ Kp.refl (.bl _)
theorem b_neS : BinT X w (compareOp .NotEq) (fun t u => (eqS t u).map fun b => T.bl (!b)) := by
  refine ⟨_, op_ne, fun g H A t u y v x Q ht hu _ hf hq => ?_⟩
  cases t <;> cases u <;> first | (cases hf; done) | skip
  all_goals (cases hf; first | (cases ht.str) | (cases ht.int) | (cases ht.bl) | (cases ht.non))
  all_goals first | (cases hu.str) | (cases hu.int) | (cases hu.bl) | (cases hu.non)
  all_goals refine ⟨rfl, ?_⟩
  · exact hq H _ Kp.refl (.bl _)
  · exact hq H _ Kp.refl (.bl _)
  · exact hq H _ Kp.refl (.bl _)
  · exact hq H _ Kp.refl (.bl _)
  · exact hq H _ Kp.refl (.bl _)
  · exact hq H _ Kp.refl (.bl _)
  · rename_i a b
    have e : decide (V.str a = V.str b) = decide (a = b) := by
      rw [Bool.eq_iff_iff, decide_eq_true_iff, decide_eq_true_iff]
      exact ⟨fun h => by cases h; rfl, fun h => by rw [h]⟩
    rw [e]
    exact hq H _ Kp.refl (.bl _)
def eqT (t u : T) : Option T := ((eqS t u).map T.bl).or (eqDT t u)
def neT (t u : T) : Option T := ((eqS t u).map fun b => T.bl (!b)).or (neDT t u)
theorem b_eq (hu : X.A.units + 64 < cLine) (hK : X.K = w.K := by rfl) : BinT X w (compareOp .Eq) eqT := b_eqS.or (b_eqD hu hK)
theorem b_ne (hu : X.A.units + 64 < cLine) (hK : X.K = w.K := by rfl) : BinT X w (compareOp .NotEq) neT := b_neS.or (b_neD hu hK)
/-! is None; is True, is False -/
def isNon : T → Bool
  | .non => true
  | _ => false
theorem isNon_of {g : DG} {H : Hp} {A : Addr → Prop} {t : T} {v : V} (h : LRep w g H A t v) : decide (v = .non) = isNon t := by
  rcases h with h | ⟨a, rfl, h, _⟩
  · cases h <;> rfl
  · cases t <;> first | rfl | exact h.elim
def isT : T → T → Option T
  | t, .non => some (.bl (isNon t))
  | .bl a, .bl b => some (.bl (decide (a = b)))
  | _, _ => none
def isnT : T → T → Option T
  | t, .non => some (.bl (!isNon t))
  | .bl a, .bl b => some (.bl (!decide (a = b)))
  | _, _ => none
theorem b_is : BinT X w (compareOp .Is) isT := by
  refine ⟨_, op_isN.or op_isBl, fun g H A t u y v x Q ht hu _ hf hq => ?_⟩
  cases u with
  | non =>
    cases hf
    exact .inl ⟨hu.non, by rw [isNon_of ht]; exact hq H _ Kp.refl (.bl _)⟩
  | bl b =>
    cases t <;> first | (simp [isT, isnT] at hf; done) | skip
    cases hf
    exact .inr ⟨_, b, ht.bl, hu.bl, hq H _ Kp.refl (.bl _)⟩
  | _ => cases t <;> (simp [isT, isnT] at hf; done)
theorem b_isn : BinT X w (compareOp .IsNot) isnT := by
  refine ⟨_, op_notN.or op_notBl, fun g H A t u y v x Q ht hu _ hf hq => ?_⟩
  cases u with
  | non =>
    cases hf
    exact .inl ⟨hu.non, by rw [isNon_of ht]; exact hq H _ Kp.refl (.bl _)⟩
  | bl b =>
    cases t <;> first | (simp [isT, isnT] at hf; done) | skip
    cases hf
    exact .inr ⟨_, b, ht.bl, hu.bl, hq H _ Kp.refl (.bl _)⟩
  | _ => cases t <;> (simp [isT, isnT] at hf; done)
end
end MP
end

section
set_option Elab.async false
set_option linter.all false
set_option maxRecDepth 100000
/-! MP4: tests, and / or / not, displays, arguments. -/
namespace MP
open PySem PySem.Spec L2

section
variable {X : Cx} {w : Wd} {H0 : En} {W : WX} {e a b c : Expr} {es rest : List Expr} {pos : Pos}
def bindM {α β : Type} (m : M α) (k : α → M β) : M β := fun ρ => match m ρ with
  | .ok t ρ1 => k t ρ1
  | .ex c f ρ1 => .ex c f ρ1
  | .bad => .bad
/-! ### tests -/
def asB : T → M Bool
  | .bl b => fun ρ => .ok b ρ
  | _ => fun _ => .bad
def mTst (m : M T) : M Bool := bindM m asB
theorem tst_core {m : M T} {σ : L2.St} {H : Hp} {Q : Bool → Hp → Prop} (h : rdT w H0 W (mTst m) σ H Q) : rdL w H0 W m σ H fun x H' => ∃ k, x = .bl k ∧ Q k H' := by
  obtain ⟨g, A, ρ, S, h⟩ := h
  refine ⟨g, A, ρ, S, ?_⟩
  unfold mTst bindM at h
  cases e1 : m ρ with
  | bad => rw [e1] at h; exact h.elim
  | ex c f ρ1 => rw [e1] at h; exact h
  | ok t ρ1 =>
    simp only [e1] at h
    intro A1 H1 v1 a1 k1 S1 r1
    cases t with
    | bl k => exact ⟨k, r1.bl, h A1 H1 a1 k1 S1⟩
    | _ => exact False.elim h
theorem t_val {m : M T} (h : PE X e (rdL w H0 W m)) (he : ∀ whole, isTrue e X.env whole = (do let v ← whole; standAt e.pos; holding [v] (truthy v)) := by intro _; rfl) : PT X e (rdT w H0 W (mTst m)) :=
  (pt_val h he).imp fun σ H Q q => tst_core q
theorem t_cmp {op : CmpOp} {f : T → T → Option T} {ma mb : M T} (hb : BinT X w (compareOp op) f) (ha : PE X a (rdL w H0 W ma)) (hbb : PE X b (rdL w H0 W mb)) (hm : behindInMarks op b = false) : PT X (.Compare a [op] [b] pos) (rdT w H0 W (mTst (mBin f ma mb))) := by
  obtain ⟨r, h1, h2⟩ := hb
  refine (pt_cmpR h1 ha hbb hm).imp fun σ H Q q => ?_
  have q1 := tst_core q
  -- the value's reading, looked at
  obtain ⟨g, A, ρ, S, q1⟩ := q1
  have q2 : rdE w H0 W (mBin f ma mb) σ H (fun x H' => ∃ k, x = .bl k ∧ Q k H') := by
    refine ⟨g, A, ρ, S, ?_⟩
    cases e1 : mBin f ma mb ρ with
    | bad => rw [e1] at q1; exact q1
    | ex c f ρ1 => rw [e1] at q1; exact q1
    | ok t ρ1 => rw [e1] at q1; exact fun A' H' v a1 k1 S1 r1 => q1 A' H' v a1 k1 S1 (.inl r1)
  exact bin_core h2 q2
def mNotB (m : M Bool) : M Bool := bindM m fun b ρ => .ok (!b) ρ
def mAndB (m n : M Bool) : M Bool := bindM m fun b => if b = true then n else fun ρ => .ok false ρ
def mOrB (m n : M Bool) : M Bool := bindM m fun b => if b = true then fun ρ => .ok true ρ else n
theorem rdT_bind {m : M Bool} {k : Bool → M Bool} {σ : L2.St} {H : Hp} {Q : Bool → Hp → Prop} (h : rdT w H0 W (bindM m k) σ H Q) : rdT w H0 W m σ H fun b H1 => rdT w H0 W (k b) σ H1 Q := by
  obtain ⟨g, A, ρ, S, h⟩ := h
  refine ⟨g, A, ρ, S, ?_⟩
  unfold bindM at h
  cases e1 : m ρ with
  | bad => rw [e1] at h; exact h.elim
  | ex c f ρ1 => rw [e1] at h; exact h
  | ok t ρ1 =>
    simp only [e1] at h
    intro A1 H1 a1 k1 S1
    refine ⟨g, A1, ρ1, S1, ?_⟩
    cases e2 : k t ρ1 with
    | bad => rw [e2] at h; exact h.elim
    | ex c f ρ2 => rw [e2] at h; exact fun A2 H2 cls d a2 => h A2 H2 cls d fun a z => a1 a (a2 a z)
    | ok u ρ2 => rw [e2] at h; exact fun A2 H2 a2 k2 S2 => h A2 H2 (fun a z => a1 a (a2 a z)) (k1.trans k2) S2
theorem rdT_pure {b : Bool} {σ : L2.St} {H : Hp} {Q : Bool → Hp → Prop} (h : rdT w H0 W (fun ρ => .ok b ρ) σ H Q) : Q b H := by
  obtain ⟨g, A, ρ, S, h⟩ := h
  exact h A H (fun _ z => z) Kp.refl S
theorem t_not {m : M Bool} (h : PT X a (rdT w H0 W m)) : PT X (.UnaryOp .Not a pos) (rdT w H0 W (mNotB m)) := (pt_not h).imp fun σ H Q q => by
  obtain ⟨g, A, ρ, S, q⟩ := q
  refine ⟨g, A, ρ, S, ?_⟩
  unfold mNotB bindM at q
  cases e1 : m ρ with
  | bad => rw [e1] at q; exact q.elim
  | ex c f ρ1 => rw [e1] at q; exact q
  | ok t ρ1 => rw [e1] at q; exact fun A1 H1 a1 k1 S1 => q A1 H1 a1 k1 S1
theorem PW.imp {t t' : TT} (h : PW X e t) (k : ∀ σ H Q, t' σ H Q → t σ H Q) : PW X e t' := ⟨fun wh pins s σ H Q I q => h.run wh pins s σ H Q I (k σ H Q q)⟩
theorem t_and1 {m : M Bool} (h : PT X a (rdT w H0 W m)) : PW X (.BoolOp .And [a] pos) (rdT w H0 W m) := pw_and1 h
theorem t_or1 {m : M Bool} (h : PT X a (rdT w H0 W m)) : PW X (.BoolOp .Or [a] pos) (rdT w H0 W m) := pw_or1 h
theorem t_and {m n : M Bool} (h : PT X a (rdT w H0 W m)) (h2 : PW X (.BoolOp .And (b :: rest) pos) (rdT w H0 W n)) : PW X (.BoolOp .And (a :: b :: rest) pos) (rdT w H0 W (mAndB m n)) :=
  PW.imp (pw_and h h2) fun σ H Q q => by
    obtain ⟨g, A, ρ, S, q⟩ := rdT_bind q
    refine ⟨g, A, ρ, S, ?_⟩
    cases e1 : m ρ with
    | bad => rw [e1] at q; exact q.elim
    | ex c f ρ1 => rw [e1] at q; exact q
    | ok t ρ1 =>
      rw [e1] at q
      intro A1 H1 a1 k1 S1
      have q := q A1 H1 a1 k1 S1
      cases t with
      | true => exact q
      | false => exact rdT_pure q
theorem t_or {m n : M Bool} (h : PT X a (rdT w H0 W m)) (h2 : PW X (.BoolOp .Or (b :: rest) pos) (rdT w H0 W n)) : PW X (.BoolOp .Or (a :: b :: rest) pos) (rdT w H0 W (mOrB m n)) :=
  PW.imp (pw_or h h2) fun σ H Q q => by
    obtain ⟨g, A, ρ, S, q⟩ := rdT_bind q
    refine ⟨g, A, ρ, S, ?_⟩
    cases e1 : m ρ with
    | bad => rw [e1] at q; exact q.elim
    | ex c f ρ1 => rw [e1] at q; exact q
    | ok t ρ1 =>
      rw [e1] at q
      intro A1 H1 a1 k1 S1
      have q := q A1 H1 a1 k1 S1
      cases t with
      | true => exact rdT_pure q
      | false => exact q

/-! ### one operand -/
def mUn (f : T → Option T) (m : M T) : M T := bindM m fun t => match f t with
  | some y => fun ρ => .ok y ρ
  | none => fun _ => .bad
theorem un_core {f : T → Option T} {m : M T} {r : V → Hp → VK → Prop}
    (hr : ∀ (g : DG) (H : Hp) (A : Addr → Prop) (t y : T) (v : V) (Q : VK), LRep w g H A t v → (∀ a, A a → H a ≠ none) → f t = some y → (∀ H' z, KpS H H' → VRep w g H' A y z → Q z H') → r v H Q)
    {σ : L2.St} {H : Hp} {Q : VK} (h : rdE w H0 W (mUn f m) σ H Q) : rdL w H0 W m σ H fun x H1 => r x H1 Q := by
  obtain ⟨g, A, ρ, S, h⟩ := h
  refine ⟨g, A, ρ, S, ?_⟩
  unfold mUn bindM at h
  cases e1 : m ρ with
  | bad => rw [e1] at h; exact h.elim
  | ex c f ρ1 => rw [e1] at h; exact h
  | ok t ρ1 =>
    simp only [e1] at h
    intro A1 H1 v1 a1 k1 S1 r1
    cases e3 : f t with
    | none => simp only [e3] at h
    | some y =>
      simp only [e3] at h
      exact hr g H1 A1 t y v1 Q r1 S1.aT e3 fun H3 z k3 rz => h A1 H3 z a1 (k1.trans (k3.mono fun _ q => q.elim)) (S1.same k3) rz
def negI : T → Option T
  | .int i => some (.int (-i))
  | _ => none
theorem e_neg {m : M T} (h : PE X a (rdL w H0 W m)) : PE X (.UnaryOp .USub a pos) (rdE w H0 W (mUn negI m)) := (pe_un un_neg h).imp fun σ H Q q =>
  un_core (r := rU fun i => .int (-i)) (fun g H A t y v Q ht _ hf hq => by
    cases t <;> first | (simp [negI] at hf; done) | skip
    simp only [negI] at hf
    cases hf
    exact ⟨_, ht.int, hq H _ Kp.refl (.int _)⟩) q
def notV : T → Option T
  | .bl b => some (.bl (!b))
  | _ => none
theorem e_not {m : M T} (h : PE X a (rdL w H0 W m)) : PE X (.UnaryOp .Not a pos) (rdE w H0 W (mUn notV m)) := (pe_not h).imp fun σ H Q q =>
  un_core (r := fun x H1 Q => ∃ c, x = .bl c ∧ Q (.bl (!c)) H1) (fun g H A t y v Q ht _ hf hq => by
    cases t <;> first | (simp [notV] at hf; done) | skip
    simp only [notV] at hf
    cases hf
    exact ⟨_, ht.bl, hq H _ Kp.refl (.bl _)⟩) q
/-- not of a test, as a value -/
def mAndV (m n : M T) : M T := bindM m fun t => match t with
  | .bl true => n
  | .bl false => fun ρ => .ok (.bl false) ρ
  | _ => fun _ => .bad
def mOrV (m n : M T) : M T := bindM m fun t => match t with
  | .bl false => n
  | .bl true => fun ρ => .ok (.bl true) ρ
  | _ => fun _ => .bad
theorem rdE_at {k : M T} {g : DG} {A A1 : Addr → Prop} {ρ1 : Ev} {H H1 : Hp} {σ : L2.St} {Q : VK} (S1 : SR w g H0 H1 A1 ρ1 σ) (a1 : ∀ a, A1 a → A a) (k1 : Kp (DD g) H H1)
    (h : match k ρ1 with
      | .ok t ρ' => ∀ A' H' v, (∀ a, A' a → A a) → Kp (DD g) H H' → SR w g H0 H' A' ρ' σ → VRep w g H' A' t v → Q v H'
      | .ex c f ρ' => ∀ A' H' cls d, (∀ a, A' a → A a) → SR w g H0 H' A' ρ' σ → XRep w g H' A' c f cls d → W cls d σ H'
      | .bad => False) : rdE w H0 W k σ H1 Q := by
  refine ⟨g, A1, ρ1, S1, ?_⟩
  cases e2 : k ρ1 with
  | bad => rw [e2] at h; exact h.elim
  | ex c f ρ2 => rw [e2] at h; exact fun A2 H2 cls d a2 => h A2 H2 cls d fun a z => a1 a (a2 a z)
  | ok u ρ2 => rw [e2] at h; exact fun A2 H2 v a2 k2 S2 r2 => h A2 H2 v (fun a z => a1 a (a2 a z)) (k1.trans k2) S2 r2
theorem e_and {m n : M T} (h : PE X a (rdL w H0 W m)) (h2 : PE X (.BoolOp .And (b :: rest) pos) (rdE w H0 W n)) : PE X (.BoolOp .And (a :: b :: rest) pos) (rdE w H0 W (mAndV m n)) := (pe_and h h2).imp fun σ H Q q => by
  obtain ⟨g, A, ρ, S, q⟩ := q
  refine ⟨g, A, ρ, S, ?_⟩
  unfold mAndV bindM at q
  cases e1 : m ρ with
  | bad => rw [e1] at q; exact q.elim
  | ex c f ρ1 => rw [e1] at q; exact q
  | ok t ρ1 =>
    simp only [e1] at q
    intro A1 H1 v1 a1 k1 S1 r1
    cases t with
    | bl k =>
      refine ⟨k, r1.bl, ?_⟩
      cases k with
      | true => exact rdE_at S1 a1 k1 q
      | false => exact q A1 H1 _ a1 k1 S1 (.bl _)
    | _ => exact False.elim q
theorem e_or {m n : M T} (h : PE X a (rdL w H0 W m)) (h2 : PE X (.BoolOp .Or (b :: rest) pos) (rdE w H0 W n)) : PE X (.BoolOp .Or (a :: b :: rest) pos) (rdE w H0 W (mOrV m n)) := (pe_or h h2).imp fun σ H Q q => by
  obtain ⟨g, A, ρ, S, q⟩ := q
  refine ⟨g, A, ρ, S, ?_⟩
  unfold mOrV bindM at q
  cases e1 : m ρ with
  | bad => rw [e1] at q; exact q.elim
  | ex c f ρ1 => rw [e1] at q; exact q
  | ok t ρ1 =>
    simp only [e1] at q
    intro A1 H1 v1 a1 k1 S1 r1
    cases t with
    | bl k =>
      refine ⟨k, r1.bl, ?_⟩
      cases k with
      | false => exact rdE_at S1 a1 k1 q
      | true => exact q A1 H1 _ a1 k1 S1 (.bl _)
    | _ => exact False.elim q
theorem e_one {op} {m : M T} (h : PE X a (rdE w H0 W m)) : PE X (.BoolOp op [a] pos) (rdE w H0 W m) := pe_one h
def mIte (c : M Bool) (m n : M T) : M T := bindM c fun b => if b = true then m else n
theorem e_ite {mc : M Bool} {m n : M T} (hc : PT X c (rdT w H0 W mc)) (h : PE X a (rdE w H0 W m)) (h2 : PE X b (rdE w H0 W n)) : PE X (.IfExp c a b pos) (rdE w H0 W (mIte mc m n)) := (pe_ifExp hc h h2).imp fun σ H Q q => by
  obtain ⟨g, A, ρ, S, q⟩ := q
  refine ⟨g, A, ρ, S, ?_⟩
  unfold mIte bindM at q
  cases e1 : mc ρ with
  | bad => rw [e1] at q; exact q.elim
  | ex c f ρ1 => rw [e1] at q; exact q
  | ok t ρ1 =>
    simp only [e1] at q
    intro A1 H1 a1 k1 S1
    cases t with
    | true => exact rdE_at S1 a1 k1 q
    | false => exact rdE_at S1 a1 k1 q

/-! ### arguments -/
def mNil : M (List T) := fun ρ => .ok [] ρ
def mCons (m : M T) (n : M (List T)) : M (List T) := bindM m fun t => bindM n fun ts ρ => .ok (t :: ts) ρ
theorem a_nil : PA X [] (rdA w H0 W mNil) := pa_nil.imp fun σ H Q q => by
  obtain ⟨g, A, ρ, S, q⟩ := q
  exact q A H [] (fun _ z => z) Kp.refl S .nil
theorem a_cons {m : M T} {n : M (List T)} (h : PE X e (rdE w H0 W m)) (hs : PA X es (rdA w H0 W n)) (hst : starEach (e :: es) X.env = (false, eval e X.env) :: starEach es X.env := by rfl) : PA X (e :: es) (rdA w H0 W (mCons m n)) := (pa_cons h hs hst).imp fun σ H Q q => by
  obtain ⟨g, A, ρ, S, q⟩ := q
  refine ⟨g, A, ρ, S, ?_⟩
  unfold mCons bindM at q
  cases e1 : m ρ with
  | bad => rw [e1] at q; exact q.elim
  | ex c f ρ1 => rw [e1] at q; exact q
  | ok t ρ1 =>
    simp only [e1] at q
    intro A1 H1 v1 a1 k1 S1 r1
    refine ⟨g, A1, ρ1, S1, ?_⟩
    cases e2 : n ρ1 with
    | bad => simp only [e2] at q
    | ex c f ρ2 => simp only [e2] at q; exact fun A2 H2 cls d a2 => q A2 H2 cls d fun a z => a1 a (a2 a z)
    | ok ts ρ2 =>
      simp only [e2] at q
      exact fun A2 H2 vs a2 k2 S2 r2 => q A2 H2 _ (fun a z => a1 a (a2 a z)) (k1.trans k2) S2 (.cons (r1.next a2 S1.dA k2) r2)
theorem al_nil : PA X [] (rdAL w H0 W mNil) := pa_nil.imp fun σ H Q q => by
  obtain ⟨g, A, ρ, S, q⟩ := q
  exact q A H [] (fun _ z => z) Kp.refl S .nil
theorem al_cons {m : M T} {n : M (List T)} (h : PE X e (rdL w H0 W m)) (hs : PA X es (rdAL w H0 W n)) (hst : starEach (e :: es) X.env = (false, eval e X.env) :: starEach es X.env := by rfl) : PA X (e :: es) (rdAL w H0 W (mCons m n)) := (pa_cons h hs hst).imp fun σ H Q q => by
  obtain ⟨g, A, ρ, S, q⟩ := q
  refine ⟨g, A, ρ, S, ?_⟩
  unfold mCons bindM at q
  cases e1 : m ρ with
  | bad => rw [e1] at q; exact q.elim
  | ex c f ρ1 => rw [e1] at q; exact q
  | ok t ρ1 =>
    simp only [e1] at q
    intro A1 H1 v1 a1 k1 S1 r1
    refine ⟨g, A1, ρ1, S1, ?_⟩
    cases e2 : n ρ1 with
    | bad => simp only [e2] at q
    | ex c f ρ2 => simp only [e2] at q; exact fun A2 H2 cls d a2 => q A2 H2 cls d fun a z => a1 a (a2 a z)
    | ok ts ρ2 =>
      simp only [e2] at q
      exact fun A2 H2 vs a2 k2 S2 r2 => q A2 H2 _ (fun a z => a1 a (a2 a z)) (k1.trans k2) S2 (.cons (r1.next a2 S1.dA k2) r2)
/-! displays -/
def mTup (m : M (List T)) : M T := bindM m fun ts ρ => if ts.length ≤ 1000 then .ok (.tup ts) ρ else .bad
def mLst (m : M (List T)) : M T := bindM m fun ts ρ => if ts.length ≤ 1000 then .ok (.lst ts) ρ else .bad
theorem e_tup {x1} {m : M (List T)} (h : PA X es (rdA w H0 W m)) : PE X (.Tuple es x1 pos) (rdE w H0 W (mTup m)) := (pe_tup h).imp fun σ H Q q => by
  obtain ⟨g, A, ρ, S, q⟩ := q
  refine ⟨g, A, ρ, S, ?_⟩
  unfold mTup bindM at q
  cases e1 : m ρ with
  | bad => rw [e1] at q; exact q.elim
  | ex c f ρ1 => rw [e1] at q; exact q
  | ok ts ρ1 =>
    simp only [e1] at q
    intro A1 H1 vs a1 k1 S1 r1
    by_cases hl : ts.length ≤ 1000
    · simp only [if_pos hl] at q
      exact ⟨by rw [← r1.length]; exact Nat.le_of_lt (small1000 hl), fun p hp => q A1 _ _ a1 (k1.trans (Kp.new hp)) (S1.same (Kp.new hp)) (VRep.newTup r1 hp)⟩
    · simp only [if_neg hl] at q
/-- a new object p with the tree t, nothing else touched -/
theorem SR.unseen {g : DG} {A1 : Addr → Prop} {ρ1 : Ev} {H H1 : Hp} {σ : L2.St} {p : Addr} (S1 : SR w g H0 H1 A1 ρ1 σ) (k : Kp (DD g) H H1) (hp : H1 p = none) : H p = none := by
  cases e : H p with
  | none => rfl
  | some o =>
    have nd : ¬ DD g p := fun z => S1.aT p (S1.dA p z) hp
    rw [k.same _ _ e nd] at hp
    cases hp
theorem new_own {g : DG} {A1 : Addr → Prop} {ρ1 : Ev} {H1 : Hp} {σ : L2.St} {t : T} {p : Addr} {o : HO} (S1 : SR w g H0 H1 A1 ρ1 σ) (hp : H1 p = none) (h : ORep w g (upd H1 p o) A1 t p)
    (hg : ORep w g (upd H1 p o) (adj A1 p) t p) : SR w g H0 (upd H1 p o) A1 ρ1 σ ∧ SR w g H0 (upd H1 p o) (adj A1 p) ρ1 σ := by
  have k : KpS H1 (upd H1 p o) := Kp.new hp
  have S2 := S1.same k
  refine ⟨S2, ⟨S2.len, fun b hb => .inl (S2.up b hb), fun i u e => ?_, fun i u e => ?_, S2.apart, S2.draw, fun a z => .inl (S2.dA a z), fun a z => ?_, S2.fr⟩⟩
  · obtain ⟨v, q1, q2⟩ := S1.sh i u e
    exact ⟨v, q1, (q2.grow hp).keep (k.mono fun _ z => z.elim)⟩
  · obtain ⟨a, q1, q2, q3, q4⟩ := S1.own i u e
    obtain ⟨o', e2, _⟩ := q2.there
    exact ⟨a, q1, (q2.grow hp).keep (k.mono fun _ z => z.elim) ((k.same _ _ e2 id).trans e2.symm), .inl q3, q4⟩
  · rcases z with z | rfl
    · exact S2.aT a z
    · rw [upd_same]; exact fun z => nomatch z
theorem f_lst {m : M (List T)} (h : PA X es (rdA w H0 W m)) : PE X (.List es pos) (rdF w H0 W (mLst m)) := (pe_lst h).imp fun σ H Q q => by
  obtain ⟨g, A, ρ, S, q⟩ := q
  refine ⟨g, A, ρ, S, ?_⟩
  unfold mLst bindM at q
  cases e1 : m ρ with
  | bad => rw [e1] at q; exact q.elim
  | ex c f ρ1 => rw [e1] at q; exact q
  | ok ts ρ1 =>
    simp only [e1] at q
    intro A1 H1 vs a1 k1 S1 r1
    by_cases hl : ts.length ≤ 1000
    · simp only [if_pos hl] at q
      refine ⟨by rw [← r1.length]; exact Nat.le_of_lt (small1000 hl), fun p hp => ?_⟩
      have o1 : ORep w g (upd H1 p (.lst vs)) A1 (.lst ts) p := ⟨vs, upd_same, r1.same (Kp.new hp)⟩
      have o2 : ORep w g (upd H1 p (.lst vs)) (adj A1 p) (.lst ts) p := ⟨vs, upd_same, (r1.grow hp).same (Kp.new hp)⟩
      obtain ⟨S2, S3⟩ := new_own S1 hp o1 o2
      exact q A1 _ p a1 (k1.trans (Kp.new hp)) (S1.unseen k1 hp) S2 S3 o2
    · simp only [if_neg hl] at q
end
end MP
end

section
set_option Elab.async false
set_option linter.all false
set_option maxRecDepth 100000
/-! MP5: subscripts, slices, len, isinstance, built-in calls. -/
namespace MP
open PySem PySem.Spec L2

/-! ### tables -/
def valT (kvs : List (Key × T)) (k : Key) : Option T := (kvs.find? fun kv => decide (kv.1 = k)).map (·.2)
def putT (kvs : List (Key × T)) (k : Key) (v : T) : List (Key × T) :=
  if (kvs.any fun kv => decide (kv.1 = k)) = true then kvs.map (fun kv => if kv.1 = k then (kv.1, v) else kv) else kvs ++ [(k, v)]
def keyT : T → Option Key
  | .int i => some (.inl i)
  | .str s => some (.inr s)
  | _ => none
section
variable {w : Wd} {g : DG} {H : Hp} {A : Addr → Prop}
/-- keys alike, values represented -/
def KReps (w : Wd) (g : DG) (H : Hp) (A : Addr → Prop) (kts : List (Key × T)) (kvs : List (Key × V)) : Prop := kvs.map (·.1) = kts.map (·.1) ∧ VReps w g H A (kts.map (·.2)) (kvs.map (·.2))
theorem KReps.nil : KReps w g H A [] [] := ⟨rfl, .nil⟩
theorem KReps.cases {kts : List (Key × T)} {kvs : List (Key × V)} (h : KReps w g H A kts kvs) : (kts = [] ∧ kvs = []) ∨ ∃ k t v kts' kvs', kts = (k, t) :: kts' ∧ kvs = (k, v) :: kvs' ∧ VRep w g H A t v ∧ KReps w g H A kts' kvs' := by
  obtain ⟨h1, h2⟩ := h
  cases kts with
  | nil =>
    cases kvs with
    | nil => exact .inl ⟨rfl, rfl⟩
    | cons p r => simp at h1
  | cons p r =>
    cases kvs with
    | nil => simp at h1
    | cons q s =>
      obtain ⟨k, t⟩ := p
      obtain ⟨k', v⟩ := q
      simp only [List.map_cons, List.cons.injEq] at h1 h2
      obtain ⟨rfl, h1⟩ := h1
      cases h2 with
      | cons r1 r2 => exact .inr ⟨k', t, v, r, s, rfl, rfl, r1, h1, r2⟩
theorem KReps.cons {k : Key} {t : T} {v : V} {kts : List (Key × T)} {kvs : List (Key × V)} (r : VRep w g H A t v) (h : KReps w g H A kts kvs) : KReps w g H A ((k, t) :: kts) ((k, v) :: kvs) := by
  obtain ⟨h1, h2⟩ := h
  exact ⟨by rw [List.map_cons, List.map_cons, h1], by rw [List.map_cons, List.map_cons]; exact .cons r h2⟩
theorem KReps.ind {P : List (Key × T) → List (Key × V) → Prop} (h0 : P [] []) (h1 : ∀ k t v kts kvs, VRep w g H A t v → KReps w g H A kts kvs → P kts kvs → P ((k, t) :: kts) ((k, v) :: kvs)) :
    ∀ {kts : List (Key × T)} {kvs : List (Key × V)}, KReps w g H A kts kvs → P kts kvs := by
  intro kts
  induction kts with
  | nil =>
    intro kvs h
    rcases h.cases with ⟨_, rfl⟩ | ⟨_, _, _, _, _, e, _⟩
    · exact h0
    · cases e
  | cons p r ih =>
    intro kvs h
    rcases h.cases with ⟨e, _⟩ | ⟨k, t, v, kts', kvs', e, rfl, r1, r2⟩
    · cases e
    · cases e
      exact h1 k t v _ _ r1 r2 (ih r2)
theorem KReps.append {kts kts' : List (Key × T)} {kvs kvs' : List (Key × V)} (h : KReps w g H A kts kvs) (h' : KReps w g H A kts' kvs') : KReps w g H A (kts ++ kts') (kvs ++ kvs') := by
  obtain ⟨a, b⟩ := h
  obtain ⟨c, d⟩ := h'
  exact ⟨by rw [List.map_append, List.map_append, a, c], by rw [List.map_append, List.map_append]; exact b.append d⟩
theorem KReps.any {kts : List (Key × T)} {kvs : List (Key × V)} (h : KReps w g H A kts kvs) (k : Key) : (kvs.any fun kv => decide (kv.1 = k)) = kts.any fun kv => decide (kv.1 = k) :=
  h.ind (P := fun kts kvs => (kvs.any fun kv => decide (kv.1 = k)) = kts.any fun kv => decide (kv.1 = k)) rfl fun j t v a b _ _ ih => by
    rw [List.any_cons, List.any_cons, ih]
theorem KReps.val {kts : List (Key × T)} {kvs : List (Key × V)} (h : KReps w g H A kts kvs) (k : Key) : (valT kts k = none ∧ valV kvs k = none) ∨ ∃ t v, valT kts k = some t ∧ valV kvs k = some v ∧ VRep w g H A t v :=
  h.ind (P := fun kts kvs => (valT kts k = none ∧ valV kvs k = none) ∨ ∃ t v, valT kts k = some t ∧ valV kvs k = some v ∧ VRep w g H A t v) (.inl ⟨rfl, rfl⟩) fun j t v a b r _ ih => by
    by_cases e : j = k
    · exact .inr ⟨t, v, by simp [valT, e], by simp [valV, e], r⟩
    · have e1 : valT ((j, t) :: a) k = valT a k := by simp [valT, List.find?_cons, e]
      have e2 : valV ((j, v) :: b) k = valV b k := by simp [valV, List.find?_cons, e]
      rw [e1, e2]
      exact ih
theorem KReps.put {kts : List (Key × T)} {kvs : List (Key × V)} {k : Key} {t : T} {v : V} (h : KReps w g H A kts kvs) (r : VRep w g H A t v) : KReps w g H A (putT kts k t) (putK kvs k v) := by
  unfold putT putK
  rw [h.any k]
  split
  · refine h.ind (P := fun kts kvs => KReps w g H A (kts.map fun kv => if kv.1 = k then (kv.1, t) else kv) (kvs.map fun kv => if kv.1 = k then (kv.1, v) else kv)) KReps.nil fun j u x a b ru _ ih => ?_
    rw [List.map_cons, List.map_cons]
    by_cases e : j = k
    · simp only [e, if_true]
      exact ih.cons r
    · simp only [e, if_false]
      exact ih.cons ru
  · exact h.append (KReps.nil.cons r)
theorem KReps.length {kts : List (Key × T)} {kvs : List (Key × V)} (h : KReps w g H A kts kvs) : kts.length = kvs.length := by
  have := congrArg List.length h.1
  simpa using this.symm
theorem LRep.rdD {kts : List (Key × T)} {v : V} (h : LRep w g H A (.dic kts) v) : ∃ a kvs, v = .ref a ∧ H a = some (.dK kvs) ∧ KReps w g H A kts kvs := by
  rcases h with h | ⟨a, rfl, h, _⟩
  · cases h with
    | dic h n e hs => exact ⟨_, _, rfl, h, e, hs⟩
  · obtain ⟨kvs, h1, h2, h3⟩ := h
    exact ⟨a, kvs, rfl, h1, h2, h3⟩
theorem keyT_some {t : T} {k : Key} {v : V} (h : keyT t = some k) (r : LRep w g H A t v) : v = kV k := by
  cases t <;> first | (simp [keyT] at h; done) | skip
  · simp only [keyT] at h
    cases h
    exact r.int
  · simp only [keyT] at h
    cases h
    exact r.str
theorem atI_reps {ts : List T} {vs : List V} {i : Int} {t : T} (h : VReps w g H A ts vs) (e : atI ts i = some t) : ∃ v, atI vs i = some v ∧ VRep w g H A t v := by
  unfold atI at e ⊢
  rw [← h.length]
  cases q : ixN ts.length i with
  | none => rw [q] at e; cases e
  | some j =>
    rw [q] at e
    exact h.get e
end

section
variable {X : Cx} {w : Wd} {H0 : En} {W : WX} {e a b c : Expr} {es rest : List Expr} {pos p2 : Pos}
/-! ### a[i] -/
def ixT : T → T → Option T
  | .lst xs, .int i => atI xs i
  | .tup xs, .int i => atI xs i
  | .str z, .int i => if z.length ≤ sizeLine then (atI z.cps.toList i).map fun c => .str ⟨#[c]⟩ else none
  | _, _ => none
theorem e_ix {ma mb : M T} (ha : PE X a (rdL w H0 W ma)) (hb : PE X b (rdL w H0 W mb)) (hs : PlainIx b := by intro _ _; rfl) (hK : X.K = w.K := by rfl) : PE X (.Subscript a b pos) (rdE w H0 W (mBin ixT ma mb)) :=
  (pe_ix ix_seq ha hb hs).imp fun σ H Q h => bin_core (r := rIx X.K) (fun g H A t u y v x Q ht hu _ hf hq => by
    cases t <;> cases u <;> first | (simp [ixT] at hf; done) | skip
    · rename_i z i
      simp only [ixT] at hf
      split at hf
      · rename_i hc
        cases q : atI z.cps.toList i with
        | none => rw [q] at hf; cases hf
        | some c =>
          rw [q] at hf
          cases hf
          exact .inr (.inr ⟨z, i, c, ht.str, hu.int, hc, q, hq H _ Kp.refl (.str _)⟩)
      · cases hf
    · rename_i xs i
      simp only [ixT] at hf
      obtain ⟨p, vs, rfl, q1, r1⟩ := ht.sqT
      obtain ⟨x1, q2, r2⟩ := atI_reps r1 hf
      exact .inr (.inl ⟨p, vs, i, x1, rfl, hu.int, by rw [hK]; exact q1, q2, hq H _ Kp.refl r2⟩)
    · rename_i xs i
      simp only [ixT] at hf
      obtain ⟨p, vs, rfl, q1, r1⟩ := ht.sqL
      obtain ⟨x1, q2, r2⟩ := atI_reps r1 hf
      exact .inl ⟨p, vs, i, x1, rfl, hu.int, by rw [hK]; exact q1, q2, hq H _ Kp.refl r2⟩) h
/-- d[k] -/
def dgT : T → T → Option T
  | .dic kts, u => (keyT u).bind fun k => valT kts k
  | _, _ => none
theorem e_dg {ma mb : M T} (hu : X.A.units + 1 < cLine) (ha : PE X a (rdL w H0 W ma)) (hb : PE X b (rdL w H0 W mb)) (hs : NoSl b := by intro _ _; rfl) : PE X (.Subscript a b pos) (rdE w H0 W (mBin dgT ma mb)) :=
  (pe_dget hu ha hb hs).imp fun σ H Q h => bin_core (r := fun x y H2 Q => ∃ a v, x = .ref a ∧ DGet H2 a y (some v) ∧ Q v H2) (fun g H A t u y v x Q ht hu _ hf hq => by
    cases t <;> first | (simp [dgT] at hf; done) | skip
    rename_i kts
    simp only [dgT] at hf
    cases e : keyT u with
    | none => rw [e] at hf; cases hf
    | some k =>
      rw [e] at hf
      have hf : valT kts k = some y := hf
      obtain ⟨p, kvs, rfl, q1, r1⟩ := ht.rdD
      rcases r1.val k with ⟨z, _⟩ | ⟨t', v', q2, q3, r2⟩
      · rw [hf] at z; cases z
      · rw [hf] at q2
        cases q2
        exact ⟨p, v', rfl, by rw [keyT_some e hu, ← q3]; exact DGet.k q1, hq H _ Kp.refl r2⟩) h
/-- k in d -/
def inDT : T → T → Option T
  | u, .dic kts => (keyT u).map fun k => .bl (valT kts k).isSome
  | _, _ => none
def ninDT : T → T → Option T
  | u, .dic kts => (keyT u).map fun k => .bl (!(valT kts k).isSome)
  | _, _ => none
theorem inD_core {g : DG} {H : Hp} {A : Addr → Prop} {t u : T} {v x : V} {k : Key} {kts : List (Key × T)} (ht : LRep w g H A t v) (hu : LRep w g H A (.dic kts) x) (e : keyT t = some k) : ∃ a o, x = .ref a ∧ DGet H a v o ∧ o.isSome = (valT kts k).isSome := by
  obtain ⟨p, kvs, rfl, q1, r1⟩ := hu.rdD
  refine ⟨p, _, rfl, by rw [keyT_some e ht]; exact DGet.k q1, ?_⟩
  rcases r1.val k with ⟨z, z2⟩ | ⟨t', v', q2, q3, r2⟩
  · rw [z, z2]; rfl
  · rw [q2, q3]; rfl
theorem inD_rule {ma mb : M T} {σ : L2.St} {H : Hp} {Q : VK} (h : rdE w H0 W (mBin inDT ma mb) σ H Q) : tDIn (rdL w H0 W ma) (rdL w H0 W mb) σ H Q :=
  bin_core (r := fun y x H2 Q => ∃ a o, x = .ref a ∧ DGet H2 a y o ∧ Q (.bl o.isSome) H2) (fun g H A t u y v x Q ht hu _ hf hq => by
    cases u <;> first | (simp [inDT] at hf; done) | skip
    simp only [inDT] at hf
    cases e : keyT t with
    | none => rw [e] at hf; cases hf
    | some k =>
      rw [e] at hf
      cases hf
      obtain ⟨p, o, q1, q2, q3⟩ := inD_core (u := t) ht hu e
      exact ⟨p, o, q1, q2, by rw [q3]; exact hq H _ Kp.refl (.bl _)⟩) h
theorem ninD_rule {ma mb : M T} {σ : L2.St} {H : Hp} {Q : VK} (h : rdE w H0 W (mBin ninDT ma mb) σ H Q) : tDNotIn (rdL w H0 W ma) (rdL w H0 W mb) σ H Q :=
  bin_core (r := fun y x H2 Q => ∃ a o, x = .ref a ∧ DGet H2 a y o ∧ Q (.bl (!o.isSome)) H2) (fun g H A t u y v x Q ht hu _ hf hq => by
    cases u <;> first | (simp [ninDT] at hf; done) | skip
    simp only [ninDT] at hf
    cases e : keyT t with
    | none => rw [e] at hf; cases hf
    | some k =>
      rw [e] at hf
      cases hf
      obtain ⟨p, o, q1, q2, q3⟩ := inD_core (u := t) ht hu e
      exact ⟨p, o, q1, q2, by rw [q3]; exact hq H _ Kp.refl (.bl _)⟩) h
/-- a bool value's reading as a test -/
theorem val_tst {m : M T} {σ : L2.St} {H : Hp} {Q : Bool → Hp → Prop} (q : rdT w H0 W (mTst m) σ H Q) : rdE w H0 W m σ H (fun x H' => ∃ k, x = .bl k ∧ Q k H') := by
  obtain ⟨g, A, ρ, S, q1⟩ := tst_core q
  refine ⟨g, A, ρ, S, ?_⟩
  cases e1 : m ρ with
  | bad => rw [e1] at q1; exact q1
  | ex c f ρ1 => rw [e1] at q1; exact q1
  | ok t ρ1 => rw [e1] at q1; exact fun A' H' v a1 k1 S1 r1 => q1 A' H' v a1 k1 S1 (.inl r1)
theorem t_inD {ma mb : M T} (hu : X.A.units + 1 < cLine) (ha : PE X a (rdL w H0 W ma)) (hb : PE X b (rdL w H0 W mb)) (h1 : behindInMarks .In b = false := by rfl) : PT X (.Compare a [.In] [b] pos) (rdT w H0 W (mTst (mBin inDT ma mb))) :=
  (pt_cmp (pc_din hu ha hb) h1).imp fun σ H Q q => inD_rule (val_tst q)
theorem t_ninD {ma mb : M T} (hu : X.A.units + 1 < cLine) (ha : PE X a (rdL w H0 W ma)) (hb : PE X b (rdL w H0 W mb)) (h1 : behindInMarks .NotIn b = false := by rfl) : PT X (.Compare a [.NotIn] [b] pos) (rdT w H0 W (mTst (mBin ninDT ma mb))) :=
  (pt_cmp (pc_dnotin hu ha hb) h1).imp fun σ H Q q => ninD_rule (val_tst q)
theorem e_inD {ma mb : M T} (hu : X.A.units + 1 < cLine) (ha : PE X a (rdL w H0 W ma)) (hb : PE X b (rdL w H0 W mb)) (h1 : behindInMarks .In b = false := by rfl) : PE X (.Compare a [.In] [b] pos) (rdE w H0 W (mBin inDT ma mb)) :=
  (pe_cmp (pc_din hu ha hb) h1).imp fun σ H Q q => inD_rule q
/-! in, not in: lists, tuples of data; texts -/
def inL (t u : T) (xs : List T) : Option T := if (dat t && dat u) = true then some (.bl (xs.any fun z => eqB z t)) else none
def flatT : T → Bool
  | .non => true
  | .bl _ => true
  | .int _ => true
  | .str _ => true
  | _ => false
def inTT : T → T → Option T
  | t, .lst xs => if (dat t && dat (.lst xs)) = true then some (.bl (xs.any fun z => eqB z t)) else none
  | t, .tup xs => if (flatT t && xs.all flatT) = true then some (.bl (xs.any fun z => eqB z t)) else none
  | .str i, .str j => some (.bl (!(Builtin.Str.occurrences j i 0 j.length 1).isEmpty))
  | _, _ => none
def ninTT : T → T → Option T
  | t, .lst xs => if (dat t && dat (.lst xs)) = true then some (.bl (!xs.any fun z => eqB z t)) else none
  | t, .tup xs => if (flatT t && xs.all flatT) = true then some (.bl (!xs.any fun z => eqB z t)) else none
  | .str i, .str j => some (.bl (!(!(Builtin.Str.occurrences j i 0 j.length 1).isEmpty)))
  | _, _ => none
theorem toPDs_any (t : T) : ∀ xs : List T, ((toPDs xs).any fun z => PyData.eqv z (toPD t)) = xs.any fun z => eqB z t
  | [] => by simp [toPDs]
  | x :: xs => by rw [toPDs, List.any_cons, List.any_cons, toPDs_any t xs]; rfl
theorem flat_rep {g : DG} {H : Hp} {A : Addr → Prop} {t : T} {v : V} (r : VRep w g H A t v) (h : flatT t = true) : flatV v = true := by cases r <;> first | rfl | (simp [flatT] at h)
theorem flat_eqv {g : DG} {H : Hp} {A : Addr → Prop} {t u : T} {v x : V} (r : VRep w g H A t v) (s : VRep w g H A u x) (h : flatT t = true) (h' : flatT u = true) : eqV v x = eqB t u := by
  cases r <;> first | (simp [flatT] at h; done) | skip
  all_goals (cases s <;> first | (simp [flatT] at h'; done) | skip)
  all_goals (simp [eqV, eqB, toPD, PyData.eqv])
theorem flat_any {g : DG} {H : Hp} {A : Addr → Prop} {u : T} {x : V} (s : VRep w g H A u x) (h' : flatT u = true) : ∀ {ts : List T} {vs : List V}, VReps w g H A ts vs → ts.all flatT = true → vs.all flatV = true ∧ inV x vs = ts.any fun z => eqB z u
  | _, _, .nil, _ => ⟨rfl, rfl⟩
  | _, _, .cons r rs, h => by
    rw [List.all_cons, Bool.and_eq_true] at h
    obtain ⟨i1, i2⟩ := flat_any s h' rs h.2
    refine ⟨by rw [List.all_cons, flat_rep r h.1, i1]; rfl, ?_⟩
    unfold inV at i2 ⊢
    rw [List.any_cons, List.any_cons, i2, flat_eqv r s h.1 h']
theorem LRep.flat {g : DG} {H : Hp} {A : Addr → Prop} {t : T} {v : V} (h : LRep w g H A t v) (f : flatT t = true) : VRep w g H A t v := by
  rcases h with h | ⟨a, _, h, _⟩
  · exact h
  · cases t <;> first | (exact h.elim) | (simp [flatT] at f)
theorem b_in (hu : X.A.units + 65 < cLine) (hK : X.K = w.K := by rfl) : BinT X w (compareOp .In) inTT := by
  refine ⟨_, (op_inD hu).or (op_in_seq.or op_in_str), fun g H A t u y v x Q ht hu _ hf hq => ?_⟩
  cases u <;> first | (cases t <;> simp [inTT] at hf; done) | skip
  · rename_i s
    cases t <;> first | (simp [inTT] at hf; done) | skip
    simp only [inTT] at hf
    cases hf
    exact .inr (.inr ⟨_, _, ht.str, hu.str, hq H _ Kp.refl (.bl _)⟩)
  · rename_i xs
    simp only [inTT] at hf
    split at hf
    · rename_i hc
      rw [Bool.and_eq_true] at hc
      cases hf
      obtain ⟨p, vs, rfl, q1, r1⟩ := hu.sqT
      have rt := ht.flat hc.1
      obtain ⟨i1, i2⟩ := flat_any rt hc.1 r1 hc.2
      refine .inr (.inl ⟨p, vs, rfl, .inr (by rw [hK]; exact q1), flat_rep rt hc.1, i1, ?_⟩)
      show Q (.bl (inV v vs)) H
      rw [i2]
      exact hq H _ Kp.refl (.bl _)
    · cases hf
  · rename_i xs
    simp only [inTT] at hf
    split at hf
    · rename_i hc
      rw [Bool.and_eq_true] at hc
      cases hf
      refine .inl ⟨toPD t, toPDs xs, by rw [hK]; exact dp_ofL ht (SeqAt.canLay_of_shaped hc.1), ?_, hc.1, ?_, ?_⟩
      · rw [hK]
        have := dp_ofL hu (SeqAt.canLay_of_shaped hc.2)
        rw [toPD] at this
        exact this
      · have := hc.2
        unfold dat at this
        rw [toPD] at this
        exact this
      · rw [toPDs_any]
        exact hq H _ Kp.refl (.bl _)
    · cases hf
theorem b_nin (hu : X.A.units + 65 < cLine) (hK : X.K = w.K := by rfl) : BinT X w (compareOp .NotIn) ninTT := by
  refine ⟨_, (op_notInD hu).or (op_notIn_seq.or op_notin_str), fun g H A t u y v x Q ht hu _ hf hq => ?_⟩
  cases u <;> first | (cases t <;> simp [ninTT] at hf; done) | skip
  · rename_i s
    cases t <;> first | (simp [ninTT] at hf; done) | skip
    simp only [ninTT] at hf
    cases hf
    exact .inr (.inr ⟨_, _, ht.str, hu.str, hq H _ Kp.refl (.bl _)⟩)
  · rename_i xs
    simp only [ninTT] at hf
    split at hf
    · rename_i hc
      rw [Bool.and_eq_true] at hc
      cases hf
      obtain ⟨p, vs, rfl, q1, r1⟩ := hu.sqT
      have rt := ht.flat hc.1
      obtain ⟨i1, i2⟩ := flat_any rt hc.1 r1 hc.2
      refine .inr (.inl ⟨p, vs, rfl, .inr (by rw [hK]; exact q1), flat_rep rt hc.1, i1, ?_⟩)
      show Q (.bl (!inV v vs)) H
      rw [i2]
      exact hq H _ Kp.refl (.bl _)
    · cases hf
  · rename_i xs
    simp only [ninTT] at hf
    split at hf
    · rename_i hc
      rw [Bool.and_eq_true] at hc
      cases hf
      refine .inl ⟨toPD t, toPDs xs, by rw [hK]; exact dp_ofL ht (SeqAt.canLay_of_shaped hc.1), ?_, hc.1, ?_, ?_⟩
      · rw [hK]
        have := dp_ofL hu (SeqAt.canLay_of_shaped hc.2)
        rw [toPD] at this
        exact this
      · have := hc.2
        unfold dat at this
        rw [toPD] at this
        exact this
      · rw [toPDs_any]
        exact hq H _ Kp.refl (.bl _)
    · cases hf
end
end MP
end

section
set_option Elab.async false
set_option linter.all false
set_option maxRecDepth 100000
/-! MP6: slices, calls of built-ins. -/
namespace MP
open PySem PySem.Spec L2

section
variable {X : Cx} {w : Wd} {H0 : En} {W : WX} {e a b c : Expr} {es rest : List Expr} {pos p2 p : Pos}
/-! ### calls of built-ins on trees -/
/-- what is handed back is no new list, dict -/
def CallT (X : Cx) (w : Wd) (f : Value) (F : List T → Option T) : Prop := ∃ r : List V → Hp → VK → Prop, CallR X f r ∧
  ∀ (g : DG) (H : Hp) (A : Addr → Prop) (ts : List T) (y : T) (vs : List V) (Q : VK), LReps w g H A ts vs → (∀ a, A a → H a ≠ none) → F ts = some y → (∀ H' z, KpS H H' → VRep w g H' A y z → Q z H') → r vs H Q
/-- .. a new one -/
def CallF (X : Cx) (w : Wd) (f : Value) (F : List T → Option T) : Prop := ∃ r : List V → Hp → VK → Prop, CallR X f r ∧
  ∀ (g : DG) (H : Hp) (A : Addr → Prop) (ts : List T) (y : T) (vs : List V) (Q : VK), LReps w g H A ts vs → (∀ a, A a → H a ≠ none) → F ts = some y →
    (∀ p o, H p = none → (ORep w g (upd H p o) A y p) → (ORep w g (upd H p o) (adj A p) y p) → Q (.ref p) (upd H p o)) → r vs H Q
def mCall (F : List T → Option T) (m : M (List T)) : M T := bindM m fun ts => match F ts with
  | some y => fun ρ => .ok y ρ
  | none => fun _ => .bad
theorem call_core {F : List T → Option T} {m : M (List T)} {r : List V → Hp → VK → Prop}
    (hr : ∀ (g : DG) (H : Hp) (A : Addr → Prop) (ts : List T) (y : T) (vs : List V) (Q : VK), LReps w g H A ts vs → (∀ a, A a → H a ≠ none) → F ts = some y → (∀ H' z, KpS H H' → VRep w g H' A y z → Q z H') → r vs H Q)
    {σ : L2.St} {H : Hp} {Q : VK} (h : rdE w H0 W (mCall F m) σ H Q) : rdAL w H0 W m σ H fun vs H1 => r vs H1 Q := by
  obtain ⟨g, A, ρ, S, h⟩ := h
  refine ⟨g, A, ρ, S, ?_⟩
  unfold mCall bindM at h
  cases e1 : m ρ with
  | bad => rw [e1] at h; exact h.elim
  | ex c f ρ1 => rw [e1] at h; exact h
  | ok ts ρ1 =>
    simp only [e1] at h
    intro A1 H1 vs a1 k1 S1 r1
    cases e3 : F ts with
    | none => simp only [e3] at h
    | some y =>
      simp only [e3] at h
      exact hr g H1 A1 ts y vs Q r1 S1.aT e3 fun H3 z k3 rz => h A1 H3 z a1 (k1.trans (k3.mono fun _ q => q.elim)) (S1.same k3) rz
theorem callF_core {F : List T → Option T} {m : M (List T)} {r : List V → Hp → VK → Prop}
    (hr : ∀ (g : DG) (H : Hp) (A : Addr → Prop) (ts : List T) (y : T) (vs : List V) (Q : VK), LReps w g H A ts vs → (∀ a, A a → H a ≠ none) → F ts = some y →
      (∀ p o, H p = none → (ORep w g (upd H p o) A y p) → (ORep w g (upd H p o) (adj A p) y p) → Q (.ref p) (upd H p o)) → r vs H Q)
    {σ : L2.St} {H : Hp} {Q : VK} (h : rdF w H0 W (mCall F m) σ H Q) : rdAL w H0 W m σ H fun vs H1 => r vs H1 Q := by
  obtain ⟨g, A, ρ, S, h⟩ := h
  refine ⟨g, A, ρ, S, ?_⟩
  unfold mCall bindM at h
  cases e1 : m ρ with
  | bad => rw [e1] at h; exact h.elim
  | ex c f ρ1 => rw [e1] at h; exact h
  | ok ts ρ1 =>
    simp only [e1] at h
    intro A1 H1 vs a1 k1 S1 r1
    cases e3 : F ts with
    | none => simp only [e3] at h
    | some y =>
      simp only [e3] at h
      refine hr g H1 A1 ts y vs Q r1 S1.aT e3 fun p o hp o1 o2 => ?_
      obtain ⟨S2, S3⟩ := new_own S1 hp o1 o2
      exact h A1 _ p a1 (k1.trans (Kp.new hp)) (S1.unseen k1 hp) S2 S3 o2
theorem e_callB {x : Str} {id : String} {F : List T → Option T} {m : M (List T)} (hc : CallT X w (.builtin id) F) (hg : Gl X x) (hm : X.mg x = none) (hv : bootBuiltins x = some (.builtin id)) (ha : PA X (e :: es) (rdAL w H0 W m)) (hn : x ≠ "__name__" := by decide) (hdb : (x == ("__debug__" : Str)) = false := by decide)
    (he : starEach (e :: es) X.env = (false, eval e X.env) :: starEach es X.env := by rfl) (hpl : (backTo pos (starEach es X.env)).any (·.1) = false := by rfl) : PE X (.Call (.Name x p) (e :: es) [] pos) (rdE w H0 W (mCall F m)) := by
  obtain ⟨r, h1, h2⟩ := hc
  exact (pe_callB h1 hg hm hv ha hn hdb he hpl).imp fun σ H Q h => call_core h2 h
theorem e_callTy {x : Str} {id : String} {F : List T → Option T} {m : M (List T)} (hc : CallT X w (.type id) F) (hg : Gl X x) (hm : X.mg x = none) (hv : bootBuiltins x = some (.type id)) (ha : PA X (e :: es) (rdAL w H0 W m)) (hn : x ≠ "__name__" := by decide) (hdb : (x == ("__debug__" : Str)) = false := by decide)
    (he : starEach (e :: es) X.env = (false, eval e X.env) :: starEach es X.env := by rfl) (hpl : (backTo pos (starEach es X.env)).any (·.1) = false := by rfl) : PE X (.Call (.Name x p) (e :: es) [] pos) (rdE w H0 W (mCall F m)) := by
  obtain ⟨r, h1, h2⟩ := hc
  exact (pe_callTy h1 hg hm hv ha hn hdb he hpl).imp fun σ H Q h => call_core h2 h
theorem f_callB {x : Str} {id : String} {F : List T → Option T} {m : M (List T)} (hc : CallF X w (.builtin id) F) (hg : Gl X x) (hm : X.mg x = none) (hv : bootBuiltins x = some (.builtin id)) (ha : PA X (e :: es) (rdAL w H0 W m)) (hn : x ≠ "__name__" := by decide) (hdb : (x == ("__debug__" : Str)) = false := by decide)
    (he : starEach (e :: es) X.env = (false, eval e X.env) :: starEach es X.env := by rfl) (hpl : (backTo pos (starEach es X.env)).any (·.1) = false := by rfl) : PE X (.Call (.Name x p) (e :: es) [] pos) (rdF w H0 W (mCall F m)) := by
  obtain ⟨r, h1, h2⟩ := hc
  exact (pe_callB h1 hg hm hv ha hn hdb he hpl).imp fun σ H Q h => callF_core h2 h
theorem f_callTy {x : Str} {id : String} {F : List T → Option T} {m : M (List T)} (hc : CallF X w (.type id) F) (hg : Gl X x) (hm : X.mg x = none) (hv : bootBuiltins x = some (.type id)) (ha : PA X (e :: es) (rdAL w H0 W m)) (hn : x ≠ "__name__" := by decide) (hdb : (x == ("__debug__" : Str)) = false := by decide)
    (he : starEach (e :: es) X.env = (false, eval e X.env) :: starEach es X.env := by rfl) (hpl : (backTo pos (starEach es X.env)).any (·.1) = false := by rfl) : PE X (.Call (.Name x p) (e :: es) [] pos) (rdF w H0 W (mCall F m)) := by
  obtain ⟨r, h1, h2⟩ := hc
  exact (pe_callTy h1 hg hm hv ha hn hdb he hpl).imp fun σ H Q h => callF_core h2 h

theorem LReps.one {g : DG} {H : Hp} {A : Addr → Prop} {t : T} {vs : List V} (h : LReps w g H A [t] vs) : ∃ v, vs = [v] ∧ LRep w g H A t v := by
  cases h with
  | cons r rs => cases rs; exact ⟨_, rfl, r⟩
theorem LReps.two {g : DG} {H : Hp} {A : Addr → Prop} {t u : T} {vs : List V} (h : LReps w g H A [t, u] vs) : ∃ v x, vs = [v, x] ∧ LRep w g H A t v ∧ LRep w g H A u x := by
  cases h with
  | cons r rs => cases rs with
    | cons r2 rs => cases rs; exact ⟨_, _, rfl, r, r2⟩
/-! len -/
def lenF : List T → Option T
  | [.lst xs] => some (.int xs.length)
  | [.tup xs] => some (.int xs.length)
  | [.str s] => if s.length ≤ sizeLine then some (.int s.length) else none
  | [.dic kvs] => some (.int kvs.length)
  | _ => none
theorem c_len (hK : X.K = w.K := by rfl) : CallT X w (.builtin "len") lenF := by
  have o2 : CallR X (.builtin "len") (fun xs H Q => (∃ x n, xs = [x] ∧ LenV X.K x H n ∧ Q (.int n) H) ∨ ∃ a kvs, xs = [V.ref a] ∧ H a = some (.dK kvs) ∧ Q (.int kvs.length) H) := by
    intro pins s σ H xs us Q I r h
    rcases h with h | h
    · exact call_len pins s σ H xs us Q I r h
    · exact call_lenD pins s σ H xs us Q I r h
  refine ⟨_, o2, fun g H A ts y vs Q hr _ hf hq => ?_⟩
  unfold lenF at hf
  split at hf
  · cases hf
    obtain ⟨v, rfl, r⟩ := hr.one
    obtain ⟨a, xs, rfl, q1, r1⟩ := r.sqL
    exact .inl ⟨_, _, rfl, .inl ⟨xs, by rw [hK]; exact q1, rfl⟩, by rw [← r1.length]; exact hq H _ Kp.refl (.int _)⟩
  · cases hf
    obtain ⟨v, rfl, r⟩ := hr.one
    obtain ⟨a, xs, rfl, q1, r1⟩ := r.sqT
    exact .inl ⟨_, _, rfl, .inr ⟨xs, by rw [hK]; exact q1, rfl⟩, by rw [← r1.length]; exact hq H _ Kp.refl (.int _)⟩
  · split at hf
    · rename_i s hc
      cases hf
      obtain ⟨v, rfl, r⟩ := hr.one
      exact .inl ⟨_, _, rfl, by rw [r.str]; exact ⟨hc, rfl⟩, hq H _ Kp.refl (.int _)⟩
    · cases hf
  · cases hf
    obtain ⟨v, rfl, r⟩ := hr.one
    obtain ⟨a, kvs, rfl, q1, r1⟩ := r.rdD
    exact .inr ⟨a, kvs, rfl, q1, by rw [← r1.length]; exact hq H _ Kp.refl (.int _)⟩
  · cases hf
/-! abs, int, min, max of two -/
def absF : List T → Option T
  | [.int i] => some (.int (if i < 0 then -i else i))
  | _ => none
theorem c_abs : CallT X w (.builtin "abs") absF := by
  refine ⟨_, call_abs, fun g H A ts y vs Q hr _ hf hq => ?_⟩
  unfold absF at hf
  split at hf
  · cases hf
    obtain ⟨v, rfl, r⟩ := hr.one
    exact ⟨_, by rw [r.int], hq H _ Kp.refl (.int _)⟩
  · cases hf
def intF : List T → Option T
  | [.int i] => some (.int i)
  | [.bl k] => some (.int (if k then 1 else 0))
  | _ => none
theorem c_int : CallT X w (.type "int") intF := by
  refine ⟨_, call_int1, fun g H A ts y vs Q hr _ hf hq => ?_⟩
  unfold intF at hf
  split at hf
  · cases hf
    obtain ⟨v, rfl, r⟩ := hr.one
    exact .inl ⟨_, by rw [r.int], hq H _ Kp.refl (.int _)⟩
  · cases hf
    obtain ⟨v, rfl, r⟩ := hr.one
    exact .inr ⟨_, by rw [r.bl], hq H _ Kp.refl (.int _)⟩
  · cases hf
/-- the ints of a list of trees -/
def intsT : List T → Option (List Int)
  | [] => some []
  | .int i :: r => (intsT r).map (i :: ·)
  | _ :: _ => none
theorem intsT_some : ∀ {ts : List T} {ns : List Int}, intsT ts = some ns → ts = ns.map T.int
  | [], ns, h => by simp [intsT] at h; subst h; rfl
  | .int i :: r, ns, h => by
    simp only [intsT] at h
    cases e : intsT r with
    | none => rw [e] at h; cases h
    | some ms =>
      rw [e] at h
      cases h
      rw [intsT_some e]
      rfl
  | .non :: r, ns, h => by simp [intsT] at h
  | .bl _ :: r, ns, h => by simp [intsT] at h
  | .str _ :: r, ns, h => by simp [intsT] at h
  | .tup _ :: r, ns, h => by simp [intsT] at h
  | .lst _ :: r, ns, h => by simp [intsT] at h
  | .dic _ :: r, ns, h => by simp [intsT] at h
  | .ins _ _ :: r, ns, h => by simp [intsT] at h
  | .drw :: r, ns, h => by simp [intsT] at h
  | .slf _ _ :: r, ns, h => by simp [intsT] at h
theorem intsT_map : ∀ ns : List Int, intsT (ns.map T.int) = some ns
  | [] => rfl
  | n :: r => by simp only [List.map_cons, intsT, intsT_map r, Option.map_some]
theorem ints_reps {g : DG} {H : Hp} {A : Addr → Prop} : ∀ {ns : List Int} {vs : List V}, VReps w g H A (ns.map T.int) vs → vs = ns.map V.int
  | [], _, h => by cases h; rfl
  | n :: r, _, h => by
    cases h with
    | cons r1 r2 =>
      cases r1
      rw [ints_reps r2]
      rfl
theorem reps_ints {g : DG} {H : Hp} {A : Addr → Prop} : ∀ ns : List Int, VReps w g H A (ns.map T.int) (ns.map V.int)
  | [] => .nil
  | n :: r => .cons (.int n) (reps_ints r)
def maxOf : List Int → Int
  | [] => 0
  | [a] => a
  | a :: r => max a (maxOf r)
def minOf : List Int → Int
  | [] => 0
  | [a] => a
  | a :: r => min a (minOf r)
theorem maxOf_mem : ∀ {ns : List Int}, ns ≠ [] → maxOf ns ∈ ns ∧ ∀ y ∈ ns, y ≤ maxOf ns
  | [], h => absurd rfl h
  | [a], _ => by simp [maxOf]
  | a :: b :: r, _ => by
    obtain ⟨h1, h2⟩ := maxOf_mem (ns := b :: r) (by simp)
    have e : maxOf (a :: b :: r) = max a (maxOf (b :: r)) := rfl
    rw [e]
    refine ⟨?_, fun y hy => ?_⟩
    · by_cases c : a ≤ maxOf (b :: r)
      · rw [Int.max_eq_right c]; exact List.mem_cons_of_mem _ h1
      · rw [Int.max_eq_left (by omega)]; exact List.mem_cons_self
    · rcases List.mem_cons.mp hy with rfl | hy
      · exact Int.le_max_left _ _
      · exact Int.le_trans (h2 y hy) (Int.le_max_right _ _)
theorem minOf_mem : ∀ {ns : List Int}, ns ≠ [] → minOf ns ∈ ns ∧ ∀ y ∈ ns, minOf ns ≤ y
  | [], h => absurd rfl h
  | [a], _ => by simp [minOf]
  | a :: b :: r, _ => by
    obtain ⟨h1, h2⟩ := minOf_mem (ns := b :: r) (by simp)
    have e : minOf (a :: b :: r) = min a (minOf (b :: r)) := rfl
    rw [e]
    refine ⟨?_, fun y hy => ?_⟩
    · by_cases c : a ≤ minOf (b :: r)
      · rw [Int.min_eq_left c]; exact List.mem_cons_self
      · rw [Int.min_eq_right (by omega)]; exact List.mem_cons_of_mem _ h1
    · rcases List.mem_cons.mp hy with rfl | hy
      · exact Int.min_le_left _ _
      · exact Int.le_trans (Int.min_le_right _ _) (h2 y hy)
def maxF : List T → Option T
  | [.int i, .int j] => some (.int (if j > i then j else i))
  | [.lst xs] => (intsT xs).bind fun ns => if ns.isEmpty = true then none else some (.int (maxOf ns))
  | _ => none
def minF : List T → Option T
  | [.int i, .int j] => some (.int (if j < i then j else i))
  | [.lst xs] => (intsT xs).bind fun ns => if ns.isEmpty = true then none else some (.int (minOf ns))
  | _ => none
theorem CallR.or {f : Value} {r r' : List V → Hp → VK → Prop} (h : CallR X f r) (h' : CallR X f r') : CallR X f (fun xs H Q => r xs H Q ∨ r' xs H Q) := by
  intro pins s σ H xs us Q I rr q
  rcases q with q | q
  · exact h pins s σ H xs us Q I rr q
  · exact h' pins s σ H xs us Q I rr q
theorem c_max (hc : X.calm = true) (hK : X.K = w.K := by rfl) : CallT X w (.builtin "max") maxF := by
  refine ⟨_, CallR.or (call_max2 hc) (cr_max hc), fun g H A ts y vs Q hr _ hf hq => ?_⟩
  unfold maxF at hf
  split at hf
  · cases hf
    obtain ⟨v, x, rfl, r, r2⟩ := hr.two
    exact .inl ⟨_, _, by rw [r.int, r2.int], hq H _ Kp.refl (.int _)⟩
  · rename_i xs
    cases q : intsT xs with
    | none => rw [q] at hf; cases hf
    | some ns =>
      rw [q] at hf
      have hf : (if ns.isEmpty = true then none else some (T.int (maxOf ns))) = some y := hf
      split at hf
      · cases hf
      · rename_i hne
        cases hf
        obtain ⟨v, rfl, r⟩ := hr.one
        obtain ⟨a, us, rfl, q1, r1⟩ := r.sqL
        rw [intsT_some q] at r1
        have e := ints_reps r1
        subst e
        have hn : ns ≠ [] := fun z => hne (by rw [z]; rfl)
        obtain ⟨m1, m2⟩ := maxOf_mem hn
        refine .inr ⟨a, ns, rfl, by rw [hK]; exact q1, List.length_pos_iff.mpr hn, fun m h1 h2 => ?_⟩
        have : m = maxOf ns := Int.le_antisymm (m2 m h1) (h2 _ m1)
        rw [this]
        exact hq H _ Kp.refl (.int _)
  · cases hf
theorem c_min (hc : X.calm = true) (hK : X.K = w.K := by rfl) : CallT X w (.builtin "min") minF := by
  refine ⟨_, CallR.or (call_min2 hc) (cr_min hc), fun g H A ts y vs Q hr _ hf hq => ?_⟩
  unfold minF at hf
  split at hf
  · cases hf
    obtain ⟨v, x, rfl, r, r2⟩ := hr.two
    exact .inl ⟨_, _, by rw [r.int, r2.int], hq H _ Kp.refl (.int _)⟩
  · rename_i xs
    cases q : intsT xs with
    | none => rw [q] at hf; cases hf
    | some ns =>
      rw [q] at hf
      have hf : (if ns.isEmpty = true then none else some (T.int (minOf ns))) = some y := hf
      split at hf
      · cases hf
      · rename_i hne
        cases hf
        obtain ⟨v, rfl, r⟩ := hr.one
        obtain ⟨a, us, rfl, q1, r1⟩ := r.sqL
        rw [intsT_some q] at r1
        have e := ints_reps r1
        subst e
        have hn : ns ≠ [] := fun z => hne (by rw [z]; rfl)
        obtain ⟨m1, m2⟩ := minOf_mem hn
        refine .inr ⟨a, ns, rfl, by rw [hK]; exact q1, List.length_pos_iff.mpr hn, fun m h1 h2 => ?_⟩
        have : m = minOf ns := Int.le_antisymm (h2 _ m1) (m2 m h1)
        rw [this]
        exact hq H _ Kp.refl (.int _)
  · cases hf
/-! all, any -/
def blsT : List T → Option (List Bool)
  | [] => some []
  | .bl i :: r => (blsT r).map (i :: ·)
  | _ :: _ => none
theorem blsT_some : ∀ {ts : List T} {ns : List Bool}, blsT ts = some ns → ts = ns.map T.bl
  | [], ns, h => by simp [blsT] at h; subst h; rfl
  | .bl i :: r, ns, h => by
    simp only [blsT] at h
    cases e : blsT r with
    | none => rw [e] at h; cases h
    | some ms =>
      rw [e] at h
      cases h
      rw [blsT_some e]
      rfl
  | .non :: r, ns, h => by simp [blsT] at h
  | .int _ :: r, ns, h => by simp [blsT] at h
  | .str _ :: r, ns, h => by simp [blsT] at h
  | .tup _ :: r, ns, h => by simp [blsT] at h
  | .lst _ :: r, ns, h => by simp [blsT] at h
  | .dic _ :: r, ns, h => by simp [blsT] at h
  | .ins _ _ :: r, ns, h => by simp [blsT] at h
  | .drw :: r, ns, h => by simp [blsT] at h
  | .slf _ _ :: r, ns, h => by simp [blsT] at h
theorem blsT_map : ∀ ns : List Bool, blsT (ns.map T.bl) = some ns
  | [] => rfl
  | n :: r => by simp only [List.map_cons, blsT, blsT_map r, Option.map_some]
theorem bls_reps {g : DG} {H : Hp} {A : Addr → Prop} : ∀ {ns : List Bool} {vs : List V}, VReps w g H A (ns.map T.bl) vs → vs = ns.map V.bl
  | [], _, h => by cases h; rfl
  | n :: r, _, h => by
    cases h with
    | cons r1 r2 =>
      cases r1
      rw [bls_reps r2]
      rfl
def allF : List T → Option T
  | [.lst xs] => (blsT xs).map fun bs => .bl (bs.all id)
  | _ => none
def anyF : List T → Option T
  | [.lst xs] => (blsT xs).map fun bs => .bl (bs.any id)
  | _ => none
theorem c_all (hc : X.calm = true) (hK : X.K = w.K := by rfl) : CallT X w (.builtin "all") allF := by
  refine ⟨_, cr_all hc, fun g H A ts y vs Q hr _ hf hq => ?_⟩
  unfold allF at hf
  split at hf
  · rename_i xs
    cases q : blsT xs with
    | none => rw [q] at hf; cases hf
    | some ns =>
      rw [q] at hf
      cases hf
      obtain ⟨v, rfl, r⟩ := hr.one
      obtain ⟨a, us, rfl, q1, r1⟩ := r.sqL
      rw [blsT_some q] at r1
      have e := bls_reps r1
      subst e
      exact ⟨a, ns, rfl, by rw [hK]; exact q1, hq H _ Kp.refl (.bl _)⟩
  · cases hf
theorem c_any (hc : X.calm = true) (hK : X.K = w.K := by rfl) : CallT X w (.builtin "any") anyF := by
  refine ⟨_, cr_any hc, fun g H A ts y vs Q hr _ hf hq => ?_⟩
  unfold anyF at hf
  split at hf
  · rename_i xs
    cases q : blsT xs with
    | none => rw [q] at hf; cases hf
    | some ns =>
      rw [q] at hf
      cases hf
      obtain ⟨v, rfl, r⟩ := hr.one
      obtain ⟨a, us, rfl, q1, r1⟩ := r.sqL
      rw [blsT_some q] at r1
      have e := bls_reps r1
      subst e
      exact ⟨a, ns, rfl, by rw [hK]; exact q1, hq H _ Kp.refl (.bl _)⟩
  · cases hf
def sumF : List T → Option T
  | [.lst xs] => (intsT xs).map fun ns => .int ns.sum
  | _ => none
theorem c_sum (hc : X.calm = true) (hK : X.K = w.K := by rfl) : CallT X w (.builtin "sum") sumF := by
  refine ⟨_, cr_sum hc, fun g H A ts y vs Q hr _ hf hq => ?_⟩
  unfold sumF at hf
  split at hf
  · rename_i xs
    cases q : intsT xs with
    | none => rw [q] at hf; cases hf
    | some ns =>
      rw [q] at hf
      cases hf
      obtain ⟨v, rfl, r⟩ := hr.one
      obtain ⟨a, us, rfl, q1, r1⟩ := r.sqL
      rw [intsT_some q] at r1
      have e := ints_reps r1
      subst e
      exact ⟨a, ns, rfl, by rw [hK]; exact q1, hq H _ Kp.refl (.int _)⟩
  · cases hf
/-! tuple(x), list(x), dict(x), divmod, sorted of ints -/
def tupleF : List T → Option T
  | [.lst xs] => some (.tup xs)
  | [.tup xs] => some (.tup xs)
  | _ => none
theorem c_tuple (hK : X.K = w.K := by rfl) : CallT X w (.type "tuple") tupleF := by
  refine ⟨_, call_tuple_of, fun g H A ts y vs Q hr _ hf hq => ?_⟩
  unfold tupleF at hf
  split at hf
  · cases hf
    obtain ⟨v, rfl, r⟩ := hr.one
    obtain ⟨a, us, rfl, q1, r1⟩ := r.sqL
    exact ⟨a, us, rfl, .inl ⟨by rw [hK]; exact q1, fun p hp => hq _ _ (Kp.new hp) (VRep.newTup r1 hp)⟩⟩
  · cases hf
    obtain ⟨v, rfl, r⟩ := hr.one
    obtain ⟨a, us, rfl, q1, r1⟩ := r.sqT
    exact ⟨a, us, rfl, .inr ⟨by rw [hK]; exact q1, hq H _ Kp.refl (.tup q1 r1)⟩⟩
  · cases hf
def divmodF : List T → Option T
  | [.int i, .int j] => if 0 < j ∧ j < 1073741824 then some (.tup [.int (i / j), .int (i % j)]) else none
  | _ => none
theorem c_divmod : CallT X w (.builtin "divmod") divmodF := by
  refine ⟨_, call_divmod, fun g H A ts y vs Q hr _ hf hq => ?_⟩
  unfold divmodF at hf
  split at hf
  · split at hf
    · rename_i hc
      cases hf
      obtain ⟨v, x, rfl, r, r2⟩ := hr.two
      exact ⟨_, _, by rw [r.int, r2.int], hc, fun p hp => hq _ _ (Kp.new hp) (VRep.newTup (.cons (.int _) (.cons (.int _) .nil)) hp)⟩
    · cases hf
  · cases hf
theorem olst {g : DG} {H : Hp} {A : Addr → Prop} {ts : List T} {vs : List V} {p : Addr} (r : VReps w g H A ts vs) (hp : H p = none) : ORep w g (upd H p (.lst vs)) A (.lst ts) p ∧ ORep w g (upd H p (.lst vs)) (adj A p) (.lst ts) p :=
  ⟨⟨vs, upd_same, r.same (Kp.new hp)⟩, ⟨vs, upd_same, (r.grow hp).same (Kp.new hp)⟩⟩
theorem KReps.same {g : DG} {H H' : Hp} {A : Addr → Prop} {kts : List (Key × T)} {kvs : List (Key × V)} (h : KReps w g H A kts kvs) (k : KpS H H') : KReps w g H' A kts kvs := ⟨h.1, h.2.same k⟩
theorem KReps.grow {g : DG} {H : Hp} {A : Addr → Prop} {kts : List (Key × T)} {kvs : List (Key × V)} {p : Addr} (h : KReps w g H A kts kvs) (hp : H p = none) : KReps w g H (adj A p) kts kvs := ⟨h.1, h.2.grow hp⟩
theorem odic {g : DG} {H : Hp} {A : Addr → Prop} {kts : List (Key × T)} {kvs : List (Key × V)} {p : Addr} (r : KReps w g H A kts kvs) (hp : H p = none) : ORep w g (upd H p (.dK kvs)) A (.dic kts) p ∧ ORep w g (upd H p (.dK kvs)) (adj A p) (.dic kts) p :=
  ⟨⟨kvs, upd_same, r.1, r.2.same (Kp.new hp)⟩, ⟨kvs, upd_same, r.1, (r.2.grow hp).same (Kp.new hp)⟩⟩
def keyV : Key → T
  | .inl i => .int i
  | .inr s => .str s
theorem keys_reps {g : DG} {H : Hp} {A : Addr → Prop} {kts : List (Key × T)} {kvs : List (Key × V)} (h : KReps w g H A kts kvs) : VReps w g H A (kts.map fun kv => keyV kv.1) (kvs.map fun kv => kV kv.1) :=
  h.ind (P := fun kts kvs => VReps w g H A (kts.map fun kv => keyV kv.1) (kvs.map fun kv => kV kv.1)) .nil fun k t v a b _ _ ih => by
    rw [List.map_cons, List.map_cons]
    refine .cons ?_ ih
    cases k with
    | inl i => exact .int i
    | inr s => exact .str s
def listF : List T → Option T
  | [.lst xs] => some (.lst xs)
  | [.tup xs] => some (.lst xs)
  | [.dic kvs] => some (.lst (kvs.map fun kv => keyV kv.1))
  | _ => none
theorem c_list (hc : X.calm = true) (hK : X.K = w.K := by rfl) : CallF X w (.type "list") listF := by
  refine ⟨_, CallR.or call_list_of (call_listD hc), fun g H A ts y vs Q hr _ hf hq => ?_⟩
  unfold listF at hf
  split at hf
  · cases hf
    obtain ⟨v, rfl, r⟩ := hr.one
    obtain ⟨a, us, rfl, q1, r1⟩ := r.sqL
    exact .inl ⟨a, us, rfl, .inl (by rw [hK]; exact q1), fun p hp => let ⟨o1, o2⟩ := olst r1 hp; hq p _ hp o1 o2⟩
  · cases hf
    obtain ⟨v, rfl, r⟩ := hr.one
    obtain ⟨a, us, rfl, q1, r1⟩ := r.sqT
    exact .inl ⟨a, us, rfl, .inr (by rw [hK]; exact q1), fun p hp => let ⟨o1, o2⟩ := olst r1 hp; hq p _ hp o1 o2⟩
  · cases hf
    obtain ⟨v, rfl, r⟩ := hr.one
    obtain ⟨a, kvs, rfl, q1, r1⟩ := r.rdD
    exact .inr ⟨a, kvs, rfl, .inl q1, fun p hp => let ⟨o1, o2⟩ := olst (keys_reps r1) hp; hq p _ hp o1 o2⟩
  · cases hf
def dictF : List T → Option T
  | [.dic kvs] => some (.dic kvs)
  | _ => none
theorem c_dict : CallF X w (.type "dict") dictF := by
  refine ⟨_, call_dictD, fun g H A ts y vs Q hr _ hf hq => ?_⟩
  unfold dictF at hf
  split at hf
  · cases hf
    obtain ⟨v, rfl, r⟩ := hr.one
    obtain ⟨a, kvs, rfl, q1, r1⟩ := r.rdD
    exact ⟨a, kvs, rfl, .inl q1, fun p hp => let ⟨o1, o2⟩ := odic r1 hp; hq p _ hp o1 o2⟩
  · cases hf
/-- ints in order -/
def sortI (ns : List Int) : List Int := ns.mergeSort fun a b => decide (a ≤ b)
theorem sortI_perm (ns : List Int) : (sortI ns).Perm ns := List.mergeSort_perm ns _
theorem sortI_sorted (ns : List Int) : (sortI ns).Pairwise (· ≤ ·) := by
  have h := List.pairwise_mergeSort (le := fun a b : Int => decide (a ≤ b)) (fun a b c h1 h2 => by simp at *; omega) (fun a b => by simp; omega) ns
  exact h.imp fun {a b} q => by simpa using q
theorem sorted_unique {xs ys : List Int} (hp : xs.Perm ys) (hx : xs.Pairwise (· ≤ ·)) (hy : ys.Pairwise (· ≤ ·)) : xs = ys := hp.eq_of_pairwise (fun a b _ _ h1 h2 => Int.le_antisymm h1 h2) hx hy
def sortedF : List T → Option T
  | [.lst xs] => (intsT xs).map fun ns => .lst ((sortI ns).map T.int)
  | _ => none
theorem c_sorted (hK : X.K = w.K := by rfl) : CallF X w (.builtin "sorted") sortedF := by
  refine ⟨_, cr_sortedI, fun g H A ts y vs Q hr _ hf hq => ?_⟩
  unfold sortedF at hf
  split at hf
  · rename_i xs
    cases q : intsT xs with
    | none => rw [q] at hf; cases hf
    | some ns =>
      rw [q] at hf
      cases hf
      obtain ⟨v, rfl, r⟩ := hr.one
      obtain ⟨a, us, rfl, q1, r1⟩ := r.sqL
      rw [intsT_some q] at r1
      have e := ints_reps r1
      subst e
      refine ⟨a, ns, rfl, by rw [hK]; exact q1, fun ns' p h1 h2 hp => ?_⟩
      have e2 : ns' = sortI ns := sorted_unique (h1.trans (sortI_perm ns).symm) h2 (sortI_sorted ns)
      subst e2
      obtain ⟨o1, o2⟩ := olst (reps_ints (sortI ns)) hp
      exact hq p _ hp o1 o2
  · cases hf

/-! ### slices -/
def mPart (m : M T) : M (Option Int) := bindM m fun t => match t with
  | .int i => fun ρ => .ok (some i) ρ
  | _ => fun _ => .bad
def mNoPart : M (Option Int) := fun ρ => .ok none ρ
/-- a slice's part -/
def rdO (w : Wd) (H0 : En) (W : WX) (m : M (Option Int)) : TO := fun σ H Q => ∃ g A ρ, SR w g H0 H A ρ σ ∧ match m ρ with
  | .ok t ρ' => ∀ A' H', (∀ a, A' a → A a) → Kp (DD g) H H' → SR w g H0 H' A' ρ' σ → Q t H'
  | .ex c f ρ' => ∀ A' H' cls d, (∀ a, A' a → A a) → SR w g H0 H' A' ρ' σ → XRep w g H' A' c f cls d → W cls d σ H'
  | .bad => False
theorem PO.imp {o : Option Expr} {t t' : TO} (h : PO X o t) (k : ∀ σ H Q, t' σ H Q → t σ H Q) : PO X o t' := ⟨fun pins s σ H Q I q => h.run pins s σ H Q I (k σ H Q q)⟩
theorem o_none : PO X none (rdO w H0 W mNoPart) := PO.imp po_none fun σ H Q q => by
  obtain ⟨g, A, ρ, S, q⟩ := q
  exact q A H (fun _ z => z) Kp.refl S
theorem o_some {m : M T} (h : PE X e (rdL w H0 W m)) : PO X (some e) (rdO w H0 W (mPart m)) := PO.imp (po_some h) fun σ H Q q => by
  obtain ⟨g, A, ρ, S, q⟩ := q
  refine ⟨g, A, ρ, S, ?_⟩
  unfold mPart bindM at q
  cases e1 : m ρ with
  | bad => rw [e1] at q; exact q.elim
  | ex c f ρ1 => rw [e1] at q; exact q
  | ok t ρ1 =>
    simp only [e1] at q
    intro A1 H1 v1 a1 k1 S1 r1
    cases t with
    | int i => exact ⟨i, r1.int, q A1 H1 a1 k1 S1⟩
    | _ => exact False.elim q
def cutT (xs : List T) (lo hi : Option Int) : List T := (xs.drop (HT.sIx xs.length 0 lo)).take (HT.sIx xs.length xs.length hi - HT.sIx xs.length 0 lo)
theorem cut_reps {g : DG} {H : Hp} {A : Addr → Prop} {ts : List T} {vs : List V} (h : VReps w g H A ts vs) (lo hi : Option Int) : VReps w g H A (cutT ts lo hi) (cutV vs lo hi) := by
  unfold cutT cutV
  rw [h.length]
  exact (h.drop _).take _
def slT : T → Option Int → Option Int → Option T
  | .lst xs, lo, hi => some (.lst (cutT xs lo hi))
  | .tup xs, lo, hi => some (.tup (cutT xs lo hi))
  | _, _, _ => none
def mSl (ma : M T) (ml mh : M (Option Int)) : M T := bindM ma fun t => bindM ml fun lo => bindM mh fun hi => match slT t lo hi with
  | some y => fun ρ => .ok y ρ
  | none => fun _ => .bad
theorem cut_whole {ts : List T} {lo hi : Option Int} (h : HT.sIx ts.length 0 lo = 0 ∧ HT.sIx ts.length ts.length hi = ts.length) : cutT ts lo hi = ts := by
  unfold cutT
  rw [h.1, h.2]
  simp
/-- a slice of a list or a tuple, shared -/
theorem sl_core {r : V → Option Int → Option Int → Hp → VK → Prop} {ma : M T} {ml mh : M (Option Int)}
    (hr : ∀ (g : DG) (H : Hp) (A : Addr → Prop) (t y : T) (v : V) (lo hi : Option Int) (Q : VK), LRep w g H A t v → (∀ a, A a → H a ≠ none) → slT t lo hi = some y → (∀ H' z, KpS H H' → VRep w g H' A y z → Q z H') → r v lo hi H Q)
    {σ : L2.St} {H : Hp} {Q : VK} (h : rdE w H0 W (mSl ma ml mh) σ H Q) : tSl r (rdL w H0 W ma) (rdO w H0 W ml) (rdO w H0 W mh) σ H Q := by
  obtain ⟨g, A, ρ, S, h⟩ := h
  refine ⟨g, A, ρ, S, ?_⟩
  unfold mSl bindM at h
  cases e1 : ma ρ with
  | bad => rw [e1] at h; exact h.elim
  | ex c f ρ1 => rw [e1] at h; exact h
  | ok t ρ1 =>
    simp only [e1] at h
    intro A1 H1 v1 a1 k1 S1 r1
    refine ⟨g, A1, ρ1, S1, ?_⟩
    cases e2 : ml ρ1 with
    | bad => simp only [e2] at h
    | ex c f ρ2 => simp only [e2] at h; exact fun A2 H2 cls d a2 => h A2 H2 cls d fun a z => a1 a (a2 a z)
    | ok lo ρ2 =>
      simp only [e2] at h
      intro A2 H2 a2 k2 S2
      refine ⟨g, A2, ρ2, S2, ?_⟩
      cases e3 : mh ρ2 with
      | bad => simp only [e3] at h
      | ex c f ρ3 => simp only [e3] at h; exact fun A3 H3 cls d a3 => h A3 H3 cls d fun a z => a1 a (a2 a (a3 a z))
      | ok hi ρ3 =>
        simp only [e3] at h
        intro A3 H3 a3 k3 S3
        cases e4 : slT t lo hi with
        | none => simp only [e4] at h
        | some y =>
          simp only [e4] at h
          refine hr g H3 A3 t y v1 lo hi Q ((r1.next a2 S1.dA k2).next a3 S2.dA k3) S3.aT e4 fun H4 z k4 rz => ?_
          exact h A3 H4 z (fun a q => a1 a (a2 a (a3 a q))) (((k1.trans k2).trans k3).trans (k4.mono fun _ q => q.elim)) (S3.same k4) rz
theorem e_sl {lo hi : Option Expr} {ma : M T} {ml mh : M (Option Int)} (ha : PE X a (rdL w H0 W ma)) (hl : PO X lo (rdO w H0 W ml)) (hh : PO X hi (rdO w H0 W mh)) (hK : X.K = w.K := by rfl) :
    PE X (.Subscript a (.Slice lo hi none p2) pos) (rdE w H0 W (mSl ma ml mh)) :=
  (pe_slice (sl_list.or sl_tupA) ha hl hh).imp fun σ H Q h => sl_core (fun g H A t y v lo hi Q ht haT hf hq => by
    unfold slT at hf
    split at hf
    · cases hf
      obtain ⟨p, vs, rfl, q1, r1⟩ := ht.sqL
      exact .inl ⟨p, vs, rfl, by rw [hK]; exact q1, fun q hq2 => hq _ _ (Kp.new hq2) (VRep.newLst (cut_reps r1 _ _) hq2 (fun z => haT q z hq2))⟩
    · rename_i xs _ _
      cases hf
      obtain ⟨p, vs, rfl, q1, r1⟩ := ht.sqT
      refine .inr ⟨p, vs, rfl, by rw [hK]; exact q1, fun hw => ?_, fun _ q hq2 => hq _ _ (Kp.new hq2) (VRep.newTup (cut_reps r1 _ _) hq2)⟩
      rw [← r1.length] at hw
      have := hq H (.ref p) Kp.refl
      rw [cut_whole hw] at this
      exact this (.tup q1 r1)
    · cases hf) h
/-- xs[::-1] of a list -/
def revF : T → Option T
  | .lst xs => some (.lst xs.reverse)
  | _ => none
theorem e_rev {k : Nat} {p1 p2 p3 : Pos} {m : M T} (ha : PE X a (rdL w H0 W m)) (hK : X.K = w.K := by rfl) : PE X (.Subscript a (.Slice none none (some (.UnaryOp .USub (.Constant (.int 1) k p1) p2)) p3) pos) (rdE w H0 W (mUn revF m)) :=
  (pe_revL ha).imp fun σ H Q h => un_core (r := fun x H1 Q => ∃ a xs, x = .ref a ∧ SqL X.K H1 a xs ∧ ∀ p, H1 p = none → Q (.ref p) (upd H1 p (.lst xs.reverse))) (fun g H A t y v Q ht haT hf hq => by
    cases t <;> first | (simp [revF] at hf; done) | skip
    simp only [revF] at hf
    cases hf
    obtain ⟨p, vs, rfl, q1, r1⟩ := ht.sqL
    exact ⟨p, vs, rfl, by rw [hK]; exact q1, fun q hq2 => hq _ _ (Kp.new hq2) (VRep.newLst r1.reverse hq2 fun z => haT q z hq2)⟩) h
end
end MP
end

section
set_option Elab.async false
set_option linter.all false
set_option maxRecDepth 100000
/-! MP7: statements. -/
namespace MP
open PySem PySem.Spec L2

section
variable {w : Wd} {g : DG} {H0 : En} {H H' : Hp} {A A' : Addr → Prop} {ρ : Ev} {σ : L2.St}
/-- a slot is set to something shared -/
theorem SR.set (S : SR w g H0 H A ρ σ) {i : Nat} {t : T} {v : V} (r : VRep w g H A t v) : SR w g H0 H A (setSl ρ i (some (false, t))) (σ.set i (some v)) := by
  have gs : ∀ {j : Nat} {o : Option (Bool × T)}, (setSl ρ i (some (false, t))).sl[j]? = some o → (j = i ∧ o = some (false, t) ∧ i < ρ.sl.length) ∨ (j ≠ i ∧ ρ.sl[j]? = some o) := fun {j o} e => by
    have e : (ρ.sl.set i (some (false, t)))[j]? = some o := e
    by_cases c : j = i
    · subst c
      by_cases hi : j < ρ.sl.length
      · rw [List.getElem?_set_self hi] at e
        exact .inl ⟨rfl, (Option.some.inj e).symm, hi⟩
      · rw [List.getElem?_eq_none (by rw [List.length_set]; omega)] at e
        cases e
    · rw [List.getElem?_set_ne (Ne.symm c)] at e
      exact .inr ⟨c, e⟩
  refine ⟨by show (ρ.sl.set i _).length = _; rw [List.length_set, List.length_set]; exact S.len, S.up, fun j u e => ?_, fun j u e => ?_, fun j k u u' b hjk ej ek h1 => ?_, S.draw, S.dA, S.aT, S.fr⟩
  · rcases gs e with ⟨rfl, e2, hi⟩ | ⟨c, e2⟩
    · cases e2
      exact ⟨v, List.getElem?_set_self (by rw [← S.len]; exact hi), r⟩
    · obtain ⟨x, h1, h2⟩ := S.sh j u e2
      exact ⟨x, by rw [List.getElem?_set_ne (Ne.symm c)]; exact h1, h2⟩
  · rcases gs e with ⟨_, e2, _⟩ | ⟨c, e2⟩
    · cases e2
    · obtain ⟨x, h1, h2⟩ := S.own j u e2
      exact ⟨x, by rw [List.getElem?_set_ne (Ne.symm c)]; exact h1, h2⟩
  · rcases gs ej with ⟨_, e2, _⟩ | ⟨c, e2⟩
    · cases e2
    · rcases gs ek with ⟨_, e3, _⟩ | ⟨c', e3⟩
      · cases e3
      · rw [List.getElem?_set_ne (Ne.symm c)] at h1
        rw [List.getElem?_set_ne (Ne.symm c')]
        exact S.apart j k u u' b hjk e2 e3 h1
/-- .. to an object of one's own that no other slot has -/
theorem SR.setOwn (S : SR w g H0 H A ρ σ) {i : Nat} {t : T} {a : Addr} (r : ORep w g H A t a) (ha : A a) (nd : ¬ DD g a) (h0 : H0.New a) (ap : ∀ (j : Nat) (u : T), j ≠ i → ρ.sl[j]? = some (some (true, u)) → σ[j]? ≠ some (some (V.ref a))) :
    SR w g H0 H A (setSl ρ i (some (true, t))) (σ.set i (some (.ref a))) := by
  have gs : ∀ {j : Nat} {o : Option (Bool × T)}, (setSl ρ i (some (true, t))).sl[j]? = some o → (j = i ∧ o = some (true, t) ∧ i < ρ.sl.length) ∨ (j ≠ i ∧ ρ.sl[j]? = some o) := fun {j o} e => by
    have e : (ρ.sl.set i (some (true, t)))[j]? = some o := e
    by_cases c : j = i
    · subst c
      by_cases hi : j < ρ.sl.length
      · rw [List.getElem?_set_self hi] at e
        exact .inl ⟨rfl, (Option.some.inj e).symm, hi⟩
      · rw [List.getElem?_eq_none (by rw [List.length_set]; omega)] at e
        cases e
    · rw [List.getElem?_set_ne (Ne.symm c)] at e
      exact .inr ⟨c, e⟩
  refine ⟨by show (ρ.sl.set i _).length = _; rw [List.length_set, List.length_set]; exact S.len, S.up, fun j u e => ?_, fun j u e => ?_, fun j k u u' b hjk ej ek h1 => ?_, S.draw, S.dA, S.aT, S.fr⟩
  · rcases gs e with ⟨_, e2, _⟩ | ⟨c, e2⟩
    · cases e2
    · obtain ⟨x, h1, h2⟩ := S.sh j u e2
      exact ⟨x, by rw [List.getElem?_set_ne (Ne.symm c)]; exact h1, h2⟩
  · rcases gs e with ⟨rfl, e2, hi⟩ | ⟨c, e2⟩
    · cases e2
      exact ⟨a, List.getElem?_set_self (by rw [← S.len]; exact hi), r, ha, nd, h0⟩
    · obtain ⟨x, h1, h2⟩ := S.own j u e2
      exact ⟨x, by rw [List.getElem?_set_ne (Ne.symm c)]; exact h1, h2⟩
  · rcases gs ej with ⟨rfl, e2, hi⟩ | ⟨c, e2⟩
    · rw [List.getElem?_set_self (by rw [← S.len]; exact hi)] at h1
      have eb : a = b := by cases h1; rfl
      subst eb
      rcases gs ek with ⟨z, _⟩ | ⟨c', e3⟩
      · exact absurd z.symm hjk
      · rw [List.getElem?_set_ne (Ne.symm c')]
        exact ap k u' c' e3
    · rw [List.getElem?_set_ne (Ne.symm c)] at h1
      rcases gs ek with ⟨rfl, _, hi⟩ | ⟨c', e3⟩
      · rw [List.getElem?_set_self (by rw [← S.len]; exact hi)]
        intro z
        have eb : a = b := by cases z; rfl
        subst eb
        exact ap j u c e2 h1
      · rw [List.getElem?_set_ne (Ne.symm c')]
        exact S.apart j k u u' b hjk e2 e3 h1
/-- a slot is forgotten -/
theorem SR.wipe1 (S : SR w g H0 H A ρ σ) (i : Nat) (o : Option V) : SR w g H0 H A (setSl ρ i none) (σ.set i o) := by
  have gs : ∀ {j : Nat} {p : Bool × T}, (setSl ρ i none).sl[j]? = some (some p) → j ≠ i ∧ ρ.sl[j]? = some (some p) := fun {j p} e => by
    have e : (ρ.sl.set i none)[j]? = some (some p) := e
    by_cases c : j = i
    · subst c
      by_cases hi : j < ρ.sl.length
      · rw [List.getElem?_set_self hi] at e
        cases e
      · rw [List.getElem?_eq_none (by rw [List.length_set]; omega)] at e
        cases e
    · rw [List.getElem?_set_ne (Ne.symm c)] at e
      exact ⟨c, e⟩
  refine ⟨by show (ρ.sl.set i _).length = _; rw [List.length_set, List.length_set]; exact S.len, S.up, fun j u e => ?_, fun j u e => ?_, fun j k u u' b hjk ej ek h1 => ?_, S.draw, S.dA, S.aT, S.fr⟩
  · obtain ⟨c, e2⟩ := gs e
    obtain ⟨x, h1, h2⟩ := S.sh j u e2
    exact ⟨x, by rw [List.getElem?_set_ne (Ne.symm c)]; exact h1, h2⟩
  · obtain ⟨c, e2⟩ := gs e
    obtain ⟨x, h1, h2⟩ := S.own j u e2
    exact ⟨x, by rw [List.getElem?_set_ne (Ne.symm c)]; exact h1, h2⟩
  · obtain ⟨c, e2⟩ := gs ej
    obtain ⟨c', e3⟩ := gs ek
    rw [List.getElem?_set_ne (Ne.symm c)] at h1
    rw [List.getElem?_set_ne (Ne.symm c')]
    exact S.apart j k u u' b hjk e2 e3 h1
theorem SR.new0 (S : SR w g H0 H A ρ σ) {p : Addr} (hp : H p = none) : H0.New p := ⟨S.unseen S.fr hp, fun z => S.aT p (S.up p z) hp⟩
end

section
variable {X : Cx} {w : Wd} {H0 : En} {W : WX} {e a b c : Expr} {es rest : List Expr} {pos p2 p : Pos} {st : Stmt} {sts : List Stmt}
/-! ### blocks -/
def mSeq (m n : SM) : SM := fun ρ => match m ρ with
  | .nx ρ1 => n ρ1
  | r => r
def mSkip : SM := fun ρ => .nx ρ
theorem rdS_nx {D : Ends} {σ : L2.St} {H : Hp} (h : rdS w H0 W mSkip D σ H) : D.nx σ H := by
  obtain ⟨g, A, ρ, S, h⟩ := h
  exact h A H σ Pe.refl S
theorem s_nil : PSs X [] (rdS w H0 W mSkip) := pss_nil.imp fun D σ H h => rdS_nx h
theorem rdS_at {k : SM} {g : DG} {A A1 : Addr → Prop} {ρ1 : Ev} {H H1 : Hp} {D : Ends} {σ1 : L2.St} (S1 : SR w g H0 H1 A1 ρ1 σ1) (x : Pe w g H A H1 A1)
    (h : match k ρ1 with
      | .nx ρ' => ∀ A' H' σ', Pe w g H A H' A' → SR w g H0 H' A' ρ' σ' → D.nx σ' H'
      | .bk ρ' => ∀ A' H' σ', Pe w g H A H' A' → SR w g H0 H' A' ρ' σ' → D.bk σ' H'
      | .ct ρ' => ∀ A' H' σ', Pe w g H A H' A' → SR w g H0 H' A' ρ' σ' → D.ct σ' H'
      | .rt fr t ρ' => ∀ A' H' σ' v, SR w g H0 H' A' ρ' σ' → RetRep w H0 g H' A' fr t v → D.rt v H'
      | .ex c f ρ' => ∀ A' H' σ' cls d, SR w g H0 H' A' ρ' σ' → XRep w g H' A' c f cls d → W cls d σ' H'
      | .bad => False) : rdS w H0 W k D σ1 H1 := by
  refine ⟨g, A1, ρ1, S1, ?_⟩
  cases e : k ρ1 with
  | nx ρ2 => rw [e] at h; exact fun A' H' σ' y => h A' H' σ' (x.trans y)
  | bk ρ2 => rw [e] at h; exact fun A' H' σ' y => h A' H' σ' (x.trans y)
  | ct ρ2 => rw [e] at h; exact fun A' H' σ' y => h A' H' σ' (x.trans y)
  | rt fr t ρ2 => rw [e] at h; exact h
  | ex c f ρ2 => rw [e] at h; exact h
  | bad => rw [e] at h; exact h
theorem s_cons {m n : SM} (h : PS X st (rdS w H0 W m)) (hs : PSs X sts (rdS w H0 W n)) : PSs X (st :: sts) (rdS w H0 W (mSeq m n)) := (pss_cons h hs).imp fun D σ H q => by
  obtain ⟨g, A, ρ, S, q⟩ := q
  refine ⟨g, A, ρ, S, ?_⟩
  unfold mSeq at q
  cases e1 : m ρ with
  | nx ρ1 =>
    rw [e1] at q
    exact fun A' H' σ' P' S' => rdS_at S' P' q
  | bk ρ1 => rw [e1] at q; exact q
  | ct ρ1 => rw [e1] at q; exact q
  | rt fr t ρ1 => rw [e1] at q; exact q
  | ex c f ρ1 => rw [e1] at q; exact q
  | bad => rw [e1] at q; exact q
theorem s_one {m : SM} (h : PS X st (rdS w H0 W m)) : PSs X [st] (rdS w H0 W m) := pss_one h
theorem s_pass : PS X (.Pass pos) (rdS w H0 W mSkip) := ps_pass.imp fun D σ H h => rdS_nx h
theorem s_break : PS X (.Break pos) (rdS w H0 W fun ρ => .bk ρ) := ps_break.imp fun D σ H ⟨g, A, ρ, S, h⟩ => h A H σ Pe.refl S
theorem s_continue : PS X (.Continue pos) (rdS w H0 W fun ρ => .ct ρ) := ps_continue.imp fun D σ H ⟨g, A, ρ, S, h⟩ => h A H σ Pe.refl S
theorem s_doc {x j pos'} : PS X (.Expr (.Constant (.str x) j pos) pos') (rdS w H0 W mSkip) := ps_doc.imp fun D σ H h => rdS_nx h
def mIfS (c : M Bool) (m n : SM) : SM := fun ρ => match c ρ with
  | .ok true ρ1 => m ρ1
  | .ok false ρ1 => n ρ1
  | .ex c f ρ1 => .ex c f ρ1
  | .bad => .bad
theorem rdS_ex {g : DG} {A : Addr → Prop} {D : Ends} {σ : L2.St} {c : Nat} {f : Option (Str × T)} {ρ1 : Ev} (q : ∀ A' H' σ' cls d, SR w g H0 H' A' ρ1 σ' → XRep w g H' A' c f cls d → W cls d σ' H') :
    ∀ A' H' cls d, (∀ a, A' a → A a) → SR w g H0 H' A' ρ1 σ → XRep w g H' A' c f cls d → W cls d σ H' := fun A' H' cls d _ => q A' H' σ cls d
theorem s_if {sa sb : List Stmt} {mc : M Bool} {m n : SM} (hc : PT X c (rdT w H0 W mc)) (ha : PSs X sa (rdS w H0 W m)) (hb : PSs X sb (rdS w H0 W n)) : PS X (.If c sa sb pos) (rdS w H0 W (mIfS mc m n)) := (ps_if hc ha hb).imp fun D σ H q => by
  obtain ⟨g, A, ρ, S, q⟩ := q
  refine ⟨g, A, ρ, S, ?_⟩
  unfold mIfS at q
  cases e1 : mc ρ with
  | bad => rw [e1] at q; exact q
  | ex c f ρ1 => rw [e1] at q; exact rdS_ex (D := D) q
  | ok t ρ1 =>
    rw [e1] at q
    intro A1 H1 a1 k1 S1
    cases t with
    | true => exact rdS_at S1 (Pe.of a1 (k1.mono S.dA)) q
    | false => exact rdS_at S1 (Pe.of a1 (k1.mono S.dA)) q
/-! ### an expression's value, used -/
def mThen (m : M T) (k : T → Ev → SO) : SM := fun ρ => match m ρ with
  | .ok t ρ1 => k t ρ1
  | .ex c f ρ1 => .ex c f ρ1
  | .bad => .bad
abbrev mDrop (m : M T) : SM := mThen m fun _ ρ => .nx ρ
abbrev mSet (i : Nat) (m : M T) : SM := mThen m fun t ρ => .nx (setSl ρ i (some (false, t)))
abbrev mOwn (i : Nat) (m : M T) : SM := mThen m fun t ρ => .nx (setSl ρ i (some (true, t)))
abbrev mRet (m : M T) : SM := mThen m fun t ρ => .rt false t ρ
abbrev mRetF (m : M T) : SM := mThen m fun t ρ => .rt true t ρ
theorem s_drop {m : M T} (he : PE X e (rdL w H0 W m)) (hs : swapsWith e none pos.line X.env = pure false := by rfl) : PS X (.Expr e pos) (rdS w H0 W (mDrop m)) := (ps_expr he hs).imp fun D σ H q => by
  obtain ⟨g, A, ρ, S, q⟩ := q
  refine ⟨g, A, ρ, S, ?_⟩
  unfold mDrop mThen at q
  cases e1 : m ρ with
  | bad => rw [e1] at q; exact q
  | ex c f ρ1 => rw [e1] at q; exact rdS_ex (D := D) q
  | ok t ρ1 =>
    simp only [e1] at q
    exact fun A1 H1 v a1 k1 S1 r1 => q A1 H1 σ (Pe.of a1 (k1.mono S.dA)) S1
theorem s_set {i : Nat} {x : Str} {pos' : Pos} {m : M T} (hN : X.N.Nodup) (hi : X.N[i]? = some x) (hx : Loc X.env.scope x) (he : PE X e (rdE w H0 W m)) (hs : swapsWith e (some (.Name x pos')) pos.line X.env = pure false := by rfl) (hf : X.fn x = true ∨ X.env.scope.names.lookup x = some .local := by first | exact .inl rfl | exact .inr rfl | assumption) :
    PS X (.Assign [.Name x pos'] e pos) (rdS w H0 W (mSet i m)) := (ps_set hN hi hx he hs hf).imp fun D σ H q => by
  obtain ⟨g, A, ρ, S, q⟩ := q
  refine ⟨g, A, ρ, S, ?_⟩
  unfold mSet mThen at q
  cases e1 : m ρ with
  | bad => rw [e1] at q; exact q
  | ex c f ρ1 => rw [e1] at q; exact rdS_ex (D := D) q
  | ok t ρ1 =>
    simp only [e1] at q
    exact fun A1 H1 v a1 k1 S1 r1 => q A1 H1 _ (Pe.of a1 (k1.mono S.dA)) (S1.set r1)
theorem own_core {i : Nat} {m : M T} {D : Ends} {σ : L2.St} {H : Hp} (q : rdS w H0 W (mOwn i m) D σ H) : rdF w H0 W m σ H fun x H1 => D.nx (σ.set i (some x)) H1 := by
  obtain ⟨g, A, ρ, S, q⟩ := q
  refine ⟨g, A, ρ, S, ?_⟩
  unfold mOwn mThen at q
  cases e1 : m ρ with
  | bad => rw [e1] at q; exact q
  | ex c f ρ1 => rw [e1] at q; exact rdS_ex (D := D) q
  | ok t ρ1 =>
    simp only [e1] at q
    intro A1 H1 a a1 k1 hn S1 S2 r1
    have na : ¬ A1 a := fun z => S.aT a (a1 a z) hn
    have nd : ¬ DD g a := fun z => S.aT a (S.dA a z) hn
    refine q _ H1 _ (Pe.grow a1 (k1.mono S.dA) hn) (S2.setOwn r1 (.inr rfl) nd (S.new0 hn) fun j u hj ej z => ?_)
    obtain ⟨b, q1, _, q3, _⟩ := S1.own j u ej
    rw [q1] at z
    cases z
    exact na q3
theorem set_coreF {i : Nat} {m : M T} {D : Ends} {σ : L2.St} {H : Hp} (q : rdS w H0 W (mSet i m) D σ H) : rdF w H0 W m σ H fun x H1 => D.nx (σ.set i (some x)) H1 := by
  obtain ⟨g, A, ρ, S, q⟩ := q
  refine ⟨g, A, ρ, S, ?_⟩
  unfold mSet mThen at q
  cases e1 : m ρ with
  | bad => rw [e1] at q; exact q
  | ex c f ρ1 => rw [e1] at q; exact rdS_ex (D := D) q
  | ok t ρ1 =>
    simp only [e1] at q
    intro A1 H1 a a1 k1 hn S1 S2 r1
    have na : ¬ A1 a := fun z => S.aT a (a1 a z) hn
    exact q A1 H1 _ (Pe.of a1 (k1.mono S.dA)) (S1.set (r1.share (fun b z => .inl z) na))
theorem s_own {i : Nat} {x : Str} {pos' : Pos} {m : M T} (hN : X.N.Nodup) (hi : X.N[i]? = some x) (hx : Loc X.env.scope x) (he : PE X e (rdF w H0 W m)) (hs : swapsWith e (some (.Name x pos')) pos.line X.env = pure false := by rfl) (hf : X.fn x = true ∨ X.env.scope.names.lookup x = some .local := by first | exact .inl rfl | exact .inr rfl | assumption) :
    PS X (.Assign [.Name x pos'] e pos) (rdS w H0 W (mOwn i m)) := (ps_set hN hi hx he hs hf).imp fun D σ H q => by
  obtain ⟨g, A, ρ, S, q⟩ := q
  refine ⟨g, A, ρ, S, ?_⟩
  unfold mOwn mThen at q
  cases e1 : m ρ with
  | bad => rw [e1] at q; exact q
  | ex c f ρ1 => rw [e1] at q; exact rdS_ex (D := D) q
  | ok t ρ1 =>
    simp only [e1] at q
    intro A1 H1 a a1 k1 hn S1 S2 r1
    have na : ¬ A1 a := fun z => S.aT a (a1 a z) hn
    have nd : ¬ DD g a := fun z => S.aT a (S.dA a z) hn
    refine q _ H1 _ (Pe.grow a1 (k1.mono S.dA) hn) (S2.setOwn r1 (.inr rfl) nd (S.new0 hn) fun j u hj ej z => ?_)
    obtain ⟨b, q1, _, q3, _⟩ := S1.own j u ej
    rw [q1] at z
    cases z
    exact na q3
theorem s_ret {m : M T} (he : PE X e (rdE w H0 W m)) : PS X (.Return (some e) pos) (rdS w H0 W (mRet m)) := (ps_ret he).imp fun D σ H q => by
  obtain ⟨g, A, ρ, S, q⟩ := q
  refine ⟨g, A, ρ, S, ?_⟩
  unfold mRet mThen at q
  cases e1 : m ρ with
  | bad => rw [e1] at q; exact q
  | ex c f ρ1 => rw [e1] at q; exact rdS_ex (D := D) q
  | ok t ρ1 =>
    simp only [e1] at q
    exact fun A1 H1 v a1 k1 S1 r1 => q A1 H1 σ v S1 r1
theorem s_retF {m : M T} (he : PE X e (rdF w H0 W m)) : PS X (.Return (some e) pos) (rdS w H0 W (mRetF m)) := (ps_ret he).imp fun D σ H q => by
  obtain ⟨g, A, ρ, S, q⟩ := q
  refine ⟨g, A, ρ, S, ?_⟩
  unfold mRetF mThen at q
  cases e1 : m ρ with
  | bad => rw [e1] at q; exact q
  | ex c f ρ1 => rw [e1] at q; exact rdS_ex (D := D) q
  | ok t ρ1 =>
    simp only [e1] at q
    exact fun A1 H1 a a1 k1 hn S1 S2 r1 => q A1 H1 σ _ S1 ⟨a, rfl, (S.new0 hn).1, r1⟩
/-- a name's value is handed back: if it is one's own, it is new to the caller -/
def mRetV (i : Nat) : SM := fun ρ => match ρ.sl[i]? with
  | some (some (fl, t)) => .rt fl t (setSl ρ i none)
  | _ => .bad
theorem s_retV {x : Str} (i : Nat) (hN : X.N[i]? = some x := by rfl) (hv : Vis X.env.scope x := by first | exact Or.inl rfl | exact Or.inr (Or.inl rfl) | exact Or.inr (Or.inr rfl)) (hd : (x == ("__debug__" : Str)) = false := by decide)
    (hcd : (x == ("__classdict__" : Str)) = false := by decide) : PS X (.Return (some (.Name x p2)) pos) (rdS w H0 W (mRetV i)) := (ps_ret (pe_var hN hv hd hcd)).imp fun D σ H q => by
  obtain ⟨g, A, ρ, S, q⟩ := q
  unfold mRetV at q
  cases e : ρ.sl[i]? with
  | none => rw [e] at q; exact q.elim
  | some o =>
    cases o with
    | none => rw [e] at q; exact q.elim
    | some pr =>
      obtain ⟨fl, t⟩ := pr
      rw [e] at q
      cases fl with
      | false =>
        obtain ⟨v, h1, h2⟩ := S.sh i t e
        exact ⟨v, h1, q A H _ v (S.wipe1 i none) h2⟩
      | true =>
        obtain ⟨a, h1, h2, h3, h4, h5⟩ := S.own i t e
        have S2 := S.wipe1 i none
        have S3 : SR w g H0 H (fun b => A b ∧ b ≠ a) (setSl ρ i none) (σ.set i none) := S2.less (fun b z => z.1) (fun b hb => ⟨S.dA b hb, fun z => h4 (z ▸ hb)⟩) (fun b hb => ⟨S.up b hb, fun z => h5.2 (z ▸ hb)⟩) fun j u b ej e2 => by
          obtain ⟨b', q1, _, q3, _⟩ := S2.own j u ej
          rw [e2] at q1
          obtain rfl : b = b' := by cases q1; rfl
          refine ⟨q3, ?_⟩
          rintro rfl
          have hj : j ≠ i := by
            rintro rfl
            have ej : (ρ.sl.set j none)[j]? = some (some (true, u)) := ej
            rw [List.getElem?_set_self (List.getElem?_eq_some_iff.mp e).1] at ej
            cases ej
          have ej : (ρ.sl.set i none)[j]? = some (some (true, u)) := ej
          rw [List.getElem?_set_ne (Ne.symm hj)] at ej
          rw [List.getElem?_set_ne (Ne.symm hj)] at e2
          exact S.apart j i u t b hj ej e e2 h1
        refine ⟨_, h1, q _ H _ _ S3 ⟨a, rfl, h5.1, h2.weak fun b z => ?_⟩⟩
        rcases z with z | rfl
        · exact z.1
        · exact h3
theorem s_retN : PS X (.Return none pos) (rdS w H0 W fun ρ => .rt false .non ρ) := ps_retN.imp fun D σ H ⟨g, A, ρ, S, q⟩ => q A H σ .non S .non
end
end MP
end

section
set_option Elab.async false
set_option linter.all false
set_option maxRecDepth 100000
/-! MP8: targets, loops. -/
namespace MP
open PySem PySem.Spec L2

section
variable {X : Cx} {w : Wd} {H0 : En} {W : WX} {e a b c : Expr} {es rest : List Expr} {pos p2 p : Pos} {st : Stmt} {sts body : List Stmt} {tg : Expr}
/-! ### targets -/
abbrev Tgt := T → Ev → Option Ev
abbrev Tgts := List T → Ev → Option Ev
def rdG (w : Wd) (H0 : En) (f : Tgt) : TG := fun v σ H Q => ∃ g A ρ t, SR w g H0 H A ρ σ ∧ VRep w g H A t v ∧ match f t ρ with
  | some ρ' => ∀ A' H' σ', Pe w g H A H' A' → SR w g H0 H' A' ρ' σ' → Q σ' H'
  | none => False
def rdGs (w : Wd) (H0 : En) (f : Tgts) : TGs := fun vs σ H Q => ∃ g A ρ ts, SR w g H0 H A ρ σ ∧ VReps w g H A ts vs ∧ match f ts ρ with
  | some ρ' => ∀ A' H' σ', Pe w g H A H' A' → SR w g H0 H' A' ρ' σ' → Q σ' H'
  | none => False
def gN (i : Nat) : Tgt := fun t ρ => some (setSl ρ i (some (false, t)))
def gsNil : Tgts := fun ts ρ => match ts with
  | [] => some ρ
  | _ :: _ => none
def gsCons (f : Tgt) (fs : Tgts) : Tgts := fun ts ρ => match ts with
  | [] => none
  | t :: r => match f t ρ with
    | some ρ1 => fs r ρ1
    | none => none
def gT (fs : Tgts) : Tgt := fun t ρ => match t with
  | .tup ts => fs ts ρ
  | _ => none
theorem PG.imp {e : Expr} {t t' : TG} (h : PG X e t) (k : ∀ v σ H Q, t' v σ H Q → t v σ H Q) : PG X e t' := ⟨fun pins s σ H v u Q I r q => h.run pins s σ H v u Q I r (k v σ H Q q)⟩
theorem PGs.imp {e : List Expr} {t t' : TGs} (h : PGs X e t) (k : ∀ v σ H Q, t' v σ H Q → t v σ H Q) : PGs X e t' := ⟨fun pins s σ H v u Q I r q => h.run pins s σ H v u Q I r (k v σ H Q q)⟩
theorem g_name {i : Nat} {x : Str} (hN : X.N.Nodup) (hi : X.N[i]? = some x) (hx : Loc X.env.scope x) (hf : X.fn x = true ∨ X.env.scope.names.lookup x = some .local := by first | exact .inl rfl | exact .inr rfl | assumption) : PG X (.Name x pos) (rdG w H0 (gN i)) :=
  PG.imp (pg_name hN hi hx hf) fun v σ H Q q => by
    obtain ⟨g, A, ρ, t, S, r, q⟩ := q
    exact q A H _ Pe.refl (S.set r)
theorem gs_nil : PGs X [] (rdGs w H0 gsNil) := PGs.imp pgs_nil fun v σ H Q q => by
  obtain ⟨g, A, ρ, t, S, r, q⟩ := q
  cases r with
  | nil => exact ⟨rfl, q A H σ Pe.refl S⟩
  | cons _ _ => exact q.elim
theorem gs_cons {f : Tgt} {fs : Tgts} (h1 : PG X e (rdG w H0 f)) (h2 : PGs X es (rdGs w H0 fs)) (hs : (assignEach (e :: es) X.env).map (·.2) = assign e X.env :: (assignEach es X.env).map (·.2) := by rfl) : PGs X (e :: es) (rdGs w H0 (gsCons f fs)) :=
  PGs.imp (pgs_cons h1 h2 hs) fun v σ H Q q => by
    obtain ⟨g, A, ρ, t, S, r, q⟩ := q
    cases r with
    | nil => exact q.elim
    | @cons t v ts vs r rs =>
      refine ⟨_, _, rfl, g, A, ρ, t, S, r, ?_⟩
      simp only [gsCons] at q
      cases e1 : f t ρ with
      | none => simp only [e1] at q
      | some ρ1 =>
        simp only [e1] at q
        refine fun A1 H1 σ1 P1 S1 => ⟨g, A1, ρ1, ts, S1, P1.vrs rs, ?_⟩
        cases e2 : fs ts ρ1 with
        | none => rw [e2] at q; exact q
        | some ρ2 => rw [e2] at q; exact fun A2 H2 σ2 P2 S2 => q A2 H2 σ2 (P1.trans P2) S2
/-- the number of targets is told by their reading: n -/
def gTn (n : Nat) (fs : Tgts) : Tgt := fun t ρ => match t with
  | .tup ts => if ts.length = n then fs ts ρ else none
  | _ => none
theorem g_tup {k n : Nat} {fs : Tgts} (hc : X.calm = true) (h : PGs X es (rdGs w H0 fs)) (hn : (assignEach es X.env).length = n := by rfl) (hst : (assignEach es X.env).findIdx? (·.1) = none := by rfl) (hK : X.K = w.K := by rfl) : PG X (.Tuple es k pos) (rdG w H0 (gTn n fs)) :=
  PG.imp (pg_tup hc h hn hst) fun v σ H Q q => by
    obtain ⟨g, A, ρ, t, S, r, q⟩ := q
    cases t <;> first | (exact q.elim) | skip
    rename_i ts
    cases r with
    | @tup ts a vs h1 h2 =>
      by_cases hl : ts.length = n
      · rw [show gTn n fs (.tup ts) ρ = fs ts ρ from if_pos hl] at q
        exact ⟨a, vs, rfl, by rw [hK]; exact h1, by rw [← h2.length]; exact hl, g, A, ρ, ts, S, h2, q⟩
      · rw [show gTn n fs (.tup ts) ρ = none from if_neg hl] at q
        exact q.elim
/-- target = value -/
def mAsg (m : M T) (f : Tgt) : SM := mThen m fun t ρ => match f t ρ with
  | some ρ' => .nx ρ'
  | none => .bad
theorem s_asg {m : M T} {f : Tgt} (he : PE X e (rdE w H0 W m)) (hg : PG X tg (rdG w H0 f)) (hs : swapsWithSole [tg] e pos.line X.env = pure false := by rfl) (hw : swappedStores [tg] e X.env = pure none := by rfl)
    (h1 : (assignEach [tg] X.env).map (·.2) = [assign tg X.env] := by rfl) : PS X (.Assign [tg] e pos) (rdS w H0 W (mAsg m f)) := (ps_asg he hg hs hw h1).imp fun D σ H q => by
  obtain ⟨g, A, ρ, S, q⟩ := q
  refine ⟨g, A, ρ, S, ?_⟩
  unfold mAsg mThen at q
  cases e1 : m ρ with
  | bad => rw [e1] at q; exact q
  | ex c f ρ1 => rw [e1] at q; exact rdS_ex (D := D) q
  | ok t ρ1 =>
    simp only [e1] at q
    intro A1 H1 v a1 k1 S1 r1
    refine ⟨g, A1, ρ1, t, S1, r1, ?_⟩
    cases e2 : f t ρ1 with
    | none => simp only [e2] at q
    | some ρ2 =>
      simp only [e2] at q
      exact fun A2 H2 σ' P2 S' => q A2 H2 σ' ((Pe.of a1 (k1.mono S.dA)).trans P2) S'
/-- a, b = x, y with local names -/
def mPar2 (i j : Nat) (m : M (List T)) : SM := fun ρ => match m ρ with
  | .ok ts ρ1 => match ts with
    | [t, u] => .nx (setSl (setSl ρ1 i (some (false, t))) j (some (false, u)))
    | _ => .bad
  | .ex c f ρ1 => .ex c f ρ1
  | .bad => .bad
theorem s_par {i j : Nat} {x y : Str} {px py pt : Pos} {kt k2 pt2} {m : M (List T)} (hc : X.calm = true) (hN : X.N.Nodup) (hi : X.N[i]? = some x) (hj : X.N[j]? = some y) (hij : i ≠ j)
    (hx : X.env.scope.names.lookup x = some .local) (hy : X.env.scope.names.lookup y = some .local) (ha : PA X [a, b] (rdA w H0 W m))
    (hw : swappedStores [.Tuple [.Name x px, .Name y py] kt pt] (.Tuple [a, b] k2 pt2) X.env = pure (some [x, y]))
    (hs : swapsWithSole [.Tuple [.Name x px, .Name y py] kt pt] (.Tuple [a, b] k2 pt2) pos.line X.env = pure false := by rfl) :
    PS X (.Assign [.Tuple [.Name x px, .Name y py] kt pt] (.Tuple [a, b] k2 pt2) pos) (rdS w H0 W (mPar2 i j m)) := (ps_par hc hN hi hj hij hx hy ha hw hs).imp fun D σ H q => by
  obtain ⟨g, A, ρ, S, q⟩ := q
  refine ⟨g, A, ρ, S, ?_⟩
  unfold mPar2 at q
  cases e1 : m ρ with
  | bad => rw [e1] at q; exact q
  | ex c f ρ1 => rw [e1] at q; exact rdS_ex (D := D) q
  | ok ts ρ1 =>
    simp only [e1] at q
    intro A1 H1 vs a1 k1 S1 r1
    cases r1 with
    | nil => exact q.elim
    | cons r1 rs => cases rs with
      | nil => exact q.elim
      | cons r2 rs => cases rs with
        | nil => exact ⟨_, _, rfl, q A1 H1 _ (Pe.of a1 (k1.mono S.dA)) ((S1.set r1).set r2)⟩
        | cons r3 rs => exact q.elim

/-! ### while -/
def whileF (c : M Bool) (b : SM) : Nat → SM
  | 0, _ => .bad
  | n + 1, ρ => match c ρ with
    | .ok true ρ1 => match b ρ1 with
      | .nx ρ2 => whileF c b n ρ2
      | .ct ρ2 => whileF c b n ρ2
      | .bk ρ2 => .nx ρ2
      | r => r
    | .ok false ρ1 => .nx ρ1
    | .ex c f ρ1 => .ex c f ρ1
    | .bad => .bad
open Classical in
noncomputable def mWhile (c : M Bool) (b : SM) : SM := fun ρ => if h : ∃ n, whileF c b n ρ ≠ .bad then whileF c b (Classical.choose h) ρ else .bad
theorem whileF_succ {c : M Bool} {b : SM} : ∀ {n : Nat} {ρ : Ev}, whileF c b n ρ ≠ .bad → whileF c b (n + 1) ρ = whileF c b n ρ
  | 0, ρ, h => absurd rfl h
  | n + 1, ρ, h => by
    rw [whileF, whileF]
    rw [whileF] at h
    cases e : c ρ with
    | bad => rfl
    | ex c f ρ1 => rfl
    | ok t ρ1 =>
      cases t with
      | false => rfl
      | true =>
        simp only [e] at h ⊢
        cases e2 : b ρ1 with
        | nx ρ2 => simp only [e2] at h ⊢; exact whileF_succ h
        | ct ρ2 => simp only [e2] at h ⊢; exact whileF_succ h
        | bk ρ2 => rfl
        | rt fr t ρ2 => rfl
        | ex c f ρ2 => rfl
        | bad => rfl
theorem whileF_le {c : M Bool} {b : SM} {n m : Nat} {ρ : Ev} (h : whileF c b n ρ ≠ .bad) (hm : n ≤ m) : whileF c b m ρ = whileF c b n ρ := by
  induction hm with
  | refl => rfl
  | step _ ih => rw [whileF_succ (by rw [ih]; exact h)]; exact ih
theorem mWhile_of {c : M Bool} {b : SM} {n : Nat} {ρ : Ev} {r : SO} (h : whileF c b n ρ = r) (hr : r ≠ .bad) : mWhile c b ρ = r := by
  have hx : ∃ n, whileF c b n ρ ≠ .bad := ⟨n, by rw [h]; exact hr⟩
  unfold mWhile
  rw [dif_pos hx]
  have h1 := Classical.choose_spec hx
  rcases Nat.le_total n (Classical.choose hx) with q | q
  · rw [whileF_le (by rw [h]; exact hr) q]; exact h
  · rw [← whileF_le h1 q]; exact h
theorem mWhile_ex {c : M Bool} {b : SM} {ρ : Ev} (h : mWhile c b ρ ≠ .bad) : ∃ n, whileF c b n ρ = mWhile c b ρ := by
  unfold mWhile at h ⊢
  by_cases hx : ∃ n, whileF c b n ρ ≠ .bad
  · rw [dif_pos hx]
    exact ⟨_, rfl⟩
  · rw [dif_neg hx] at h
    exact absurd rfl h
/-- one turn -/
theorem mWhile_eq (c : M Bool) (b : SM) (ρ : Ev) : mWhile c b ρ = match c ρ with
    | .ok true ρ1 => (match b ρ1 with
      | .nx ρ2 => mWhile c b ρ2
      | .ct ρ2 => mWhile c b ρ2
      | .bk ρ2 => .nx ρ2
      | r => r)
    | .ok false ρ1 => .nx ρ1
    | .ex c f ρ1 => .ex c f ρ1
    | .bad => .bad := by
  have key : ∀ r, (match c ρ with
    | .ok true ρ1 => (match b ρ1 with
      | .nx ρ2 => mWhile c b ρ2
      | .ct ρ2 => mWhile c b ρ2
      | .bk ρ2 => SO.nx ρ2
      | r => r)
    | .ok false ρ1 => SO.nx ρ1
    | .ex c f ρ1 => SO.ex c f ρ1
    | .bad => SO.bad) = r → r ≠ .bad → ∃ n, whileF c b n ρ = r := by
    intro r hr hb
    cases e : c ρ with
    | bad => rw [e] at hr; exact absurd hr.symm hb
    | ex cc f ρ1 => refine ⟨1, ?_⟩; rw [whileF, e]; rw [e] at hr; exact hr
    | ok t ρ1 =>
      cases t with
      | false => refine ⟨1, ?_⟩; rw [whileF, e]; rw [e] at hr; exact hr
      | true =>
        rw [e] at hr
        simp only at hr
        cases e2 : b ρ1 with
        | nx ρ2 =>
          rw [e2] at hr
          simp only at hr
          obtain ⟨n, hn⟩ := mWhile_ex (c := c) (b := b) (ρ := ρ2) (by rw [hr]; exact hb)
          refine ⟨n + 1, ?_⟩
          rw [whileF, e]
          simp only [e2]
          rw [hn, hr]
        | ct ρ2 =>
          rw [e2] at hr
          simp only at hr
          obtain ⟨n, hn⟩ := mWhile_ex (c := c) (b := b) (ρ := ρ2) (by rw [hr]; exact hb)
          refine ⟨n + 1, ?_⟩
          rw [whileF, e]
          simp only [e2]
          rw [hn, hr]
        | bk ρ2 => refine ⟨1, ?_⟩; rw [whileF, e]; simp only [e2]; rw [e2] at hr; exact hr
        | rt fr t ρ2 => refine ⟨1, ?_⟩; rw [whileF, e]; simp only [e2]; rw [e2] at hr; exact hr
        | ex cc f ρ2 => refine ⟨1, ?_⟩; rw [whileF, e]; simp only [e2]; rw [e2] at hr; exact hr
        | bad => rw [e2] at hr; exact absurd hr.symm hb
  by_cases hb : (match c ρ with
    | .ok true ρ1 => (match b ρ1 with
      | .nx ρ2 => mWhile c b ρ2
      | .ct ρ2 => mWhile c b ρ2
      | .bk ρ2 => SO.nx ρ2
      | r => r)
    | .ok false ρ1 => SO.nx ρ1
    | .ex c f ρ1 => SO.ex c f ρ1
    | .bad => SO.bad) = .bad
  · rw [hb]
    by_cases h2 : mWhile c b ρ = .bad
    · exact h2
    · obtain ⟨n, hn⟩ := mWhile_ex h2
      cases n with
      | zero => exact absurd hn.symm h2
      | succ n =>
        exfalso
        rw [whileF] at hn
        cases e : c ρ with
        | bad => rw [e] at hn; exact h2 hn.symm
        | ex cc f ρ1 => rw [e] at hb; cases hb
        | ok t ρ1 =>
          cases t with
          | false => rw [e] at hb; cases hb
          | true =>
            rw [e] at hb hn
            simp only at hb hn
            cases e2 : b ρ1 with
            | nx ρ2 =>
              rw [e2] at hb hn
              simp only at hb hn
              have := mWhile_of hn h2
              rw [hb] at this
              exact h2 this.symm
            | ct ρ2 =>
              rw [e2] at hb hn
              simp only at hb hn
              have := mWhile_of hn h2
              rw [hb] at this
              exact h2 this.symm
            | bk ρ2 => rw [e2] at hb; cases hb
            | rt fr t ρ2 => rw [e2] at hb; cases hb
            | ex cc f ρ2 => rw [e2] at hb; cases hb
            | bad => rw [e2] at hn; exact h2 hn.symm
  · obtain ⟨n, hn⟩ := key _ rfl hb
    exact mWhile_of hn hb
/-- the posts of a statement's outcome, from (H, A) on -/
def postS (w : Wd) (H0 : En) (W : WX) (g : DG) (H : Hp) (A : Addr → Prop) (D : Ends) : SO → Prop
  | .nx ρ' => ∀ A' H' σ', Pe w g H A H' A' → SR w g H0 H' A' ρ' σ' → D.nx σ' H'
  | .bk ρ' => ∀ A' H' σ', Pe w g H A H' A' → SR w g H0 H' A' ρ' σ' → D.bk σ' H'
  | .ct ρ' => ∀ A' H' σ', Pe w g H A H' A' → SR w g H0 H' A' ρ' σ' → D.ct σ' H'
  | .rt fr t ρ' => ∀ A' H' σ' v, SR w g H0 H' A' ρ' σ' → RetRep w H0 g H' A' fr t v → D.rt v H'
  | .ex c f ρ' => ∀ A' H' σ' cls d, SR w g H0 H' A' ρ' σ' → XRep w g H' A' c f cls d → W cls d σ' H'
  | .bad => False
theorem rdS_post {m : SM} {D : Ends} {σ : L2.St} {H : Hp} : rdS w H0 W m D σ H ↔ ∃ g A ρ, SR w g H0 H A ρ σ ∧ postS w H0 W g H A D (m ρ) := by
  constructor
  · rintro ⟨g, A, ρ, S, h⟩
    refine ⟨g, A, ρ, S, ?_⟩
    cases e : m ρ <;> rw [e] at h <;> exact h
  · rintro ⟨g, A, ρ, S, h⟩
    refine ⟨g, A, ρ, S, ?_⟩
    cases e : m ρ <;> rw [e] at h <;> exact h
theorem postS.later {g : DG} {H H1 : Hp} {A A1 : Addr → Prop} {D : Ends} {o : SO} (h : postS w H0 W g H A D o) (x : Pe w g H A H1 A1) : postS w H0 W g H1 A1 D o := by
  cases o with
  | nx ρ => exact fun A' H' σ' y => h A' H' σ' (x.trans y)
  | bk ρ => exact fun A' H' σ' y => h A' H' σ' (x.trans y)
  | ct ρ => exact fun A' H' σ' y => h A' H' σ' (x.trans y)
  | rt fr t ρ => exact h
  | ex c f ρ => exact h
  | bad => exact h
theorem s_while {mc : M Bool} {mb : SM} (hp : PassesOwn (model X.prog X.w) X.A X.env X.xe) (hc : PT X c (rdT w H0 W mc)) (hb : PSs X body (rdS w H0 W mb)) : PS X (.While c body [] pos) (rdS w H0 W (mWhile mc mb)) := (ps_while hp hc hb).imp fun D σ H q => by
  obtain ⟨g, A, ρ, S, q⟩ := rdS_post.mp q
  obtain ⟨n, hn⟩ := mWhile_ex (c := mc) (b := mb) (ρ := ρ) (fun z => by rw [z] at q; exact q)
  rw [← hn] at q
  refine ⟨fun n σ H => ∃ g A ρ, SR w g H0 H A ρ σ ∧ postS w H0 W g H A D (whileF mc mb n ρ), ⟨n, g, A, ρ, S, q⟩, ?_⟩
  rintro m σ H ⟨g, A, ρ, S, q⟩
  refine ⟨g, A, ρ, S, ?_⟩
  cases m with
  | zero => exact q.elim
  | succ m =>
    rw [whileF] at q
    cases e : mc ρ with
    | bad => rw [e] at q; exact q
    | ex cc f ρ1 => rw [e] at q; exact fun A' H' cls d _ => q A' H' σ cls d
    | ok t ρ1 =>
      rw [e] at q
      intro A1 H1 a1 k1 S1
      have P1 : Pe w g H A H1 A1 := Pe.of a1 (k1.mono S.dA)
      cases t with
      | false => exact q A1 H1 σ P1 S1
      | true =>
        simp only at q
        rw [if_pos rfl]
        refine ⟨fun σ' H' => ∃ g A ρ, SR w g H0 H' A ρ σ' ∧ postS w H0 W g H' A D (whileF mc mb m ρ), fun σ' H' z => ⟨m, Nat.lt_succ_self m, z⟩, rdS_post.mpr ⟨g, A1, ρ1, S1, ?_⟩⟩
        cases e2 : mb ρ1 with
        | nx ρ2 => rw [e2] at q; exact fun A' H' σ' y S' => ⟨g, A', ρ2, S', postS.later q (P1.trans y)⟩
        | ct ρ2 => rw [e2] at q; exact fun A' H' σ' y S' => ⟨g, A', ρ2, S', postS.later q (P1.trans y)⟩
        | bk ρ2 => rw [e2] at q; exact fun A' H' σ' y S' => q A' H' σ' (P1.trans y) S'
        | rt fr t ρ2 => rw [e2] at q; exact q
        | ex cc f ρ2 => rw [e2] at q; exact q
        | bad => rw [e2] at q; exact q

/-! ### what is walked -/
/-- J hands out the trees ts -/
structure Wk (w : Wd) (g : DG) (J : It) (ts : List T) (H : Hp) (A : Addr → Prop) : Prop where
  item : ∀ (i : Nat) (t : T), ts[i]? = some t → J.go i H ∧ ∀ x H', J.yld i H x H' → Kp (fun _ => False) H H' ∧ VRep w g H' A t x
  stop : J.stop ts.length H
/-- .. from here on -/
def Wkr (w : Wd) (g : DG) (J : It) (ts : List T) (H : Hp) (A : Addr → Prop) : Prop := ∀ H' A', Pe w g H A H' A' → Wk w g J ts H' A'
theorem Wkr.later {g : DG} {J : It} {ts : List T} {H H' : Hp} {A A' : Addr → Prop} (h : Wkr w g J ts H A) (x : Pe w g H A H' A') : Wkr w g J ts H' A' := fun H2 A2 y => h H2 A2 (x.trans y)
def rdI (w : Wd) (H0 : En) (W : WX) (m : M (List T)) : TI := fun σ H R => ∃ g A ρ, SR w g H0 H A ρ σ ∧ match m ρ with
  | .ok ts ρ' => ∀ A' H' J, (∀ a, A' a → A a) → Kp (DD g) H H' → SR w g H0 H' A' ρ' σ → Wkr w g J ts H' A' → R J H'
  | .ex c f ρ' => ∀ A' H' cls d, (∀ a, A' a → A a) → SR w g H0 H' A' ρ' σ → XRep w g H' A' c f cls d → W cls d σ H'
  | .bad => False
theorem wk_list {g : DG} {H : Hp} {A : Addr → Prop} {a : Addr} {ts : List T} {vs : List V} (h : SqLA w.K H A a vs) (r : VReps w g H A ts vs) : Wkr w g (Itl w.K a) ts H A := fun H' A' x => by
  have h' := (x.sl a vs h).sq
  have r' := x.vrs r
  refine ⟨fun i t e => ?_, ⟨vs, h', by rw [r.length]; exact Nat.le_refl _⟩⟩
  obtain ⟨v, e', rv⟩ := r'.get e
  refine ⟨⟨vs, v, h', e'⟩, fun y H2 z => ?_⟩
  obtain ⟨z1, z2⟩ := z
  have z3 := z2 vs h'
  rw [e'] at z3
  cases z3
  rw [z1]
  exact ⟨Kp.refl, rv⟩
theorem wk_tup {g : DG} {H : Hp} {A : Addr → Prop} {a : Addr} {ts : List T} {vs : List V} (h : SqT w.K H a vs) (r : VReps w g H A ts vs) : Wkr w g (Itt w.K a) ts H A := fun H' A' x => by
  have h' := x.st a vs h
  have r' := x.vrs r
  refine ⟨fun i t e => ?_, ⟨vs, h', by rw [r.length]; exact Nat.le_refl _⟩⟩
  obtain ⟨v, e', rv⟩ := r'.get e
  refine ⟨⟨vs, v, h', e'⟩, fun y H2 z => ?_⟩
  obtain ⟨z1, z2⟩ := z
  have z3 := z2 vs h'
  rw [e'] at z3
  cases z3
  rw [z1]
  exact ⟨Kp.refl, rv⟩
theorem tup_reps {g : DG} {H : Hp} {A : Addr → Prop} {K : PySem.W.Frag} {T' : Addr} {t u : T} {x y : V} (hn : H T' = none) (r : VRep w g H A t x) (s : VRep w g H A u y) : Kp (fun _ => False) H (upd H T' (.tup [x, y])) ∧ VRep w g (upd H T' (.tup [x, y])) A (.tup [t, u]) (.ref T') := by
  have k : ∀ B, Kp B H (upd H T' (.tup [x, y])) := fun B => Kp.new hn
  exact ⟨k _, .tup (.inl (.inl upd_same)) (.cons (r.keep (k _)) (.cons (s.keep (k _)) .nil))⟩
def enT (ts : List T) : List T := ts.zipIdx.map fun p => .tup [.int (p.2 : Nat), p.1]
theorem enT_len (ts : List T) : (enT ts).length = ts.length := by unfold enT; simp
theorem enT_get {ts : List T} {i : Nat} {t : T} (h : (enT ts)[i]? = some t) : ∃ u, ts[i]? = some u ∧ t = .tup [.int (i : Nat), u] := by
  unfold enT at h
  rw [List.getElem?_map, List.getElem?_zipIdx] at h
  cases e : ts[i]? with
  | none => rw [e] at h; cases h
  | some u =>
    rw [e] at h
    simp at h
    exact ⟨u, rfl, h.symm⟩
theorem wk_enum {g : DG} {H : Hp} {A : Addr → Prop} {a : Addr} {ts : List T} {vs : List V} (h : SqLA w.K H A a vs) (r : VReps w g H A ts vs) : Wkr w g (Ite w.K a) (enT ts) H A := fun H' A' x => by
  have h' := (x.sl a vs h).sq
  have r' := x.vrs r
  refine ⟨fun i t e => ?_, ⟨vs, h', by rw [enT_len, r.length]; exact Nat.le_refl _⟩⟩
  obtain ⟨u, e0, rfl⟩ := enT_get e
  obtain ⟨v, e', rv⟩ := r'.get e0
  refine ⟨⟨vs, v, h', e'⟩, fun y H2 z => ?_⟩
  obtain ⟨T', y', rfl, hn, rfl, z3⟩ := z
  have z3 := z3 vs h'
  rw [e'] at z3
  cases z3
  exact tup_reps (K := w.K) hn (.int _) rv
def zpT (ts us : List T) : List T := (ts.zip us).map fun p => .tup [p.1, p.2]
theorem zpT_len (ts us : List T) : (zpT ts us).length = min ts.length us.length := by unfold zpT; simp
theorem zpT_get {ts us : List T} {i : Nat} {t : T} (h : (zpT ts us)[i]? = some t) : ∃ u v, ts[i]? = some u ∧ us[i]? = some v ∧ t = .tup [u, v] := by
  unfold zpT at h
  rw [List.getElem?_map] at h
  cases e1 : (ts.zip us)[i]? with
  | none => rw [e1] at h; cases h
  | some p =>
    rw [e1] at h
    obtain ⟨q1, q2⟩ := List.getElem?_zip_eq_some.mp e1
    exact ⟨p.1, p.2, q1, q2, (Option.some.inj h).symm⟩
theorem wk_zip {g : DG} {H : Hp} {A : Addr → Prop} {a b : Addr} {ts us : List T} {vs xs : List V} (h : SqLA w.K H A a vs) (r : VReps w g H A ts vs) (h2 : SqLA w.K H A b xs) (r2 : VReps w g H A us xs) : Wkr w g (Itz w.K a b) (zpT ts us) H A := fun H' A' x => by
  have h' := (x.sl a vs h).sq
  have h2' := (x.sl b xs h2).sq
  have r' := x.vrs r
  have r2' := x.vrs r2
  refine ⟨fun i t e => ?_, ⟨vs, xs, h', h2', by rw [zpT_len, r.length, r2.length]; omega⟩⟩
  obtain ⟨u, u2, e0, e1, rfl⟩ := zpT_get e
  obtain ⟨v, e', rv⟩ := r'.get e0
  obtain ⟨v2, e2', rv2⟩ := r2'.get e1
  refine ⟨⟨vs, xs, v, v2, h', h2', e', e2'⟩, fun y H2 z => ?_⟩
  obtain ⟨T', y1, y2, rfl, hn, rfl, z3, z4⟩ := z
  have z3 := z3 vs h'
  have z4 := z4 xs h2'
  rw [e'] at z3
  rw [e2'] at z4
  cases z3
  cases z4
  exact tup_reps (K := w.K) hn rv rv2
theorem wk_zipT {g : DG} {H : Hp} {A : Addr → Prop} {a b : Addr} {ts us : List T} {vs xs : List V} (h : SqT w.K H a vs) (r : VReps w g H A ts vs) (h2 : SqT w.K H b xs) (r2 : VReps w g H A us xs) : Wkr w g (RZ.ItzT w.K a b) (zpT ts us) H A := fun H' A' x => by
  have h' := x.st a vs h
  have h2' := x.st b xs h2
  have r' := x.vrs r
  have r2' := x.vrs r2
  refine ⟨fun i t e => ?_, ⟨vs, xs, h', h2', by rw [zpT_len, r.length, r2.length]; omega⟩⟩
  obtain ⟨u, u2, e0, e1, rfl⟩ := zpT_get e
  obtain ⟨v, e', rv⟩ := r'.get e0
  obtain ⟨v2, e2', rv2⟩ := r2'.get e1
  refine ⟨⟨vs, xs, v, v2, h', h2', e', e2'⟩, fun y H2 z => ?_⟩
  obtain ⟨T', y1, y2, rfl, hn, rfl, z3, z4⟩ := z
  have z3 := z3 vs h'
  have z4 := z4 xs h2'
  rw [e'] at z3
  rw [e2'] at z4
  cases z3
  cases z4
  exact tup_reps (K := w.K) hn rv rv2
def ranT (lo : Int) (n : Nat) : List T := (List.range n).map fun i => T.int (lo + (i : Nat))
theorem ranT_len (lo : Int) (n : Nat) : (ranT lo n).length = n := by unfold ranT; simp
theorem wk_range {g : DG} {H : Hp} {A : Addr → Prop} (lo : Int) (n : Nat) : Wkr w g (Itr lo n) (ranT lo n) H A := fun H' A' x => by
  refine ⟨fun i t e => ?_, by rw [ranT_len]; exact Nat.le_refl n⟩
  unfold ranT at e
  rw [List.getElem?_map] at e
  cases e1 : (List.range n)[i]? with
  | none => rw [e1] at e; cases e
  | some j =>
    rw [e1] at e
    obtain ⟨hi, e2⟩ := List.getElem?_eq_some_iff.mp e1
    rw [List.length_range] at hi
    rw [List.getElem_range] at e2
    subst e2
    cases e
    refine ⟨hi, fun y H2 z => ?_⟩
    obtain ⟨z1, z2⟩ := z
    rw [z1, z2]
    exact ⟨Kp.refl, .int _⟩
/-- the items of a sequence -/
def mIt (F : T → Option (List T)) (m : M T) : M (List T) := bindM m fun t => match F t with
  | some ts => fun ρ => .ok ts ρ
  | none => fun _ => .bad
def seqT : T → Option (List T)
  | .lst ts => some ts
  | .tup ts => some ts
  | _ => none
def mItA (F : List T → Option (List T)) (m : M (List T)) : M (List T) := bindM m fun t => match F t with
  | some ts => fun ρ => .ok ts ρ
  | none => fun _ => .bad
theorem PI.imp {t t' : TI} (h : PI X tg e t) (k : ∀ σ H R, t' σ H R → t σ H R) : PI X tg e t' := ⟨fun pins s σ H R I q => h.run pins s σ H R I (k σ H R q)⟩
theorem i_seq {m : M T} (h : PE X e (rdE w H0 W m)) (hK : X.K = w.K := by rfl) : PI X tg e (rdI w H0 W (mIt seqT m)) := by
  refine ⟨fun pins s σ H R I q => ?_⟩
  obtain ⟨g, A, ρ, S, q⟩ := q
  unfold mIt bindM at q
  cases e1 : m ρ with
  | bad => rw [e1] at q; exact q.elim
  | ex c f ρ1 =>
    rw [e1] at q
    refine (pi_list h).run pins s σ H R I ⟨g, A, ρ, S, ?_⟩
    rw [e1]
    exact q
  | ok t ρ1 =>
    rw [e1] at q
    cases t <;> first | exact q.elim | skip
    · rename_i ts
      refine (pi_tup h).run pins s σ H R I ⟨g, A, ρ, S, ?_⟩
      rw [e1]
      intro A' H' v h1 h2 h3 h4
      cases h4 with
      | @tup _ a vs q1 q2 => exact ⟨a, rfl, ⟨vs, by rw [hK]; exact q1⟩, by rw [hK]; exact q A' H' _ h1 h2 h3 (wk_tup q1 q2)⟩
    · rename_i ts
      refine (pi_list h).run pins s σ H R I ⟨g, A, ρ, S, ?_⟩
      rw [e1]
      intro A' H' v h1 h2 h3 h4
      cases h4 with
      | @lst _ a vs q1 q2 => exact ⟨a, rfl, ⟨vs, by rw [hK]; exact q1.sq⟩, by rw [hK]; exact q A' H' _ h1 h2 h3 (wk_list q1 q2)⟩
def enF : List T → Option (List T)
  | [.lst ts] => some (enT ts)
  | _ => none
theorem i_enum {elts : List Expr} {kk : Nat} {tpos : Pos} {m : M (List T)} (hg : Gl X "enumerate") (hm : X.mg "enumerate" = none) (ha : PA X [e] (rdA w H0 W m)) (hs : starEach [e] X.env = [(false, eval e X.env)] := by rfl) (hK : X.K = w.K := by rfl) :
    PI X (.Tuple elts kk tpos) (.Call (.Name "enumerate" p) [e] [] pos) (rdI w H0 W (mItA enF m)) := PI.imp (pi_enum hg hm ha hs) fun σ H R q => by
  obtain ⟨g, A, ρ, S, q⟩ := q
  refine ⟨g, A, ρ, S, ?_⟩
  unfold mItA bindM at q
  cases e1 : m ρ with
  | bad => rw [e1] at q; exact q.elim
  | ex c f ρ1 => rw [e1] at q; exact q
  | ok ts ρ1 =>
    rw [e1] at q
    simp only at q
    intro A' H' vs h1 h2 h3 h4
    cases h4 with
    | nil => exact q.elim
    | @cons t v _ _ r rs =>
      cases rs with
      | cons _ _ => simp only [enF] at q
      | nil =>
        cases t <;> first | (simp only [enF] at q; done) | skip
        cases r with
        | @lst ts a vs q1 q2 => exact ⟨a, vs, rfl, by rw [hK]; exact q1.sq, by rw [hK]; exact q A' H' _ h1 h2 h3 (wk_enum q1 q2)⟩
def zpF : List T → Option (List T)
  | [.lst ts, .lst us] => some (zpT ts us)
  | [.tup ts, .tup us] => some (zpT ts us)
  | _ => none
theorem i_zip {elts : List Expr} {kk : Nat} {tpos : Pos} {m : M (List T)} (hg : Gl X "zip") (hm : X.mg "zip" = none) (ha : PA X [a, b] (rdA w H0 W m)) (hs : starEach [a, b] X.env = (false, eval a X.env) :: starEach [b] X.env := by rfl) (hpl : (backTo pos (starEach [b] X.env)).any (·.1) = false := by rfl) (hK : X.K = w.K := by rfl) :
    PI X (.Tuple elts kk tpos) (.Call (.Name "zip" p) [a, b] [] pos) (rdI w H0 W (mItA zpF m)) := PI.imp (RZ.pi_zipA hg hm ha hs hpl) fun σ H R q => by
  obtain ⟨g, A, ρ, S, q⟩ := q
  refine ⟨g, A, ρ, S, ?_⟩
  unfold mItA bindM at q
  cases e1 : m ρ with
  | bad => rw [e1] at q; exact q.elim
  | ex c f ρ1 => rw [e1] at q; exact q
  | ok ts ρ1 =>
    rw [e1] at q
    simp only at q
    intro A' H' vs h1 h2 h3 h4
    cases h4 with
    | nil => exact q.elim
    | @cons t v _ _ r rs =>
      cases rs with
      | nil => cases t <;> simp only [zpF] at q
      | @cons t2 v2 _ _ r2 rs =>
        cases rs with
        | cons _ _ => cases t <;> cases t2 <;> simp only [zpF] at q
        | nil =>
          cases t <;> first | (simp only [zpF] at q; done) | skip
          · cases t2 <;> first | (simp only [zpF] at q; done) | skip
            cases r with
            | @tup ts a vs q1 q2 => cases r2 with
              | @tup us b xs q3 q4 => exact ⟨a, b, vs, xs, rfl, .inr ⟨by rw [hK]; exact q1, by rw [hK]; exact q3, by rw [hK]; exact q A' H' _ h1 h2 h3 (wk_zipT q1 q2 q3 q4)⟩⟩
          · cases t2 <;> first | (simp only [zpF] at q; done) | skip
            cases r with
            | @lst ts a vs q1 q2 => cases r2 with
              | @lst us b xs q3 q4 => exact ⟨a, b, vs, xs, rfl, .inl ⟨by rw [hK]; exact q1.sq, by rw [hK]; exact q3.sq, by rw [hK]; exact q A' H' _ h1 h2 h3 (wk_zip q1 q2 q3 q4)⟩⟩
def rnF1 : List T → Option (List T)
  | [.int j] => if -(2 ^ 62) ≤ j ∧ j < 2 ^ 62 then some (ranT 0 j.toNat) else none
  | _ => none
def rnF2 : List T → Option (List T)
  | [.int i, .int j] => if -(2 ^ 62) ≤ i ∧ i < 2 ^ 62 ∧ -(2 ^ 62) ≤ j ∧ j < 2 ^ 62 then some (ranT i (j - i).toNat) else none
  | _ => none
theorem i_range1 {m : M (List T)} (hg : Gl X "range") (hm : X.mg "range" = none) (ha : PA X [a] (rdA w H0 W m)) (hs : starEach [a] X.env = [(false, eval a X.env)] := by rfl) :
    PI X tg (.Call (.Name "range" p) [a] [] pos) (rdI w H0 W (mItA rnF1 m)) := PI.imp (pi_range1 hg hm ha hs) fun σ H R q => by
  obtain ⟨g, A, ρ, S, q⟩ := q
  refine ⟨g, A, ρ, S, ?_⟩
  unfold mItA bindM at q
  cases e1 : m ρ with
  | bad => rw [e1] at q; exact q.elim
  | ex c f ρ1 => rw [e1] at q; exact q
  | ok ts ρ1 =>
    rw [e1] at q
    simp only at q
    intro A' H' vs h1 h2 h3 h4
    cases h4 with
    | nil => exact q.elim
    | @cons t v _ _ r rs =>
      cases rs with
      | cons _ _ => cases t <;> simp only [rnF1] at q
      | nil =>
        cases t <;> first | (simp only [rnF1] at q; done) | skip
        rename_i j
        cases r
        by_cases c : -(2 ^ 62) ≤ j ∧ j < 2 ^ 62
        · rw [show rnF1 [.int j] = some (ranT 0 j.toNat) from if_pos c] at q
          exact ⟨j, rfl, c.1, c.2, q A' H' _ h1 h2 h3 (wk_range 0 j.toNat)⟩
        · rw [show rnF1 [.int j] = none from if_neg c] at q
          exact q.elim
theorem i_range2 {m : M (List T)} (hg : Gl X "range") (hm : X.mg "range" = none) (ha : PA X [a, b] (rdA w H0 W m)) (hs : starEach [a, b] X.env = [(false, eval a X.env), (false, eval b X.env)] := by rfl) (hs2 : starEach [b] X.env = [(false, eval b X.env)] := by rfl) :
    PI X tg (.Call (.Name "range" p) [a, b] [] pos) (rdI w H0 W (mItA rnF2 m)) := PI.imp (pi_range2 hg hm ha hs hs2) fun σ H R q => by
  obtain ⟨g, A, ρ, S, q⟩ := q
  refine ⟨g, A, ρ, S, ?_⟩
  unfold mItA bindM at q
  cases e1 : m ρ with
  | bad => rw [e1] at q; exact q.elim
  | ex c f ρ1 => rw [e1] at q; exact q
  | ok ts ρ1 =>
    rw [e1] at q
    simp only at q
    intro A' H' vs h1 h2 h3 h4
    cases h4 with
    | nil => exact q.elim
    | @cons t v _ _ r rs =>
      cases rs with
      | nil => cases t <;> simp only [rnF2] at q
      | @cons t2 v2 _ _ r2 rs =>
        cases rs with
        | cons _ _ => cases t <;> cases t2 <;> simp only [rnF2] at q
        | nil =>
          cases t <;> first | (simp only [rnF2] at q; done) | skip
          cases t2 <;> first | (simp only [rnF2] at q; done) | skip
          rename_i i j
          cases r
          cases r2
          by_cases c : -(2 ^ 62) ≤ i ∧ i < 2 ^ 62 ∧ -(2 ^ 62) ≤ j ∧ j < 2 ^ 62
          · rw [show rnF2 [.int i, .int j] = some (ranT i (j - i).toNat) from if_pos c] at q
            exact ⟨i, j, rfl, c, q A' H' _ h1 h2 h3 (wk_range i (j - i).toNat)⟩
          · rw [show rnF2 [.int i, .int j] = none from if_neg c] at q
            exact q.elim

/-! ### for -/
/-- the turns over some items -/
def forL (f : Tgt) (b : SM) : List T → SM
  | [], ρ => .nx ρ
  | t :: ts, ρ => match f t ρ with
    | none => .bad
    | some ρ1 => match b ρ1 with
      | .nx ρ2 => forL f b ts ρ2
      | .ct ρ2 => forL f b ts ρ2
      | .bk ρ2 => .nx ρ2
      | r => r
theorem for_step {f : Tgt} {mb : SM} {g : DG} {A : Addr → Prop} {ρ : Ev} {σ : L2.St} {H : Hp} {D : Ends} {t : T} {ts : List T} {v : V} (S : SR w g H0 H A ρ σ) (r : VRep w g H A t v)
    (q : postS w H0 W g H A D (forL f mb (t :: ts) ρ)) {N : L2.St → Hp → Prop} (hN : ∀ σ' H' A' ρ', Pe w g H A H' A' → SR w g H0 H' A' ρ' σ' → postS w H0 W g H' A' D (forL f mb ts ρ') → N σ' H') :
    rdG w H0 f v σ H fun σ2 H2 => rdS w H0 W mb { D with nx := N, ct := N, bk := D.nx } σ2 H2 := by
  refine ⟨g, A, ρ, t, S, r, ?_⟩
  rw [forL] at q
  cases e : f t ρ with
  | none => rw [e] at q; exact q
  | some ρ1 =>
    rw [e] at q
    intro A1 H1 σ' P1 S'
    refine rdS_post.mpr ⟨g, A1, ρ1, S', ?_⟩
    simp only at q
    cases e2 : mb ρ1 with
    | nx ρ2 => rw [e2] at q; exact fun A' H' σ' y S' => hN σ' H' A' ρ2 (P1.trans y) S' (postS.later q (P1.trans y))
    | ct ρ2 => rw [e2] at q; exact fun A' H' σ' y S' => hN σ' H' A' ρ2 (P1.trans y) S' (postS.later q (P1.trans y))
    | bk ρ2 => rw [e2] at q; exact fun A' H' σ' y S' => q A' H' σ' (P1.trans y) S'
    | rt fr t ρ2 => rw [e2] at q; exact q
    | ex cc f ρ2 => rw [e2] at q; exact q
    | bad => rw [e2] at q; exact q
def mFor (m : M (List T)) (f : Tgt) (b : SM) : SM := fun ρ => match m ρ with
  | .ok ts ρ1 => forL f b ts ρ1
  | .ex c f ρ1 => .ex c f ρ1
  | .bad => .bad
theorem drop_cases {α : Type} (ts : List α) (i : Nat) (h : i ≤ ts.length) : (i = ts.length ∧ ts.drop i = []) ∨ ∃ t, ts[i]? = some t ∧ ts.drop i = t :: ts.drop (i + 1) := by
  by_cases c : i < ts.length
  · exact .inr ⟨ts[i], List.getElem?_eq_getElem c, List.drop_eq_getElem_cons c⟩
  · have e : i = ts.length := by omega
    exact .inl ⟨e, by rw [e]; exact List.drop_length⟩
theorem s_for {m : M (List T)} {f : Tgt} {mb : SM} (hp : PassesOwn (model X.prog X.w) X.A X.env X.xe) (hc : X.calm = true) (hi : PI X tg e (rdI w H0 W m)) (hg : PG X tg (rdG w H0 f)) (hb : PSs X body (rdS w H0 W mb))
    (hs : ∀ x, foldedSetIterable e X.env x = pure x := by intro _; rfl) : PS X (.For tg e body [] pos) (rdS w H0 W (mFor m f mb)) := (ps_for hp hc hi hg hb hs).imp fun D σ H q => by
  obtain ⟨g, A, ρ, S, q⟩ := rdS_post.mp q
  refine ⟨g, A, ρ, S, ?_⟩
  unfold mFor at q
  cases e1 : m ρ with
  | bad => rw [e1] at q; exact q
  | ex c f ρ1 => rw [e1] at q; exact rdS_ex (D := D) q
  | ok ts ρ1 =>
    rw [e1] at q
    intro A1 H1 J a1 k1 S1 wk
    refine ⟨fun i m σ H => m = ts.length - i ∧ i ≤ ts.length ∧ ∃ A ρ, SR w g H0 H A ρ σ ∧ Wkr w g J ts H A ∧ postS w H0 W g H A D (forL f mb (ts.drop i) ρ), ⟨ts.length, rfl, Nat.zero_le _, A1, ρ1, S1, wk, postS.later q (Pe.of a1 (k1.mono S.dA))⟩, ?_⟩
    rintro i m σ H ⟨rfl, hi, A, ρ, S, wk, q⟩
    rcases drop_cases ts i hi with ⟨e2, e3⟩ | ⟨t, e2, e3⟩
    · rw [e3] at q
      exact .inl ⟨by rw [e2]; exact (wk H A Pe.refl).stop, q A H σ Pe.refl S⟩
    · rw [e3] at q
      obtain ⟨h1, h2⟩ := (wk H A Pe.refl).item i t e2
      have hl := (List.getElem?_eq_some_iff.mp e2).1
      refine .inr ⟨h1, fun σ H => ∃ A ρ, SR w g H0 H A ρ σ ∧ Wkr w g J ts H A ∧ postS w H0 W g H A D (forL f mb (ts.drop (i + 1)) ρ), fun σ' H' ⟨A, ρ, z⟩ => ⟨ts.length - (i + 1), by omega, rfl, by omega, A, ρ, z⟩, fun x H' hy => ?_⟩
      obtain ⟨k, r⟩ := h2 x H' hy
      have P : Pe w g H A H' A := Pe.of (fun _ z => z) (k.mono fun _ z => z.elim)
      exact for_step (S.same k) r (postS.later q P) fun σ' H' A' ρ' y S' q' => ⟨A', ρ', S', (wk.later P).later y, q'⟩
end
end MP
end

section
set_option Elab.async false
set_option linter.all false
set_option maxRecDepth 100000
/-! MP9: comprehensions. -/
namespace MP
open PySem PySem.Spec L2

section
variable {w : Wd} {g : DG} {H0 : En} {H H' : Hp} {A A' : Addr → Prop} {ρ : Ev} {σ σ' : L2.St}
/-- another state that agrees where something is known -/
theorem SR.restate (S : SR w g H0 H A ρ σ) (hl : σ'.length = σ.length) (h : ∀ (i : Nat) (p : Bool × T), ρ.sl[i]? = some (some p) → σ'[i]? = σ[i]?) : SR w g H0 H A ρ σ' where
  len := S.len.trans hl.symm
  up := S.up
  sh := fun i t e => by rw [h i _ e]; exact S.sh i t e
  own := fun i t e => by rw [h i _ e]; exact S.own i t e
  apart := fun i j t u a hij ei ej h1 => by
    rw [h i _ ei] at h1
    rw [h j _ ej]
    exact S.apart i j t u a hij ei ej h1
  draw := S.draw
  dA := S.dA
  aT := S.aT
  fr := S.fr
/-- another environment that knows less -/
theorem SR.reenv {ρ' : Ev} (S : SR w g H0 H A ρ σ) (hl : ρ'.sl.length = ρ.sl.length) (hd : ρ'.dr = ρ.dr) (h : ∀ (i : Nat) (p : Bool × T), ρ'.sl[i]? = some (some p) → ρ.sl[i]? = some (some p)) : SR w g H0 H A ρ' σ where
  len := hl.trans S.len
  up := S.up
  sh := fun i t e => S.sh i t (h i _ e)
  own := fun i t e => S.own i t (h i _ e)
  apart := fun i j t u a hij ei ej h1 => S.apart i j t u a hij (h i _ ei) (h j _ ej) h1
  draw := by rw [hd]; exact S.draw
  dA := S.dA
  aT := S.aT
  fr := S.fr
def wipeL (l : List (Option (Bool × T))) : List Nat → List (Option (Bool × T))
  | [] => l
  | v :: vs => (wipeL l vs).set v none
def blank (vs : List Nat) (ρ : Ev) : Ev := { ρ with sl := wipeL ρ.sl vs }
theorem wipeL_length (l : List (Option (Bool × T))) : ∀ vs : List Nat, (wipeL l vs).length = l.length
  | [] => rfl
  | v :: vs => by unfold wipeL; rw [List.length_set, wipeL_length l vs]
theorem wipeL_some {l : List (Option (Bool × T))} {i : Nat} {x : Bool × T} : ∀ {vs : List Nat}, (wipeL l vs)[i]? = some (some x) → l[i]? = some (some x) ∧ i ∉ vs
  | [], h => ⟨h, by simp⟩
  | v :: vs, h => by
    unfold wipeL at h
    by_cases hi : v = i
    · subst hi
      by_cases hv : v < (wipeL l vs).length
      · rw [List.getElem?_set_self hv] at h; cases h
      · rw [List.getElem?_eq_none (by simpa using hv)] at h; cases h
    · rw [List.getElem?_set_ne hi] at h
      obtain ⟨h1, h2⟩ := wipeL_some h
      exact ⟨h1, by simp only [List.mem_cons, not_or]; exact ⟨fun e => hi e.symm, h2⟩⟩
theorem SR.blank (S : SR w g H0 H A ρ σ) (vs : List Nat) : SR w g H0 H A (MP.blank vs ρ) σ := S.reenv (wipeL_length ρ.sl vs) rfl fun _ _ e => (wipeL_some e).1
theorem SR.wiped (S : SR w g H0 H A ρ σ) (vs : List Nat) : SR w g H0 H A (MP.blank vs ρ) (wipe σ vs) := (S.blank vs).restate (wipe_length σ vs) fun _ _ e => wipe_out (wipeL_some e).2
theorem SR.unwiped {vs : List Nat} (S : SR w g H0 H A (MP.blank vs ρ) (wipe σ vs)) : SR w g H0 H A (MP.blank vs ρ) σ := S.restate (wipe_length σ vs).symm fun _ _ e => (wipe_out (wipeL_some e).2).symm
theorem wipe_set {i : Nat} {x : Option V} : ∀ {vs : List Nat}, i ∈ vs → wipe (σ.set i x) vs = wipe σ vs
  | [], h => by cases h
  | v :: vs, h => by
    unfold wipe
    by_cases hv : i ∈ vs
    · rw [wipe_set hv]
    · have e : v = i := by
        rcases List.mem_cons.mp h with z | z
        · exact z.symm
        · exact absurd z hv
      subst e
      have key : ∀ ws : List Nat, wipe (σ.set v x) ws = (wipe σ ws) ∨ wipe (σ.set v x) ws = (wipe σ ws).set v x := by
        intro ws
        induction ws with
        | nil => exact .inr rfl
        | cons u us ih =>
          unfold wipe
          rcases ih with z | z
          · rw [z]; exact .inl rfl
          · rw [z]
            by_cases c : u = v
            · subst c; rw [List.set_set]; exact .inl rfl
            · rw [List.set_comm _ _ (Ne.symm c)]; exact .inr rfl
      rcases key vs with z | z
      · rw [z]
      · rw [z, List.set_set]
theorem wipe_sub {vs : List Nat} : ∀ {us : List Nat}, (∀ u ∈ us, u ∈ vs) → wipe (wipe σ us) vs = wipe σ vs
  | [], _ => rfl
  | u :: us, h => by
    rw [show wipe σ (u :: us) = (wipe σ us).set u none from rfl, wipe_set (h u (by simp))]
    exact wipe_sub fun v hv => h v (by simp [hv])
theorem wipe_wipe (vs : List Nat) : wipe (wipe σ vs) vs = wipe σ vs := wipe_sub fun _ h => h
/-- an object that is kept apart and that no slot owns is changed -/
theorem SR.poke {D : Addr} {o o0 : HO} (S : SR w g H0 H A ρ σ) (hA : A D) (hd : ¬ DD g D) (hn : H0.h D = none) (ho : ∀ (i : Nat) (t : T), ρ.sl[i]? = some (some (true, t)) → σ[i]? ≠ some (some (V.ref D))) (h0 : H D = some o0) (nt : ∀ xs, o0 ≠ .tup xs) (nf : ∀ ob u, o0 ≠ .frz ob u) :
    Kp A H (upd H D o) ∧ SR w g H0 (upd H D o) A ρ σ := by
  have k : Kp A H (upd H D o) := ⟨fun b u e n => by rw [upd_ne (fun z => n (by rw [z]; exact hA))]; exact e, fun b xs e => by
    rw [upd_ne (fun z => by rw [z, h0] at e; exact nt xs (Option.some.inj e))]; exact e, fun b ob u e => by
    rw [upd_ne (fun z => by rw [z, h0] at e; exact nf ob u (Option.some.inj e))]; exact e⟩
  refine ⟨k, S.len, S.up, fun i t e => let ⟨v, h1, h2⟩ := S.sh i t e; ⟨v, h1, h2.keep k⟩, fun i t e => ?_, S.apart, fun d b c e => ?_, S.dA, fun a ha => ?_, ?_⟩
  · obtain ⟨a, h1, h2, h3⟩ := S.own i t e
    refine ⟨a, h1, h2.keep k (upd_ne fun z => ho i t e (by rw [h1, z])), h3⟩
  · have Dr := S.draw d b c e
    exact ⟨by rw [upd_ne fun z => hd ⟨d, b, c, e, .inl z.symm⟩]; exact Dr.dd, by rw [upd_ne fun z => hd ⟨d, b, c, e, .inr (.inl z.symm)⟩]; exact Dr.db, by rw [upd_ne fun z => hd ⟨d, b, c, e, .inr (.inr z.symm)⟩]; exact Dr.dc, Dr.bc, Dr.ok⟩
  · by_cases c : a = D
    · rw [c, upd_same]; exact fun z => nomatch z
    · rw [upd_ne c]; exact S.aT a ha
  · refine ⟨fun b u e n => ?_, fun b xs e => ?_, fun b ob u e => ?_⟩
    · rw [upd_ne (ne_of_none e hn)]; exact S.fr.same b u e n
    · rw [upd_ne (ne_of_none e hn)]; exact S.fr.tups b xs e
    · rw [upd_ne (ne_of_none e hn)]; exact S.fr.frzs b ob u e
end

section
variable {X : Cx} {w : Wd} {H0 : En} {W : WX} {e a b c : Expr} {es rest : List Expr} {pos p2 p : Pos} {st : Stmt} {sts body : List Stmt} {tg elt iter : Expr} {ifs : List Expr}
/-! targets within a comprehension -/
def rdGc (w : Wd) (H0 : En) (vs : List Nat) (f : Tgt) : TG := fun v σ H Q => ∃ g A ρ t, SR w g H0 H A ρ σ ∧ VRep w g H A t v ∧ match f t ρ with
  | some ρ' => ∀ σ', SR w g H0 H A ρ' σ' → wipe σ' vs = wipe σ vs → Q σ' H
  | none => False
def rdGcs (w : Wd) (H0 : En) (vs : List Nat) (f : Tgts) : TGs := fun us σ H Q => ∃ g A ρ ts, SR w g H0 H A ρ σ ∧ VReps w g H A ts us ∧ match f ts ρ with
  | some ρ' => ∀ σ', SR w g H0 H A ρ' σ' → wipe σ' vs = wipe σ vs → Q σ' H
  | none => False
theorem gc_name {vs : List Nat} {i : Nat} {x : Str} (hN : X.N.Nodup) (hi : X.N[i]? = some x) (hx : Loc X.env.scope x) (hf : X.fn x = true ∨ X.env.scope.names.lookup x = some .local := by first | exact .inl rfl | exact .inr rfl | assumption) (hv : i ∈ vs := by decide) : PG X (.Name x pos) (rdGc w H0 vs (gN i)) :=
  PG.imp (pg_name hN hi hx hf) fun v σ H Q q => by
    obtain ⟨g, A, ρ, t, S, r, q⟩ := q
    exact q _ (S.set r) (wipe_set hv)
theorem gcs_nil {vs : List Nat} : PGs X [] (rdGcs w H0 vs gsNil) := PGs.imp pgs_nil fun v σ H Q q => by
  obtain ⟨g, A, ρ, t, S, r, q⟩ := q
  cases r with
  | nil => exact ⟨rfl, q σ S rfl⟩
  | cons _ _ => exact q.elim
theorem gcs_cons {vs : List Nat} {f : Tgt} {fs : Tgts} (h1 : PG X e (rdGc w H0 vs f)) (h2 : PGs X es (rdGcs w H0 vs fs)) (hs : (assignEach (e :: es) X.env).map (·.2) = assign e X.env :: (assignEach es X.env).map (·.2) := by rfl) : PGs X (e :: es) (rdGcs w H0 vs (gsCons f fs)) :=
  PGs.imp (pgs_cons h1 h2 hs) fun v σ H Q q => by
    obtain ⟨g, A, ρ, t, S, r, q⟩ := q
    cases r with
    | nil => exact q.elim
    | @cons t v ts vs r rs =>
      refine ⟨_, _, rfl, g, A, ρ, t, S, r, ?_⟩
      simp only [gsCons] at q
      cases e1 : f t ρ with
      | none => simp only [e1] at q
      | some ρ1 =>
        simp only [e1] at q
        refine fun σ1 S1 w1 => ⟨g, A, ρ1, ts, S1, rs, ?_⟩
        cases e2 : fs ts ρ1 with
        | none => rw [e2] at q; exact q
        | some ρ2 => rw [e2] at q; exact fun σ2 S2 w2 => q σ2 S2 (w2.trans w1)
theorem gc_tup {vs : List Nat} {k n : Nat} {fs : Tgts} (hc : X.calm = true) (h : PGs X es (rdGcs w H0 vs fs)) (hn : (assignEach es X.env).length = n := by rfl) (hst : (assignEach es X.env).findIdx? (·.1) = none := by rfl) (hK : X.K = w.K := by rfl) : PG X (.Tuple es k pos) (rdGc w H0 vs (gTn n fs)) :=
  PG.imp (pg_tup hc h hn hst) fun v σ H Q q => by
    obtain ⟨g, A, ρ, t, S, r, q⟩ := q
    cases t <;> first | (exact q.elim) | skip
    rename_i ts
    cases r with
    | @tup ts a vs h1 h2 =>
      by_cases hl : ts.length = n
      · rw [show gTn n fs (.tup ts) ρ = fs ts ρ from if_pos hl] at q
        exact ⟨a, vs, rfl, by rw [hK]; exact h1, by rw [← h2.length]; exact hl, g, A, ρ, ts, S, h2, q⟩
      · rw [show gTn n fs (.tup ts) ρ = none from if_neg hl] at q
        exact q.elim
/-! tests -/
theorem PTs.imp {t t' : TT} (h : PTs X ifs t) (k : ∀ σ H Q, t' σ H Q → t σ H Q) : PTs X ifs t' := ⟨fun pins s σ H Q I q => h.run pins s σ H Q I (k σ H Q q)⟩
def mYes : M Bool := fun ρ => .ok true ρ
theorem ts_nil : PTs X [] (rdT w H0 W mYes) := PTs.imp pts_nil fun σ H Q ⟨g, A, ρ, S, q⟩ => q A H (fun _ z => z) Kp.refl S
theorem ts_one {m : M Bool} (h : PT X c (rdT w H0 W m)) : PTs X [c] (rdT w H0 W m) := pts_one h
/-- nothing is raised -/
abbrev WN : WX := fun _ _ _ _ => False
/-- the turns of a comprehension -/
def lcL (f : Tgt) (c : M Bool) (m : M T) (vs : List Nat) : List T → List T → Ev → Out (List T)
  | [], acc, ρ => .ok acc ρ
  | t :: ts, acc, ρ => match f t ρ with
    | none => .bad
    | some ρ1 => match c ρ1 with
      | .ok true ρ2 => match m ρ2 with
        | .ok u ρ3 => lcL f c m vs ts (acc ++ [u]) (blank vs ρ3)
        | _ => .bad
      | .ok false ρ2 => lcL f c m vs ts acc (blank vs ρ2)
      | _ => .bad
def lcK (f : Tgt) (c : M Bool) (m : M T) (vs : List Nat) (ts : List T) : M T := fun ρ => if ts.length ≤ sizeLine then (match lcL f c m vs ts [] (blank vs ρ) with
    | .ok us ρ2 => .ok (.lst us) ρ2
    | _ => .bad) else .bad
def mLc (mi : M (List T)) (f : Tgt) (c : M Bool) (m : M T) (vs : List Nat) : M T := bindM mi (lcK f c m vs)
theorem exE {t : En → TE} (h : ∀ B, PE X e (t B)) : PE X e (fun σ H Q => ∃ B, t B σ H Q) := ⟨fun pins s σ H Q I ⟨B, q⟩ => (h B).run pins s σ H Q I q⟩
theorem exG {t : En → TG} (h : ∀ B, PG X e (t B)) : PG X e (fun v σ H Q => ∃ B, t B v σ H Q) := ⟨fun pins s σ H v u Q I r ⟨B, q⟩ => (h B).run pins s σ H v u Q I r q⟩
theorem exTs {t : En → TT} (h : ∀ B, PTs X ifs (t B)) : PTs X ifs (fun σ H Q => ∃ B, t B σ H Q) := ⟨fun pins s σ H Q I ⟨B, q⟩ => (h B).run pins s σ H Q I q⟩
structure LcI (w : Wd) (g : DG) (HB : En) (A1 : Addr → Prop) (H1 : Hp) (D : Addr) (J : It) (ts : List T) (F : List T → List T → Ev → Out (List T)) (us : List T) (ρ2 : Ev) (σ : L2.St) (vs : List Nat) (i : Nat) (H : Hp) (A : Addr → Prop) (ρ : Ev) (at' : List T) (av : List V) : Prop where
  S : SR w g HB H A (blank vs ρ) (wipe σ vs)
  hD : H D = some (.lst av)
  r : VReps w g H A at' av
  hl : at'.length ≤ i
  wk : Wkr w g J ts H A
  k : Kp (DD g) H1 H
  aa : ∀ b, A b → adj A1 D b
  out : F (ts.drop i) at' (blank vs ρ) = .ok us ρ2
theorem blank_blank (vs : List Nat) (ρ : Ev) : ∃ ρ', blank vs ρ = ρ' := ⟨_, rfl⟩
theorem lcL_blank {f : Tgt} {mc : M Bool} {m : M T} {vs : List Nat} : ∀ {ts acc : List T} {ρ : Ev} {us : List T} {ρ2 : Ev}, lcL f mc m vs ts acc (blank vs ρ) = .ok us ρ2 → ∃ ρ3, ρ2 = blank vs ρ3
  | [], acc, ρ, us, ρ2, h => by cases h; exact ⟨ρ, rfl⟩
  | t :: ts, acc, ρ, us, ρ2, h => by
    rw [lcL] at h
    cases e1 : f t (blank vs ρ) with
    | none => rw [e1] at h; cases h
    | some ρ1 =>
      rw [e1] at h
      simp only at h
      cases e2 : mc ρ1 with
      | bad => rw [e2] at h; cases h
      | ex _ _ _ => rw [e2] at h; cases h
      | ok b ρ4 =>
        rw [e2] at h
        cases b with
        | false => exact lcL_blank h
        | true =>
          simp only at h
          cases e3 : m ρ4 with
          | bad => rw [e3] at h; cases h
          | ex _ _ _ => rw [e3] at h; cases h
          | ok u ρ5 => rw [e3] at h; exact lcL_blank h
theorem lc_conv {vs : List Nat} {mi : M (List T)} {f : Tgt} {mc : M Bool} {m : M T} {σ : L2.St} {H : Hp} {Q : VK} (q : rdF w H0 W (mLc mi f mc m vs) σ H Q) :
    tLc (rdI w H0 W mi) (fun v σ H Q => ∃ B, rdGc w B vs f v σ H Q) (fun σ H Q => ∃ B, rdT w B WN mc σ H Q) (fun σ H Q => ∃ B, rdE w B WN m σ H Q) vs σ H Q := by
  obtain ⟨g, A, ρ, S, q⟩ := q
  refine ⟨g, A, ρ, S, ?_⟩
  unfold mLc bindM at q
  cases e1 : mi ρ with
  | bad => rw [e1] at q; exact q.elim
  | ex cc ff ρ1 => rw [e1] at q; exact q
  | ok ts ρ1 =>
    rw [e1] at q
    simp only [lcK] at q
    by_cases hz : ts.length ≤ sizeLine
    case neg => rw [if_neg hz] at q; exact q.elim
    rw [if_pos hz] at q
    cases e2 : lcL f mc m vs ts [] (blank vs ρ1) with
    | bad => rw [e2] at q; exact q.elim
    | ex _ _ _ => rw [e2] at q; exact q.elim
    | ok us ρ2 =>
      rw [e2] at q
      simp only at q
      intro A1 H1 J a1 k1 S1 wk D hD
      have nD : ¬ A1 D := fun z => S1.aT D z hD
      have dD : ¬ DD g D := fun z => nD (S1.dA D z)
      have n0 := S1.new0 hD
      let HB : En := ⟨H0.h, adj H0.A D⟩
      have kD : Kp (fun _ => False) H1 (upd H1 D (.lst [])) := Kp.new hD
      have SB : SR w g HB (upd H1 D (.lst [])) (adj A1 D) (blank vs ρ1) (wipe σ vs) := by
        have o1 : ORep w g (upd H1 D (.lst [])) A1 (.lst []) D := ⟨[], upd_same, .nil⟩
        have o2 : ORep w g (upd H1 D (.lst [])) (adj A1 D) (.lst []) D := ⟨[], upd_same, .nil⟩
        obtain ⟨S2, S3⟩ := new_own S1 hD o1 o2
        have S4 := S3.wiped vs
        refine ⟨S4.len, fun b z => ?_, S4.sh, fun i t e => ?_, S4.apart, S4.draw, S4.dA, S4.aT, S4.fr⟩
        · rcases z with z | rfl
          · exact .inl (S1.up b z)
          · exact .inr rfl
        · obtain ⟨a, h1, h2, h3, h4, h5⟩ := S4.own i t e
          refine ⟨a, h1, h2, h3, h4, h5.1, fun z => ?_⟩
          rcases z with z | rfl
          · exact h5.2 z
          · obtain ⟨q1, q2⟩ := wipe_some h1
            have e' := (wipeL_some e).1
            obtain ⟨a', r1, r2, r3, _⟩ := S1.own i t e'
            rw [q1] at r1
            cases r1
            exact nD r3
      have PB : Pe w g H1 A1 (upd H1 D (.lst [])) (adj A1 D) := Pe.grow (fun _ z => z) Kp.refl hD |>.trans (Pe.of (fun _ z => z) (kD.mono fun _ z => z.elim))
      refine ⟨fun i m' H => m' = ts.length - i ∧ i ≤ ts.length ∧ ∃ A ρ at' av, LcI w g HB A1 H1 D J ts (lcL f mc m vs) us ρ2 σ vs i H A ρ at' av, ⟨ts.length, rfl, Nat.zero_le _, adj A1 D, ρ1, [], [], SB, upd_same, .nil, Nat.le_refl _, wk.later PB, kD.mono fun _ z => z.elim, fun _ z => z, by rw [List.drop_zero]; exact e2⟩, ?_⟩
      rintro i m' H2 ⟨rfl, hi, A2, ρ3, at', av, L⟩
      rcases drop_cases ts i hi with ⟨e3, e4⟩ | ⟨t, e3, e4⟩
      · -- done
        refine .inl ⟨by rw [e3]; exact (L.wk H2 A2 Pe.refl).stop, ?_⟩
        have out := L.out
        rw [e4] at out
        cases out
        have hA2 : A2 D := L.S.up D (.inr rfl)
        have S5 := (L.S.unwiped)
        have S6 : SR w g H0 H2 A2 (blank vs ρ3) σ := ⟨S5.len, fun b z => S5.up b (.inl z), S5.sh, fun i t e => let ⟨a, h1, h2, h3, h4, h5⟩ := S5.own i t e; ⟨a, h1, h2, h3, h4, h5.1, fun z => h5.2 (.inl z)⟩, S5.apart, S5.draw, S5.dA, S5.aT, S5.fr⟩
        have S7 : SR w g H0 H2 (fun b => A2 b ∧ b ≠ D) (blank vs ρ3) σ := S6.less (fun b z => z.1) (fun b hb => ⟨L.S.dA b hb, fun z => dD (z ▸ hb)⟩) (fun b hb => ⟨L.S.up b (.inl hb), fun z => n0.2 (z ▸ hb)⟩) fun j u b ej e5 => by
          obtain ⟨b', r1, r2, r3, r4, r5⟩ := S5.own j u ej
          rw [e5] at r1
          cases r1
          exact ⟨r3, fun z => r5.2 (.inr z)⟩
        have eA : A2 = adj (fun b => A2 b ∧ b ≠ D) D := by
          funext b
          apply propext
          constructor
          · intro z
            by_cases c : b = D
            · exact .inr c
            · exact .inl ⟨z, c⟩
          · rintro (z | rfl)
            · exact z.1
            · exact hA2
        refine q (fun b => A2 b ∧ b ≠ D) H2 D (fun b z => ?_) (k1.trans L.k) (S1.unseen k1 hD) S7 (eA ▸ S6) (eA ▸ ⟨av, L.hD, L.r⟩)
        rcases L.aa b z.1 with y | y
        · exact a1 b y
        · exact absurd y z.2
      · obtain ⟨h1, h2⟩ := (L.wk H2 A2 Pe.refl).item i t e3
        have hlt := (List.getElem?_eq_some_iff.mp e3).1
        refine .inr ⟨h1, fun H => ∃ A ρ at' av, LcI w g HB A1 H1 D J ts (lcL f mc m vs) us ρ2 σ vs (i + 1) H A ρ at' av, fun H' z => ⟨ts.length - (i + 1), by omega, rfl, by omega, z⟩, fun x H3 hy => ?_⟩
        obtain ⟨k2, r2⟩ := h2 x H3 hy
        have P2 : Pe w g H2 A2 H3 A2 := Pe.of (fun _ z => z) (k2.mono fun _ z => z.elim)
        have out := L.out
        rw [e4, lcL] at out
        cases e5 : f t (blank vs ρ3) with
        | none => rw [e5] at out; cases out
        | some ρ4 =>
          rw [e5] at out
          simp only at out
          refine ⟨HB, g, A2, blank vs ρ3, t, L.S.same k2, r2, ?_⟩
          rw [e5]
          intro σ2 S2 w2
          have w2' : wipe σ2 vs = wipe σ vs := w2.trans (wipe_wipe vs)
          refine ⟨w2', HB, g, A2, ρ4, S2, ?_⟩
          cases e6 : mc ρ4 with
          | bad => rw [e6] at out; cases out
          | ex _ _ _ => rw [e6] at out; cases out
          | ok b ρ5 =>
            rw [e6] at out
            intro A3 H4 a3 k3 S3
            have hD3 : H3 D = some (.lst av) := k2.same _ _ L.hD id
            have hD4 : H4 D = some (.lst av) := k3.same _ _ hD3 dD
            have P3 : Pe w g H2 A2 H4 A3 := P2.trans (Pe.of a3 (k3.mono S2.dA))
            cases b with
            | false =>
              rw [if_neg (by decide)]
              have S3' := S3.wiped vs
              rw [w2'] at S3'
              exact ⟨A3, ρ5, at', av, S3', hD4, P3.vrs L.r, by have := L.hl; omega, L.wk.later P3, (L.k.trans (k2.mono fun _ z => z.elim)).trans k3, fun b z => L.aa b (a3 b z), out⟩
            | true =>
              rw [if_pos rfl]
              simp only at out
              refine ⟨HB, g, A3, ρ5, S3, ?_⟩
              cases e7 : m ρ5 with
              | bad => rw [e7] at out; cases out
              | ex _ _ _ => rw [e7] at out; cases out
              | ok u ρ6 =>
                rw [e7] at out
                intro A4 H5 y a4 k4 S4 r4
                have hD5 : H5 D = some (.lst av) := k4.same _ _ hD4 dD
                have P4 : Pe w g H2 A2 H5 A4 := P3.trans (Pe.of a4 (k4.mono S3.dA))
                have hA4 : A4 D := S4.up D (.inr rfl)
                have S4' := S4.wiped vs
                obtain ⟨k5, S5⟩ := S4'.poke (o := .lst (av ++ [y])) hA4 dD n0.1 (fun i t e z => by
                  obtain ⟨a, q1, _, _, _, q5⟩ := S4'.own i t e
                  rw [z] at q1
                  cases q1
                  exact q5.2 (.inr rfl)) hD5 (fun _ z => nomatch z) (fun _ _ z => nomatch z)
                have kk : Kp (DD g) H1 (upd H5 D (.lst (av ++ [y]))) := by
                  have k6 := ((L.k.trans (k2.mono fun _ z => z.elim)).trans k3).trans k4
                  exact ⟨fun b u e n => by rw [upd_ne (ne_of_none e hD)]; exact k6.same b u e n, fun b u e => by rw [upd_ne (ne_of_none e hD)]; exact k6.tups b u e, fun b u v e => by rw [upd_ne (ne_of_none e hD)]; exact k6.frzs b u v e⟩
                have P5 : Pe w g H2 A2 (upd H5 D (.lst (av ++ [y]))) A4 := P4.trans (Pe.of (fun _ z => z) k5)
                refine ⟨av, hD5, by rw [← L.r.length]; have := L.hl; omega, A4, ρ6, at' ++ [u], av ++ [y], by rw [← w2']; exact S5, upd_same, (P5.vrs L.r).append (.cons (r4.keep k5) .nil), by rw [List.length_append]; have := L.hl; simp only [List.length_singleton]; omega, L.wk.later P5, kk, fun b z => L.aa b (a3 b (a4 b z)), out⟩
theorem f_lc {scope : Scope} {own : List (Str × Nat)} {vs : List Nat} {mi : M (List T)} {f : Tgt} {mc : M Bool} {m : M T} (hc : X.calm = true) (hN : X.N.Nodup) (hi : PI X tg iter (rdI w H0 W mi)) (ok : BlkOk X.N X.env.scope scope own) (hvs : own.map (·.2) = vs)
    (hg : ∀ (H0 : En) (s : Shared) (H : Hp) (C : Addr) (cl : List (Str × Addr)) (fp : List Addr), PG (X.blk s H scope (compEnvC scope cl C X.env) fp) tg (rdGc w H0 vs f))
    (ht : ∀ (H0 : En) (s : Shared) (H : Hp) (C : Addr) (cl : List (Str × Addr)) (fp : List Addr), PTs (X.blk s H scope (compEnvC scope cl C X.env) fp) ifs (rdT w H0 WN mc))
    (he : ∀ (H0 : En) (s : Shared) (H : Hp) (C : Addr) (cl : List (Str × Addr)) (fp : List Addr), PE (X.blk s H scope (compEnvC scope cl C X.env) fp) elt (rdE w H0 WN m)) (hs : ∀ x, foldedSetIterable iter X.env x = pure x := by intro _; rfl) :
    PE X (.ListComp elt [⟨tg, iter, ifs, 0⟩] scope pos) (rdF w H0 W (mLc mi f mc m vs)) :=
  (pe_lc hc hN hi ok (fun s H C cl fp => exG fun B => hg B s H C cl fp) (fun s H C cl fp => exTs fun B => ht B s H C cl fp) (fun s H C cl fp => exE fun B => he B s H C cl fp) hs).imp fun σ H Q q => by
    rw [hvs]
    exact lc_conv q
/-- name = [..], on one line -/
theorem lc_own {i : Nat} {y : Str} {py spos : Pos} {scope : Scope} {own : List (Str × Nat)} {vs : List Nat} {mi : M (List T)} {f : Tgt} {mc : M Bool} {m : M T} (hc : X.calm = true) (hN : X.N.Nodup) (hy : X.N[i]? = some y) (hyl : X.env.scope.names.lookup y = some .local)
    (hsw : swapsWith (.ListComp elt [⟨tg, iter, ifs, 0⟩] scope pos) (some (.Name y py)) spos.line X.env = pure true) (hi : PI X tg iter (rdI w H0 W mi)) (ok : BlkOk X.N X.env.scope scope own) (hvs : own.map (·.2) = vs)
    (hg : ∀ (H0 : En) (s : Shared) (H : Hp) (C : Addr) (cl : List (Str × Addr)) (fp : List Addr), PG (X.blk s H scope (compEnvC scope cl C X.env) fp) tg (rdGc w H0 vs f))
    (ht : ∀ (H0 : En) (s : Shared) (H : Hp) (C : Addr) (cl : List (Str × Addr)) (fp : List Addr), PTs (X.blk s H scope (compEnvC scope cl C X.env) fp) ifs (rdT w H0 WN mc))
    (he : ∀ (H0 : En) (s : Shared) (H : Hp) (C : Addr) (cl : List (Str × Addr)) (fp : List Addr), PE (X.blk s H scope (compEnvC scope cl C X.env) fp) elt (rdE w H0 WN m)) (hs : ∀ x, foldedSetIterable iter X.env x = pure x := by intro _; rfl) :
    PS X (.Assign [.Name y py] (.ListComp elt [⟨tg, iter, ifs, 0⟩] scope pos) spos) (tAsg (rdF w H0 W (mLc mi f mc m vs)) (gName i)) :=
  (ps_setLc hc hN hy hyl hsw hi ok (fun s H C cl fp => exG fun B => hg B s H C cl fp) (fun s H C cl fp => exTs fun B => ht B s H C cl fp) (fun s H C cl fp => exE fun B => he B s H C cl fp) hs).imp fun D σ H q => by
    rw [hvs]
    exact lc_conv q
theorem s_ownLc {i : Nat} {y : Str} {py spos : Pos} {mm : M T} (h : PS X (.Assign [.Name y py] e spos) (tAsg (rdF w H0 W mm) (gName i))) : PS X (.Assign [.Name y py] e spos) (rdS w H0 W (mOwn i mm)) := h.imp fun D σ H q => own_core q
theorem s_setLc {i : Nat} {y : Str} {py spos : Pos} {mm : M T} (h : PS X (.Assign [.Name y py] e spos) (tAsg (rdF w H0 W mm) (gName i))) : PS X (.Assign [.Name y py] e spos) (rdS w H0 W (mSet i mm)) := h.imp fun D σ H q => set_coreF q
end
end MP
end

section
set_option Elab.async false
set_option linter.all false
set_option maxRecDepth 100000
/-! MP10: objects in the making; dict displays, get; owned slots changed. -/
namespace MP
open PySem PySem.Spec L2

/-- the entry with p kept apart -/
abbrev En.hold (H0 : En) (p : Addr) : En := ⟨H0.h, adj H0.A p⟩
/-- A without p -/
abbrev but (A : Addr → Prop) (p : Addr) : Addr → Prop := fun b => A b ∧ b ≠ p
theorem adj_but {A : Addr → Prop} {p : Addr} (h : A p) : adj (but A p) p = A := by
  funext b
  apply propext
  constructor
  · rintro (z | rfl)
    · exact z.1
    · exact h
  · intro z
    by_cases c : b = p
    · exact .inr c
    · exact .inl ⟨z, c⟩
section
variable {w : Wd} {g : DG} {H0 : En} {H H' H1 H2 : Hp} {A A' A1 A2 : Addr → Prop} {ρ : Ev} {σ σ' : L2.St} {p : Addr}
theorem SR.grow (S1 : SR w g H0 H1 A1 ρ σ) (hp : H1 p = none) (o : HO) : SR w g H0 (upd H1 p o) (adj A1 p) ρ σ := by
  have k : Kp (fun _ => False) H1 (upd H1 p o) := Kp.new hp
  have S2 := S1.same k
  refine ⟨S2.len, fun b hb => .inl (S2.up b hb), fun i u e => ?_, fun i u e => ?_, S2.apart, S2.draw, fun a z => .inl (S2.dA a z), fun a z => ?_, S2.fr⟩
  · obtain ⟨v, q1, q2⟩ := S1.sh i u e
    exact ⟨v, q1, (q2.grow hp).keep (k.mono fun _ z => z.elim)⟩
  · obtain ⟨a, q1, q2, q3, q4⟩ := S1.own i u e
    obtain ⟨o', e2, _⟩ := q2.there
    exact ⟨a, q1, (q2.grow hp).keep (k.mono fun _ z => z.elim) ((k.same _ _ e2 id).trans e2.symm), .inl q3, q4⟩
  · rcases z with z | rfl
    · exact S2.aT a z
    · rw [upd_same]; exact fun z => nomatch z
theorem SR.hold (S1 : SR w g H0 H1 A1 ρ σ) (hp : H1 p = none) (o : HO) : SR w g (H0.hold p) (upd H1 p o) (adj A1 p) ρ σ := by
  have S4 := S1.grow hp o
  refine ⟨S4.len, fun b z => ?_, S4.sh, fun i t e => ?_, S4.apart, S4.draw, S4.dA, S4.aT, S4.fr⟩
  · rcases z with z | rfl
    · exact .inl (S1.up b z)
    · exact .inr rfl
  · obtain ⟨a, h1, h2, h3, h4, h5⟩ := S4.own i t e
    refine ⟨a, h1, h2, h3, h4, h5.1, fun z => ?_⟩
    rcases z with z | rfl
    · exact h5.2 z
    · obtain ⟨a', r1, r2, r3, _⟩ := S1.own i t e
      rw [h1] at r1
      cases r1
      exact S1.aT _ r3 hp
/-- what is held is let go -/
theorem SR.let (S : SR w g (H0.hold p) H A ρ σ) : SR w g H0 H A ρ σ :=
  ⟨S.len, fun b z => S.up b (.inl z), S.sh, fun i t e => let ⟨a, h1, h2, h3, h4, h5⟩ := S.own i t e; ⟨a, h1, h2, h3, h4, h5.1, fun z => h5.2 (.inl z)⟩, S.apart, S.draw, S.dA, S.aT, S.fr⟩
theorem SR.letBut (S : SR w g (H0.hold p) H A ρ σ) (nw : H0.New p) (nd : ¬ DD g p) : SR w g H0 H (but A p) ρ σ :=
  S.let.less (fun b z => z.1) (fun b hb => ⟨S.dA b hb, fun z => nd (z ▸ hb)⟩) (fun b hb => ⟨S.up b (.inl hb), fun z => nw.2 (z ▸ hb)⟩) fun j u b ej e5 => by
    obtain ⟨b', r1, r2, r3, r4, r5⟩ := S.own j u ej
    rw [e5] at r1
    cases r1
    exact ⟨r3, fun z => r5.2 (.inr z)⟩
theorem SR.held (S : SR w g (H0.hold p) H A ρ σ) : A p := S.up p (.inr rfl)
theorem SR.noSlot (S : SR w g (H0.hold p) H A ρ σ) : ∀ (i : Nat) (t : T), ρ.sl[i]? = some (some (true, t)) → σ[i]? ≠ some (some (V.ref p)) := fun i t e z => by
  obtain ⟨a, q1, _, _, _, q5⟩ := S.own i t e
  rw [z] at q1
  cases q1
  exact q5.2 (.inr rfl)
/-- the object of a slot is changed -/
theorem SR.pokeOwn {i : Nat} {t t' : T} {a : Addr} {o : HO} (S : SR w g H0 H A ρ σ) (e : ρ.sl[i]? = some (some (true, t))) (ea : σ[i]? = some (some (.ref a))) (r : ORep w g (upd H a o) A t' a) :
    Kp A H (upd H a o) ∧ SR w g H0 (upd H a o) A (setSl ρ i (some (true, t'))) σ := by
  obtain ⟨a', h1, h2, h3, h4, h5⟩ := S.own i t e
  rw [ea] at h1
  obtain rfl : a = a' := by cases h1; rfl
  obtain ⟨o0, h0, nt, nf, _⟩ := h2.there
  have hi : i < ρ.sl.length := (List.getElem?_eq_some_iff.mp e).1
  have k : Kp A H (upd H a o) := ⟨fun b u e n => by rw [upd_ne (fun z => n (by rw [z]; exact h3))]; exact e, fun b xs e => by
    rw [upd_ne (fun z => by rw [z, h0] at e; exact nt xs (Option.some.inj e))]; exact e, fun b ob u e => by
    rw [upd_ne (fun z => by rw [z, h0] at e; exact nf ob u (Option.some.inj e))]; exact e⟩
  have gs : ∀ {j : Nat} {q : Option (Bool × T)}, (setSl ρ i (some (true, t'))).sl[j]? = some q → (j = i ∧ q = some (true, t')) ∨ (j ≠ i ∧ ρ.sl[j]? = some q) := fun {j q} e => by
    have e : (ρ.sl.set i (some (true, t')))[j]? = some q := e
    by_cases c : j = i
    · subst c
      rw [List.getElem?_set_self hi] at e
      exact .inl ⟨rfl, (Option.some.inj e).symm⟩
    · rw [List.getElem?_set_ne (Ne.symm c)] at e
      exact .inr ⟨c, e⟩
  refine ⟨k, by show (ρ.sl.set i _).length = _; rw [List.length_set]; exact S.len, S.up, fun j u e2 => ?_, fun j u e2 => ?_, fun j l u u' b hjl ej el hb => ?_, fun d b c eg => ?_, S.dA, fun b hb => ?_, ?_⟩
  · rcases gs e2 with ⟨_, z⟩ | ⟨c, e3⟩
    · cases z
    · let ⟨v, q1, q2⟩ := S.sh j u e3
      exact ⟨v, q1, q2.keep k⟩
  · rcases gs e2 with ⟨rfl, z⟩ | ⟨c, e3⟩
    · cases z
      exact ⟨a, ea, r, h3, h4, h5⟩
    · obtain ⟨b, q1, q2, q3⟩ := S.own j u e3
      exact ⟨b, q1, q2.keep k (upd_ne fun z => S.apart j i u t b c e3 e q1 (by rw [ea, z])), q3⟩
  · have old : ∀ {j : Nat} {u : T}, (setSl ρ i (some (true, t'))).sl[j]? = some (some (true, u)) → ∃ u', ρ.sl[j]? = some (some (true, u')) := fun {j u} z => by
      rcases gs z with ⟨rfl, _⟩ | ⟨_, z⟩
      · exact ⟨t, e⟩
      · exact ⟨u, z⟩
    obtain ⟨u1, e1⟩ := old ej
    obtain ⟨u2, e2⟩ := old el
    exact S.apart j l u1 u2 b hjl e1 e2 hb
  · have Dr := S.draw d b c eg
    exact ⟨by rw [upd_ne fun z => h4 ⟨d, b, c, eg, .inl z.symm⟩]; exact Dr.dd, by rw [upd_ne fun z => h4 ⟨d, b, c, eg, .inr (.inl z.symm)⟩]; exact Dr.db, by rw [upd_ne fun z => h4 ⟨d, b, c, eg, .inr (.inr z.symm)⟩]; exact Dr.dc, Dr.bc, Dr.ok⟩
  · by_cases c : b = a
    · rw [c, upd_same]; exact fun z => nomatch z
    · rw [upd_ne c]; exact S.aT b hb
  · refine ⟨fun b u e n => ?_, fun b xs e => ?_, fun b ob u e => ?_⟩
    · rw [upd_ne (ne_of_none e h5.1)]; exact S.fr.same b u e n
    · rw [upd_ne (ne_of_none e h5.1)]; exact S.fr.tups b xs e
    · rw [upd_ne (ne_of_none e h5.1)]; exact S.fr.frzs b ob u e
end

section
variable {X : Cx} {w : Wd} {H0 : En} {W : WX} {e a b c : Expr} {es rest : List Expr} {pos p2 p apos cpos : Pos}
/-! ### empty dicts -/
theorem f_dnew : PE X (.Dict [] [] pos) (rdF w H0 W (mC (.dic []))) := pe_dnewK.imp fun σ H Q q => by
  obtain ⟨g, A, ρ, S, q⟩ := q
  intro p hp
  have o1 : ORep w g (upd H p (.dK [])) A (.dic []) p := ⟨[], upd_same, rfl, .nil⟩
  have o2 : ORep w g (upd H p (.dK [])) (adj A p) (.dic []) p := ⟨[], upd_same, rfl, .nil⟩
  obtain ⟨S2, S3⟩ := new_own S hp o1 o2
  exact q A _ p (fun _ z => z) (Kp.new hp) hp S2 S3 o2

/-! ### displays -/
def mPairs : List (M T × M T) → M (List (T × T))
  | [] => fun ρ => .ok [] ρ
  | (mk, mv) :: r => bindM mk fun k => bindM mv fun v => bindM (mPairs r) fun ps => fun ρ => .ok ((k, v) :: ps) ρ
def rdPs (w : Wd) (H0 : En) (W : WX) (m : M (List (T × T))) : L2.St → Hp → (List (V × V) → Hp → Prop) → Prop := fun σ H Q => ∃ g A ρ, SR w g H0 H A ρ σ ∧ match m ρ with
  | .ok ts ρ' => ∀ A' H' vs, (∀ a, A' a → A a) → Kp (DD g) H H' → SR w g H0 H' A' ρ' σ → VReps w g H' A' (ts.map (·.1)) (vs.map (·.1)) → VReps w g H' A' (ts.map (·.2)) (vs.map (·.2)) → Q vs H'
  | .ex c f ρ' => ∀ A' H' cls d, (∀ a, A' a → A a) → SR w g H0 H' A' ρ' σ → XRep w g H' A' c f cls d → W cls d σ H'
  | .bad => False
abbrev rdX (w : Wd) (W : WX) (m : M T) : TE := fun σ H Q => ∃ B, rdE w B W m σ H Q
theorem pairs_core : ∀ (ms : List (M T × M T)) {B : En} {σ : L2.St} {H : Hp} {Q : List (V × V) → Hp → Prop}, rdPs w B W (mPairs ms) σ H Q → tPairs (ms.map fun m => (rdX w W m.1, rdX w W m.2)) σ H Q
  | [], B, σ, H, Q, q => by
    obtain ⟨g, A, ρ, S, q⟩ := q
    exact q A H [] (fun _ z => z) Kp.refl S .nil .nil
  | (mk, mv) :: r, B, σ, H, Q, q => by
    obtain ⟨g, A, ρ, S, q⟩ := q
    simp only [mPairs, bindM] at q
    show tPairs ((rdX w W mk, rdX w W mv) :: r.map fun m => (rdX w W m.1, rdX w W m.2)) σ H Q
    refine ⟨B, g, A, ρ, S, ?_⟩
    cases e1 : mk ρ with
    | bad => rw [e1] at q; exact q
    | ex c f ρ1 => rw [e1] at q; exact q
    | ok k ρ1 =>
      rw [e1] at q
      simp only at q
      intro A1 H1 v1 a1 k1 S1 r1
      refine ⟨B, g, A1, ρ1, S1, ?_⟩
      cases e2 : mv ρ1 with
      | bad => rw [e2] at q; exact q
      | ex c f ρ2 => rw [e2] at q; exact fun A' H' cls d a' => q A' H' cls d fun a z => a1 a (a' a z)
      | ok t ρ2 =>
        rw [e2] at q
        simp only at q
        intro A2 H2 v2 a2 k2 S2 r2
        refine pairs_core r ⟨g, A2, ρ2, S2, ?_⟩
        cases e3 : mPairs r ρ2 with
        | bad => rw [e3] at q; exact q
        | ex c f ρ3 => rw [e3] at q; exact fun A' H' cls d a' => q A' H' cls d fun a z => a1 a (a2 a (a' a z))
        | ok ps ρ3 =>
          rw [e3] at q
          simp only at q
          intro A3 H3 vs a3 k3 S3 r3 r3'
          refine q A3 H3 ((v1, v2) :: vs) (fun a z => a1 a (a2 a (a3 a z))) ((k1.trans k2).trans k3) S3 ?_ ?_
          · exact .cons ((r1.next a2 S1.dA k2).next a3 S2.dA k3) r3
          · exact .cons (r2.next a3 S2.dA k3) r3'
def keysT : List (T × T) → Option (List (Key × T))
  | [] => some []
  | (k, v) :: r => match keyT k, keysT r with
    | some k, some r => some ((k, v) :: r)
    | _, _ => none
def mergeT (kts more : List (Key × T)) : List (Key × T) := more.foldl (fun acc kv => putT acc kv.1 kv.2) kts
theorem keys_core {g : DG} {H : Hp} {A : Addr → Prop} : ∀ {ps : List (T × T)} {vs : List (V × V)} {kts : List (Key × T)}, keysT ps = some kts → VReps w g H A (ps.map (·.1)) (vs.map (·.1)) → VReps w g H A (ps.map (·.2)) (vs.map (·.2)) →
    ∃ kvs : List (Key × V), vs = kvs.map (fun kv => (kV kv.1, kv.2)) ∧ KReps w g H A kts kvs
  | [], vs, kts, h, r1, r2 => by
    cases h
    cases vs with
    | nil => exact ⟨[], rfl, KReps.nil⟩
    | cons _ _ => cases r1
  | (k, v) :: ps, vs, kts, h, r1, r2 => by
    cases vs with
    | nil => cases r1
    | cons y vs =>
      rw [keysT] at h
      cases e1 : keyT k with
      | none => rw [e1] at h; cases h
      | some k' =>
        cases e2 : keysT ps with
        | none => rw [e1, e2] at h; cases h
        | some r =>
          rw [e1, e2] at h
          cases h
          cases r1 with
          | cons q1 r1 => cases r2 with
            | cons q2 r2 =>
              obtain ⟨kvs, e3, q3⟩ := keys_core e2 r1 r2
              have := keyT_some e1 (.inl q1)
              exact ⟨(k', y.2) :: kvs, by rw [List.map_cons, ← e3, ← this], q3.cons q2⟩
theorem KReps.merge {g : DG} {H : Hp} {A : Addr → Prop} : ∀ {more : List (Key × T)} {moreV : List (Key × V)} {kts : List (Key × T)} {kvs : List (Key × V)}, KReps w g H A more moreV → KReps w g H A kts kvs → KReps w g H A (mergeT kts more) (mergeK kvs moreV) := by
  intro more moreV kts kvs h
  refine KReps.ind (P := fun more moreV => ∀ kts kvs, KReps w g H A kts kvs → KReps w g H A (mergeT kts more) (mergeK kvs moreV)) ?_ ?_ h kts kvs
  · exact fun _ _ h => h
  · exact fun k t v ms mvs r _ ih kts kvs h => ih _ _ (h.put r)
def mDisp (ms : List (M T × M T)) : M T := bindM (mPairs ms) fun ps => fun ρ => match keysT ps with
  | some kts => if kts.length ≤ 15 then .ok (.dic (mergeT [] kts)) ρ else .bad
  | none => .bad
theorem xps_nil : PPs X pos [] [] (([] : List (M T × M T)).map fun m => (rdX w W m.1, rdX w W m.2)) := pps_nil
theorem xps_cons {k v : Expr} {ks : List (Option Expr)} {vs : List Expr} {mk mv : M T} {ms : List (M T × M T)} (hk : ∀ B, PE X k (rdE w B W mk)) (hv : ∀ B, PE X v (rdE w B W mv)) (hr : PPs X pos ks vs (ms.map fun m => (rdX w W m.1, rdX w W m.2))) :
    PPs X pos (some k :: ks) (v :: vs) (((mk, mv) :: ms).map fun m => (rdX w W m.1, rdX w W m.2)) := pps_cons (exE hk) (exE hv) hr
theorem f_disp {keys : List (Option Expr)} {values : List Expr} {ms : List (M T × M T)} (h : PPs X pos keys values (ms.map fun m => (rdX w W m.1, rdX w W m.2))) (hall : keys.all (·.isSome) = true := by rfl) (hl : keys.length = values.length := by rfl) (h0 : keys ≠ [] := by intro z; cases z)
    (h15 : keys.length ≤ 15 := by decide) : PE X (.Dict keys values pos) (rdF w H0 W (mDisp ms)) := (pe_disp h hall hl h0 h15).imp fun σ H Q q => by
  obtain ⟨g, A, ρ, S, q⟩ := q
  intro p hp
  have np : ¬ A p := fun z => S.aT p z hp
  have nd : ¬ DD g p := fun z => np (S.dA p z)
  have nw := S.new0 hp
  refine pairs_core (B := H0.hold p) ms ⟨g, adj A p, ρ, S.hold hp _, ?_⟩
  unfold mDisp bindM at q
  cases e1 : mPairs ms ρ with
  | bad => rw [e1] at q; exact q
  | ex c f ρ1 =>
    rw [e1] at q
    intro A' H' cls d a' S' x
    refine q (but A' p) H' cls d (fun b z => ?_) (S'.letBut nw nd) ?_
    · rcases a' b z.1 with y | y
      · exact y
      · exact absurd y z.2
    · obtain ⟨x1, x2⟩ := x
      refine ⟨x1, ?_⟩
      cases f with
      | none => trivial
      | some nt =>
        obtain ⟨dx, v, x3, x4, x5⟩ := x2
        exact ⟨dx, v, x3, x4, x5.weak fun b z => z.1⟩
  | ok ps ρ1 =>
    rw [e1] at q
    simp only at q
    intro A2 H2 vs a2 k2 S2 r1 r2
    have hp2 : H2 p = some (.dK []) := k2.same _ _ upd_same nd
    refine ⟨hp2, ?_⟩
    cases e2 : keysT ps with
    | none => rw [e2] at q; exact q.elim
    | some kts =>
      rw [e2] at q
      by_cases c : kts.length ≤ 15
      case neg => simp only [if_neg c] at q
      simp only [if_pos c] at q
      obtain ⟨kvs, e3, r3⟩ := keys_core e2 r1 r2
      refine ⟨kvs, e3, by rw [← r3.length]; exact c, ?_⟩
      obtain ⟨k5, S5⟩ := S2.poke (o := .dK (mergeK [] kvs)) S2.held nd nw.1 S2.noSlot hp2 (fun _ z => nomatch z) (fun _ _ z => nomatch z)
      have rr : KReps w g (upd H2 p (.dK (mergeK [] kvs))) A2 (mergeT [] kts) (mergeK [] kvs) := by
        have := KReps.merge r3 (KReps.nil (w := w) (g := g) (H := H2) (A := A2))
        exact ⟨this.1, this.2.keep k5⟩
      have o2 : ORep w g (upd H2 p (.dK (mergeK [] kvs))) (adj (but A2 p) p) (.dic (mergeT [] kts)) p := by
        rw [adj_but S2.held]
        exact ⟨_, upd_same, rr.1, rr.2⟩
      refine q (but A2 p) _ p (fun b z => ?_) ?_ hp (S5.letBut nw nd) (by rw [adj_but S2.held]; exact S5.let) o2
      · rcases a2 b z.1 with y | y
        · exact y
        · exact absurd y z.2
      · have k6 : Kp (DD g) H H2 := (Kp.new hp).trans k2
        exact ⟨fun b u e n => by rw [upd_ne (ne_of_none e hp)]; exact k6.same b u e n, fun b u e => by rw [upd_ne (ne_of_none e hp)]; exact k6.tups b u e, fun b u v e => by rw [upd_ne (ne_of_none e hp)]; exact k6.frzs b u v e⟩
end
end MP
end

section
set_option Elab.async false
set_option linter.all false
set_option maxRecDepth 100000
/-! MP11: owned slots changed. -/
namespace MP
open PySem PySem.Spec L2

/-- an expression that may change what is one's own -/
def rdM (w : Wd) (H0 : En) (W : WX) (m : M T) : TE := fun σ H Q => ∃ g A ρ, SR w g H0 H A ρ σ ∧ match m ρ with
  | .ok t ρ' => ∀ A' H' v, Pe w g H A H' A' → SR w g H0 H' A' ρ' σ → VRep w g H' A' t v → Q v H'
  | .ex c f ρ' => ∀ A' H' cls d, SR w g H0 H' A' ρ' σ → XRep w g H' A' c f cls d → W cls d σ H'
  | .bad => False
section
variable {X : Cx} {w : Wd} {H0 : En} {W : WX} {e a b c o : Expr} {es rest : List Expr} {pos p2 p apos cpos : Pos}
theorem s_dropM {m : M T} (he : PE X e (rdM w H0 W m)) (hs : swapsWith e none pos.line X.env = pure false := by rfl) : PS X (.Expr e pos) (rdS w H0 W (mDrop m)) := (ps_expr he hs).imp fun D σ H q => by
  obtain ⟨g, A, ρ, S, q⟩ := q
  refine ⟨g, A, ρ, S, ?_⟩
  unfold mDrop mThen at q
  cases e1 : m ρ with
  | bad => rw [e1] at q; exact q
  | ex c f ρ1 => rw [e1] at q; exact fun A' H' cls d => q A' H' σ cls d
  | ok t ρ1 =>
    simp only [e1] at q
    exact fun A1 H1 v P1 S1 r1 => q A1 H1 σ P1 S1
theorem s_setM {i : Nat} {x : Str} {pos' : Pos} {m : M T} (hN : X.N.Nodup) (hi : X.N[i]? = some x) (hx : Loc X.env.scope x) (he : PE X e (rdM w H0 W m)) (hs : swapsWith e (some (.Name x pos')) pos.line X.env = pure false := by rfl) (hf : X.fn x = true ∨ X.env.scope.names.lookup x = some .local := by first | exact .inl rfl | exact .inr rfl | assumption) :
    PS X (.Assign [.Name x pos'] e pos) (rdS w H0 W (mSet i m)) := (ps_set hN hi hx he hs hf).imp fun D σ H q => by
  obtain ⟨g, A, ρ, S, q⟩ := q
  refine ⟨g, A, ρ, S, ?_⟩
  unfold mSet mThen at q
  cases e1 : m ρ with
  | bad => rw [e1] at q; exact q
  | ex c f ρ1 => rw [e1] at q; exact fun A' H' cls d => q A' H' σ cls d
  | ok t ρ1 =>
    simp only [e1] at q
    exact fun A1 H1 v P1 S1 r1 => q A1 H1 _ P1 (S1.set r1)
theorem s_asgM {m : M T} {f : Tgt} {tg : Expr} (he : PE X e (rdM w H0 W m)) (hg : PG X tg (rdG w H0 f)) (hs : swapsWithSole [tg] e pos.line X.env = pure false := by rfl) (hw : swappedStores [tg] e X.env = pure none := by rfl)
    (h1 : (assignEach [tg] X.env).map (·.2) = [assign tg X.env] := by rfl) : PS X (.Assign [tg] e pos) (rdS w H0 W (mAsg m f)) := (ps_asg he hg hs hw h1).imp fun D σ H q => by
  obtain ⟨g, A, ρ, S, q⟩ := q
  refine ⟨g, A, ρ, S, ?_⟩
  unfold mAsg mThen at q
  cases e1 : m ρ with
  | bad => rw [e1] at q; exact q
  | ex c f ρ1 => rw [e1] at q; exact fun A' H' cls d => q A' H' σ cls d
  | ok t ρ1 =>
    simp only [e1] at q
    intro A1 H1 v P1 S1 r1
    refine ⟨g, A1, ρ1, t, S1, r1, ?_⟩
    cases e2 : f t ρ1 with
    | none => simp only [e2] at q
    | some ρ2 =>
      simp only [e2] at q
      exact fun A2 H2 σ' P2 S' => q A2 H2 σ' (P1.trans P2) S'
/-- a method that changes its receiver -/
def OwnMt (X : Cx) (w : Wd) (id T : String) (F : MP.T → List MP.T → Option (MP.T × MP.T)) : Prop := ∃ r, MtR X id r ∧ ∀ (g : DG) (H : Hp) (A : Addr → Prop) (a : Addr) (t : MP.T) (ts : List MP.T) (vs : List V) (t' u : MP.T),
  ORep w g H A t a → A a → VReps w g H A ts vs → F t ts = some (t', u) → tyV X.K T (.ref a) H ∧ ∃ o v, (Kp A H (upd H a o) → ORep w g (upd H a o) A t' a) ∧ VRep w g H A u v ∧ ∀ Q : VK, Q v (upd H a o) → r (.ref a) vs H Q
def tyT (T : String) : MP.T → Bool
  | .lst _ => T == "list"
  | .dic _ => T == "dict"
  | _ => false
/-- slot i is changed by F -/
def mOM (T : String) (i : Nat) (F : MP.T → List MP.T → Option (MP.T × MP.T)) (ma : M (List MP.T)) : M MP.T := fun ρ => match ρ.sl[i]? with
  | some (some (true, t0)) => if tyT T t0 = true then (match ma ρ with
    | .ok ts ρ1 => match ρ1.sl[i]? with
      | some (some (true, t)) => match F t ts with
        | some (t', u) => .ok u (setSl ρ1 i (some (true, t')))
        | none => .bad
      | _ => .bad
    | .ex c f ρ1 => .ex c f ρ1
    | .bad => .bad) else .bad
  | _ => .bad
theorem tyT_ok {g : DG} {H : Hp} {A : Addr → Prop} {t : MP.T} {a : Addr} {T : String} (h : ORep w g H A t a) (e : tyT T t = true) : tyV X.K T (.ref a) H := by
  cases t with
  | lst ts => obtain ⟨vs, h1, _⟩ := h; exact .inl ⟨eq_of_beq e, vs, .inl (.inl h1)⟩
  | dic ts => obtain ⟨vs, h1, _⟩ := h; exact .inr (.inr (.inl ⟨eq_of_beq e, .inl ⟨vs, h1⟩⟩))
  | _ => cases e
theorem om_core {T id : String} {i : Nat} {F : MP.T → List MP.T → Option (MP.T × MP.T)} {m : M (List MP.T)} {r : V → List V → Hp → VK → Prop}
    (h : ∀ (g : DG) (H : Hp) (A : Addr → Prop) (a : Addr) (t : MP.T) (ts : List MP.T) (vs : List V) (t' u : MP.T), ORep w g H A t a → A a → VReps w g H A ts vs → F t ts = some (t', u) → ∃ o v, (Kp A H (upd H a o) → ORep w g (upd H a o) A t' a) ∧ VRep w g H A u v ∧ ∀ Q : VK, Q v (upd H a o) → r (.ref a) vs H Q)
    {σ : L2.St} {H : Hp} {Q : VK} (q : rdM w H0 W (mOM T i F m) σ H Q) : tBM X.K T r (tVar i) (rdA w H0 W m) σ H Q := by
  obtain ⟨g, A, ρ, S, q⟩ := q
  unfold mOM at q
  cases e0 : ρ.sl[i]? with
  | none => simp only [e0] at q
  | some x =>
    cases x with
    | none => simp only [e0] at q
    | some x =>
      obtain ⟨fl, t0⟩ := x
      cases fl with
      | false => simp only [e0] at q
      | true =>
        obtain ⟨a, h1, h2, h3, h4, h5⟩ := S.own i t0 e0
        refine ⟨_, h1, ?_⟩
        simp only [e0] at q
        cases ety : tyT T t0 with
        | false => rw [ety] at q; exact q.elim
        | true =>
          rw [ety, if_pos rfl] at q
          refine ⟨tyT_ok h2 ety, g, A, ρ, S, ?_⟩
          cases e1 : m ρ with
          | bad => rw [e1] at q; exact q
          | ex c f ρ1 => rw [e1] at q; exact fun A' H' cls d _ => q A' H' cls d
          | ok ts ρ1 =>
            simp only [e1] at q
            intro A1 H1 vs a1 k1 S1 r1
            cases e2 : ρ1.sl[i]? with
            | none => simp only [e2] at q
            | some x =>
              cases x with
              | none => simp only [e2] at q
              | some x =>
                obtain ⟨fl, t⟩ := x
                cases fl with
                | false => simp only [e2] at q
                | true =>
                  simp only [e2] at q
                  obtain ⟨a', h1', h2', h3', h4', h5'⟩ := S1.own i t e2
                  rw [h1] at h1'
                  obtain rfl : a = a' := by cases h1'; rfl
                  cases e3 : F t ts with
                  | none => simp only [e3] at q
                  | some x =>
                    obtain ⟨t', u⟩ := x
                    simp only [e3] at q
                    obtain ⟨o, v, c1, c2, c3⟩ := h g H1 A1 a t ts vs t' u h2' h3' r1 e3
                    refine c3 Q ?_
                    have k : Kp A1 H1 (upd H1 a o) := by
                      obtain ⟨o0, h0, nt, nf, _⟩ := h2'.there
                      exact ⟨fun b u e n => by rw [upd_ne (fun z => n (by rw [z]; exact h3'))]; exact e, fun b xs e => by
                        rw [upd_ne (fun z => by rw [z, h0] at e; exact nt xs (Option.some.inj e))]; exact e, fun b ob u e => by
                        rw [upd_ne (fun z => by rw [z, h0] at e; exact nf ob u (Option.some.inj e))]; exact e⟩
                    obtain ⟨_, S2⟩ := S1.pokeOwn e2 h1 (c1 k)
                    exact q A1 _ v ((Pe.of a1 (k1.mono S.dA)).trans (Pe.of (fun _ z => z) k)) S2 (c2.keep k)
/-- append -/
def apF : MP.T → List MP.T → Option (MP.T × MP.T)
  | .lst ts, [t] => if ts.length < 1000000 then some (.lst (ts ++ [t]), .non) else none
  | _, _ => none
theorem lt_size {n : Nat} (h : n < 1000000) : n < sizeLine := Nat.lt_trans h (by decide)
theorem m_append {x : Str} {m : M (List MP.T)} (i : Nat) (hN : X.N[i]? = some x := by rfl) (ha : PA X [e] (rdA w H0 W m)) (hv : Vis X.env.scope x := by first | exact Or.inl rfl | exact Or.inr (Or.inl rfl) | exact Or.inr (Or.inr rfl)) (hd : (x == ("__debug__" : Str)) = false := by decide)
    (hcd : (x == ("__classdict__" : Str)) = false := by decide)
    (hbase : attributeBase (.Name x p2) "append" X.env (eval (.Name x p2) X.env) = eval (.Name x p2) X.env := by rfl)
    (hfew : ((backTo cpos (starEach (e :: []) X.env)).all (fun x => !x.1) && (backToKw cpos (keywordEach [] X.env)).all (fun x => x.1.isSome)
      && decide ((e :: []).length + ([] : List Keyword).length + (if ([] : List Keyword).isEmpty then 0 else 1) < 30)) = true := by rfl)
    (hline : (apos.endLine == cpos.line) = true := by rfl) (hs : starEach (e :: []) X.env = (false, eval e X.env) :: starEach [] X.env := by rfl) (hplain : (backTo cpos (starEach [] X.env)).any (·.1) = false := by rfl) :
    PE X (.Call (.Attribute (.Name x p2) "append" apos) [e] [] cpos) (rdM w H0 W (mOM "list" i apF m)) :=
  (pe_bm PySem.F.plainAttrs_list PySem.F.slot_list_append PySem.F.type_list_append mt_append (pe_var hN hv hd hcd) ha hbase hfew hline hs hplain).imp fun σ H Q q => om_core (id := "list.append") (fun g H A a t ts vs t' u ho hA rs hF => by
    cases t <;> first | (simp only [apF] at hF; cases hF; done) | skip
    rename_i ys
    cases rs with
    | nil => simp only [apF] at hF; cases hF
    | @cons t v _ _ r1 rs =>
      cases rs with
      | cons _ _ => simp only [apF] at hF; cases hF
      | nil =>
        obtain ⟨xs, h1, h2⟩ := ho
        by_cases c : ys.length < 1000000
        · rw [show apF (.lst ys) [t] = some (.lst (ys ++ [t]), .non) from if_pos c] at hF
          cases hF
          exact ⟨.lst (xs ++ [v]), .non, fun k => ⟨_, upd_same, (h2.keep k).append (.cons (r1.keep k) .nil)⟩, .non, fun Q q => ⟨a, xs, v, rfl, rfl, h1, by rw [← h2.length]; exact lt_size c, q⟩⟩
        · rw [show apF (.lst ys) [t] = none from if_neg c] at hF
          cases hF) q
end
end MP
end

section
set_option Elab.async false
set_option linter.all false
set_option maxRecDepth 100000
/-! MP12: defs and their calls. -/
namespace MP
open PySem PySem.Spec L2

/-! a def called where no repr is under way -/
structure RoomG (k : Nat) (A : Around) : Prop where
  r : Room k A
  g : A.guards = some []
theorem RoomG.mono {j k : Nat} {A : Around} (h : RoomG k A) (l : j ≤ k) : RoomG j A := ⟨h.r.mono l, h.g⟩
theorem RoomG.units {k : Nat} {A : Around} (h : RoomG k A) : A.units + 64 < cLine := h.r.units
theorem RoomG.in1 {k : Nat} {A : Around} (h : RoomG (k + 1) A) : RoomG k A.in1 := ⟨h.r.in1, h.g⟩
theorem make_guards {A : Around} {C : Addr} {us : List Value} {kw : List (Str × Value)} : (A.under (.builtin "type.__call__" ⟨.ref C :: us, kw⟩)).guards = A.guards := by
  first | rfl | simp [Around.under, Code.guards, Code.isGuard, pushGuards, guardIds]
theorem RoomG.make {k : Nat} {A : Around} (h : RoomG (k + 1) A) (C : Addr) (us : List Value) (kw : List (Str × Value)) : RoomG k (A.under (.builtin "type.__call__" ⟨.ref C :: us, kw⟩)) := ⟨h.r.make C us kw, make_guards.trans h.g⟩
structure FnG (P : Program) (w : World) (K : PySem.W.Frag) (mg : Str → Option Value) (base : Heap) (CX : CXT) (k : Nat) (f : Addr) (fd : FuncData) (ps : List Str) (sp : Sp) : Prop where
  len : ∀ vs H Q E, sp vs H Q E → vs.length = ps.length
  run : ∀ (A : Around) (outer : List Env) (s : Shared) (H : Hp) (args : Args) (us : List Value) (vs : List V) (Q : VK) (E : XK), RoomG k A → Env0 P w K mg base A outer s H → BindsTo s fd args (ps.zip us) → Vals vs us → sp vs H Q E →
    codeAny (model P w) A (.call (.ref f) args) (CR CX outer P w H s Q E) s
theorem FnG.imp {P : Program} {w : World} {K : PySem.W.Frag} {mg : Str → Option Value} {base : Heap} {CX : CXT} {k : Nat} {f : Addr} {fd : FuncData} {ps : List Str} {sp sp' : Sp} (F : FnG P w K mg base CX k f fd ps sp)
    (h : ∀ vs H Q E, sp' vs H Q E → sp vs H Q E) : FnG P w K mg base CX k f fd ps sp' :=
  ⟨fun vs H Q E q => F.len vs H Q E (h _ _ _ _ q), fun A outer s H args us vs Q E hr he hb hv hs => F.run A outer s H args us vs Q E hr he hb hv (h _ _ _ _ hs)⟩
/-- a def by its body -/
theorem okG {P : Program} {w : World} {K : PySem.W.Frag} {mg : Str → Option Value} {base : Heap} {x qual : Str} {params : Arguments} {body : List Stmt} {scope : Scope} {dvs : List V} {kws : List (Str × V)} {f : Addr} {fd : FuncData} {CX : CXT} {N ps : List Str} {k : Nat} {sp : Sp}
    (F : FunD K x qual params body scope dvs kws f fd) (S : FnScope N ps scope) (len : ∀ vs H Q E, sp vs H Q E → vs.length = ps.length)
    (hbody : ∀ (cdv : Value) (A : Around) (outer : List Env) (s : Shared) (H : Hp) (vs : List V) (Q : VK) (E : XK), RoomG k (cxOf CX P w K mg base N qual scope f cdv A outer s H E).A → sp vs H Q E →
      ∃ t, PSs (cxOf CX P w K mg base N qual scope f cdv A outer s H E) body t ∧ t { nx := fun _ H' => Q .non H', rt := Q } (L2.start N vs) H) : FnG P w K mg base CX (k + 1) f fd ps sp := by
  obtain ⟨oc, od, dV, kV, doc, pm, an, cdv, ct, osl, rfl, lk, hcd, _, _⟩ := F.ex
  refine ⟨len, fun A outer s H args us vs Q E hrg e0 hb r hsp => ?_⟩
  have hr := hrg.r
  have hl := len _ _ _ _ hsp
  have KX : K.In s.heap := e0.mod.kin.keeps fun b o e => (e0.bs b o e).1
  have lim : s.heap.NoLimit := e0.mod.nolimit.keeps fun b o e => (e0.bs b o e).1
  have hkind : ∀ y ∈ ps.zip us, scope.names.lookup y.1 = some .local ∨ (scope.names.lookup y.1 = some .cell ∧ ((cellsFrom (s.heap.objs.size + 1) scope.names []).lookup y.1).isSome = true) := fun ⟨n, v⟩ hy => by
    rcases S.par n (List.of_mem_zip hy).1 with q | q
    · exact .inl q
    · exact .inr ⟨q, PySem.W.cellsFrom_some _ _ _ (.inl q)⟩
  refine codeAny_call_function hr.depth (KX _ _ lk) rfl S.co S.gen rfl (PySem.W.codeRec_of KX hcd) (hb _ _ _ _ ?_)
  refine wpAny_newFunctionEnv_cells S.kind hkind fun env he s1 x => ?_
  subst he
  refine ⟨lim.keeps x.toInCall.keep, codeAny_func ?_⟩
  obtain ⟨t, ht, hq⟩ := hbody cdv A outer s H vs Q E ⟨hr.deeper _, hrg.g⟩ hsp
  refine wpAny_mono (ht.run [] s1 (L2.start N vs) H _ (inv_start S hr.hd e0 hl r x) hq) (fun fl s' hs => ?_) fun e s' hs => hs
  cases fl with
  | ret u =>
    obtain ⟨v, σ', H', J, rv, q⟩ := hs
    exact ⟨v, H', J.os, J.bare, J.base, J.hok, rv, q⟩
  | next =>
    obtain ⟨σ', H', J, q⟩ := hs
    exact ⟨V.non, H', J.os, J.bare, J.base, J.hok, rfl, q⟩
  | brk =>
    obtain ⟨_, _, _, q⟩ := hs
    exact False.elim q
  | cont =>
    obtain ⟨_, _, _, q⟩ := hs
    exact False.elim q
inductive FO where
  | ok (fr : Bool) (t : T) (dr : DS) | ex (c : Nat) (f : Option (Str × T)) (dr : DS) | bad
abbrev TF := DS → List T → FO
structure DrwOk (g : DG) (H : Hp) (A : Addr → Prop) (dr : DS) : Prop where
  draw : ∀ d b c, g.dr = some (d, b, c) → DrawAt H d b c dr
  dA : ∀ a, DD g a → A a
  aT : ∀ a, A a → H a ≠ none
structure Aft (g : DG) (H H' : Hp) (dr : DS) : Prop where
  k : Kp (DD g) H H'
  draw : ∀ d b c, g.dr = some (d, b, c) → DrawAt H' d b c dr
def RetF (w : Wd) (g : DG) (H H' : Hp) (A : Addr → Prop) (fr : Bool) (t : T) (v : V) : Prop :=
  if fr = true then ∃ a, v = .ref a ∧ H a = none ∧ ORep w g H' (adj A a) t a else VRep w g H' A t v
/-- what a def promises: it computes F -/
def spF (w : Wd) (n : Nat) (F : TF) : Sp := fun vs H Q E => vs.length = n ∧ ∃ g A ts dr, VReps w g H A ts vs ∧ DrwOk g H A dr ∧ match F dr ts with
  | .ok fr t dr' => ∀ H' v, Aft g H H' dr' → RetF w g H H' A fr t v → Q v H'
  | .ex c f dr' => ∀ H' cls d, Aft g H H' dr' → XRep w g H' A c f cls d → E cls d H'
  | .bad => False
def startT (n : Nat) (ts : List T) : List (Option (Bool × T)) := ts.map (fun t => some (false, t)) ++ List.replicate (n - ts.length) none
/-- a body's function -/
def runF (n : Nat) (m : SM) : TF := fun dr ts => match m ⟨startT n ts, dr⟩ with
  | .nx ρ => .ok false .non ρ.dr
  | .rt fr t ρ => .ok fr t ρ.dr
  | .ex c f ρ => .ex c f ρ.dr
  | _ => .bad
section
variable {w : Wd} {g : DG} {H0 : En} {H H' : Hp} {A A' : Addr → Prop} {ρ : Ev} {σ : L2.St} {dr : DS}
theorem start_get {N : List Str} {vs : List V} {i : Nat} {v : V} (h : vs[i]? = some v) : (L2.start N vs)[i]? = some (some v) := by
  unfold L2.start
  have hi := (List.getElem?_eq_some_iff.mp h).1
  rw [List.getElem?_append_left (by simpa using hi), List.getElem?_map, h]
  rfl
theorem startT_get {n : Nat} {ts : List T} {i : Nat} {p : Bool × T} (h : (startT n ts)[i]? = some (some p)) : p.1 = false ∧ ts[i]? = some p.2 := by
  unfold startT at h
  by_cases hi : i < ts.length
  · rw [List.getElem?_append_left (by simpa using hi), List.getElem?_map] at h
    cases e : ts[i]? with
    | none => rw [e] at h; cases h
    | some t => rw [e] at h; cases h; exact ⟨rfl, rfl⟩
  · rw [List.getElem?_append_right (by simpa using hi), List.getElem?_replicate] at h
    split at h <;> cases h
theorem SR.start {N : List Str} {ts : List T} {vs : List V} (r : VReps w g H A ts vs) (d : DrwOk g H A dr) (hl : vs.length ≤ N.length) : SR w g ⟨H, A⟩ H A ⟨startT N.length ts, dr⟩ (L2.start N vs) where
  len := by
    unfold startT L2.start
    rw [List.length_append, List.length_append, List.length_map, List.length_map, List.length_replicate, List.length_replicate, r.length]
  up := fun _ z => z
  sh := fun i t e => by
    obtain ⟨_, e2⟩ := startT_get e
    obtain ⟨v, h1, h2⟩ := r.get e2
    exact ⟨v, start_get h1, h2⟩
  own := fun i t e => by
    obtain ⟨z, _⟩ := startT_get e
    cases z
  apart := fun i j t u a _ e _ => by
    obtain ⟨z, _⟩ := startT_get e
    cases z
  draw := d.draw
  dA := d.dA
  aT := d.aT
  fr := Kp.refl
/-- behind a call -/
theorem SR.after (S : SR w g H0 H A ρ σ) (a : Aft g H H' dr) : SR w g H0 H' A { ρ with dr := dr } σ where
  len := S.len
  up := S.up
  sh := fun i t e => let ⟨v, h1, h2⟩ := S.sh i t e; ⟨v, h1, h2.keep (a.k.mono S.dA)⟩
  own := fun i t e => let ⟨b, h1, h2, h3, h4, h5⟩ := S.own i t e; ⟨b, h1, h2.next h4 (fun _ z => z) S.dA a.k, h3, h4, h5⟩
  apart := S.apart
  draw := a.draw
  dA := S.dA
  aT := fun b hb z => by
    by_cases c : DD g b
    · obtain ⟨d, x, y, e, q⟩ := c
      have D := a.draw d x y e
      rcases q with rfl | rfl | rfl
      · rw [D.dd] at z; cases z
      · rw [D.db] at z; cases z
      · rw [D.dc] at z; cases z
    · cases e : H b with
      | none => exact S.aT b hb e
      | some o => rw [a.k.same b o e c] at z; cases z
  fr := S.fr.trans a.k
theorem SR.aft (S : SR w g ⟨H, A⟩ H' A' ρ σ) : Aft g H H' ρ.dr := ⟨S.fr, S.draw⟩
theorem XRep.weak {c : Nat} {f : Option (Str × T)} {cls : Value} {d : Option Addr} (h : XRep w g H A c f cls d) (k : ∀ a, A' a → A a) : XRep w g H A' c f cls d := by
  obtain ⟨x1, x2⟩ := h
  refine ⟨x1, ?_⟩
  cases f with
  | none => trivial
  | some nt =>
    obtain ⟨dx, v, x3, x4, x5⟩ := x2
    exact ⟨dx, v, x3, x4, x5.weak k⟩
end
section
variable {P : Program} {w0 : World} {K : PySem.W.Frag} {mg : Str → Option Value} {base : Heap} {x qual : Str} {params : Arguments} {body : List Stmt} {scope : Scope} {dvs : List V} {kws : List (Str × V)} {f : Addr} {fd : FuncData} {N ps : List Str} {k : Nat} {w : Wd}
abbrev WOf (E : XK) : WX := fun cls d _ H => E cls d H
/-- a def computes its body's function -/
theorem fn_ok (F : FunD K x qual params body scope dvs kws f fd) (S : FnScope N ps scope) {n : Nat} {m : SM} (hn : ps.length = n)
    (hb : ∀ (cdv : Value) (A : Around) (outer : List Env) (s : Shared) (H : Hp) (E : XK) (H0 : En), RoomG k (cxOf (CX P w0) P w0 K mg base N qual scope f cdv A outer s H E).A →
      PSs (cxOf (CX P w0) P w0 K mg base N qual scope f cdv A outer s H E) body (rdS w H0 (WOf E) m)) : FnG P w0 K mg base (CX P w0) (k + 1) f fd ps (spF w n (runF N.length m)) := by
  refine okG F S (fun vs H Q E h => h.1.trans hn.symm) fun cdv A outer s H vs Q E hr h => ?_
  obtain ⟨hl, g, B, ts, dr, r, d, h⟩ := h
  refine ⟨_, hb cdv A outer s H E ⟨H, B⟩ hr, rdS_post.mpr ⟨g, B, ⟨startT N.length ts, dr⟩, SR.start r d ?_, ?_⟩⟩
  · have := S.pre
    have h2 : (N.take ps.length).length = ps.length := by rw [this]
    rw [List.length_take] at h2
    omega
  · unfold runF at h
    cases e : m ⟨startT N.length ts, dr⟩ with
    | nx ρ => rw [e] at h; exact fun A' H' σ' P' S' => h H' .non S'.aft .non
    | bk ρ => rw [e] at h; exact h.elim
    | ct ρ => rw [e] at h; exact h.elim
    | rt fr t ρ =>
      rw [e] at h
      intro A' H' σ' v S' r'
      refine h H' v S'.aft ?_
      cases fr with
      | false => exact (show VRep w g H' A' t v from r').weak S'.up
      | true =>
        obtain ⟨a, q1, q2, q3⟩ := r'
        exact ⟨a, q1, q2, q3.weak fun b z => z.elim (fun z => .inl (S'.up b z)) .inr⟩
    | ex c ff ρ =>
      rw [e] at h
      exact fun A' H' σ' cls d S' x => h H' cls d S'.aft (x.weak S'.up)
    | bad => rw [e] at h; exact h.elim
theorem takes_fn {cdv : Value} {A : Around} {outer : List Env} {s : Shared} {H : Hp} {E : XK} : Takes (cxOf (CX P w0) P w0 K mg base N qual scope f cdv A outer s H E) (WOf E) := takes_of rfl rfl rfl rfl
theorem passes_fn {cdv : Value} {A : Around} {outer : List Env} {s : Shared} {H : Hp} {E : XK} : PassesOwn (model P w0) (cxOf (CX P w0) P w0 K mg base N qual scope f cdv A outer s H E).A (cxOf (CX P w0) P w0 K mg base N qual scope f cdv A outer s H E).env (cxOf (CX P w0) P w0 K mg base N qual scope f cdv A outer s H E).xe := passes_of rfl
end
section
variable {X : Cx} {w : Wd} {H0 : En} {W : WX} {e a b c o : Expr} {es rest : List Expr} {pos p2 p apos cpos : Pos} {k n : Nat} {f : Addr} {fd : FuncData} {ps : List Str} {dvs : List V} {ds : List Value} {x : Str} {F : TF} {dts : List T}
/-- a call of a def -/
def mFn (F : TF) (dts : List T) (ma : M (List T)) : M T := fun ρ => match ma ρ with
  | .ok ts ρ1 => match F ρ1.dr (ts ++ dts) with
    | .ok _ t dr => .ok t { ρ1 with dr := dr }
    | .ex c f dr => .ex c f { ρ1 with dr := dr }
    | .bad => .bad
  | .ex c f ρ1 => .ex c f ρ1
  | .bad => .bad
/-- .. that hands back something new -/
def mFnF (F : TF) (dts : List T) (ma : M (List T)) : M T := fun ρ => match ma ρ with
  | .ok ts ρ1 => match F ρ1.dr (ts ++ dts) with
    | .ok true t dr => .ok t { ρ1 with dr := dr }
    | .ok false _ _ => .bad
    | .ex c f dr => .ex c f { ρ1 with dr := dr }
    | .bad => .bad
  | .ex c f ρ1 => .ex c f ρ1
  | .bad => .bad
/-- what is not written is the text's own: it stands at every heap -/
def Cst (w : Wd) (dts : List T) (dvs : List V) : Prop := ∀ g H A, VReps w g H A dts dvs
theorem Cst.nil : Cst w [] [] := fun _ _ _ => .nil
/-- the heart of a call: what the promise wants -/
theorem sp_core {g : DG} {A : Addr → Prop} {ρ : Ev} {σ : L2.St} {H : Hp} {ts : List T} {vs : List V} {Q : VK} (S : SR w g H0 H A ρ σ) (r : VReps w g H A ts vs) (hl : vs.length = n)
    (q : match F ρ.dr ts with
      | .ok fr t dr => ∀ H' v, Kp (DD g) H H' → SR w g H0 H' A { ρ with dr := dr } σ → RetF w g H H' A fr t v → Q v H'
      | .ex c f dr => ∀ H' cls d, SR w g H0 H' A { ρ with dr := dr } σ → XRep w g H' A c f cls d → W cls d σ H'
      | .bad => False) : spF w n F vs H Q (WE W σ) := by
  refine ⟨hl, g, A, ts, ρ.dr, r, ⟨S.draw, S.dA, S.aT⟩, ?_⟩
  cases e : F ρ.dr ts with
  | bad => rw [e] at q; exact q
  | ok fr t dr => rw [e] at q; exact fun H' v a r' => q H' v a.k (S.after a) r'
  | ex c f dr => rw [e] at q; exact fun H' cls d a x => q H' cls d (S.after a) x
theorem mFn_core {σ : L2.St} {H : Hp} {Q : VK} {ma : M (List T)} (cs : Cst w dts dvs) (q : rdE w H0 W (mFn F dts ma) σ H Q) : rdA w H0 W ma σ H fun vs H1 => vs.length + dvs.length = n → spF w n F (vs ++ dvs) H1 Q (WE W σ) := by
  obtain ⟨g, A, ρ, S, q⟩ := q
  refine ⟨g, A, ρ, S, ?_⟩
  unfold mFn at q
  cases e1 : ma ρ with
  | bad => rw [e1] at q; exact q
  | ex c f ρ1 => rw [e1] at q; exact q
  | ok ts ρ1 =>
    rw [e1] at q
    simp only at q
    intro A1 H1 vs a1 k1 S1 r1 hl
    refine sp_core S1 (r1.append (cs g H1 A1)) (by rw [List.length_append]; exact hl) ?_
    cases e2 : F ρ1.dr (ts ++ dts) with
    | bad => rw [e2] at q; exact q
    | ok fr t dr =>
      rw [e2] at q
      intro H' v k S' r'
      cases fr with
      | false => exact q A1 H' v a1 (k1.trans k) S' r'
      | true =>
        obtain ⟨a, rfl, hn, ho⟩ := r'
        have na : ¬ A1 a := fun z => S1.aT a z hn
        exact q A1 H' _ a1 (k1.trans k) S' (ho.share (fun b z => .inl z) na)
    | ex c f dr =>
      rw [e2] at q
      exact fun H' cls d S' x => q A1 H' cls d a1 S' x
theorem SR.afterF {g : DG} {A : Addr → Prop} {ρ : Ev} {σ : L2.St} {H H' : Hp} {dr : DS} {a : Addr} {t : T} (S : SR w g H0 H A ρ σ) (k : Kp (DD g) H H') (S' : SR w g H0 H' A { ρ with dr := dr } σ) (hn : H a = none) (ho : ORep w g H' (adj A a) t a) : SR w g H0 H' (adj A a) { ρ with dr := dr } σ := by
  have k2 : Kp (adj A a) H H' := k.mono fun b z => .inl (S.dA b z)
  refine ⟨S.len, fun b z => .inl (S.up b z), fun i u e => ?_, fun i u e => ?_, S.apart, S'.draw, fun b z => .inl (S.dA b z), fun b z => ?_, S'.fr⟩
  · obtain ⟨v, h1, h2⟩ := S.sh i u e
    exact ⟨v, h1, (h2.grow hn).keep k2⟩
  · obtain ⟨b, h1, h2, h3, h4, h5⟩ := S.own i u e
    obtain ⟨o, e2, _⟩ := h2.there
    exact ⟨b, h1, (h2.grow hn).keep k2 ((k.same _ _ e2 h4).trans e2.symm), .inl h3, h4, h5⟩
  · rcases z with z | rfl
    · exact S'.aT b z
    · obtain ⟨o, e, _⟩ := ho.there
      rw [e]
      exact fun z => nomatch z
theorem mFnF_core {σ : L2.St} {H : Hp} {Q : VK} {ma : M (List T)} (cs : Cst w dts dvs) (q : rdF w H0 W (mFnF F dts ma) σ H Q) : rdA w H0 W ma σ H fun vs H1 => vs.length + dvs.length = n → spF w n F (vs ++ dvs) H1 Q (WE W σ) := by
  obtain ⟨g, A, ρ, S, q⟩ := q
  refine ⟨g, A, ρ, S, ?_⟩
  unfold mFnF at q
  cases e1 : ma ρ with
  | bad => rw [e1] at q; exact q
  | ex c f ρ1 => rw [e1] at q; exact q
  | ok ts ρ1 =>
    rw [e1] at q
    simp only at q
    intro A1 H1 vs a1 k1 S1 r1 hl
    refine sp_core S1 (r1.append (cs g H1 A1)) (by rw [List.length_append]; exact hl) ?_
    cases e2 : F ρ1.dr (ts ++ dts) with
    | bad => rw [e2] at q; exact q
    | ok fr t dr =>
      rw [e2] at q
      intro H' v k S' r'
      cases fr with
      | false => exact q.elim
      | true =>
        obtain ⟨a, rfl, hn, ho⟩ := r'
        exact q A1 H' _ a1 (k1.trans k) (S1.unseen k1 hn) S' (S1.afterF k S' hn ho) ho
    | ex c f dr =>
      rw [e2] at q
      exact fun H' cls d S' x => q A1 H' cls d a1 S' x
/-- .. its arguments only looked at, what it hands back flat -/
def mFnL (F : TF) (dts : List T) (ma : M (List T)) : M T := fun ρ => match ma ρ with
  | .ok ts ρ1 => match F ρ1.dr (ts ++ dts) with
    | .ok false t dr => if flatT t = true then .ok t { ρ1 with dr := dr } else .bad
    | _ => .bad
  | .ex c f ρ1 => .ex c f ρ1
  | .bad => .bad
theorem rdA_len {ma : M (List T)} {σ : L2.St} {H : Hp} {Q : List V → Hp → Prop} {m : Nat} (hm : ∀ ρ ts ρ', ma ρ = .ok ts ρ' → ts.length = m) (q : rdA w H0 W ma σ H fun vs H1 => vs.length = m → Q vs H1) : rdA w H0 W ma σ H Q := by
  obtain ⟨g, A, ρ, S, q⟩ := q
  refine ⟨g, A, ρ, S, ?_⟩
  cases e1 : ma ρ with
  | bad => rw [e1] at q; exact q
  | ex c f ρ1 => rw [e1] at q; exact q
  | ok ts ρ1 =>
    rw [e1] at q
    exact fun A' H' vs h1 h2 h3 h4 => q A' H' vs h1 h2 h3 h4 (by rw [← h4.length]; exact hm _ _ _ e1)
/-- the number of arguments, by the text -/
def Len (m : Nat) (ma : M (List T)) : Prop := ∀ ρ ts ρ', ma ρ = .ok ts ρ' → ts.length = m
end
end MP
end

section
set_option Elab.async false
set_option linter.all false
set_option maxRecDepth 100000
/-! MP13: calls of every form; instances. -/
namespace MP
open PySem PySem.Spec L2

/-! ### what is called -/
/-- a call of the value fv, the keywords ks behind the rest -/
def CallAt (X : Cx) (fv : Value) (ks : List Str) (R : L2.St → List V → List V → Hp → VK → Prop) : Prop :=
  ∀ (pins : List (Addr × Obj)) (s : Shared) (σ : L2.St) (H : Hp) (us ws : List Value) (vs zs : List V) (Q : VK), Inv X pins σ H s → Vals vs us → Vals zs ws → zs.length = ks.length → R σ vs zs H Q →
    wpAny (model X.prog X.w) X.A (call fv us (ks.zip ws)) (EP X pins σ Q) X.xe s
section
variable {X : Cx} {w : Wd} {H0 : En} {W : WX} {e a b c o : Expr} {es rest : List Expr} {kws : List Keyword} {pos p2 p apos cpos : Pos} {k n m : Nat} {f C : Addr} {fd : FuncData} {ps ks : List Str} {dvs : List V} {ds : List Value} {x : Str} {F : TF} {dts : List T}
  {g : List Value → List Value → List Value} {gV : List V → List V → List V} {sp : Sp} {R : L2.St → List V → List V → Hp → VK → Prop} {t tk : TA} {fv : Value}
theorem fn_post {pins : List (Addr × Obj)} {σ : L2.St} {H : Hp} {s s' : Shared} {Q : VK} {r : Result} (tk : Takes X W) (I : Inv X pins σ H s) (hq : CR (CX X.prog X.w) X.stack X.prog X.w H s Q (WE W σ) r s') :
    match r with
    | .ok (.ret v) => EP X pins σ Q v s'
    | .ok _ => False
    | .error er => X.xe er s' := by
  cases r with
  | error e => exact passAt tk σ pins H s e s' I hq
  | ok fl =>
    cases fl with
    | ret u => exact I.after hq
    | next => exact False.elim hq
    | brk => exact False.elim hq
    | cont => exact False.elim hq
/-- a def called by place -/
theorem callAt_fn (Fk : FnG X.prog X.w X.K X.mg X.base (CX X.prog X.w) k f fd ps sp) (hr : RoomG k X.A) (tk : Takes X W) (hb : Binds X.K fd ps ds) (hd : Vals dvs ds) : CallAt X (.ref f) [] (fun σ vs _ H Q => sp (vs ++ dvs) H Q (WE W σ)) := fun pins s σ H us ws vs zs Q I r rz _ h => by
  have r2 : Vals (vs ++ dvs) (us ++ ds) := r.append hd
  have hl : (us ++ ds).length = ps.length := by rw [← r2.length]; exact Fk.len _ _ _ _ h
  refine wpAny_call (codeAny_mono (Fk.run X.A X.stack s H ⟨us, []⟩ (us ++ ds) (vs ++ dvs) Q (WE W σ) hr I.env0 (hb s us I.kIn hl) r2 h) fun r s' hq => ?_)
  have := fn_post tk I hq
  cases r with
  | error e => exact this
  | ok fl => cases fl <;> exact this
/-- .. with keywords -/
theorem callAt_fnK (Fk : FnG X.prog X.w X.K X.mg X.base (CX X.prog X.w) k f fd ps sp) (hr : RoomG k X.A) (tk : Takes X W) (hb : KBn X.K fd ps n ks g gV) : CallAt X (.ref f) ks (fun σ vs zs H Q => vs.length = n ∧ sp (gV vs zs) H Q (WE W σ)) := fun pins s σ H us ws vs zs Q I r rz hz ⟨hn, h⟩ => by
  have r2 := hb.rel r rz
  refine wpAny_call (codeAny_mono (Fk.run X.A X.stack s H ⟨us, ks.zip ws⟩ (g us ws) (gV vs zs) Q (WE W σ) hr I.env0 (hb.to s us ws I.kIn (r.length.symm.trans hn) (rz.length.symm.trans hz)) r2 h) fun r s' hq => ?_)
  have := fn_post tk I hq
  cases r with
  | error e => exact this
  | ok fl => cases fl <;> exact this
/-- what a class's call promises -/
def spMk (C : Addr) (sp : Sp) (E : XK) (vs : List V → List V) (H : Hp) (Q : VK) : Prop :=
  ∀ x dx, H x = none → H dx = none → dx ≠ x → sp (vs [.ref x]) (upd (upd H dx (.own x)) x (.ins C dx [])) (fun v H2 => v = .non ∧ Q (.ref x) H2) E
theorem callAt_mk (M : Mk X.K C f) (Fk : FnG X.prog X.w X.K X.mg X.base (CX X.prog X.w) k f fd ps sp) (hr : RoomG (k + 1) X.A) (tk : Takes X W) (hb : Binds X.K fd ps ds) (hd : Vals dvs ds) :
    CallAt X (.ref C) [] (fun σ vs _ H Q => spMk C sp (WE W σ) (fun u => u ++ (vs ++ dvs)) H Q) := fun pins s σ H us ws vs zs Q I r rz _ h => by
  have hq := h (s.heap.objs.size + 1) s.heap.objs.size (I.hok.fresh (Nat.le_succ _)) (I.hok.fresh (Nat.le_refl _)) (Nat.ne_of_lt (Nat.lt_succ_self _))
  have I2 := Inv.made (C := C) I
  have r2 : Vals (V.ref (s.heap.objs.size + 1) :: (vs ++ dvs)) (Value.ref (s.heap.objs.size + 1) :: (us ++ ds)) := .cons rfl (r.append hd)
  have hl : (Value.ref (s.heap.objs.size + 1) :: us ++ ds).length = ps.length := by
    have e := r2.length
    have e2 := Fk.len _ _ _ _ hq
    rw [show (V.ref (s.heap.objs.size + 1) :: (vs ++ dvs)).length = ps.length from e2] at e
    exact e.symm
  refine wpAny_call (make_map (f := f) I.kIn M.makes M.init (beq_iff_eq.mp M.fn) (codeAny_mono (Fk.run _ X.stack _ _ ⟨Value.ref (s.heap.objs.size + 1) :: us, []⟩ (Value.ref (s.heap.objs.size + 1) :: (us ++ ds)) _ _ (WE W σ) (hr.make C us [])
    (I2.env0.make C us []) (hb _ (Value.ref (s.heap.objs.size + 1) :: us) I2.kIn hl) r2 hq) fun r s' hq' => ?_))
  cases r with
  | error e => exact passAt tk σ pins _ _ e s' I2 hq'
  | ok fl =>
    cases fl with
    | ret u =>
      obtain ⟨v, H', I3, rv, ev, q3⟩ := I2.after hq'
      subst ev
      exact ⟨rv, ⟨V.ref (s.heap.objs.size + 1), H', I3, rfl, q3⟩⟩
    | next => exact False.elim hq'
    | brk => exact False.elim hq'
    | cont => exact False.elim hq'
theorem callAt_mkK (M : Mk X.K C f) (Fk : FnG X.prog X.w X.K X.mg X.base (CX X.prog X.w) k f fd ps sp) (hr : RoomG (k + 1) X.A) (tk : Takes X W) (hb : KBn X.K fd ps (n + 1) ks g gV) :
    CallAt X (.ref C) ks (fun σ vs zs H Q => vs.length = n ∧ spMk C sp (WE W σ) (fun u => gV (u ++ vs) zs) H Q) := fun pins s σ H us ws vs zs Q I r rz hz ⟨l1, h⟩ => by
  have hq := h (s.heap.objs.size + 1) s.heap.objs.size (I.hok.fresh (Nat.le_succ _)) (I.hok.fresh (Nat.le_refl _)) (Nat.ne_of_lt (Nat.lt_succ_self _))
  have I2 := Inv.made (C := C) I
  have r1 : Vals (V.ref (s.heap.objs.size + 1) :: vs) (Value.ref (s.heap.objs.size + 1) :: us) := .cons rfl r
  have r2 := hb.rel r1 rz
  have n1 : (Value.ref (s.heap.objs.size + 1) :: us).length = n + 1 := by
    rw [List.length_cons, ← r.length, l1]
  refine wpAny_call (make_map (f := f) I.kIn M.makes M.init (beq_iff_eq.mp M.fn) (codeAny_mono (Fk.run _ X.stack _ _ ⟨Value.ref (s.heap.objs.size + 1) :: us, ks.zip ws⟩ (g (Value.ref (s.heap.objs.size + 1) :: us) ws) _ _ (WE W σ) (hr.make C us (ks.zip ws))
    (I2.env0.make C us (ks.zip ws)) (hb.to _ (Value.ref (s.heap.objs.size + 1) :: us) ws I2.kIn n1 (rz.length.symm.trans hz)) r2 hq) fun r s' hq' => ?_))
  cases r with
  | error e => exact passAt tk σ pins _ _ e s' I2 hq'
  | ok fl =>
    cases fl with
    | ret u =>
      obtain ⟨v, H', I3, rv, ev, q3⟩ := I2.after hq'
      subst ev
      exact ⟨rv, ⟨V.ref (s.heap.objs.size + 1), H', I3, rfl, q3⟩⟩
    | next => exact False.elim hq'
    | brk => exact False.elim hq'
    | cont => exact False.elim hq'

/-! ### how it is written -/
def tCA (R : L2.St → List V → List V → Hp → VK → Prop) (t : TA) : TE := fun σ H Q => t σ H fun vs H1 => R σ vs [] H1 Q
def tCAK (m : Nat) (R : L2.St → List V → List V → Hp → VK → Prop) (t tk : TA) : TE := fun σ H Q => t σ H fun vs H1 => tk σ H1 fun zs H2 => zs.length = m ∧ R σ vs zs H2 Q
theorem w_pos (c : CallAt X fv [] R) (hg : Gl X x) (hm : X.mg x = some fv) (hk : PySem.W.keepIn X.K fv = true) (ha : PA X (e :: es) t) (hdb : (x == ("__debug__" : Str)) = false := by decide) (he : starEach (e :: es) X.env = (false, eval e X.env) :: starEach es X.env := by rfl) (hpl : (backTo pos (starEach es X.env)).any (·.1) = false := by rfl) :
    PE X (.Call (.Name x p) (e :: es) [] pos) (tCA R t) := by
  refine ⟨fun pins s σ H Q I h => ?_⟩
  refine wpAny_Call_Name_kw (ld_glob I hg hm ?_ hdb)
  exact PySem.W.callWith_K (h₀ := X.base) I.ok.mod.kin hk (thn (ha.run pos pins s σ H _ I h) fun us s1 ⟨vs, H1, I1, r, q⟩ => ⟨I1.kIn, c pins s1 σ H1 us [] vs [] Q I1 r .nil rfl q⟩) he hpl
theorem w_zero (c : CallAt X fv [] R) (hg : Gl X x) (hm : X.mg x = some fv) (hk : PySem.W.keepIn X.K fv = true) (hdb : (x == ("__debug__" : Str)) = false := by decide) :
    PE X (.Call (.Name x p) [] [] pos) (tCA R tNil) := by
  refine ⟨fun pins s σ H Q I h => ?_⟩
  refine wpAny_Call_Name_kw (ld_glob I hg hm ?_ hdb)
  exact PySem.W.callWith_K0 I.kIn hk (c pins s σ H [] [] [] [] Q I .nil .nil rfl h)
theorem w_kw (c : CallAt X fv ks R) (hg : Gl X x) (hm : X.mg x = some fv) (hk : PySem.W.keepIn X.K fv = true) (ha : PA X (e :: es) t) (hkw : PK X kws tk) (hall : (backToKw pos (keywordEach kws X.env)).all (·.1.isSome) = true := by rfl) (hks : (backToKw pos (keywordEach kws X.env)).filterMap (·.1) = ks := by rfl)
    (hdb : (x == ("__debug__" : Str)) = false := by decide) (he : starEach (e :: es) X.env = (false, eval e X.env) :: starEach es X.env := by rfl)
    (hpl : ((backTo pos (starEach (e :: es) X.env)).any (·.1) || (backToKw pos (keywordEach kws X.env)).any (·.1.isNone)) = false := by rfl) :
    PE X (.Call (.Name x p) (e :: es) kws pos) (tCAK ks.length R t tk) := by
  refine ⟨fun pins s σ H Q I h => ?_⟩
  refine wpAny_Call_Name_kw (ld_glob I hg hm ?_ hdb)
  refine PySem.W.callWith_KW (h₀ := X.base) I.ok.mod.kin hk hall (thn (ha.run pos pins s σ H _ I h) fun us s1 ⟨vs, H1, I1, r, q⟩ => ?_) hpl he
  refine thn (hkw.run pos pins s1 σ H1 _ I1 q) fun ws s2 ⟨zs, H2, I2, rz, l2, q2⟩ => ⟨I2.kIn, ?_⟩
  rw [hks]
  exact c pins s2 σ H2 us ws vs zs Q I2 r rz l2 q2
theorem w_kw0 (c : CallAt X fv ks R) (hg : Gl X x) (hm : X.mg x = some fv) (hk : PySem.W.keepIn X.K fv = true) (hkw : PK X kws tk) (hall : (backToKw pos (keywordEach kws X.env)).all (·.1.isSome) = true := by rfl) (hks : (backToKw pos (keywordEach kws X.env)).filterMap (·.1) = ks := by rfl)
    (hdb : (x == ("__debug__" : Str)) = false := by decide)
    (hpl : ((backTo pos (starEach [] X.env)).any (·.1) || (backToKw pos (keywordEach kws X.env)).any (·.1.isNone)) = false := by rfl) :
    PE X (.Call (.Name x p) [] kws pos) (tCAK ks.length R tNil tk) := by
  refine ⟨fun pins s σ H Q I h => ?_⟩
  refine wpAny_Call_Name_kw (ld_glob I hg hm ?_ hdb)
  refine PySem.W.callWith_KW0 (h₀ := X.base) I.ok.mod.kin hk hall ?_ hpl
  refine thn (hkw.run pos pins s σ H _ I h) fun ws s2 ⟨zs, H2, I2, rz, l2, q2⟩ => ⟨I2.kIn, ?_⟩
  rw [hks]
  exact c pins s2 σ H2 [] ws [] zs Q I2 .nil rz l2 q2
/-- methods: the instance goes ahead -/
def tMA (C : Addr) (mn : Str) (R : L2.St → List V → List V → Hp → VK → Prop) (to : TE) (t : TA) : TE := fun σ H Q => to σ H fun y H1 => ∃ a dx fs, y = .ref a ∧ H1 a = some (.ins C dx fs) ∧ fs.lookup mn = none ∧ t σ H1 fun vs H2 => R σ (y :: vs) [] H2 Q
theorem w_meth {mn : Str} {to : TE} {pl : Sem Bool} (c : CallAt X (.ref f) [] R) (cl : Cls X.K C) (hm : Meth X.K C mn f) (ho : PE X o to) (ha : PA X (e :: es) t)
    (hst : starEach (e :: es) X.env = (false, eval e X.env) :: starEach es X.env := by rfl) (hpl : (backTo pos (starEach es X.env)).any (·.1) = false := by rfl)
    (ht : eval (.Call (.Attribute o mn apos) (e :: es) [] pos) X.env = (do
      let ov ← eval o X.env
      standAt apos.atName
      let (f, first) ← holding [ov] (getMethod ov mn pl)
      callWith pos f first (backTo pos (starEach (e :: es) X.env)) (backToKw pos (keywordEach [] X.env))) := by rfl) :
    PE X (.Call (.Attribute o mn apos) (e :: es) [] pos) (tMA C mn R to t) := by
  refine ⟨fun pins s σ H Q I h => ?_⟩
  refine PySem.W.methodCall_KW (pl := pl) (thn (ho.run pins s σ H _ I h) fun u s1 ⟨x, H1, I1, rx, a, dx, fs, ex, ea, l, q⟩ => ?_) ht
  subst ex
  obtain rfl : u = Value.ref a := rx
  refine getmeth_ok I1 ea cl hm l ?_
  refine PySem.W.callWith_K (first := [.ref a]) (h₀ := X.base) I.ok.mod.kin hm.kp (thn (ha.run pos pins s1 σ H1 _ I1 q) fun us s2 ⟨vs, H2, I2, r, q2⟩ => ⟨I2.kIn, ?_⟩) hst hpl
  exact c pins s2 σ H2 (.ref a :: us) [] (.ref a :: vs) [] Q I2 (.cons rfl r) .nil rfl q2
theorem w_meth0 {mn : Str} {to : TE} {pl : Sem Bool} (c : CallAt X (.ref f) [] R) (cl : Cls X.K C) (hm : Meth X.K C mn f) (ho : PE X o to)
    (ht : eval (.Call (.Attribute o mn apos) [] [] pos) X.env = (do
      let ov ← eval o X.env
      standAt apos.atName
      let (f, first) ← holding [ov] (getMethod ov mn pl)
      callWith pos f first (backTo pos (starEach [] X.env)) (backToKw pos (keywordEach [] X.env))) := by rfl) :
    PE X (.Call (.Attribute o mn apos) [] [] pos) (tMA C mn R to tNil) := by
  refine ⟨fun pins s σ H Q I h => ?_⟩
  refine PySem.W.methodCall_KW (pl := pl) (thn (ho.run pins s σ H _ I h) fun u s1 ⟨x, H1, I1, rx, a, dx, fs, ex, ea, l, q⟩ => ?_) ht
  subst ex
  obtain rfl : u = Value.ref a := rx
  refine getmeth_ok I1 ea cl hm l ?_
  exact PySem.W.callWith_K0 (first := [.ref a]) I1.kIn hm.kp (c pins s1 σ H1 [.ref a] [] [.ref a] [] Q I1 (.cons rfl .nil) .nil rfl q)
end
end MP
end

section
set_option Elab.async false
set_option linter.all false
set_option maxRecDepth 100000
/-! MP14: the readings of calls; instances. -/
namespace MP
open PySem PySem.Spec L2

section
variable {X : Cx} {w : Wd} {H0 : En} {W : WX} {e a b c o : Expr} {es rest : List Expr} {kws : List Keyword} {pos pos' p2 p apos cpos kpos : Pos} {k n m : Nat} {f C : Addr} {fd : FuncData} {ps ks : List Str} {dvs : List V} {ds : List Value} {x : Str} {F : TF} {dts : List T}
  {g : List Value → List Value → List Value} {gV : List V → List V → List V} {sp : Sp} {R : L2.St → List V → List V → Hp → VK → Prop} {t tk : TA} {fv : Value}
theorem Len.nil : Len 0 mNil := fun ρ ts ρ' h => by cases h; rfl
theorem Len.cons {m : Nat} {a : M T} {b : M (List T)} (h : Len m b) : Len (m + 1) (mCons a b) := fun ρ ts ρ' e => by
  unfold mCons bindM at e
  cases e1 : a ρ with
  | bad => rw [e1] at e; cases e
  | ex _ _ _ => rw [e1] at e; cases e
  | ok t ρ1 =>
    simp only [e1] at e
    cases e2 : b ρ1 with
    | bad => rw [e2] at e; cases e
    | ex _ _ _ => rw [e2] at e; cases e
    | ok us ρ2 =>
      rw [e2] at e
      cases e
      rw [List.length_cons, h _ _ _ e2]
theorem nil_core {σ : L2.St} {H : Hp} {Q : List V → Hp → Prop} (q : rdA w H0 W mNil σ H Q) : tNil σ H Q := by
  obtain ⟨g, A, ρ, S, q⟩ := q
  exact q A H [] (fun _ z => z) Kp.refl S .nil
theorem cons_core {m : M T} {n : M (List T)} {σ : L2.St} {H : Hp} {Q : List V → Hp → Prop} (q : rdA w H0 W (mCons m n) σ H Q) : tCons (rdE w H0 W m) (rdA w H0 W n) σ H Q := by
  obtain ⟨g, A, ρ, S, q⟩ := q
  refine ⟨g, A, ρ, S, ?_⟩
  unfold mCons bindM at q
  cases e1 : m ρ with
  | bad => rw [e1] at q; exact q.elim
  | ex c f ρ1 => rw [e1] at q; exact q
  | ok t ρ1 =>
    simp only [e1] at q
    intro A1 H1 v1 a1 k1 S1 r1
    refine ⟨g, A1, ρ1, S1, ?_⟩
    cases e2 : n ρ1 with
    | bad => simp only [e2] at q
    | ex c f ρ2 => simp only [e2] at q; exact fun A2 H2 cls d a2 => q A2 H2 cls d fun a z => a1 a (a2 a z)
    | ok ts ρ2 =>
      simp only [e2] at q
      exact fun A2 H2 vs a2 k2 S2 r2 => q A2 H2 _ (fun a z => a1 a (a2 a z)) (k1.trans k2) S2 (.cons (r1.next a2 S1.dA k2) r2)
theorem k_nil : PK X [] (rdA w H0 W mNil) := pk_nil.imp fun σ H Q q => nil_core q
theorem k_cons {nm : Option Str} {ma : M T} {mk : M (List T)} (ha : PE X e (rdE w H0 W ma)) (hr : PK X kws (rdA w H0 W mk)) : PK X (⟨nm, e, kpos⟩ :: kws) (rdA w H0 W (mCons ma mk)) := (pk_cons ha hr).imp fun σ H Q q => cons_core q
/-- the written arguments and the keywords' values, as they are bound -/
def mKw (G : List T → List T → List T) (ma mk : M (List T)) : M (List T) := bindM ma fun ts => bindM mk fun zs ρ => .ok (G ts zs) ρ
def GOk (w : Wd) (G : List T → List T → List T) (gV : List V → List V → List V) : Prop := ∀ (g : DG) (H : Hp) (A : Addr → Prop) (ts zs : List T) (vs zv : List V), VReps w g H A ts vs → VReps w g H A zs zv → VReps w g H A (G ts zs) (gV vs zv)
theorem kw_core {G : List T → List T → List T} {ma mk : M (List T)} (hG : GOk w G gV) (l1 : Len n ma) (l2 : Len m mk) {σ : L2.St} {H : Hp} {Q : List V → Hp → Prop} (q : rdA w H0 W (mKw G ma mk) σ H Q) :
    rdA w H0 W ma σ H fun vs H1 => rdA w H0 W mk σ H1 fun zs H2 => zs.length = m ∧ vs.length = n ∧ Q (gV vs zs) H2 := by
  obtain ⟨g, A, ρ, S, q⟩ := q
  refine ⟨g, A, ρ, S, ?_⟩
  unfold mKw bindM at q
  cases e1 : ma ρ with
  | bad => rw [e1] at q; exact q.elim
  | ex c f ρ1 => rw [e1] at q; exact q
  | ok ts ρ1 =>
    simp only [e1] at q
    intro A1 H1 v1 a1 k1 S1 r1
    refine ⟨g, A1, ρ1, S1, ?_⟩
    cases e2 : mk ρ1 with
    | bad => simp only [e2] at q
    | ex c f ρ2 => simp only [e2] at q; exact fun A2 H2 cls d a2 => q A2 H2 cls d fun a z => a1 a (a2 a z)
    | ok zs ρ2 =>
      simp only [e2] at q
      exact fun A2 H2 vs a2 k2 S2 r2 => ⟨by rw [← r2.length]; exact l2 _ _ _ e2, by rw [← r1.length]; exact l1 _ _ _ e1, q A2 H2 _ (fun a z => a1 a (a2 a z)) (k1.trans k2) S2 (hG _ _ _ _ _ _ _ (r1.next a2 S1.dA k2) r2)⟩

/-! ### a result, shared or new -/
/-- the readings of a call's result: rd = rdE with mFn, or rdF with mFnF -/
structure Rs (w : Wd) (H0 : En) (W : WX) (rd : M T → TE) (mf : TF → List T → M (List T) → M T) : Prop where
  core : ∀ {n : Nat} {F : TF} {dts : List T} {dvs : List V} {σ : L2.St} {H : Hp} {Q : VK} {ma : M (List T)}, Cst w dts dvs → rd (mf F dts ma) σ H Q → rdA w H0 W ma σ H fun vs H1 => vs.length + dvs.length = n → spF w n F (vs ++ dvs) H1 Q (WE W σ)
theorem rsE : Rs w H0 W (rdE w H0 W) mFn := ⟨fun cs q => mFn_core cs q⟩
theorem rsF : Rs w H0 W (rdF w H0 W) mFnF := ⟨fun cs q => mFnF_core cs q⟩
theorem rdA_imp {ma : M (List T)} {σ : L2.St} {H : Hp} {Q Q' : List V → Hp → Prop} (q : rdA w H0 W ma σ H Q) (h : ∀ vs H1, Q vs H1 → Q' vs H1) : rdA w H0 W ma σ H Q' := by
  obtain ⟨g, A, ρ, S, q⟩ := q
  refine ⟨g, A, ρ, S, ?_⟩
  cases e1 : ma ρ with
  | bad => rw [e1] at q; exact q
  | ex c f ρ1 => rw [e1] at q; exact q
  | ok ts ρ1 => rw [e1] at q; exact fun A' H' vs h1 h2 h3 h4 => h _ _ (q A' H' vs h1 h2 h3 h4)
variable {rd : M T → TE} {mf : TF → List T → M (List T) → M T}
theorem x_pos (rs : Rs w H0 W rd mf) {ma : M (List T)} (cs : Cst w dts dvs) (c : CallAt X fv [] (fun σ vs _ H Q => spF w n F (vs ++ dvs) H Q (WE W σ))) (hg : Gl X x) (hm : X.mg x = some fv) (hk : PySem.W.keepIn X.K fv = true) (ha : PA X (e :: es) (rdA w H0 W ma)) (hl : Len m ma) (hmn : m + dvs.length = n := by rfl) (hdb : (x == ("__debug__" : Str)) = false := by decide)
    (he : starEach (e :: es) X.env = (false, eval e X.env) :: starEach es X.env := by rfl) (hpl : (backTo pos (starEach es X.env)).any (·.1) = false := by rfl) : PE X (.Call (.Name x p) (e :: es) [] pos) (rd (mf F dts ma)) :=
  (w_pos c hg hm hk ha hdb he hpl).imp fun σ H Q q => rdA_len hl (rdA_imp (rs.core (n := n) cs q) fun vs H1 h hv => h (by rw [hv]; exact hmn))
theorem x_zero (rs : Rs w H0 W rd mf) (cs : Cst w dts dvs) (c : CallAt X fv [] (fun σ vs _ H Q => spF w n F (vs ++ dvs) H Q (WE W σ))) (hg : Gl X x) (hm : X.mg x = some fv) (hk : PySem.W.keepIn X.K fv = true) (hmn : dvs.length = n := by rfl) (hdb : (x == ("__debug__" : Str)) = false := by decide) :
    PE X (.Call (.Name x p) [] [] pos) (rd (mf F dts mNil)) :=
  (w_zero c hg hm hk hdb).imp fun σ H Q q => nil_core (rdA_len Len.nil (rdA_imp (rs.core (n := n) cs q) fun vs H1 h hv => h (by rw [hv, Nat.zero_add]; exact hmn)))
variable {G : List T → List T → List T} {n1 n2 : Nat}
theorem kw_fn (rs : Rs w H0 W rd mf) {ma mk : M (List T)} (hG : GOk w G gV) (l1 : Len n1 ma) (l2 : Len n2 mk) (hn : ∀ vs zs : List V, vs.length = n1 → zs.length = n2 → (gV vs zs).length = n) {σ : L2.St} {H : Hp} {Q : VK} (q : rd (mf F [] (mKw G ma mk)) σ H Q) :
    tCAK n2 (fun σ vs zs H Q => vs.length = n1 ∧ spF w n F (gV vs zs) H Q (WE W σ)) (rdA w H0 W ma) (rdA w H0 W mk) σ H Q := by
  have h1 := rs.core (n := n) Cst.nil q
  have h2 := kw_core hG l1 l2 h1
  refine rdA_imp h2 fun vs H1 h3 => rdA_imp h3 fun zs H2 h4 => ?_
  obtain ⟨z1, z2, z3⟩ := h4
  have := z3 (by rw [List.length_nil, Nat.add_zero]; exact hn vs zs z2 z1)
  rw [List.append_nil] at this
  exact ⟨z1, z2, this⟩
theorem x_kw (rs : Rs w H0 W rd mf) {ma mk : M (List T)} (hG : GOk w G gV) (c : CallAt X fv ks (fun σ vs zs H Q => vs.length = n1 ∧ spF w n F (gV vs zs) H Q (WE W σ))) (hg : Gl X x) (hm : X.mg x = some fv) (hk : PySem.W.keepIn X.K fv = true) (ha : PA X (e :: es) (rdA w H0 W ma)) (l1 : Len n1 ma) (hkw : PK X kws (rdA w H0 W mk)) (l2 : Len ks.length mk)
    (hn : ∀ vs zs : List V, vs.length = n1 → zs.length = ks.length → (gV vs zs).length = n) (hall : (backToKw pos (keywordEach kws X.env)).all (·.1.isSome) = true := by rfl) (hks : (backToKw pos (keywordEach kws X.env)).filterMap (·.1) = ks := by rfl)
    (hdb : (x == ("__debug__" : Str)) = false := by decide) (he : starEach (e :: es) X.env = (false, eval e X.env) :: starEach es X.env := by rfl)
    (hpl : ((backTo pos (starEach (e :: es) X.env)).any (·.1) || (backToKw pos (keywordEach kws X.env)).any (·.1.isNone)) = false := by rfl) : PE X (.Call (.Name x p) (e :: es) kws pos) (rd (mf F [] (mKw G ma mk))) :=
  (w_kw c hg hm hk ha hkw hall hks hdb he hpl).imp fun σ H Q q => kw_fn rs hG l1 l2 hn q
theorem x_kw0 (rs : Rs w H0 W rd mf) {mk : M (List T)} (hG : GOk w G gV) (c : CallAt X fv ks (fun σ vs zs H Q => vs.length = 0 ∧ spF w n F (gV vs zs) H Q (WE W σ))) (hg : Gl X x) (hm : X.mg x = some fv) (hk : PySem.W.keepIn X.K fv = true) (hkw : PK X kws (rdA w H0 W mk)) (l2 : Len ks.length mk)
    (hn : ∀ vs zs : List V, vs.length = 0 → zs.length = ks.length → (gV vs zs).length = n) (hall : (backToKw pos (keywordEach kws X.env)).all (·.1.isSome) = true := by rfl) (hks : (backToKw pos (keywordEach kws X.env)).filterMap (·.1) = ks := by rfl)
    (hdb : (x == ("__debug__" : Str)) = false := by decide)
    (hpl : ((backTo pos (starEach [] X.env)).any (·.1) || (backToKw pos (keywordEach kws X.env)).any (·.1.isNone)) = false := by rfl) : PE X (.Call (.Name x p) [] kws pos) (rd (mf F [] (mKw G mNil mk))) :=
  (w_kw0 c hg hm hk hkw hall hks hdb hpl).imp fun σ H Q q => nil_core (kw_fn rs hG Len.nil l2 hn q)

/-! ### instances -/
/-- a looked-at instance -/
def FReps (w : Wd) (g : DG) (H : Hp) (A : Addr → Prop) (fs : List (Str × T)) (gs : List (Str × V)) : Prop := gs.map (·.1) = fs.map (·.1) ∧ VReps w g H A (fs.map (·.2)) (gs.map (·.2))
theorem FReps.lookup {g : DG} {H : Hp} {A : Addr → Prop} : ∀ {fs : List (Str × T)} {gs : List (Str × V)} {f : Str}, FReps w g H A fs gs → (fs.lookup f = none ∧ gs.lookup f = none) ∨ ∃ t v, fs.lookup f = some t ∧ gs.lookup f = some v ∧ VRep w g H A t v
  | [], gs, f, h => by
    cases gs with
    | nil => exact .inl ⟨rfl, rfl⟩
    | cons _ _ => cases h.1
  | (x, t) :: fs, gs, f, h => by
    cases gs with
    | nil => cases h.1
    | cons y gs =>
      obtain ⟨h1, h2⟩ := h
      obtain ⟨y1, y2⟩ := y
      simp only [List.map_cons, List.cons.injEq] at h1
      obtain ⟨rfl, h1⟩ := h1
      cases h2 with
      | cons r rs =>
        simp only [List.lookup_cons]
        cases e : f == y1 with
        | true => exact .inr ⟨t, y2, rfl, rfl, r⟩
        | false => exact FReps.lookup (f := f) ⟨h1, rs⟩
def putFT (f : Str) (t : T) : List (Str × T) → List (Str × T)
  | [] => [(f, t)]
  | (g, x) :: r => if g = f then (g, t) :: r else (g, x) :: putFT f t r
theorem FReps.put {g : DG} {H : Hp} {A : Addr → Prop} {f : Str} {t : T} {v : V} (r : VRep w g H A t v) : ∀ {fs : List (Str × T)} {gs : List (Str × V)}, FReps w g H A fs gs → FReps w g H A (putFT f t fs) (putF f v gs)
  | [], gs, h => by
    cases gs with
    | nil => exact ⟨rfl, .cons r .nil⟩
    | cons _ _ => cases h.1
  | (x, u) :: fs, gs, h => by
    cases gs with
    | nil => cases h.1
    | cons y gs =>
      obtain ⟨h1, h2⟩ := h
      obtain ⟨y1, y2⟩ := y
      simp only [List.map_cons, List.cons.injEq] at h1
      obtain ⟨rfl, h1⟩ := h1
      cases h2 with
      | cons r' rs =>
        unfold putFT putF
        by_cases c : y1 = f
        · rw [if_pos c, if_pos c]
          exact ⟨congrArg (y1 :: ·) h1, .cons r rs⟩
        · rw [if_neg c, if_neg c]
          obtain ⟨q1, q2⟩ := FReps.put r (fs := fs) (gs := gs) ⟨h1, rs⟩
          exact ⟨congrArg (y1 :: ·) q1, .cons r' q2⟩
theorem LRep.ins {g : DG} {H : Hp} {A : Addr → Prop} {c : Nat} {fs : List (Str × T)} {v : V} (h : LRep w g H A (.ins c fs) v) : ∃ a dx gs, v = .ref a ∧ H a = some (.ins (w.ct c) dx gs) ∧ FReps w g H A fs gs := by
  rcases h with h | ⟨a, rfl, h, _⟩
  · cases h with
    | ins h1 h2 h3 h4 => exact ⟨_, _, _, rfl, h1, h3, h4⟩
  · obtain ⟨dx, gs, h1, h2, h3⟩ := h
    exact ⟨a, dx, gs, rfl, h1, h2, h3⟩
theorem LRep.slf {g : DG} {H : Hp} {A : Addr → Prop} {c : Nat} {fs : List (Str × T)} {v : V} (h : LRep w g H A (.slf c fs) v) : ∃ a dx gs, v = .ref a ∧ H a = some (.ins (w.ct c) dx gs) ∧ FReps w g H A fs gs := by
  rcases h with h | ⟨a, rfl, h, _⟩
  · cases h with
    | slf h1 h2 h3 h4 => exact ⟨_, _, _, rfl, h1, h3, h4⟩
  · obtain ⟨_, dx, gs, h1, h2, h3⟩ := h
    exact ⟨a, dx, gs, rfl, h1, h2, h3⟩
/-- a field of an instance of the class c -/
def fldT (c : Nat) (f : Str) : T → Option T
  | .ins c' fs => if c' = c then fs.lookup f else none
  | .slf c' fs => if c' = c then fs.lookup f else none
  | _ => none
theorem fldT_some {g : DG} {H : Hp} {A : Addr → Prop} {c : Nat} {f : Str} {t u : T} {v : V} (r : LRep w g H A t v) (h : fldT c f t = some u) : ∃ a dx gs y, v = .ref a ∧ H a = some (.ins (w.ct c) dx gs) ∧ gs.lookup f = some y ∧ VRep w g H A u y := by
  have key : ∀ {fs : List (Str × T)} {gs : List (Str × V)}, FReps w g H A fs gs → fs.lookup f = some u → ∃ y, gs.lookup f = some y ∧ VRep w g H A u y := fun fr e => by
    rcases fr.lookup (f := f) with ⟨z, _⟩ | ⟨t', y, e1, e2, e3⟩
    · rw [z] at e; cases e
    · rw [e1] at e; cases e; exact ⟨y, e2, e3⟩
  cases t <;> first | (cases h; done) | skip
  · rename_i c' fs
    obtain ⟨a, dx, gs, rfl, h1, h2⟩ := r.ins
    simp only [fldT] at h
    by_cases e : c' = c
    · subst e
      rw [if_pos rfl] at h
      obtain ⟨y, q1, q2⟩ := key h2 h
      exact ⟨a, dx, gs, y, rfl, h1, q1, q2⟩
    · rw [if_neg e] at h; cases h
  · rename_i c' fs
    obtain ⟨a, dx, gs, rfl, h1, h2⟩ := r.slf
    simp only [fldT] at h
    by_cases e : c' = c
    · subst e
      rw [if_pos rfl] at h
      obtain ⟨y, q1, q2⟩ := key h2 h
      exact ⟨a, dx, gs, y, rfl, h1, q1, q2⟩
    · rw [if_neg e] at h; cases h
theorem e_fld {fn : Str} {m : M T} (c : Nat) (hK : X.K = w.K) (cl : Cls w.K (w.ct c)) (na : NoAttr w.K (w.ct c) fn) (h : PE X e (rdL w H0 W m)) (hb : attributeBase e fn X.env (eval e X.env) = eval e X.env := by rfl) : PE X (.Attribute e fn pos) (rdE w H0 W (mUn (fldT c fn) m)) :=
  (pe_fld h hb).imp fun σ H Q q => by
    obtain ⟨g, A, ρ, S, q⟩ := q
    refine ⟨g, A, ρ, S, ?_⟩
    unfold mUn bindM at q
    cases e1 : m ρ with
    | bad => rw [e1] at q; exact q.elim
    | ex c f ρ1 => rw [e1] at q; exact q
    | ok t ρ1 =>
      simp only [e1] at q
      intro A1 H1 v a1 k1 S1 r1
      cases e2 : fldT c fn t with
      | none => simp only [e2] at q
      | some u =>
        simp only [e2] at q
        obtain ⟨a, dx, gs, y, rfl, q1, q2, q3⟩ := fldT_some r1 e2
        exact ⟨a, _, dx, gs, y, rfl, q1, by rw [hK]; exact cl, by rw [hK]; exact na, q2, q A1 H1 y a1 k1 S1 q3⟩
/-- a property of an instance of the class c -/
def mProp (c : Nat) (F : TF) (m : M T) : M T := bindM m fun t => match t with
  | .ins c' fs => if c' = c then (fun ρ => match F ρ.dr [.ins c' fs] with
    | .ok _ u dr => .ok u { ρ with dr := dr }
    | _ => .bad) else fun _ => .bad
  | _ => fun _ => .bad
theorem prop_g {CX : CXT} {k : Nat} {C p' g : Addr} {f : Str} {fd : FuncData} {ps : List Str} {sp : Sp} {ds : List Value} {E : XK} {ta : TE} (he : PE X e ta) (c : Cls X.K C) (hp : PropOf X.K C f p' g) (F : FnG X.prog X.w X.K X.mg X.base CX k g fd ps sp) (hr : RoomG (k + 1) X.A) (hb : Binds X.K fd ps ds) (hd : Vals [] ds) (hx : Passes CX X.nox E)
    (hab : attributeBase e f X.env (eval e X.env) = eval e X.env) : PE X (.Attribute e f pos) (tProp C sp [] E ta) := by
  refine ⟨fun pins s σ H Q I h => ?_⟩
  refine attr_of hab (thn (he.run pins s σ H _ I h) fun u s1 ⟨x, H1, I1, rx, a, dx, fs, ex, ea, q⟩ => ?_)
  subst ex
  obtain rfl : u = Value.ref a := rx
  obtain ⟨mA, O, _, _, _, _⟩ := ins_get I1.hok ea
  obtain ⟨od, J, _⟩ := O.look
  obtain ⟨rest, hrec⟩ := hp.rec_
  have I2 := I1.tok (s1.toks + 1)
  cases hd
  have hl : ([Value.ref a] ++ []).length = ps.length := (F.len _ _ _ _ q)
  have hc : (PySem.W.clsIn X.K C).isSome = true := by
    obtain ⟨cd, hc, _⟩ := PySem.W.any_some c.hd
    rw [hc]
    rfl
  refine PySem.W.get_bind I1.kIn J (PySem.W.plainGet_of (c.get f)).1 (PySem.W.findObj_data hc hp.at_ hp.get hp.tak) (PySem.W.plainGet_of (c.get f)).2 (wpAny_call (PySem.W.prop_get (s := { s1 with toks := s1.toks + 1 }) I1.kIn hrec ?_))
  refine codeAny_mono (F.run X.A.in1 X.stack { s1 with toks := s1.toks + 1 } H1 ⟨[.ref a], []⟩ [.ref a] [.ref a] Q E hr.in1 I2.env0.in1 (hb _ [.ref a] I2.kIn hl) (.cons rfl .nil) q) fun r s' hq => ?_
  cases r with
  | error er => exact False.elim (hx pins σ H1 { s1 with toks := s1.toks + 1 } er s' (I2.wish _) hq)
  | ok fl =>
    cases fl with
    | ret u =>
      obtain ⟨v, H', I3, rv, q3⟩ := I2.after hq
      show wpAny _ _ (handedOut u) _ _ _
      rw [PySem.W.handedOut_of (handed_of rv)]
      exact wpAny_pure ⟨v, H', I3, rv, q3⟩
    | next => exact False.elim hq
    | brk => exact False.elim hq
    | cont => exact False.elim hq
theorem takesN {X : Cx} : Takes X (fun _ _ _ _ => False) := fun _ _ ⟨_, _, _, _, _, _, _, _, _, _, _, _, _, _, _, _, w⟩ => w.elim
theorem e_prop {fn : Str} {m : M T} {pa ga : Addr} (c : Nat) (hK : X.K = w.K) (cl : Cls w.K (w.ct c)) (hp : PropOf w.K (w.ct c) fn pa ga) (Fk : FnG X.prog X.w X.K X.mg X.base (CX X.prog X.w) k ga fd ps (spF w 1 F)) (hr : RoomG (k + 1) X.A) (hb : Binds X.K fd ps ds) (hd : Vals [] ds)
    (h : PE X e (rdE w H0 W m)) (hab : attributeBase e fn X.env (eval e X.env) = eval e X.env := by rfl) : PE X (.Attribute e fn pos) (rdE w H0 W (mProp c F m)) :=
  (prop_g (X := X) (CX := CX X.prog X.w) (E := fun _ _ _ => False) h (by rw [hK]; exact cl) (by rw [hK]; exact hp) Fk hr hb hd (fun pins σ H s e s' I c => passAt (X := X.nox) (W := fun _ _ _ _ => False) takesN σ pins H s e s' I c) hab).imp fun σ H Q q => by
    obtain ⟨g, A, ρ, S, q⟩ := q
    refine ⟨g, A, ρ, S, ?_⟩
    unfold mProp bindM at q
    cases e1 : m ρ with
    | bad => rw [e1] at q; exact q.elim
    | ex c f ρ1 => rw [e1] at q; exact q
    | ok t ρ1 =>
      simp only [e1] at q
      intro A1 H1 v a1 k1 S1 r1
      cases t <;> first | (exact q.elim) | skip
      rename_i c' fs
      simp only at q
      by_cases ec : c' = c
      · subst ec
        rw [if_pos rfl] at q
        obtain ⟨a, dx, gs, rfl, q1, q2⟩ := LRep.ins (.inl r1)
        refine ⟨a, dx, gs, rfl, q1, ?_⟩
        refine sp_core (W := fun _ _ _ _ => False) S1 (.cons r1 .nil) rfl ?_
        cases e2 : F ρ1.dr [.ins c' fs] with
        | bad => rw [e2] at q; exact q
        | ex _ _ _ => rw [e2] at q; exact q.elim
        | ok fr u dr =>
          rw [e2] at q
          intro H' v k' S' r'
          cases fr with
          | false => exact q A1 H' v a1 (k1.trans k') S' r'
          | true =>
            obtain ⟨b, rfl, hn, ho⟩ := r'
            have na : ¬ A1 b := fun z => S1.aT b z hn
            exact q A1 H' _ a1 (k1.trans k') S' (ho.share (fun b z => .inl z) na)
      · rw [if_neg ec] at q
        exact q.elim
end
end MP
end

section
set_option Elab.async false
set_option linter.all false
set_option maxRecDepth 100000
/-! MP15: __init__, making; methods; fields stored. -/
namespace MP
open PySem PySem.Spec L2

def slfT : Option (Option (Bool × T)) → DS → FO
  | some (some (true, .slf c fs)), dr => .ok true (.ins c fs) dr
  | _, _ => .bad
def runI (n : Nat) (c : Nat) (m : SM) : TF := fun dr ts => match m ⟨some (true, .slf c []) :: startT (n - 1) ts, dr⟩ with
  | .nx ρ => slfT ρ.sl[0]? ρ.dr
  | .rt false .non ρ => slfT ρ.sl[0]? ρ.dr
  | .ex c f ρ => .ex c f ρ.dr
  | _ => .bad
/-- what an __init__ promises of the instance p, Hb the heap before p was laid -/
def spI (w : Wd) (n : Nat) (c : Nat) (F : TF) : Sp := fun vs H Q E => vs.length = n + 1 ∧ ∃ g A ts dr p dx Hb rest, vs = .ref p :: rest ∧ Hb p = none ∧ Hb dx = none ∧ dx ≠ p ∧ H = upd (upd Hb dx (.own p)) p (.ins (w.ct c) dx []) ∧ VReps w g Hb A ts rest ∧ DrwOk g Hb A dr ∧ match F dr ts with
  | .ok fr t dr' => fr = true ∧ ∀ H', Aft g Hb H' dr' → ORep w g H' (adj A p) t p → Q .non H'
  | .ex c f dr' => ∀ H' cls d, Aft g Hb H' dr' → XRep w g H' A c f cls d → E cls d H'
  | .bad => False
section
variable {P : Program} {w0 : World} {K : PySem.W.Frag} {mg : Str → Option Value} {base : Heap} {x qual : Str} {params : Arguments} {body : List Stmt} {scope : Scope} {dvs : List V} {kws : List (Str × V)} {f : Addr} {fd : FuncData} {N ps : List Str} {k : Nat} {w : Wd}
theorem startT_getS {n : Nat} {ts : List T} {o : Option (Bool × T)} {i : Nat} {q : Bool × T} (h : (o :: startT n ts)[i]? = some (some q)) : (i = 0 ∧ o = some q) ∨ ∃ j, i = j + 1 ∧ q.1 = false ∧ ts[j]? = some q.2 := by
  cases i with
  | zero => simp only [List.getElem?_cons_zero] at h; exact .inl ⟨rfl, Option.some.inj h⟩
  | succ j =>
    rw [List.getElem?_cons_succ] at h
    exact .inr ⟨j, rfl, startT_get h⟩
theorem start_cons {N : List Str} {vs : List V} {v : V} : L2.start N (v :: vs) = some v :: (vs.map some ++ List.replicate (N.length - 1 - vs.length) none) := by
  unfold L2.start
  rw [List.map_cons, List.cons_append, List.length_cons, Nat.sub_sub, Nat.add_comm 1]
theorem SR.startI {g : DG} {H Hb : Hp} {A : Addr → Prop} {dr : DS} {N : List Str} {c : Nat} {p dx : Addr} {ts : List T} {vs : List V} (hp : Hb p = none) (hdx : Hb dx = none) (hne : dx ≠ p) (hH : H = upd (upd Hb dx (.own p)) p (.ins (w.ct c) dx [])) (r : VReps w g Hb A ts vs) (d : DrwOk g Hb A dr) (hl : vs.length + 1 ≤ N.length) :
    SR w ⟨g.dr, some p⟩ ⟨Hb, A⟩ H (adj A p) ⟨some (true, .slf c []) :: startT (N.length - 1) ts, dr⟩ (L2.start N (.ref p :: vs)) ∧ Kp (fun _ => False) Hb H := by
  have hp2 : (upd Hb dx (.own p)) p = none := by rw [upd_ne (Ne.symm hne)]; exact hp
  have k : Kp (fun _ => False) Hb H := by rw [hH]; exact (Kp.new hdx).trans (Kp.new hp2)
  have gp : ∀ {b : Addr} {o : HO}, Hb b = some o → H b = some o := fun {b o} e => k.same b o e id
  have rr : VReps w ⟨g.dr, some p⟩ H (adj A p) ts vs := ((r.grow hp).keep (k.mono fun _ z => z.elim)).me
  refine ⟨⟨?_, fun _ z => .inl z, fun i t e => ?_, fun i t e => ?_, fun i j t u a hij e1 e2 => ?_, fun d' b c e => ?_, fun a z => ?_, fun a z => ?_, k.mono fun _ z => z.elim⟩, k⟩
  · rw [start_cons]
    unfold startT
    simp only [List.length_cons, List.length_append, List.length_map, List.length_replicate, r.length]
  · rcases startT_getS e with ⟨rfl, z⟩ | ⟨j, rfl, z, e2⟩
    · cases z
    · obtain ⟨v, h1, h2⟩ := rr.get e2
      refine ⟨v, ?_, h2⟩
      rw [start_cons, List.getElem?_cons_succ]
      have hi := (List.getElem?_eq_some_iff.mp h1).1
      rw [List.getElem?_append_left (by simpa using hi), List.getElem?_map, h1]
      rfl
  · rcases startT_getS e with ⟨rfl, z⟩ | ⟨j, rfl, z, e2⟩
    · cases z
      refine ⟨p, by rw [start_cons]; rfl, ⟨rfl, dx, [], by rw [hH]; exact upd_same, rfl, .nil⟩, .inr rfl, fun z => d.aT p (d.dA p z) hp, hp, fun z => d.aT p z hp⟩
    · cases z
  · rcases startT_getS e1 with ⟨rfl, _⟩ | ⟨_, _, z, _⟩
    · rcases startT_getS e2 with ⟨rfl, _⟩ | ⟨_, _, z, _⟩
      · exact absurd rfl hij
      · cases z
    · cases z
  · have D := d.draw d' b c e
    exact ⟨gp D.dd, gp D.db, gp D.dc, D.bc, D.ok⟩
  · exact .inl (d.dA a z)
  · rcases z with z | rfl
    · cases e : Hb a with
      | none => exact absurd e (d.aT a z)
      | some o => rw [gp e]; exact fun z => nomatch z
    · rw [hH, upd_same]; exact fun z => nomatch z
/-- an __init__ computes its body's function -/
theorem init_ok (F : FunD K x qual params body scope dvs kws f fd) (S : FnScope N ps scope) {n c : Nat} {m : SM} (hn : ps.length = n + 1)
    (hb : ∀ (cdv : Value) (A : Around) (outer : List Env) (s : Shared) (H : Hp) (E : XK) (H0 : En), RoomG k (cxOf (CX P w0) P w0 K mg base N qual scope f cdv A outer s H E).A →
      PSs (cxOf (CX P w0) P w0 K mg base N qual scope f cdv A outer s H E) body (rdS w H0 (WOf E) m)) : FnG P w0 K mg base (CX P w0) (k + 1) f fd ps (spI w n c (runI N.length c m)) := by
  refine okG F S (fun vs H Q E h => h.1.trans hn.symm) fun cdv A outer s H vs Q E hr h => ?_
  obtain ⟨hl, g, B, ts, dr, p, dx, Hb, rest, rfl, hp, hdx, hne, hH, r, d, h⟩ := h
  have hN : rest.length + 1 ≤ N.length := by
    have := S.pre
    have h2 : (N.take ps.length).length = ps.length := by rw [this]
    rw [List.length_take] at h2
    rw [List.length_cons] at hl
    omega
  obtain ⟨S0, k0⟩ := SR.startI (w := w) (N := N) hp hdx hne hH r d hN
  refine ⟨_, hb cdv A outer s H E ⟨Hb, B⟩ hr, rdS_post.mpr ⟨_, _, _, S0, ?_⟩⟩
  have aft : ∀ {A' : Addr → Prop} {H' : Hp} {ρ : Ev} {σ : L2.St}, SR w ⟨g.dr, some p⟩ ⟨Hb, B⟩ H' A' ρ σ → Aft g Hb H' ρ.dr := fun S' => ⟨S'.fr, S'.draw⟩
  have fin : ∀ {A' : Addr → Prop} {H' : Hp} {ρ : Ev} {σ : L2.St}, SR w ⟨g.dr, some p⟩ ⟨Hb, B⟩ H' A' ρ σ → (match slfT ρ.sl[0]? ρ.dr with
      | .ok fr t dr' => fr = true ∧ ∀ H', Aft g Hb H' dr' → ORep w g H' (adj B p) t p → Q .non H'
      | .ex c f dr' => ∀ H' cls d, Aft g Hb H' dr' → XRep w g H' B c f cls d → E cls d H'
      | .bad => False) → Q .non H' := fun {A' H' ρ σ} S' q => by
    cases e0 : ρ.sl[0]? with
    | none => rw [e0] at q; exact q.elim
    | some o =>
      cases o with
      | none => rw [e0] at q; exact q.elim
      | some bt =>
        obtain ⟨fl, t⟩ := bt
        cases fl with
        | false => rw [e0] at q; exact q.elim
        | true =>
          cases t <;> first | (rw [e0] at q; exact q.elim) | skip
          rename_i c' fs
          rw [e0] at q
          obtain ⟨a, h1, ⟨hm, dx', gs, h2, h2', h2''⟩, h3, h4, h5⟩ := S'.own 0 _ e0
          obtain rfl : p = a := by cases hm; rfl
          refine q.2 H' (aft S') ⟨dx', gs, h2, h2', ?_⟩
          exact (VReps.me (m := g.me) h2'').weak fun b z => z.elim (fun z => S'.up b z) (fun z => z ▸ h3)
  unfold runI at h
  cases e : m ⟨some (true, .slf c []) :: startT (N.length - 1) ts, dr⟩ with
  | nx ρ => rw [e] at h; exact fun A' H' σ' P' S' => fin S' h
  | bk ρ => rw [e] at h; exact h.elim
  | ct ρ => rw [e] at h; exact h.elim
  | rt fr t ρ =>
    rw [e] at h
    intro A' H' σ' v S' r'
    cases fr with
    | true => exact h.elim
    | false =>
      cases t <;> first | (exact h.elim) | skip
      cases (show VRep w ⟨g.dr, some p⟩ H' A' .non v from r')
      exact fin S' h
  | ex c ff ρ =>
    rw [e] at h
    refine fun A' H' σ' cls d S' x => h H' cls d (aft S') ?_
    obtain ⟨x1, x2⟩ := x
    refine ⟨x1, ?_⟩
    cases ff with
    | none => trivial
    | some nt =>
      obtain ⟨dx, v, x3, x4, x5⟩ := x2
      exact ⟨dx, v, x3, x4, (VRep.me (m := g.me) x5).weak S'.up⟩
  | bad => rw [e] at h; exact h.elim
end
end MP
end

section
set_option Elab.async false
set_option linter.all false
set_option maxRecDepth 100000
/-! MP16: making instances; methods; fields stored. -/
namespace MP
open PySem PySem.Spec L2

section
variable {X : Cx} {w : Wd} {H0 : En} {W : WX} {e a b o : Expr} {es rest : List Expr} {kws : List Keyword} {pos pos' p2 p apos cpos kpos : Pos} {k n m c : Nat} {f C : Addr} {fd : FuncData} {ps ks : List Str} {dvs : List V} {ds : List Value} {x : Str} {F : TF} {dts : List T}
  {g : List Value → List Value → List Value} {gV : List V → List V → List V}
theorem mk_core {σ : L2.St} {H : Hp} {Q : VK} {ma : M (List T)} (cs : Cst w dts dvs) (q : rdF w H0 W (mFnF F dts ma) σ H Q) : rdA w H0 W ma σ H fun vs H1 => vs.length + dvs.length = n → spMk (w.ct c) (spI w n c F) (WE W σ) (fun u => u ++ (vs ++ dvs)) H1 Q := by
  obtain ⟨g, A, ρ, S, q⟩ := q
  refine ⟨g, A, ρ, S, ?_⟩
  unfold mFnF at q
  cases e1 : ma ρ with
  | bad => rw [e1] at q; exact q
  | ex c f ρ1 => rw [e1] at q; exact q
  | ok ts ρ1 =>
    rw [e1] at q
    simp only at q
    intro A1 H1 vs a1 k1 S1 r1 hl p dx hp hdx hne
    refine ⟨by show (V.ref p :: (vs ++ dvs)).length = n + 1; rw [List.length_cons, List.length_append, hl], g, A1, ts ++ dts, ρ1.dr, p, dx, H1, vs ++ dvs, rfl, hp, hdx, hne, rfl, r1.append (cs g H1 A1), ⟨S1.draw, S1.dA, S1.aT⟩, ?_⟩
    cases e2 : F ρ1.dr (ts ++ dts) with
    | bad => rw [e2] at q; exact q
    | ok fr t dr =>
      rw [e2] at q
      cases fr with
      | false => exact q.elim
      | true =>
        refine ⟨rfl, fun H' a ho => ⟨rfl, ?_⟩⟩
        have S' := S1.after a
        exact q A1 H' p a1 (k1.trans a.k) (S1.unseen k1 hp) S' (S1.afterF a.k S' hp ho) ho
    | ex c f dr =>
      rw [e2] at q
      exact fun H' cls d a x => q A1 H' cls d a1 (S1.after a) x
theorem x_mk {ma : M (List T)} (cs : Cst w dts dvs) (cl : CallAt X (.ref (w.ct c)) [] (fun σ vs _ H Q => spMk (w.ct c) (spI w n c F) (WE W σ) (fun u => u ++ (vs ++ dvs)) H Q)) (hg : Gl X x) (hm : X.mg x = some (.ref (w.ct c))) (hk : PySem.W.keepIn X.K (.ref (w.ct c)) = true) (ha : PA X (e :: es) (rdA w H0 W ma)) (hl : Len m ma) (hmn : m + dvs.length = n := by rfl) (hdb : (x == ("__debug__" : Str)) = false := by decide)
    (he : starEach (e :: es) X.env = (false, eval e X.env) :: starEach es X.env := by rfl) (hpl : (backTo pos (starEach es X.env)).any (·.1) = false := by rfl) : PE X (.Call (.Name x p) (e :: es) [] pos) (rdF w H0 W (mFnF F dts ma)) :=
  (w_pos cl hg hm hk ha hdb he hpl).imp fun σ H Q q => rdA_len hl (rdA_imp (mk_core (n := n) (c := c) cs q) fun vs H1 h hv => h (by rw [hv]; exact hmn))
variable {G : List T → List T → List T} {n1 n2 : Nat}
theorem kw_mk {ma mk : M (List T)} (hG : GOk w G (fun vs zs => gV vs zs)) (hgV : ∀ u vs zs, gV (u :: vs) zs = u :: gV vs zs) (l1 : Len n1 ma) (l2 : Len n2 mk) (hn : ∀ vs zs : List V, vs.length = n1 → zs.length = n2 → (gV vs zs).length = n) {σ : L2.St} {H : Hp} {Q : VK} (q : rdF w H0 W (mFnF F [] (mKw G ma mk)) σ H Q) :
    tCAK n2 (fun σ vs zs H Q => vs.length = n1 ∧ spMk (w.ct c) (spI w n c F) (WE W σ) (fun u => gV (u ++ vs) zs) H Q) (rdA w H0 W ma) (rdA w H0 W mk) σ H Q := by
  have h1 := mk_core (n := n) (c := c) Cst.nil q
  have h2 := kw_core hG l1 l2 h1
  refine rdA_imp h2 fun vs H1 h3 => rdA_imp h3 fun zs H2 h4 => ?_
  obtain ⟨z1, z2, z3⟩ := h4
  refine ⟨z1, z2, ?_⟩
  have := z3 (by rw [List.length_nil, Nat.add_zero]; exact hn vs zs z2 z1)
  intro p dx h1 h2 h3
  have q := this p dx h1 h2 h3
  rw [List.append_nil] at q
  show spI w n c F (gV (V.ref p :: vs) zs) _ _ _
  rw [hgV]
  exact q
theorem x_mkK {ma mk : M (List T)} (hG : GOk w G (fun vs zs => gV vs zs)) (hgV : ∀ u vs zs, gV (u :: vs) zs = u :: gV vs zs) (cl : CallAt X (.ref (w.ct c)) ks (fun σ vs zs H Q => vs.length = n1 ∧ spMk (w.ct c) (spI w n c F) (WE W σ) (fun u => gV (u ++ vs) zs) H Q)) (hg : Gl X x) (hm : X.mg x = some (.ref (w.ct c))) (hk : PySem.W.keepIn X.K (.ref (w.ct c)) = true)
    (ha : PA X (e :: es) (rdA w H0 W ma)) (l1 : Len n1 ma) (hkw : PK X kws (rdA w H0 W mk)) (l2 : Len ks.length mk)
    (hn : ∀ vs zs : List V, vs.length = n1 → zs.length = ks.length → (gV vs zs).length = n) (hall : (backToKw pos (keywordEach kws X.env)).all (·.1.isSome) = true := by rfl) (hks : (backToKw pos (keywordEach kws X.env)).filterMap (·.1) = ks := by rfl)
    (hdb : (x == ("__debug__" : Str)) = false := by decide) (he : starEach (e :: es) X.env = (false, eval e X.env) :: starEach es X.env := by rfl)
    (hpl : ((backTo pos (starEach (e :: es) X.env)).any (·.1) || (backToKw pos (keywordEach kws X.env)).any (·.1.isNone)) = false := by rfl) : PE X (.Call (.Name x p) (e :: es) kws pos) (rdF w H0 W (mFnF F [] (mKw G ma mk))) :=
  (w_kw cl hg hm hk ha hkw hall hks hdb he hpl).imp fun σ H Q q => kw_mk hG hgV l1 l2 hn q
theorem x_mkK0 {mk : M (List T)} (hG : GOk w G (fun vs zs => gV vs zs)) (hgV : ∀ u vs zs, gV (u :: vs) zs = u :: gV vs zs) (cl : CallAt X (.ref (w.ct c)) ks (fun σ vs zs H Q => vs.length = 0 ∧ spMk (w.ct c) (spI w n c F) (WE W σ) (fun u => gV (u ++ vs) zs) H Q)) (hg : Gl X x) (hm : X.mg x = some (.ref (w.ct c))) (hk : PySem.W.keepIn X.K (.ref (w.ct c)) = true)
    (hkw : PK X kws (rdA w H0 W mk)) (l2 : Len ks.length mk)
    (hn : ∀ vs zs : List V, vs.length = 0 → zs.length = ks.length → (gV vs zs).length = n) (hall : (backToKw pos (keywordEach kws X.env)).all (·.1.isSome) = true := by rfl) (hks : (backToKw pos (keywordEach kws X.env)).filterMap (·.1) = ks := by rfl)
    (hdb : (x == ("__debug__" : Str)) = false := by decide)
    (hpl : ((backTo pos (starEach [] X.env)).any (·.1) || (backToKw pos (keywordEach kws X.env)).any (·.1.isNone)) = false := by rfl) : PE X (.Call (.Name x p) [] kws pos) (rdF w H0 W (mFnF F [] (mKw G mNil mk))) :=
  (w_kw0 cl hg hm hk hkw hall hks hdb hpl).imp fun σ H Q q => nil_core (kw_mk hG hgV Len.nil l2 hn q)

/-! ### methods -/
def mInst (c : Nat) (mn : Str) (mo : M T) (ma : M (List T)) : M (List T) := bindM mo fun t => match t with
  | .ins c' fs => if c' = c ∧ fs.lookup mn = none then bindM ma fun ts ρ => .ok (.ins c' fs :: ts) ρ else fun _ => .bad
  | _ => fun _ => .bad
theorem meth_core {mn : Str} {mo : M T} {ma : M (List T)} {σ : L2.St} {H : Hp} {Q : List V → Hp → Prop} (l : Len m ma) (q : rdA w H0 W (mInst c mn mo ma) σ H Q) :
    rdE w H0 W mo σ H fun y H1 => ∃ a dx fs, y = .ref a ∧ H1 a = some (.ins (w.ct c) dx fs) ∧ fs.lookup mn = none ∧ rdA w H0 W ma σ H1 fun vs H2 => vs.length = m ∧ Q (y :: vs) H2 := by
  obtain ⟨g, A, ρ, S, q⟩ := q
  refine ⟨g, A, ρ, S, ?_⟩
  unfold mInst bindM at q
  cases e1 : mo ρ with
  | bad => rw [e1] at q; exact q
  | ex c f ρ1 => rw [e1] at q; exact q
  | ok t ρ1 =>
    simp only [e1] at q
    intro A1 H1 v a1 k1 S1 r1
    cases t <;> first | (exact q.elim) | skip
    rename_i c' fs
    simp only at q
    by_cases hc : c' = c ∧ fs.lookup mn = none
    · rw [if_pos hc] at q
      obtain ⟨rfl, hl⟩ := hc
      obtain ⟨a, dx, gs, rfl, q1, q2⟩ := LRep.ins (.inl r1)
      have hg : gs.lookup mn = none := by
        rcases q2.lookup (f := mn) with ⟨_, z⟩ | ⟨t', y, z, _⟩
        · exact z
        · rw [hl] at z; cases z
      refine ⟨a, dx, gs, rfl, q1, hg, g, A1, ρ1, S1, ?_⟩
      cases e2 : ma ρ1 with
      | bad => simp only [e2] at q
      | ex c f ρ2 => simp only [e2] at q; exact fun A2 H2 cls d a2 => q A2 H2 cls d fun a z => a1 a (a2 a z)
      | ok ts ρ2 =>
        simp only [e2] at q
        exact fun A2 H2 vs a2 k2 S2 r2 => ⟨by rw [← r2.length]; exact l _ _ _ e2, q A2 H2 _ (fun a z => a1 a (a2 a z)) (k1.trans k2) S2 (.cons (r1.next a2 S1.dA k2) r2)⟩
    · rw [if_neg hc] at q
      exact q.elim
variable {rd : M T → TE} {mf : TF → List T → M (List T) → M T}
theorem rdE_imp {mo : M T} {σ : L2.St} {H : Hp} {Q Q' : VK} (q : rdE w H0 W mo σ H Q) (h : ∀ v H1, Q v H1 → Q' v H1) : rdE w H0 W mo σ H Q' := by
  obtain ⟨g, A, ρ, S, q⟩ := q
  refine ⟨g, A, ρ, S, ?_⟩
  cases e1 : mo ρ with
  | bad => rw [e1] at q; exact q
  | ex c f ρ1 => rw [e1] at q; exact q
  | ok ts ρ1 => rw [e1] at q; exact fun A' H' vs h1 h2 h3 h4 => h _ _ (q A' H' vs h1 h2 h3 h4)
theorem x_meth (rs : Rs w H0 W rd mf) {mn : Str} {mo : M T} {ma : M (List T)} {pl : Sem Bool} (c : Nat) (hK : X.K = w.K) (cs : Cst w dts dvs) (cl : CallAt X (.ref f) [] (fun σ vs _ H Q => spF w n F (vs ++ dvs) H Q (WE W σ))) (cc : Cls w.K (w.ct c)) (hm : Meth w.K (w.ct c) mn f) (ho : PE X o (rdE w H0 W mo)) (ha : PA X (e :: es) (rdA w H0 W ma)) (hl : Len m ma) (hmn : m + 1 + dvs.length = n := by rfl)
    (hst : starEach (e :: es) X.env = (false, eval e X.env) :: starEach es X.env := by rfl) (hpl : (backTo pos (starEach es X.env)).any (·.1) = false := by rfl)
    (ht : eval (.Call (.Attribute o mn apos) (e :: es) [] pos) X.env = (do
      let ov ← eval o X.env
      standAt apos.atName
      let (f, first) ← holding [ov] (getMethod ov mn pl)
      callWith pos f first (backTo pos (starEach (e :: es) X.env)) (backToKw pos (keywordEach [] X.env))) := by rfl) :
    PE X (.Call (.Attribute o mn apos) (e :: es) [] pos) (rd (mf F dts (mInst c mn mo ma))) :=
  (w_meth (pl := pl) cl (by rw [hK]; exact cc) (by rw [hK]; exact hm) ho ha hst hpl ht).imp fun σ H Q q => rdE_imp (meth_core hl (rs.core (n := n) cs q)) fun y H1 ⟨a, dx, fs, h1, h2, h3, h4⟩ => ⟨a, dx, fs, h1, h2, h3, rdA_imp h4 fun vs H2 ⟨z1, z2⟩ => z2 (by rw [List.length_cons, z1]; exact hmn)⟩
theorem x_meth0 (rs : Rs w H0 W rd mf) {mn : Str} {mo : M T} {pl : Sem Bool} (c : Nat) (hK : X.K = w.K) (cs : Cst w dts dvs) (cl : CallAt X (.ref f) [] (fun σ vs _ H Q => spF w n F (vs ++ dvs) H Q (WE W σ))) (cc : Cls w.K (w.ct c)) (hm : Meth w.K (w.ct c) mn f) (ho : PE X o (rdE w H0 W mo)) (hmn : 1 + dvs.length = n := by rfl)
    (ht : eval (.Call (.Attribute o mn apos) [] [] pos) X.env = (do
      let ov ← eval o X.env
      standAt apos.atName
      let (f, first) ← holding [ov] (getMethod ov mn pl)
      callWith pos f first (backTo pos (starEach [] X.env)) (backToKw pos (keywordEach [] X.env))) := by rfl) :
    PE X (.Call (.Attribute o mn apos) [] [] pos) (rd (mf F dts (mInst c mn mo mNil))) :=
  (w_meth0 (pl := pl) cl (by rw [hK]; exact cc) (by rw [hK]; exact hm) ho ht).imp fun σ H Q q => rdE_imp (meth_core Len.nil (rs.core (n := n) cs q)) fun y H1 ⟨a, dx, fs, h1, h2, h3, h4⟩ => ⟨a, dx, fs, h1, h2, h3, nil_core (rdA_imp h4 fun vs H2 ⟨z1, z2⟩ => z2 (by rw [List.length_cons, z1, Nat.zero_add]; exact hmn))⟩

/-! ### self.f = e, in an __init__ -/
def mFld (c i : Nat) (fn : Str) (mv : M T) : SM := fun ρ => match mv ρ with
  | .ok t ρ1 => match ρ1.sl[i]? with
    | some (some (true, .slf c' fs)) => if c' = c ∧ fs.length < 1000 then .nx (setSl ρ1 i (some (true, .slf c' (putFT fn t fs)))) else .bad
    | _ => .bad
  | .ex c f ρ1 => .ex c f ρ1
  | .bad => .bad
theorem s_fld {fn : Str} {mv : M T} (c : Nat) (i : Nat) (hK : X.K = w.K) (cl : Cls w.K (w.ct c)) (na : NoAttr w.K (w.ct c) fn) (hv : PE X e (rdE w H0 W mv)) (hN : X.N[i]? = some x := by rfl) (hvs : Vis X.env.scope x := by first | exact Or.inl rfl | exact Or.inr (Or.inl rfl) | exact Or.inr (Or.inr rfl)) (hd : (x == ("__debug__" : Str)) = false := by decide)
    (hcd : (x == ("__classdict__" : Str)) = false := by decide) (hs : swapsWith e (some (.Attribute (.Name x p2) fn pos')) pos.line X.env = pure false := by rfl) :
    PS X (.Assign [.Attribute (.Name x p2) fn pos'] e pos) (rdS w H0 W (mFld c i fn mv)) := (ps_fld (pe_var hN hvs hd hcd) hv hs).imp fun D σ H q => by
  obtain ⟨g, A, ρ, S, q⟩ := q
  refine ⟨g, A, ρ, S, ?_⟩
  unfold mFld at q
  cases e1 : mv ρ with
  | bad => simp only [e1] at q
  | ex c f ρ1 => simp only [e1] at q; exact fun A' H' cls d _ => q A' H' σ cls d
  | ok t ρ1 =>
    simp only [e1] at q
    intro A1 H1 v a1 k1 S1 r1
    cases e2 : ρ1.sl[i]? with
    | none => simp only [e2] at q
    | some oo =>
      cases oo with
      | none => simp only [e2] at q
      | some bt =>
        obtain ⟨fl, u⟩ := bt
        cases fl with
        | false => simp only [e2] at q
        | true =>
          cases u <;> first | (simp only [e2] at q; done) | skip
          rename_i c' fs
          simp only [e2] at q
          by_cases hc : c' = c ∧ fs.length < 1000
          · rw [if_pos hc] at q
            obtain ⟨rfl, hlt⟩ := hc
            obtain ⟨a, h1, ⟨hm, dx, gs, h2, h2', h2''⟩, h3, h4, h5⟩ := S1.own i _ e2
            have gl : gs.length < 1000 := by
              have := congrArg List.length h2'
              rw [List.length_map, List.length_map] at this
              omega
            refine ⟨_, h1, a, _, dx, gs, rfl, h2, by rw [hK]; exact cl, by rw [hK]; exact na, gl, ?_⟩
            have kk : Kp A1 H1 (upd H1 a (.ins (w.ct c') dx (putF fn v gs))) := ⟨fun b u e n => by rw [upd_ne (fun z => n (by rw [z]; exact h3))]; exact e, fun b xs e => by
              rw [upd_ne (fun z => by rw [z, h2] at e; cases e)]; exact e, fun b ob u e => by
              rw [upd_ne (fun z => by rw [z, h2] at e; cases e)]; exact e⟩
            have fr : FReps w g (upd H1 a (.ins (w.ct c') dx (putF fn v gs))) A1 (putFT fn t fs) (putF fn v gs) := FReps.put (r1.keep kk) ⟨h2', h2''.keep kk⟩
            obtain ⟨_, S2⟩ := S1.pokeOwn (t' := .slf c' (putFT fn t fs)) e2 h1 ⟨hm, dx, _, upd_same, fr.1, fr.2⟩
            exact q A1 _ σ ((Pe.of a1 (k1.mono S.dA)).trans (Pe.of (fun _ z => z) kk)) S2
          · rw [if_neg hc] at q
            exact q.elim
end
end MP
end

section
set_option Elab.async false
set_option linter.all false
set_option maxRecDepth 100000
/-! MP17: chains, isinstance, dict get and put. -/
namespace MP
open PySem PySem.Spec L2

section
variable {X : Cx} {w : Wd} {H0 : En} {W : WX} {e a b c o : Expr} {es rest : List Expr} {kws : List Keyword} {pos pos' p2 p apos cpos kpos : Pos} {x : Str} {st : Stmt}
/-! ### what is never run -/
def mNo {α : Type} : M α := fun _ => .bad
def mNoS : SM := fun _ => .bad
theorem rdE_no {σ : L2.St} {H : Hp} {Q : VK} (q : rdE w H0 W mNo σ H Q) : False := by
  obtain ⟨g, A, ρ, S, q⟩ := q
  exact q
theorem e_no : PE X e (rdE w H0 W mNo) := ⟨fun pins s σ H Q I q => (rdE_no q).elim⟩
theorem s_no : PS X st (rdS w H0 W mNoS) := ⟨fun pins s σ H D I q => by
  obtain ⟨g, A, ρ, S, q⟩ := q
  exact q.elim⟩
/-! ### a op b op c -/
def mChain (f f' : T → T → Option T) (ma mb mc : M T) : M T := bindM ma fun t => bindM mb fun u => match f t u with
  | some (.bl true) => bindM mc fun v => (match f' u v with
    | some y => fun ρ => .ok y ρ
    | none => fun _ => .bad)
  | some (.bl false) => fun ρ => .ok (.bl false) ρ
  | _ => fun _ => .bad
theorem chain_core {f f' : T → T → Option T} {ma mb mc : M T} {r r' : R2}
    (h1 : ∀ (g : DG) (H : Hp) (A : Addr → Prop) (t u y : T) (v x : V) (Q : VK), LRep w g H A t v → LRep w g H A u x → (∀ a, A a → H a ≠ none) → f t u = some y → (∀ H' z, KpS H H' → VRep w g H' A y z → Q z H') → r v x H Q)
    (h2 : ∀ (g : DG) (H : Hp) (A : Addr → Prop) (t u y : T) (v x : V) (Q : VK), LRep w g H A t v → LRep w g H A u x → (∀ a, A a → H a ≠ none) → f' t u = some y → (∀ H' z, KpS H H' → VRep w g H' A y z → Q z H') → r' v x H Q)
    {σ : L2.St} {H : Hp} {Q : VK} (q : rdE w H0 W (mChain f f' ma mb mc) σ H Q) : tChain r r' (rdL w H0 W ma) (rdL w H0 W mb) (rdL w H0 W mc) σ H Q := by
  obtain ⟨g, A, ρ, S, q⟩ := q
  unfold mChain at q
  refine ⟨g, A, ρ, S, ?_⟩
  unfold bindM at q
  cases e1 : ma ρ with
  | bad => rw [e1] at q; exact q
  | ex c f ρ1 => rw [e1] at q; exact q
  | ok t ρ1 =>
    simp only [e1] at q
    intro A1 H1 v a1 k1 S1 r1
    refine ⟨g, A1, ρ1, S1, ?_⟩
    cases e2 : mb ρ1 with
    | bad => simp only [e2] at q
    | ex c f ρ2 => simp only [e2] at q; exact fun A2 H2 cls d a2 => q A2 H2 cls d fun a z => a1 a (a2 a z)
    | ok u ρ2 =>
      simp only [e2] at q
      intro A2 H2 x a2 k2 S2 r2
      have r1' := r1.next a2 S1.dA k2
      cases e3 : f t u with
      | none => simp only [e3] at q
      | some y =>
        cases y <;> first | (simp only [e3] at q; done) | skip
        rename_i k
        refine h1 g H2 A2 t u _ v x _ r1' r2 S2.aT e3 fun H3 z k3 rz => ?_
        cases rz
        refine ⟨k, rfl, ?_⟩
        cases k with
        | false =>
          rw [if_neg (by decide)]
          simp only [e3] at q
          exact q A2 H3 _ (fun a z => a1 a (a2 a z)) ((k1.trans k2).trans (k3.mono fun _ z => z.elim)) (S2.same k3) (.bl false)
        | true =>
          rw [if_pos rfl]
          simp only [e3] at q
          refine ⟨g, A2, ρ2, S2.same k3, ?_⟩
          cases e4 : mc ρ2 with
          | bad => simp only [e4] at q
          | ex c f ρ3 => simp only [e4] at q; exact fun A3 H4 cls d a3 => q A3 H4 cls d fun a z => a1 a (a2 a (a3 a z))
          | ok v2 ρ3 =>
            simp only [e4] at q
            intro A3 H4 x2 a3 k4 S3 r3
            cases e5 : f' u v2 with
            | none => simp only [e5] at q
            | some y =>
              simp only [e5] at q
              have r2' := (r2.next (fun _ z => z) S2.dA (k3.mono fun _ z => z.elim)).next a3 S2.dA k4
              exact h2 g H4 A3 u v2 y x x2 Q r2' r3 S3.aT e5 fun H5 z k5 rz => q A3 H5 z (fun a z => a1 a (a2 a (a3 a z))) (((k1.trans k2).trans (k3.mono fun _ z => z.elim)).trans (k4.trans (k5.mono fun _ z => z.elim))) (S3.same k5) rz
theorem e_chain {op op' : CmpOp} {f f' : T → T → Option T} {ma mb mc : M T} (h1 : BinT X w (compareOp op) f) (h2 : BinT X w (compareOp op') f') (ha : PE X a (rdL w H0 W ma)) (hb : PE X b (rdL w H0 W mb)) (hc : PE X c (rdL w H0 W mc)) (hm : lastMarks [op, op'] [b, c] = false := by with_unfolding_all rfl) :
    PE X (.Compare a [op, op'] [b, c] pos) (rdE w H0 W (mChain f f' ma mb mc)) := by
  obtain ⟨r, q1, q2⟩ := h1
  obtain ⟨r', q3, q4⟩ := h2
  exact (pe_chain q1 q3 ha hb hc hm).imp fun σ H Q q => chain_core q2 q4 q
theorem t_chain {op op' : CmpOp} {f f' : T → T → Option T} {ma mb mc : M T} (h1 : BinT X w (compareOp op) f) (h2 : BinT X w (compareOp op') f') (ha : PE X a (rdL w H0 W ma)) (hb : PE X b (rdL w H0 W mb)) (hc : PE X c (rdL w H0 W mc)) (hm : lastMarks [op, op'] [b, c] = false := by with_unfolding_all rfl) :
    PT X (.Compare a [op, op'] [b, c] pos) (rdT w H0 W (mTst (mChain f f' ma mb mc))) := by
  obtain ⟨r, q1, q2⟩ := h1
  obtain ⟨r', q3, q4⟩ := h2
  refine (pt_chain q1 q3 ha hb hc hm).imp fun σ H Q q => ?_
  exact chain_core q2 q4 (val_tst q)

/-! ### isinstance -/
/-- a tree's kind -/
def tagT : T → Nat
  | .non => 0 | .bl _ => 1 | .int _ => 2 | .str _ => 3 | .tup _ => 4 | .lst _ => 5 | .dic _ => 6 | .drw => 6 | .ins c _ => 7 + c | .slf c _ => 7 + c
def tagVal (w : Wd) : Nat → Value
  | 0 => .type "NoneType" | 1 => .type "bool" | 2 => .type "int" | 3 => .type "str" | 4 => .type "tuple" | 5 => .type "list" | 6 => .type "dict" | n + 7 => .ref (w.ct n)
/-- an own class whose instances may be asked -/
structure ICl (K : PySem.W.Frag) (C : Addr) : Prop where
  cl : Cls K C
  ha : PySem.W.findIn K (.ref C) "__class__" = some (some (.builtin "object.__class__"))
  hn : PySem.W.specialIn K (.builtin "object.__class__") "__get__" = some (some (.builtin "getset_descriptor.__get__"))
  htk : PySem.W.takesIn K (.builtin "object.__class__") = some true
  hm : PySem.W.mroIn K C (.type "object") = some true
/-- the answers: kinds asked for the classes us -/
structure Isa (w : Wd) (us : List Value) (f : Nat → Option Bool) : Prop where
  ans : ∀ n r, f n = some r → PySem.W.kitAny w.K (tagVal w n) us = some r
  own : ∀ n r, f (7 + n) = some r → ICl w.K (w.ct n)
def isaB (tags : List Nat) : Nat → Option Bool := fun n => if n < 7 then some (tags.contains n) else none
theorem sqT_ty {g : DG} {H : Hp} {A : Addr → Prop} {a : Addr} {vs : List V} (h : SqT w.K H a vs) : TyX w.K H (.ref a) (.type "tuple") := by
  rcases h with (h | ⟨o, h⟩) | ⟨o, _, _, e, c, _⟩
  · exact .base (.tup h)
  · exact .fTuple h
  · exact .kTuple e c
theorem sqL_ty {H : Hp} {a : Addr} {vs : List V} (h : SqL w.K H a vs) : TyX w.K H (.ref a) (.type "list") := by
  rcases h with (h | ⟨o, h⟩) | ⟨o, _, _, e, c, _⟩
  · exact .base (.lst h)
  · exact .base (.frz h)
  · exact .kList e c
theorem lrep_ty {g : DG} {H : Hp} {A : Addr → Prop} {t : T} {v : V} (h : LRep w g H A t v) (hd : ∀ d b c, g.dr = some (d, b, c) → ∃ kvs, H d = some (.dK kvs)) (ho : ∀ n, tagT t = 7 + n → ICl w.K (w.ct n)) : TyX w.K H v (tagVal w (tagT t)) := by
  have ins : ∀ {n : Nat} {a dx : Addr} {fs : List (Str × V)}, H a = some (.ins (w.ct n) dx fs) → ICl w.K (w.ct n) → TyX w.K H (.ref a) (tagVal w (7 + n)) := fun {n a dx fs} e i => by
    rw [Nat.add_comm]
    exact .base (.ins e i.cl i.ha i.hn i.htk i.hm)
  rcases h with h | ⟨a, rfl, h, _⟩
  · cases h with
    | non => exact .base .non
    | bl b => exact .base (.bl b)
    | int i => exact .base (.int i)
    | str s => exact .base (.str s)
    | tup h _ => exact sqT_ty (g := g) (A := A) h
    | lst h _ => exact sqL_ty h.sq
    | dic h _ _ _ => exact .base (.dK h)
    | ins h _ _ _ => exact ins h (ho _ rfl)
    | slf h _ _ _ => exact ins h (ho _ rfl)
    | drw h => obtain ⟨kvs, e⟩ := hd _ _ _ h; exact .base (.dK e)
  · cases t with
    | lst ts => obtain ⟨vs, h1, _⟩ := h; exact .base (.lst h1)
    | dic kts => obtain ⟨vs, h1, _⟩ := h; exact .base (.dK h1)
    | ins c fs => obtain ⟨dx, gs, h1, _⟩ := h; exact ins h1 (ho _ rfl)
    | slf c fs => obtain ⟨_, dx, gs, h1, _⟩ := h; exact ins h1 (ho _ rfl)
    | non => exact h.elim
    | bl _ => exact h.elim
    | int _ => exact h.elim
    | str _ => exact h.elim
    | tup _ => exact h.elim
    | drw => exact h.elim
def mIsa (f : Nat → Option Bool) (m : M T) : M T := mUn (fun t => (f (tagT t)).map T.bl) m
theorem isa_core {us : List Value} {f : Nat → Option Bool} (hf : Isa w us f) {m : M T} {σ : L2.St} {H : Hp} {Q : VK} (q : rdE w H0 W (mIsa f m) σ H Q) :
    rdL w H0 W m σ H fun v H1 => ∃ t b, TyX w.K H1 v t ∧ PySem.W.kitAny w.K t us = some b ∧ ∀ H2, KpS H1 H2 → Q (.bl b) H2 := by
  obtain ⟨g, A, ρ, S, q⟩ := q
  refine ⟨g, A, ρ, S, ?_⟩
  unfold mIsa mUn bindM at q
  cases e1 : m ρ with
  | bad => rw [e1] at q; exact q
  | ex c f ρ1 => rw [e1] at q; exact q
  | ok t ρ1 =>
    simp only [e1] at q
    intro A1 H1 v a1 k1 S1 r1
    cases e2 : f (tagT t) with
    | none => simp only [e2, Option.map_none] at q
    | some b =>
      simp only [e2, Option.map_some] at q
      refine ⟨tagVal w (tagT t), b, lrep_ty r1 (fun d b c e => ⟨_, (S1.draw d b c e).dd⟩) (fun n e => hf.own n b (by rw [← e]; exact e2)), hf.ans _ _ e2, fun H2 k2 => q A1 H2 _ a1 (k1.trans (k2.mono fun _ z => z.elim)) (S1.same k2) (.bl b)⟩
theorem kit1 {K : PySem.W.Frag} {t u : Value} {b : Bool} (h : PySem.W.kitAny K t [u] = some b) : PySem.W.kitOne K t u = some b := by
  unfold PySem.W.kitAny at h
  cases e : PySem.W.kitOne K t u with
  | none => rw [e] at h; cases h
  | some z =>
    rw [e] at h
    cases z with
    | true => cases h; rfl
    | false => simp only [PySem.W.kitAny] at h; cases h; rfl
/-- the classes asked, as they are read -/
theorem e_isi {cv : V} {u : Value} {f : Nat → Option Bool} {m : M T} (hf : Isa w [u] f) (hK : X.K = w.K) (hu : ClsV cv u) (hg : Gl X "isinstance") (hmn : X.mg "isinstance" = none) (ha : PE X a (rdL w H0 W m)) (hb : PE X b (tC cv))
    (he : starEach (a :: [b]) X.env = (false, eval a X.env) :: starEach [b] X.env := by rfl) (he2 : starEach (b :: []) X.env = (false, eval b X.env) :: starEach [] X.env := by rfl) (hpl : (backTo pos (starEach [b] X.env)).any (·.1) = false := by rfl) :
    PE X (.Call (.Name "isinstance" p) [a, b] [] pos) (rdE w H0 W (mIsa f m)) :=
  (pe_callB call_isi hg hmn (by rfl) (pa_cons ha (pa_cons hb pa_nil he2) he) (by decide) (by decide) he hpl).imp fun σ H Q q => by
    obtain ⟨g, A, ρ, S, q1⟩ := isa_core hf q
    refine ⟨g, A, ρ, S, ?_⟩
    cases e1 : m ρ with
    | bad => rw [e1] at q1; exact q1
    | ex c f ρ1 => rw [e1] at q1; exact q1
    | ok t ρ1 =>
      rw [e1] at q1
      intro A' H' v h1 h2 h3 h4
      obtain ⟨tv, b, q2, q3, q4⟩ := q1 A' H' v h1 h2 h3 h4
      exact ⟨v, cv, tv, u, b, rfl, hu, by rw [hK]; exact q2, by rw [hK]; exact kit1 q3, q4 _ Kp.refl⟩
/-- isinstance(a, (c1, c2, ..)) -/
theorem e_isiT {x1 : Nat} {tpos : Pos} {cvs : List V} {us : List Value} {f : Nat → Option Bool} {m : M T} {ta : TA} (hf : Isa w us f) (hK : X.K = w.K) (hu : Paired ClsV cvs us) (hl : cvs.length ≤ sizeLine) (hg : Gl X "isinstance") (hmn : X.mg "isinstance" = none) (ha : PE X a (rdL w H0 W m)) (hb : PA X es ta) (hta : ∀ σ H Q, Q cvs H → ta σ H Q)
    (he : starEach (a :: [.Tuple es x1 tpos]) X.env = (false, eval a X.env) :: starEach [.Tuple es x1 tpos] X.env := by rfl) (he2 : starEach (.Tuple es x1 tpos :: []) X.env = (false, eval (.Tuple es x1 tpos) X.env) :: starEach [] X.env := by rfl) (hpl : (backTo pos (starEach [.Tuple es x1 tpos] X.env)).any (·.1) = false := by rfl) :
    PE X (.Call (.Name "isinstance" p) [a, .Tuple es x1 tpos] [] pos) (rdE w H0 W (mIsa f m)) :=
  (pe_callB call_isiT hg hmn (by rfl) (pa_cons ha (pa_cons (pe_tup hb) pa_nil he2) he) (by decide) (by decide) he hpl).imp fun σ H Q q => by
    obtain ⟨g, A, ρ, S, q1⟩ := isa_core hf q
    refine ⟨g, A, ρ, S, ?_⟩
    cases e1 : m ρ with
    | bad => rw [e1] at q1; exact q1
    | ex c f ρ1 => rw [e1] at q1; exact q1
    | ok t ρ1 =>
      rw [e1] at q1
      intro A' H' v h1 h2 h3 h4
      obtain ⟨tv, b, q2, q3, q4⟩ := q1 A' H' v h1 h2 h3 h4
      refine hta _ _ _ ⟨hl, fun tp hp => ?_⟩
      have ty2 : TyX w.K (upd H' tp (.tup cvs)) v tv := by
        have nn : ∀ {b : Addr} {o : HO}, H' b = some o → upd H' tp (.tup cvs) b = some o := fun {b o} e => by rw [upd_ne (ne_of_none e hp)]; exact e
        cases q2 with
        | base h =>
          cases h with
          | non => exact .base .non
          | bl b => exact .base (.bl b)
          | int i => exact .base (.int i)
          | str s => exact .base (.str s)
          | flt s => exact .base (.flt s)
          | lst h => exact .base (.lst (nn h))
          | frz h => exact .base (.frz (nn h))
          | tup h => exact .base (.tup (nn h))
          | dK h => exact .base (.dK (nn h))
          | dT h => exact .base (.dT (nn h))
          | ins i1 i2 i3 i4 i5 i6 => exact .base (.ins (nn i1) i2 i3 i4 i5 i6)
        | byt b => exact .byt b
        | set h => exact .set (nn h)
        | kList h h2 => exact .kList h h2
        | kTuple h h2 => exact .kTuple h h2
        | kDict h h2 => exact .kDict h h2
        | fTuple h => exact .fTuple (nn h)
        | fDict h => exact .fDict (nn h)
      exact ⟨v, tp, cvs, tv, us, b, rfl, upd_same, hu, by rw [hK]; exact ty2, by rw [hK]; exact q3, q4 _ (Kp.new hp)⟩
end
end MP
end

section
set_option Elab.async false
set_option linter.all false
set_option maxRecDepth 100000
/-! MP18: dict get and put; lists changed. -/
namespace MP
open PySem PySem.Spec L2

section
variable {X : Cx} {w : Wd} {H0 : En} {W : WX} {e a b c o : Expr} {es rest : List Expr} {kws : List Keyword} {pos pos' p2 p apos cpos kpos : Pos} {x : Str} {st : Stmt}
/-! ### d.get(k, x) -/
def getT (kts : List (Key × T)) (k x : T) : Option T := (keyT k).map fun k => (valT kts k).getD x
def mGet2 (mo mk mx : M T) : M T := bindM mo fun d => match d with
  | .dic kts => bindM mk fun k => bindM mx fun y => (match getT kts k y with
    | some r => fun ρ => .ok r ρ
    | none => fun _ => .bad)
  | _ => fun _ => .bad
theorem LRep.isD {g : DG} {H : Hp} {A : Addr → Prop} {kts : List (Key × T)} {v : V} (h : LRep w g H A (.dic kts) v) : ∃ a, v = .ref a ∧ IsD H a := by
  obtain ⟨a, kvs, h1, h2, h3⟩ := h.rdD
  exact ⟨a, h1, .inl ⟨kvs, .inl h2⟩⟩
theorem get_core {mo mk mx : M T} {σ : L2.St} {H : Hp} {Q : VK} (q : rdE w H0 W (mGet2 mo mk mx) σ H Q) : tDGet2 (rdL w H0 W mo) (rdL w H0 W mk) (rdE w H0 W mx) σ H Q := by
  obtain ⟨g, A, ρ, S, q⟩ := q
  refine ⟨g, A, ρ, S, ?_⟩
  unfold mGet2 bindM at q
  cases e1 : mo ρ with
  | bad => rw [e1] at q; exact q
  | ex c f ρ1 => rw [e1] at q; exact q
  | ok d ρ1 =>
    simp only [e1] at q
    intro A1 H1 v a1 k1 S1 r1
    cases d <;> first | (exact q.elim) | skip
    rename_i kts
    obtain ⟨a, rfl, hd⟩ := r1.isD
    refine ⟨a, rfl, hd, g, A1, ρ1, S1, ?_⟩
    simp only at q
    cases e2 : mk ρ1 with
    | bad => simp only [e2] at q
    | ex c f ρ2 => simp only [e2] at q; exact fun A2 H2 cls d a2 => q A2 H2 cls d fun a z => a1 a (a2 a z)
    | ok k ρ2 =>
      simp only [e2] at q
      intro A2 H2 y a2 k2 S2 r2
      refine ⟨g, A2, ρ2, S2, ?_⟩
      cases e3 : mx ρ2 with
      | bad => simp only [e3] at q
      | ex c f ρ3 => simp only [e3] at q; exact fun A3 H3 cls d a3 => q A3 H3 cls d fun a z => a1 a (a2 a (a3 a z))
      | ok u ρ3 =>
        simp only [e3] at q
        intro A3 H3 z a3 k3 S3 r3
        have r1' := (r1.next a2 S1.dA k2).next a3 S2.dA k3
        have r2' := r2.next a3 S2.dA k3
        cases ek : keyT k with
        | none => simp only [getT, ek, Option.map_none] at q
        | some kk =>
          simp only [getT, ek, Option.map_some] at q
          obtain ⟨a', kvs, q1, q2, q3⟩ := r1'.rdD
          cases q1
          have := keyT_some ek r2'
          subst this
          refine ⟨valV kvs kk, .inl ⟨kvs, kk, .inl q2, rfl, rfl⟩, ?_⟩
          refine q A3 H3 _ (fun a z => a1 a (a2 a (a3 a z))) ((k1.trans k2).trans k3) S3 ?_
          rcases q3.val kk with ⟨z1, z2⟩ | ⟨t', v', z1, z2, z3⟩
          · rw [z1, z2]; exact r3
          · rw [z1, z2]; exact z3
theorem e_get2 {mo mk mx : M T} (hu : X.A.units + 1 < cLine) (ho : PE X o (rdL w H0 W mo)) (hk : PE X a (rdL w H0 W mk)) (hx : PE X b (rdE w H0 W mx)) (m : M2 X o "get" apos a b cpos := by exact ⟨rfl, rfl, rfl, rfl⟩) : PE X (.Call (.Attribute o "get" apos) [a, b] [] cpos) (rdE w H0 W (mGet2 mo mk mx)) :=
  (pe_dget2 hu ho hk hx m).imp fun σ H Q q => get_core q
/-! ### TABLE.get(k, x), a dict of the module's with text keys -/
/-- the table at d: its values by key, the text's own -/
structure WTab (w : Wd) (wo : World) (d : Addr) (kts : List (Str × T)) : Prop where
  at_ : ∃ es n, KDict w.K wo d es n ∧ (∀ z t, kts.lookup z = some t → ∃ u v, PySem.W.nsIn w.K d z = some (some u) ∧ RelV v u ∧ Cst w [t] [v]) ∧ ∀ z, kts.lookup z = none → findBy Value.isStrOf es z = none
def wgetT (kts : List (Str × T)) : T → T → Option T
  | .str z, x => some ((kts.lookup z).getD x)
  | _, _ => none
def mWGet (kts : List (Str × T)) (mk mx : M T) : M T := bindM mk fun k => bindM mx fun y => match wgetT kts k y with
  | some r => fun ρ => .ok r ρ
  | none => fun _ => .bad
theorem e_wget {d : Addr} {kts : List (Str × T)} {mk mx : M T} (hK : X.K = w.K) (tab : WTab w X.w d kts) (hg : Gl X x) (hm : X.mg x = some (.ref d)) (ha : PE X a (rdL w H0 W mk)) (hb : PE X b (rdE w H0 W mx)) (m : M2 X (.Name x p) "get" apos a b cpos := by exact ⟨rfl, rfl, rfl, rfl⟩) (hd : (x == ("__debug__" : Str)) = false := by decide) :
    PE X (.Call (.Attribute (.Name x p) "get" apos) [a, b] [] cpos) (rdE w H0 W (mWGet kts mk mx)) := by
  refine ⟨fun pins s σ H Q I q => ?_⟩
  obtain ⟨es, n, KD, hin, hout⟩ := tab.at_
  have kd : s.heap.MapOf (strKind X.prog X.w) d (fun k => findBy Value.isStrOf es k) := PySem.W.mapOf_K I.kIn (by rw [hK]; exact KD.at_) KD.lit
  refine wpAny_Call_method m.base m.few m.line PySem.F.plainAttrs_dict PySem.F.slot_dict_get PySem.F.type_dict_get (ld_glob I hg hm ?_ hd)
  refine ⟨kd.typeIs, fun a e => ?_, ?_⟩
  · cases e
    obtain ⟨o, es', n', h1, h2, _⟩ := kd
    exact ⟨o, h1, h2.2.1⟩
  · rw [m.trees]
    obtain ⟨g, A, ρ, S, q⟩ := q
    unfold mWGet bindM at q
    refine Calls.callWith_builtin rfl (Calls.evalArgs_plain (Calls.spliced_cons (thn (ha.run pins s σ H (fun y H1 => rdE w H0 W mx σ H1 fun z H2 => ∃ x, y = .str x ∧ ((∃ u v, PySem.W.nsIn w.K d x = some (some u) ∧ RelV v u ∧ Q v H2) ∨ (findBy Value.isStrOf es x = none ∧ Q z H2))) I ?_) fun iv s2 ⟨y, H2, I2, ry, q2⟩ =>
      Calls.spliced_cons (thn (hb.run pins s2 σ H2 _ I2 q2) fun fv s3 ⟨z, H3, I3, rz, q3⟩ => Calls.spliced_nil ?_))))
    · refine ⟨g, A, ρ, S, ?_⟩
      cases e2 : mk ρ with
      | bad => simp only [e2] at q
      | ex c f ρ2 => simp only [e2] at q; exact q
      | ok k ρ2 =>
        simp only [e2] at q
        intro A2 H2 y a2 k2 S2 r2
        refine ⟨g, A2, ρ2, S2, ?_⟩
        cases e3 : mx ρ2 with
        | bad => simp only [e3] at q
        | ex c f ρ3 => simp only [e3] at q; exact fun A3 H3 cls d a3 => q A3 H3 cls d fun a z => a2 a (a3 a z)
        | ok u ρ3 =>
          simp only [e3] at q
          intro A3 H3 z a3 k3 S3 r3
          cases k <;> first | (simp only [wgetT] at q; done) | skip
          rename_i sx
          simp only [wgetT] at q
          have := r2.str
          subst this
          refine ⟨sx, rfl, ?_⟩
          cases el : kts.lookup sx with
          | none =>
            rw [el] at q
            exact .inr ⟨hout sx el, q A3 H3 z (fun a z => a2 a (a3 a z)) (k2.trans k3) S3 r3⟩
          | some t =>
            rw [el] at q
            obtain ⟨u', v', h1, h2, h3⟩ := hin sx t el
            have h4 := h3 g H3 A3
            cases h4 with
            | cons h5 _ => exact .inl ⟨u', v', h1, h2, q A3 H3 v' (fun a z => a2 a (a3 a z)) (k2.trans k3) S3 h5⟩
    · obtain ⟨sx, rfl, q4⟩ := q3
      obtain ⟨t, rfl⟩ := ry
      have kd3 : s3.heap.MapOf (strKind X.prog X.w) d (fun k => findBy Value.isStrOf es k) := PySem.W.mapOf_K I3.kIn (by rw [hK]; exact KD.at_) KD.lit
      refine call_meetsIn PySem.F.slot_dict_get kd3.typeIs PySem.F.entry_dict_get (PySem.F.args_dict_get_3 _ _ _) (meets_dict_get_default (strKind X.prog X.w) d (strKind_is X.prog X.w sx t) KD.low fv) ⟨_, kd3, ?_⟩
      rcases q4 with ⟨u', v', h1, h2, h3⟩ | ⟨h1, h3⟩
      · have : findBy Value.isStrOf es sx = some u' := PySem.W.find_K KD.at_ h1
        show EP X pins σ Q ((findBy Value.isStrOf es sx).getD fv) _
        rw [this]
        exact ⟨v', H3, I3.tok _, h2, h3⟩
      · show EP X pins σ Q ((findBy Value.isStrOf es sx).getD fv) _
        rw [h1]
        exact ⟨z, H3, I3.tok _, rz, h3⟩
end
end MP
end

section
set_option Elab.async false
set_option linter.all false
set_option maxRecDepth 100000
/-! MP19: targets o[k] of owned slots; more methods of lists; a, b = x, y. -/
namespace MP
open PySem PySem.Spec L2

section
variable {X : Cx} {w : Wd} {H0 : En} {W : WX} {e a b c o : Expr} {es rest : List Expr} {kws : List Keyword} {pos pos' p2 p apos cpos kpos : Pos} {x : Str} {st : Stmt}
def gPut (F : T → T → T → Option T) (i : Nat) (mk : M T) : Tgt := fun t ρ => match ρ.sl[i]? with
  | some (some (true, _)) => (match mk ρ with
    | .ok k ρ1 => (match ρ1.sl[i]? with
      | some (some (true, u)) => (match F u k t with
        | some u' => some (setSl ρ1 i (some (true, u')))
        | none => none)
      | _ => none)
    | _ => none)
  | _ => none
/-- the heart: F's work is set's -/
theorem put_core {F : T → T → T → Option T} {i : Nat} {mk : M T} {ts : TSet}
    (h : ∀ (g : DG) (H : Hp) (A : Addr → Prop) (a : Addr) (u k t u' : T) (kv v : V) (Q : Hp → Prop), ORep w g H A u a → A a → LRep w g H A k kv → VRep w g H A t v → F u k t = some u' → (∀ o, (Kp A H (upd H a o) → ORep w g (upd H a o) A u' a) → Q (upd H a o)) → ts (.ref a) kv v H Q)
    {v : V} {σ : L2.St} {H : Hp} {Q : L2.St → Hp → Prop} (q : rdG w H0 (gPut F i mk) v σ H Q) : gSub (tVar i) (rdL w H0 WN mk) ts v σ H Q := by
  obtain ⟨g, A, ρ, t, S, r, q⟩ := q
  unfold gPut at q
  cases e0 : ρ.sl[i]? with
  | none => simp only [e0] at q
  | some z =>
    cases z with
    | none => simp only [e0] at q
    | some z =>
      obtain ⟨fl, t0⟩ := z
      cases fl with
      | false => simp only [e0] at q
      | true =>
        simp only [e0] at q
        obtain ⟨ad, h1, h2, h3, h4, h5⟩ := S.own i t0 e0
        refine ⟨_, h1, g, A, ρ, S, ?_⟩
        cases e1 : mk ρ with
        | bad => simp only [e1] at q
        | ex c f ρ1 => simp only [e1] at q
        | ok k ρ1 =>
          simp only [e1] at q
          intro A1 H1 kv a1 k1 S1 r1
          cases e2 : ρ1.sl[i]? with
          | none => simp only [e2] at q
          | some z =>
            cases z with
            | none => simp only [e2] at q
            | some z =>
              obtain ⟨fl, u⟩ := z
              cases fl with
              | false => simp only [e2] at q
              | true =>
                simp only [e2] at q
                obtain ⟨ad', h1', h2', h3', h4', h5'⟩ := S1.own i u e2
                rw [h1] at h1'
                obtain rfl : ad = ad' := by cases h1'; rfl
                cases e3 : F u k t with
                | none => simp only [e3] at q
                | some u' =>
                  simp only [e3] at q
                  refine h g H1 A1 ad u k t u' kv v _ h2' h3' r1 (r.next a1 S.dA k1) e3 fun o ho => ?_
                  have kk : Kp A1 H1 (upd H1 ad o) := by
                    obtain ⟨o0, h0, nt, nf, _⟩ := h2'.there
                    exact ⟨fun b u e n => by rw [upd_ne (fun z => n (by rw [z]; exact h3'))]; exact e, fun b xs e => by
                      rw [upd_ne (fun z => by rw [z, h0] at e; exact nt xs (Option.some.inj e))]; exact e, fun b ob u e => by
                      rw [upd_ne (fun z => by rw [z, h0] at e; exact nf ob u (Option.some.inj e))]; exact e⟩
                  obtain ⟨_, S2⟩ := S1.pokeOwn e2 h1 (ho kk)
                  exact q A1 _ σ ((Pe.of a1 (k1.mono S.dA)).trans (Pe.of (fun _ z => z) kk)) S2
def putD : T → T → T → Option T
  | .dic kts, k, t => match keyT k with
    | some kk => if kts.length < 1000000 then some (.dic (putT kts kk t)) else none
    | none => none
  | _, _, _ => none
def putL : T → T → T → Option T
  | .lst ts, .int k, t => (ixN ts.length k).map fun j => .lst (ts.set j t)
  | _, _, _ => none
theorem g_putD {m : M T} (i : Nat) (hu : X.A.units + 1 < cLine) (hk : PE X a (rdL w H0 WN m)) (hN : X.N[i]? = some x := by rfl) (hv : Vis X.env.scope x := by first | exact Or.inl rfl | exact Or.inr (Or.inl rfl) | exact Or.inr (Or.inr rfl)) (hd : (x == ("__debug__" : Str)) = false := by decide)
    (hcd : (x == ("__classdict__" : Str)) = false := by decide)
    (ha : ∀ v, assign (.Subscript (.Name x p) a pos) X.env v = (do
      let ov ← holding [v] (eval (.Name x p) X.env)
      let iv ← holding [v, ov] (eval a X.env)
      standAt pos
      holding [v, ov, iv] (setItem ov iv v)
      release [v, ov, iv] []) := by intro _; rfl) : PG X (.Subscript (.Name x p) a pos) (rdG w H0 (gPut putD i m)) :=
  PG.imp (pg_sub (pe_var hN hv hd hcd) hk (set_dict hu) ha) fun v σ H Q q => put_core (fun g H A ad u k t u' kv v Q ho hA rk rt hF hq => by
    cases u <;> first | (simp only [putD] at hF; cases hF; done) | skip
    rename_i kts
    simp only [putD] at hF
    cases ek : keyT k with
    | none => rw [ek] at hF; cases hF
    | some kk =>
      rw [ek] at hF
      simp only at hF
      by_cases c : kts.length < 1000000
      · rw [if_pos c] at hF
        cases hF
        obtain ⟨kvs, h1, h2⟩ := ho
        have h2 : KReps w g H A kts kvs := h2
        have := keyT_some ek rk
        subst this
        exact ⟨ad, _, rfl, .inl ⟨kvs, kk, h1, rfl, by rw [← h2.length]; exact lt_size c, rfl⟩, hq _ fun kp => ⟨_, upd_same, KReps.put (w := w) (g := g) (A := A) ⟨h2.1, h2.2.keep kp⟩ (rt.keep kp)⟩⟩
      · rw [if_neg c] at hF
        cases hF) q
theorem g_putL {m : M T} (i : Nat) (hk : PE X a (rdL w H0 WN m)) (hN : X.N[i]? = some x := by rfl) (hv : Vis X.env.scope x := by first | exact Or.inl rfl | exact Or.inr (Or.inl rfl) | exact Or.inr (Or.inr rfl)) (hd : (x == ("__debug__" : Str)) = false := by decide)
    (hcd : (x == ("__classdict__" : Str)) = false := by decide)
    (ha : ∀ v, assign (.Subscript (.Name x p) a pos) X.env v = (do
      let ov ← holding [v] (eval (.Name x p) X.env)
      let iv ← holding [v, ov] (eval a X.env)
      standAt pos
      holding [v, ov, iv] (setItem ov iv v)
      release [v, ov, iv] []) := by intro _; rfl) : PG X (.Subscript (.Name x p) a pos) (rdG w H0 (gPut putL i m)) :=
  PG.imp (pg_sub (pe_var hN hv hd hcd) hk set_list ha) fun v σ H Q q => put_core (fun g H A ad u k t u' kv v Q ho hA rk rt hF hq => by
    cases u <;> first | (simp only [putL] at hF; cases hF; done) | skip
    rename_i ys
    cases k <;> first | (simp only [putL] at hF; cases hF; done) | skip
    rename_i ki
    have := rk.int
    subst this
    simp only [putL] at hF
    cases ej : ixN ys.length ki with
    | none => rw [ej] at hF; cases hF
    | some j =>
      rw [ej] at hF
      cases hF
      obtain ⟨vs, h1, h2⟩ := ho
      exact ⟨ad, vs, ki, j, rfl, rfl, h1, by rw [← h2.length]; exact ej, hq _ fun kp => ⟨_, upd_same, VReps.set (rt.keep kp) j (h2.keep kp)⟩⟩) q
/-! ### more methods -/
/-- a method of an owned slot, its arguments shared -/
theorem m_own {T' id : String} {mn : Str} {F : T → List T → Option (T × T)} {m : M (List T)} {r : V → List V → Hp → VK → Prop} (i : Nat) (pa : PlainAttrs T') (slot : Slot T' mn id) (hty : typeOf (.builtin id) = pure (.type "method_descriptor")) (hm : MtR X id r)
    (h : ∀ (g : DG) (H : Hp) (A : Addr → Prop) (a : Addr) (t : T) (ts : List T) (vs : List V) (t' u : T), ORep w g H A t a → A a → VReps w g H A ts vs → F t ts = some (t', u) → ∃ o v, (Kp A H (upd H a o) → ORep w g (upd H a o) A t' a) ∧ VRep w g H A u v ∧ ∀ Q : VK, Q v (upd H a o) → r (.ref a) vs H Q)
    (hN : X.N[i]? = some x := by rfl) (ha : PA X (e :: es) (rdA w H0 W m)) (hv : Vis X.env.scope x := by first | exact Or.inl rfl | exact Or.inr (Or.inl rfl) | exact Or.inr (Or.inr rfl)) (hd : (x == ("__debug__" : Str)) = false := by decide)
    (hcd : (x == ("__classdict__" : Str)) = false := by decide)
    (hbase : attributeBase (.Name x p2) mn X.env (eval (.Name x p2) X.env) = eval (.Name x p2) X.env := by rfl)
    (hfew : ((backTo cpos (starEach (e :: es) X.env)).all (fun x => !x.1) && (backToKw cpos (keywordEach [] X.env)).all (fun x => x.1.isSome)
      && decide ((e :: es).length + ([] : List Keyword).length + (if ([] : List Keyword).isEmpty then 0 else 1) < 30)) = true := by rfl)
    (hline : (apos.endLine == cpos.line) = true := by rfl) (hs : starEach (e :: es) X.env = (false, eval e X.env) :: starEach es X.env := by rfl) (hplain : (backTo cpos (starEach es X.env)).any (·.1) = false := by rfl) :
    PE X (.Call (.Attribute (.Name x p2) mn apos) (e :: es) [] cpos) (rdM w H0 W (mOM T' i F m)) :=
  (pe_bm pa slot hty hm (pe_var hN hv hd hcd) ha hbase hfew hline hs hplain).imp fun σ H Q q => om_core (id := id) h q
theorem m_own0 {T' id : String} {mn : Str} {F : T → List T → Option (T × T)} {r : V → List V → Hp → VK → Prop} (i : Nat) (pa : PlainAttrs T') (slot : Slot T' mn id) (hty : typeOf (.builtin id) = pure (.type "method_descriptor")) (hm : MtR X id r)
    (h : ∀ (g : DG) (H : Hp) (A : Addr → Prop) (a : Addr) (t : T) (ts : List T) (vs : List V) (t' u : T), ORep w g H A t a → A a → VReps w g H A ts vs → F t ts = some (t', u) → ∃ o v, (Kp A H (upd H a o) → ORep w g (upd H a o) A t' a) ∧ VRep w g H A u v ∧ ∀ Q : VK, Q v (upd H a o) → r (.ref a) vs H Q)
    (hN : X.N[i]? = some x := by rfl) (hv : Vis X.env.scope x := by first | exact Or.inl rfl | exact Or.inr (Or.inl rfl) | exact Or.inr (Or.inr rfl)) (hd : (x == ("__debug__" : Str)) = false := by decide)
    (hcd : (x == ("__classdict__" : Str)) = false := by decide)
    (hbase : attributeBase (.Name x p2) mn X.env (eval (.Name x p2) X.env) = eval (.Name x p2) X.env := by rfl) (hline : (apos.endLine == cpos.line) = true := by rfl) :
    PE X (.Call (.Attribute (.Name x p2) mn apos) [] [] cpos) (rdM w H0 W (mOM T' i F mNil)) :=
  (pe_bm0 pa slot hty hm (pe_var hN hv hd hcd) hbase hline).imp fun σ H Q q => by
    have h1 := om_core (X := X) (id := id) h q
    obtain ⟨v, hv, ty, h2⟩ := h1
    exact ⟨v, hv, ty, nil_core h2⟩
/-- xs.insert(i, y) -/
def insF : T → List T → Option (T × T)
  | .lst ts, [.int i, t] => if ts.length < 1000000 ∧ 0 ≤ i ∧ i < 2 ^ 63 then some (.lst (ts.take i.toNat ++ [t] ++ ts.drop i.toNat), .non) else none
  | _, _ => none
theorem insF_ok : ∀ (g : DG) (H : Hp) (A : Addr → Prop) (a : Addr) (t : T) (ts : List T) (vs : List V) (t' u : T), ORep w g H A t a → A a → VReps w g H A ts vs → insF t ts = some (t', u) → ∃ o v, (Kp A H (upd H a o) → ORep w g (upd H a o) A t' a) ∧ VRep w g H A u v ∧ ∀ Q : VK, Q v (upd H a o) →
    (∃ (l : Addr) (xs : List V) (i : Int) (y : V), V.ref a = .ref l ∧ vs = [.int i, y] ∧ H l = some (.lst xs) ∧ xs.length < sizeLine ∧ 0 ≤ i ∧ i < 2 ^ 63 ∧ Q .non (upd H l (.lst (xs.take i.toNat ++ [y] ++ xs.drop i.toNat)))) := by
  intro g H A a t ts vs t' u ho hA rs hF
  unfold insF at hF
  split at hF
  · rename_i ys i z
    split at hF
    · rename_i hc
      cases hF
      obtain ⟨xs, h1, h2⟩ := ho
      cases rs with
      | cons r1 rs => cases rs with
        | cons r2 rs =>
          cases rs
          cases r1
          rename_i y
          exact ⟨.lst (xs.take i.toNat ++ [y] ++ xs.drop i.toNat), .non, fun k => ⟨_, upd_same, (((h2.take i.toNat).append (.cons r2 .nil)).append (h2.drop i.toNat)).keep k⟩, .non, fun Q q => ⟨a, xs, i, y, rfl, rfl, h1, by rw [← h2.length]; exact lt_size hc.1, hc.2.1, hc.2.2, q⟩⟩
    · cases hF
  · cases hF
/-- xs.pop() -/
def popF : T → List T → Option (T × T)
  | .lst ts, [] => (ts[ts.length - 1]?).map fun t => (.lst ts.dropLast, t)
  | _, _ => none
theorem VReps.dropLast {g : DG} {H : Hp} {A : Addr → Prop} {ts : List T} {vs : List V} (h : VReps w g H A ts vs) : VReps w g H A ts.dropLast vs.dropLast := by
  rw [List.dropLast_eq_take, List.dropLast_eq_take, h.length]
  exact h.take _
theorem popF_ok : ∀ (g : DG) (H : Hp) (A : Addr → Prop) (a : Addr) (t : T) (ts : List T) (vs : List V) (t' u : T), ORep w g H A t a → A a → VReps w g H A ts vs → popF t ts = some (t', u) → ∃ o v, (Kp A H (upd H a o) → ORep w g (upd H a o) A t' a) ∧ VRep w g H A u v ∧ ∀ Q : VK, Q v (upd H a o) → rPop (.ref a) vs H Q := by
  intro g H A a t ts vs t' u ho hA rs hF
  unfold popF at hF
  split at hF
  · rename_i ys
    cases e : ys[ys.length - 1]? with
    | none => rw [e] at hF; cases hF
    | some z =>
      rw [e] at hF
      cases hF
      cases rs
      obtain ⟨xs, h1, h2⟩ := ho
      obtain ⟨v, h3, h4⟩ := h2.get e
      exact ⟨.lst xs.dropLast, v, fun k => ⟨_, upd_same, h2.dropLast.keep k⟩, h4, fun Q q => ⟨a, xs, v, rfl, rfl, h1, by rw [← h2.length]; exact h3, q⟩⟩
  · cases hF
/-- xs.pop(i) -/
def popAtF : T → List T → Option (T × T)
  | .lst ts, [.int i] => if -(2 ^ 63) ≤ i ∧ i < 2 ^ 63 then (match seqIndex? i ts.length with
    | some k => (ts[k]?).map fun t => (.lst (ts.eraseIdx k), t)
    | none => none) else none
  | _, _ => none
theorem VReps.eraseIdx {g : DG} {H : Hp} {A : Addr → Prop} {ts : List T} {vs : List V} (h : VReps w g H A ts vs) (k : Nat) : VReps w g H A (ts.eraseIdx k) (vs.eraseIdx k) := by
  rw [List.eraseIdx_eq_take_drop_succ, List.eraseIdx_eq_take_drop_succ]
  exact (h.take k).append (h.drop (k + 1))
theorem popAtF_ok : ∀ (g : DG) (H : Hp) (A : Addr → Prop) (a : Addr) (t : T) (ts : List T) (vs : List V) (t' u : T), ORep w g H A t a → A a → VReps w g H A ts vs → popAtF t ts = some (t', u) → ∃ o v, (Kp A H (upd H a o) → ORep w g (upd H a o) A t' a) ∧ VRep w g H A u v ∧ ∀ Q : VK, Q v (upd H a o) → rPopAt (.ref a) vs H Q := by
  intro g H A a t ts vs t' u ho hA rs hF
  unfold popAtF at hF
  split at hF
  · rename_i ys i
    split at hF
    · rename_i hc
      cases e0 : seqIndex? i ys.length with
      | none => rw [e0] at hF; cases hF
      | some k =>
        rw [e0] at hF
        simp only at hF
        cases e : ys[k]? with
        | none => rw [e] at hF; cases hF
        | some z =>
          rw [e] at hF
          cases hF
          cases rs with
          | cons r1 rs =>
            cases rs
            cases r1
            obtain ⟨xs, h1, h2⟩ := ho
            obtain ⟨v, h3, h4⟩ := h2.get e
            exact ⟨.lst (xs.eraseIdx k), v, fun kk => ⟨_, upd_same, (h2.eraseIdx k).keep kk⟩, h4, fun Q q => ⟨a, xs, i, k, v, rfl, rfl, h1, hc.1, hc.2, by rw [← h2.length]; exact e0, h3, q⟩⟩
    · cases hF
  · cases hF
theorem apF_ok : ∀ (g : DG) (H : Hp) (A : Addr → Prop) (a : Addr) (t : T) (ts : List T) (vs : List V) (t' u : T), ORep w g H A t a → A a → VReps w g H A ts vs → apF t ts = some (t', u) → ∃ o v, (Kp A H (upd H a o) → ORep w g (upd H a o) A t' a) ∧ VRep w g H A u v ∧ ∀ Q : VK, Q v (upd H a o) → rAppend (.ref a) vs H Q := by
  intro g H A a t ts vs t' u ho hA rs hF
  unfold apF at hF
  split at hF
  · rename_i ys z
    split at hF
    · rename_i c
      cases hF
      obtain ⟨xs, h1, h2⟩ := ho
      cases rs with
      | cons r1 rs =>
        cases rs
        rename_i v
        exact ⟨.lst (xs ++ [v]), .non, fun k => ⟨_, upd_same, (h2.keep k).append (.cons (r1.keep k) .nil)⟩, .non, fun Q q => ⟨a, xs, v, rfl, rfl, h1, by rw [← h2.length]; exact lt_size c, q⟩⟩
    · cases hF
  · cases hF
end
end MP
end

section
set_option Elab.async false
set_option linter.all false
set_option maxRecDepth 100000
/-! MP20: the law's draw. -/
namespace MP
open PySem PySem.Spec L2

section
variable {w : Wd} {g : DG} {H0 : En} {H : Hp} {A : Addr → Prop} {ρ : Ev} {σ : L2.St}
/-- a key of the draw: rest, turn, mix -/
def drI (f : Str) (d : DS) : Option Int := if f = "rest" then some d.rest else if f = "turn" then some d.turn else if f = "mix" then some d.mix else none
def drSet (f : Str) (i : Int) (d : DS) : Option DS :=
  if f = "rest" then (if 0 ≤ i ∧ Builtin.Int.intBits i ≤ 1048577 then some { d with rest := i } else none)
  else if f = "turn" then (if 0 ≤ i then some { d with turn := i } else none)
  else if f = "mix" then (if 0 ≤ i ∧ i < 2147483629 then some { d with mix := i } else none)
  else none
theorem draw_val {b c : Addr} {d : DS} {f : Str} {i : Int} (h : drI f d = some i) : valV (drawKV b c d) (Sum.inr f) = some (.int i) := by
  unfold drI at h
  split at h
  · rename_i e; subst e; cases h; rfl
  · split at h
    · rename_i e; subst e; cases h; rfl
    · split at h
      · rename_i e; subst e; cases h; rfl
      · cases h
theorem draw_put {b c : Addr} {d d' : DS} {f : Str} {i : Int} (h : drSet f i d = some d') (o : DOk d) : putK (drawKV b c d) (Sum.inr f) (.int i) = drawKV b c d' ∧ DOk d' ∧ d'.large = d.large ∧ d'.cells = d.cells := by
  unfold drSet at h
  split at h
  · rename_i e
    subst e
    split at h
    · rename_i hc
      cases h
      exact ⟨rfl, { o with rest0 := hc.1, restB := hc.2 }, rfl, rfl⟩
    · cases h
  · split at h
    · rename_i e
      subst e
      split at h
      · rename_i hc
        cases h
        exact ⟨rfl, { o with turn0 := hc }, rfl, rfl⟩
      · cases h
    · split at h
      · rename_i e
        subst e
        split at h
        · rename_i hc
          cases h
          exact ⟨rfl, { o with mix0 := hc }, rfl, rfl⟩
        · cases h
      · cases h
end
section
variable {X : Cx} {w : Wd} {H0 : En} {W : WX} {e a b c o : Expr} {es rest : List Expr} {pos pos' p2 p3 p4 p apos cpos kpos : Pos} {x f : Str} {st : Stmt} {j j2 : Nat}
/-- d[f], an int of the draw's -/
def mDr (i : Nat) (f : Str) : M T := fun ρ => match ρ.sl[i]? with
  | some (some (false, .drw)) => (match drI f ρ.dr with
    | some n => .ok (.int n) ρ
    | none => .bad)
  | _ => .bad
theorem SR.drw {g : DG} {H : Hp} {A : Addr → Prop} {ρ : Ev} {σ : L2.St} {i : Nat} (S : SR w g H0 H A ρ σ) (e : ρ.sl[i]? = some (some (false, .drw))) : ∃ d b c, g.dr = some (d, b, c) ∧ σ[i]? = some (some (.ref d)) ∧ DrawAt H d b c ρ.dr := by
  obtain ⟨v, h1, h2⟩ := S.sh i _ e
  cases h2 with
  | drw h => exact ⟨_, _, _, h, h1, S.draw _ _ _ h⟩
theorem e_dr (i : Nat) (hu : X.A.units + 1 < cLine) (hN : X.N[i]? = some x := by rfl) (hv : Vis X.env.scope x := by first | exact Or.inl rfl | exact Or.inr (Or.inl rfl) | exact Or.inr (Or.inr rfl)) (hd : (x == ("__debug__" : Str)) = false := by decide) (hcd : (x == ("__classdict__" : Str)) = false := by decide)
    (hs : NoSl (.Constant (.str f) j p3) := by intro _ _; rfl) : PE X (.Subscript (.Name x p2) (.Constant (.str f) j p3) pos) (rdE w H0 W (mDr i f)) := (pe_dget hu (pe_var hN hv hd hcd) pe_str hs).imp fun σ H Q q => by
  obtain ⟨g, A, ρ, S, q⟩ := q
  unfold mDr at q
  split at q
  · rename_i es
    split at es
    · rename_i e1
      cases e2 : drI f ρ.dr with
      | none => rw [e2] at es; cases es
      | some n =>
        rw [e2] at es
        cases es
        obtain ⟨d, b, c, hg, h1, D⟩ := S.drw e1
        exact ⟨_, h1, d, .int n, rfl, by rw [← draw_val (b := b) (c := c) e2]; exact DGet.k (k := Sum.inr f) D.dd, q A H _ (fun _ z => z) Kp.refl S (.int n)⟩
    · cases es
  · rename_i es
    split at es
    · cases e2 : drI f ρ.dr with
      | none => rw [e2] at es; cases es
      | some n => rw [e2] at es; cases es
    · cases es
  · exact q.elim
/-- d['large'] != [] -/
def mLarge (i : Nat) : M Bool := fun ρ => match ρ.sl[i]? with
  | some (some (false, .drw)) => .ok (!ρ.dr.large.isEmpty) ρ
  | _ => .bad
theorem ints_dp {K : PySem.W.Frag} {H : Hp} : ∀ ns : List Int, DpAll K H (ns.map V.int) (ns.map PyData.int)
  | [] => .nil
  | n :: r => .cons (.int n) (ints_dp r)
theorem ints_canLay : ∀ ns : List Int, PyData.canLayAll0 (ns.map PyData.int) = true
  | [] => rfl
  | n :: r => by rw [List.map_cons]; simp only [PyData.canLayAll0, PyData.canLay0, ints_canLay r, Bool.and_self]
theorem ints_depth : ∀ ns : List Int, PyData.depthAll (ns.map PyData.int) = 0
  | [] => rfl
  | n :: r => by rw [List.map_cons]; simp only [PyData.depthAll, PyData.depth, ints_depth r]; rfl
theorem ints_shaped (ns : List Int) : SeqAt.shaped (.list (ns.map PyData.int)) = true := by
  unfold SeqAt.shaped
  simp only [PyData.canLay0, ints_canLay, PyData.depth, ints_depth]
  rfl
theorem drw_get {d b c : Addr} {H : Hp} {st : DS} (D : DrawAt H d b c st) : DGet H d (V.str "large") (some (.ref b)) := DGet.k (k := Sum.inr "large") D.dd
theorem drw_getC {d b c : Addr} {H : Hp} {st : DS} (D : DrawAt H d b c st) : DGet H d (V.str "cells") (some (.ref c)) := DGet.k (k := Sum.inr "cells") D.dd
theorem slot_drw {i : Nat} {ρ : Ev} {α : Type} {x : α} {f : α} (h : (match ρ.sl[i]? with | some (some (false, .drw)) => x | _ => f) = x ∨ True) : True := trivial
theorem t_large (i : Nat) (hu : X.A.units + 64 < cLine) (hN : X.N[i]? = some x := by rfl) (hv : Vis X.env.scope x := by first | exact Or.inl rfl | exact Or.inr (Or.inl rfl) | exact Or.inr (Or.inr rfl)) (hd : (x == ("__debug__" : Str)) = false := by decide) (hcd : (x == ("__classdict__" : Str)) = false := by decide)
    (hs : NoSl (.Constant (.str "large") j p3) := by intro _ _; rfl) : PT X (.Compare (.Subscript (.Name x p2) (.Constant (.str "large") j p3) p4) [.NotEq] [.List [] p] pos) (rdT w H0 W (mLarge i)) :=
  (pt_cmpR (op_neD hu) (pe_dget (by omega) (pe_var hN hv hd hcd) pe_str hs) (pe_lst pa_nil) (nomark _)).imp fun σ H Q q => by
  obtain ⟨g, A, ρ, S, q⟩ := q
  unfold mLarge at q
  cases e0 : ρ.sl[i]? with
  | none => simp only [e0] at q
  | some z =>
    cases z with
    | none => simp only [e0] at q
    | some z =>
      obtain ⟨fl, t⟩ := z
      cases fl with
      | true => simp only [e0] at q
      | false =>
        cases t <;> first | (simp only [e0] at q; done) | skip
        simp only [e0] at q
        obtain ⟨d, b, c, hg, h1, D⟩ := S.drw e0
        refine ⟨_, h1, d, _, rfl, drw_get D, Nat.zero_le _, fun pp hp => ?_⟩
        have k : Kp (fun _ => False) H (upd H pp (.lst [])) := Kp.new hp
        have e1 : PyData.eqv (.list (ρ.dr.large.map PyData.int)) (.list []) = ρ.dr.large.isEmpty := by
          cases ρ.dr.large with
          | nil => rfl
          | cons a r => rfl
        refine ⟨.list (ρ.dr.large.map PyData.int), .list [], .lst (.inl (.inl (k.same _ _ D.db id))) (ints_dp _), .lst (.inl (.inl upd_same)) .nil, ints_shaped _, by rfl, _, rfl, ?_⟩
        rw [e1]
        exact q A _ (fun _ z => z) (k.mono fun _ z => z.elim) (S.same k)
/-- d['large'].pop(0) -/
def mPopL (i : Nat) : M T := fun ρ => match ρ.sl[i]? with
  | some (some (false, .drw)) => (match ρ.dr.large with
    | z :: r => .ok (.int z) { ρ with dr := { ρ.dr with large := r } }
    | [] => .bad)
  | _ => .bad
theorem m_popL (i : Nat) (hu : X.A.units + 1 < cLine) (hN : X.N[i]? = some x := by rfl) (hv : Vis X.env.scope x := by first | exact Or.inl rfl | exact Or.inr (Or.inl rfl) | exact Or.inr (Or.inr rfl)) (hd : (x == ("__debug__" : Str)) = false := by decide) (hcd : (x == ("__classdict__" : Str)) = false := by decide)
    (hs : NoSl (.Constant (.str "large") j p3) := by intro _ _; rfl)
    (hbase : attributeBase (.Subscript (.Name x p2) (.Constant (.str "large") j p3) p4) "pop" X.env (eval (.Subscript (.Name x p2) (.Constant (.str "large") j p3) p4) X.env) = eval (.Subscript (.Name x p2) (.Constant (.str "large") j p3) p4) X.env := by rfl)
    (hfew : ((backTo cpos (starEach [.Constant (.int 0) j2 p] X.env)).all (fun x => !x.1) && (backToKw cpos (keywordEach [] X.env)).all (fun x => x.1.isSome)
      && decide (([.Constant (.int 0) j2 p] : List Expr).length + ([] : List Keyword).length + (if ([] : List Keyword).isEmpty then 0 else 1) < 30)) = true := by rfl)
    (hline : (apos.endLine == cpos.line) = true := by rfl) (hst : starEach [.Constant (.int 0) j2 p] X.env = (false, eval (.Constant (.int 0) j2 p) X.env) :: starEach [] X.env := by rfl) (hplain : (backTo cpos (starEach [] X.env)).any (·.1) = false := by rfl) :
    PE X (.Call (.Attribute (.Subscript (.Name x p2) (.Constant (.str "large") j p3) p4) "pop" apos) [.Constant (.int 0) j2 p] [] cpos) (rdM w H0 W (mPopL i)) :=
  (pe_bm PySem.F.plainAttrs_list PySem.F.slot_list_pop PySem.F.type_list_pop mt_popAt (pe_dget hu (pe_var hN hv hd hcd) pe_str hs) (pa_cons pe_int pa_nil hst) hbase hfew hline hst hplain).imp fun σ H Q q => by
  obtain ⟨g, A, ρ, S, q⟩ := q
  unfold mPopL at q
  cases e0 : ρ.sl[i]? with
  | none => simp only [e0] at q
  | some z =>
    cases z with
    | none => simp only [e0] at q
    | some z =>
      obtain ⟨fl, t⟩ := z
      cases fl with
      | true => simp only [e0] at q
      | false =>
        cases t <;> first | (simp only [e0] at q; done) | skip
        simp only [e0] at q
        obtain ⟨d, b, c, hg, h1, D⟩ := S.drw e0
        cases el : ρ.dr.large with
        | nil => rw [el] at q; exact q.elim
        | cons z r =>
          rw [el] at q
          simp only at q
          have hb := D.db
          rw [el] at hb
          refine ⟨_, h1, d, _, rfl, drw_get D, .inl ⟨rfl, _, .inl (.inl hb)⟩, b, (z :: r).map V.int, 0, 0, .int z, rfl, rfl, hb, by decide, by decide, by
            unfold seqIndex?
            rw [List.length_map, List.length_cons]
            have : (0 : Int) < ((r.length + 1 : Nat) : Int) := by omega
            simp only [show ¬ ((0 : Int) < 0) by decide, if_false]
            simp [this], rfl, ?_⟩
          have bd : d ≠ b := fun z => by have := D.dd; rw [z, hb] at this; cases this
          have kk : Kp (DD g) H (upd H b (.lst (r.map V.int))) := ⟨fun a u e n => by rw [upd_ne (fun z => n ⟨d, b, c, hg, .inr (.inl z)⟩)]; exact e, fun a xs e => by
            rw [upd_ne (fun z => by rw [z, hb] at e; cases e)]; exact e, fun a ob u e => by
            rw [upd_ne (fun z => by rw [z, hb] at e; cases e)]; exact e⟩
          have af : Aft g H (upd H b (.lst (r.map V.int))) { ρ.dr with large := r } := ⟨kk, fun d' b' c' e => by
            rw [hg] at e
            cases e
            refine ⟨by rw [upd_ne bd]; exact D.dd, upd_same, by rw [upd_ne (Ne.symm D.bc)]; exact D.dc, D.bc, ?_⟩
            have o := D.ok
            exact { o with lg := by have := o.lg; rw [el] at this; exact Nat.le_of_succ_le this, lgB := fun y hy => o.lgB y (by rw [el]; exact List.mem_cons_of_mem _ hy) }⟩
          exact q A _ _ (Pe.of (fun _ z => z) (kk.mono S.dA)) (S.after af) (.int z)
/-- [d['turn']] + d['cells'] -/
def mCells (i : Nat) : M T := fun ρ => match ρ.sl[i]? with
  | some (some (false, .drw)) => .ok (.lst ((ρ.dr.turn :: ρ.dr.cells).map T.int)) ρ
  | _ => .bad
theorem e_cells {p5 p6 p7 p8 : Pos} (i : Nat) (hu : X.A.units + 1 < cLine) (hN : X.N[i]? = some x := by rfl) (hv : Vis X.env.scope x := by first | exact Or.inl rfl | exact Or.inr (Or.inl rfl) | exact Or.inr (Or.inr rfl)) (hd : (x == ("__debug__" : Str)) = false := by decide) (hcd : (x == ("__classdict__" : Str)) = false := by decide)
    (hs : NoSl (.Constant (.str "cells") j p3) := by intro _ _; rfl) (hs2 : NoSl (.Constant (.str "turn") j2 p6) := by intro _ _; rfl) (hst : starEach [.Subscript (.Name x p5) (.Constant (.str "turn") j2 p6) p7] X.env = (false, eval (.Subscript (.Name x p5) (.Constant (.str "turn") j2 p6) p7) X.env) :: starEach [] X.env := by rfl) :
    PE X (.BinOp (.List [.Subscript (.Name x p5) (.Constant (.str "turn") j2 p6) p7] p8) .Add (.Subscript (.Name x p2) (.Constant (.str "cells") j p3) p4) pos) (rdE w H0 W (mCells i)) :=
  (pe_op op_catL (pe_lst (pa_cons (pe_dget hu (pe_var hN hv hd hcd) pe_str hs2) pa_nil hst)) (pe_dget hu (pe_var hN hv hd hcd) pe_str hs)).imp fun σ H Q q => by
  obtain ⟨g, A, ρ, S, q⟩ := q
  unfold mCells at q
  cases e0 : ρ.sl[i]? with
  | none => simp only [e0] at q
  | some z =>
    cases z with
    | none => simp only [e0] at q
    | some z =>
      obtain ⟨fl, t⟩ := z
      cases fl with
      | true => simp only [e0] at q
      | false =>
        cases t <;> first | (simp only [e0] at q; done) | skip
        simp only [e0] at q
        obtain ⟨d, b, c, hg, h1, D⟩ := S.drw e0
        refine ⟨_, h1, d, .int ρ.dr.turn, rfl, DGet.k (k := Sum.inr "turn") D.dd, (show 1 ≤ sizeLine by decide), fun pp hp => ?_⟩
        have k : Kp (fun _ => False) H (upd H pp (.lst [.int ρ.dr.turn])) := Kp.new hp
        refine ⟨_, h1, d, .ref c, rfl, DGet.k (k := Sum.inr "cells") (k.same _ _ D.dd id), pp, c, [.int ρ.dr.turn], ρ.dr.cells.map V.int, rfl, rfl, .inl (.inl upd_same), .inl (.inl (k.same _ _ D.dc id)), ?_, fun q2 hq2 => ?_⟩
        · have := D.ok.cl
          rw [List.length_map, PySem.sizeLine_eq, List.length_singleton]
          omega
        · have k2 := k.trans (Kp.new (o := .lst ([.int ρ.dr.turn] ++ ρ.dr.cells.map V.int)) hq2)
          exact q A _ _ (fun _ z => z) (k2.mono fun _ z => z.elim) (S.same k2) (VRep.newLst (reps_ints (ρ.dr.turn :: ρ.dr.cells)) hq2 fun z => (S.same k).aT q2 z hq2)
/-- d[f] = an int -/
def gDr (i : Nat) (f : Str) : Tgt := fun t ρ => match t, ρ.sl[i]? with
  | .int n, some (some (false, .drw)) => (match drSet f n ρ.dr with
    | some d => some { ρ with dr := d }
    | none => none)
  | _, _ => none
theorem g_dr (i : Nat) (hu : X.A.units + 1 < cLine) (hN : X.N[i]? = some x := by rfl) (hv : Vis X.env.scope x := by first | exact Or.inl rfl | exact Or.inr (Or.inl rfl) | exact Or.inr (Or.inr rfl)) (hd : (x == ("__debug__" : Str)) = false := by decide) (hcd : (x == ("__classdict__" : Str)) = false := by decide)
    (ha : ∀ v, assign (.Subscript (.Name x p) (.Constant (.str f) j p3) pos) X.env v = (do
      let ov ← holding [v] (eval (.Name x p) X.env)
      let iv ← holding [v, ov] (eval (.Constant (.str f) j p3) X.env)
      standAt pos
      holding [v, ov, iv] (setItem ov iv v)
      release [v, ov, iv] []) := by intro _; rfl) : PG X (.Subscript (.Name x p) (.Constant (.str f) j p3) pos) (rdG w H0 (gDr i f)) :=
  PG.imp (pg_sub (pe_var hN hv hd hcd) pe_str (set_dict hu) ha) fun v σ H Q q => by
  obtain ⟨g, A, ρ, t, S, r, q⟩ := q
  unfold gDr at q
  cases t <;> first | (simp only at q; done) | skip
  rename_i n
  cases r
  cases e0 : ρ.sl[i]? with
  | none => simp only [e0] at q
  | some z =>
    cases z with
    | none => simp only [e0] at q
    | some z =>
      obtain ⟨fl, t⟩ := z
      cases fl with
      | true => simp only [e0] at q
      | false =>
        cases t <;> first | (simp only [e0] at q; done) | skip
        simp only [e0] at q
        obtain ⟨d, b, c, hg, h1, D⟩ := S.drw e0
        cases ed : drSet f n ρ.dr with
        | none => simp only [ed] at q
        | some dr' =>
          simp only [ed] at q
          obtain ⟨p1, p2, p3, p4⟩ := draw_put (b := b) (c := c) ed D.ok
          refine ⟨_, h1, d, _, rfl, .inl ⟨_, Sum.inr f, D.dd, rfl, by show 5 < sizeLine; decide, rfl⟩, ?_⟩
          rw [p1]
          have nb : b ≠ d := fun z => by have := D.db; rw [z, D.dd] at this; cases this
          have nc : c ≠ d := fun z => by have := D.dc; rw [z, D.dd] at this; cases this
          have kk : Kp (DD g) H (upd H d (.dK (drawKV b c dr'))) := ⟨fun a u e n => by rw [upd_ne (fun z => n ⟨d, b, c, hg, .inl z⟩)]; exact e, fun a xs e => by
            rw [upd_ne (fun z => by rw [z, D.dd] at e; cases e)]; exact e, fun a ob u e => by
            rw [upd_ne (fun z => by rw [z, D.dd] at e; cases e)]; exact e⟩
          have af : Aft g H (upd H d (.dK (drawKV b c dr'))) dr' := ⟨kk, fun d' b' c' e => by
            rw [hg] at e
            cases e
            exact ⟨upd_same, by rw [upd_ne nb, p3]; exact D.db, by rw [upd_ne nc, p4]; exact D.dc, D.bc, p2⟩⟩
          exact q A _ _ (Pe.of (fun _ z => z) (kk.mono S.dA)) (S.after af)
end
end MP
end

section
set_option Elab.async false
set_option linter.all false
set_option maxRecDepth 100000
/-! MP21: one rule of two. -/
namespace MP
open PySem PySem.Spec L2
section
variable {X : Cx} {w : Wd} {H0 : En} {W : WX} {e a b c o : Expr} {pos : Pos}
def mOr {α : Type} (m n : M α) : M α := fun ρ => match m ρ with
  | .bad => n ρ
  | r => r
theorem or_core {m n : M T} {σ : L2.St} {H : Hp} {Q : VK} (q : rdE w H0 W (mOr m n) σ H Q) : rdE w H0 W m σ H Q ∨ rdE w H0 W n σ H Q := by
  obtain ⟨g, A, ρ, S, q⟩ := q
  unfold mOr at q
  cases e1 : m ρ with
  | bad => rw [e1] at q; exact .inr ⟨g, A, ρ, S, q⟩
  | ok t ρ1 => rw [e1] at q; exact .inl ⟨g, A, ρ, S, by rw [e1]; exact q⟩
  | ex c f ρ1 => rw [e1] at q; exact .inl ⟨g, A, ρ, S, by rw [e1]; exact q⟩
theorem e_or2 {m n : M T} (h1 : PE X e (rdE w H0 W m)) (h2 : PE X e (rdE w H0 W n)) : PE X e (rdE w H0 W (mOr m n)) := ⟨fun pins s σ H Q I q => by
  rcases or_core q with q | q
  · exact h1.run pins s σ H Q I q
  · exact h2.run pins s σ H Q I q⟩
theorem t_or2 {m n : M Bool} (h1 : PT X e (rdT w H0 W m)) (h2 : PT X e (rdT w H0 W n)) : PT X e (rdT w H0 W (mOr m n)) := ⟨fun pins s σ H Q I q => by
  obtain ⟨g, A, ρ, S, q⟩ := q
  unfold mOr at q
  cases e1 : m ρ with
  | bad => rw [e1] at q; exact h2.run pins s σ H Q I ⟨g, A, ρ, S, q⟩
  | ok t ρ1 => rw [e1] at q; exact h1.run pins s σ H Q I ⟨g, A, ρ, S, by rw [e1]; exact q⟩
  | ex c f ρ1 => rw [e1] at q; exact h1.run pins s σ H Q I ⟨g, A, ρ, S, by rw [e1]; exact q⟩⟩
/-- two binary readings at once: their function's union -/
theorem bin_or {f f' : T → T → Option T} {ma mb : M T} {σ : L2.St} {H : Hp} {Q : VK} (q : rdE w H0 W (mBin (fun t u => (f t u).or (f' t u)) ma mb) σ H Q) : rdE w H0 W (mBin f ma mb) σ H Q ∨ rdE w H0 W (mBin f' ma mb) σ H Q := by
  refine or_core (m := mBin f ma mb) (n := mBin f' ma mb) ?_
  obtain ⟨g, A, ρ, S, q⟩ := q
  refine ⟨g, A, ρ, S, ?_⟩
  have : mOr (mBin f ma mb) (mBin f' ma mb) ρ = mBin (fun t u => (f t u).or (f' t u)) ma mb ρ ∨ mBin (fun t u => (f t u).or (f' t u)) ma mb ρ = .bad := by
    unfold mOr mBin
    cases e1 : ma ρ with
    | bad => exact .inr rfl
    | ex c f ρ1 => exact .inl rfl
    | ok t ρ1 =>
      simp only
      cases e2 : mb ρ1 with
      | bad => exact .inr rfl
      | ex c f ρ2 => exact .inl rfl
      | ok u ρ2 =>
        simp only
        cases e3 : f t u with
        | some y => exact .inl rfl
        | none => exact .inl rfl
  rcases this with h | h
  · rw [h]; exact q
  · rw [h] at q; exact q.elim
def sbT : T → T → Option T := fun t u => (ixT t u).or (dgT t u)
theorem e_sub {ma mb : M T} (hu : X.A.units + 1 < cLine) (ha : PE X a (rdL w H0 W ma)) (hb : PE X b (rdL w H0 W mb)) (hs : PlainIx b := by intro _ _; rfl) (hs2 : NoSl b := by intro _ _; rfl) (hK : X.K = w.K := by rfl) : PE X (.Subscript a b pos) (rdE w H0 W (mBin sbT ma mb)) := ⟨fun pins s σ H Q I q => by
  rcases bin_or (f := ixT) (f' := dgT) q with q | q
  · exact (e_ix ha hb hs hK).run pins s σ H Q I q
  · exact (e_dg hu ha hb hs2).run pins s σ H Q I q⟩
def inT : T → T → Option T := fun t u => (inTT t u).or (inDT t u)
def ninT : T → T → Option T := fun t u => (ninTT t u).or (ninDT t u)
theorem tst_bin_or {f f' : T → T → Option T} {ma mb : M T} (h1 : PT X e (rdT w H0 W (mTst (mBin f ma mb)))) (h2 : PT X e (rdT w H0 W (mTst (mBin f' ma mb)))) : PT X e (rdT w H0 W (mTst (mBin (fun t u => (f t u).or (f' t u)) ma mb))) := ⟨fun pins s σ H Q I q => by
  obtain ⟨g, A, ρ, S, q⟩ := q
  unfold mTst bindM mBin at q
  cases e1 : ma ρ with
  | bad => simp only [e1] at q
  | ex c f ρ1 => simp only [e1] at q; exact h1.run pins s σ H Q I ⟨g, A, ρ, S, by unfold mTst bindM mBin; simp only [e1]; exact q⟩
  | ok t ρ1 =>
    simp only [e1] at q
    cases e2 : mb ρ1 with
    | bad => simp only [e2] at q
    | ex c f ρ2 => simp only [e2] at q; exact h1.run pins s σ H Q I ⟨g, A, ρ, S, by unfold mTst bindM mBin; simp only [e1, e2]; exact q⟩
    | ok u ρ2 =>
      simp only [e2] at q
      cases e3 : f t u with
      | some y =>
        simp only [e3, Option.some_or] at q
        exact h1.run pins s σ H Q I ⟨g, A, ρ, S, by unfold mTst bindM mBin; simp only [e1, e2, e3]; exact q⟩
      | none =>
        simp only [e3, Option.none_or] at q
        exact h2.run pins s σ H Q I ⟨g, A, ρ, S, by unfold mTst bindM mBin; simp only [e1, e2]; exact q⟩⟩
theorem t_in {ma mb : M T} (hu : X.A.units + 65 < cLine) (ha : PE X a (rdL w H0 W ma)) (hb : PE X b (rdL w H0 W mb)) (h1 : behindInMarks .In b = false := by with_unfolding_all rfl) (hK : X.K = w.K := by rfl) : PT X (.Compare a [.In] [b] pos) (rdT w H0 W (mTst (mBin inT ma mb))) :=
  tst_bin_or (f := inTT) (f' := inDT) (t_cmp (b_in hu hK) ha hb h1) (t_inD (by omega) ha hb h1)
theorem t_nin {ma mb : M T} (hu : X.A.units + 65 < cLine) (ha : PE X a (rdL w H0 W ma)) (hb : PE X b (rdL w H0 W mb)) (h1 : behindInMarks .NotIn b = false := by with_unfolding_all rfl) (hK : X.K = w.K := by rfl) : PT X (.Compare a [.NotIn] [b] pos) (rdT w H0 W (mTst (mBin ninT ma mb))) :=
  tst_bin_or (f := ninTT) (f' := ninDT) (t_cmp (b_nin hu hK) ha hb h1) (t_ninD (by omega) ha hb h1)
theorem e_in {ma mb : M T} (hu : X.A.units + 65 < cLine) (ha : PE X a (rdL w H0 W ma)) (hb : PE X b (rdL w H0 W mb)) (h1 : behindInMarks .In b = false := by with_unfolding_all rfl) (hK : X.K = w.K := by rfl) : PE X (.Compare a [.In] [b] pos) (rdE w H0 W (mBin inT ma mb)) := ⟨fun pins s σ H Q I q => by
  rcases bin_or (f := inTT) (f' := inDT) q with q | q
  · exact (e_cmp (b_in hu hK) ha hb h1).run pins s σ H Q I q
  · exact (e_inD (by omega) ha hb h1).run pins s σ H Q I q⟩
end
end MP
end

section
set_option Elab.async false
set_option linter.all false
set_option maxRecDepth 100000
/-! MP22: repr; keywords in order; isinstance of built-in classes. -/
namespace MP
open PySem PySem.Spec L2
section
variable {X : Cx} {w : Wd}
def shT (t : T) : Bool := SeqAt.shaped (toPD t) && (PyData.showable (toPD t) && decide ((toPD t).depth ≤ 60 ∧ (PyData.shown (toPD t)).length ≤ sizeLine))
def reprF : List T → Option T
  | [t] => if shT t = true then some (.str (PyData.shown (toPD t))) else none
  | _ => none
theorem call_reprD (hg : X.A.guards = some []) (hu : X.A.units + 64 < cLine) : CallR X (.builtin "repr") (fun xs H Q => ∃ x d, xs = [x] ∧ Dp X.K H x d ∧ PyData.canLay0 d = true ∧ PyData.showable d = true ∧ d.depth ≤ 60 ∧ (PyData.shown d).length ≤ sizeLine ∧ Q (.str (PyData.shown d)) H) := by
  intro pins s σ H xs us Q I r h
  obtain ⟨x, d, rfl, hd, hc, hs, hdp, hz, q⟩ := h
  obtain ⟨u, rfl, rx⟩ := Vals.one r
  obtain ⟨as, rr⟩ := Dp.reads I d x u hd rx
  have hno := PyData.noDict_hsm (as := as) (PyData.hasDict_of_canLay d hc)
  have ref : ∀ a, u = .ref a → wpAny (model X.prog X.w) X.A (call (.builtin "repr") [u]) (EP X pins σ Q) X.xe s := fun a e => by
    subst e
    exact repr_of_reads' rr hs hno hg (by omega) (fun _ _ e => e) (fun h' t tk hk => ⟨.str _, H, I.kept (t' := tk) hk, ⟨_, rfl⟩, q⟩) hz
  cases hd with
  | non => cases rx; exact PySem.P.repr_of_none ⟨.str _, H, I.tok _, ⟨_, rfl⟩, q⟩
  | bl b => cases rx; exact PySem.P.repr_of_bool ⟨.str _, H, I.tok _, ⟨_, rfl⟩, q⟩
  | int i =>
    obtain ⟨t, rfl⟩ := rx
    exact PySem.P.repr_of_int (of_decide_eq_true (p := i.natAbs.log2 < 1920) hs) ⟨.str _, H, I.tok _, ⟨_, rfl⟩, q⟩
  | str z =>
    obtain ⟨t, rfl⟩ := rx
    have e : PyData.shown (.str z) = reprText z := PyData.shown_str z
    rw [e] at hz q
    exact PySem.P.repr_of_str ⟨.str _, H, I.tok _, ⟨_, rfl⟩, q⟩ hz
  | lst _ _ => exact ref _ rx
  | tup _ _ => exact ref _ rx
theorem c_repr (hg : X.A.guards = some []) (hu : X.A.units + 64 < cLine) (hK : X.K = w.K := by rfl) : CallT X w (.builtin "repr") reprF := by
  refine ⟨_, call_reprD hg hu, fun g H A ts y vs Q hr ha hf hq => ?_⟩
  unfold reprF at hf
  split at hf
  · rename_i t
    split at hf
    · rename_i hc
      cases hf
      obtain ⟨v, rfl, r⟩ := hr.one
      simp only [shT, Bool.and_eq_true, decide_eq_true_eq] at hc
      obtain ⟨h1, h2, h3, h4⟩ := hc
      have h5 := SeqAt.canLay_of_shaped h1
      exact ⟨v, toPD t, rfl, by rw [hK]; exact dp_ofL r h5, h5, h2, h3, h4, hq H _ Kp.refl (.str _)⟩
    · cases hf
  · cases hf
/-! ### keywords -/
def permL {α : Type} (idx : List Nat) (zs : List α) : List α := idx.filterMap fun i => zs[i]?
def kG (idx : List Nat) {α : Type} (ts zs : List α) : List α := ts ++ permL idx zs
theorem perm_reps {g : DG} {H : Hp} {A : Addr → Prop} {zs : List T} {zv : List V} (r : VReps w g H A zs zv) : ∀ idx : List Nat, VReps w g H A (permL idx zs) (permL idx zv)
  | [] => .nil
  | i :: idx => by
    unfold permL
    rw [List.filterMap_cons, List.filterMap_cons]
    cases e : zs[i]? with
    | none =>
      have e2 : zv[i]? = none := by
        rw [List.getElem?_eq_none_iff] at e ⊢
        rw [← r.length]; exact e
      rw [e2]
      exact perm_reps r idx
    | some t =>
      obtain ⟨v, e2, rv⟩ := r.get e
      rw [e2]
      exact .cons rv (perm_reps r idx)
theorem kG_ok (idx : List Nat) : GOk w (kG idx) (kG idx) := fun g H A ts zs vs zv r1 r2 => r1.append (perm_reps r2 idx)
theorem kG_cons (idx : List Nat) : ∀ (u : V) (vs zs : List V), kG idx (u :: vs) zs = u :: kG idx vs zs := fun _ _ _ => rfl
theorem perm_vals {zs : List V} {ws : List Value} (r : Vals zs ws) : ∀ idx : List Nat, Vals (permL idx zs) (permL idx ws)
  | [] => .nil
  | i :: idx => by
    unfold permL
    rw [List.filterMap_cons, List.filterMap_cons]
    cases e : zs[i]? with
    | none =>
      have e2 : ws[i]? = none := by
        rw [List.getElem?_eq_none_iff] at e ⊢
        rw [← r.length]; exact e
      rw [e2]
      exact perm_vals r idx
    | some t =>
      obtain ⟨v, e2, rv⟩ := r.get e
      rw [e2]
      exact .cons rv (perm_vals r idx)
theorem kbn_of {K : PySem.W.Frag} {x qual : Str} {params : Arguments} {body : List Stmt} {scope : Scope} {kws : List (Str × V)} {f : Addr} {fd : FuncData} {ps : List Str} (F : FunD K x qual params body scope [] kws f fd) (n : Nat) (ks : List Str) (idx : List Nat)
    (h : ∀ (kV doc pm : Value) (an : Option Addr) (cdv ct : Value) (us ws : List Value), us.length = n → ws.length = ks.length → bindArgs (PySem.W.fnOf x qual params body scope .none kV doc pm an cdv ct) ⟨us, ks.zip ws⟩ = pure (ps.zip (us ++ permL idx ws))) : KBn K fd ps n ks (kG idx) (kG idx) := by
  obtain ⟨oc, od, dV, kV, doc, pm, an, cdv, ct, osl, rfl, lk, hcd, hD, hK⟩ := F.ex
  rcases hD with ⟨_, rfl⟩ | ⟨e, _⟩
  · exact ⟨fun s us ws X l1 l2 => .of_eq (h kV doc pm an cdv ct us ws l1 l2), fun r1 r2 => r1.append (perm_vals r2 idx)⟩
  · exact absurd rfl e
theorem un65 {k : Nat} {A : Around} (h : RoomG k A) : A.units + 65 < cLine := by have := h.r.un; omega
/-! ### isinstance -/
theorem isaB_lt {tags : List Nat} {n : Nat} {r : Bool} (h : isaB tags n = some r) : n < 7 ∧ r = tags.contains n := by
  unfold isaB at h
  split at h
  · exact ⟨by assumption, (Option.some.inj h).symm⟩
  · cases h
theorem isaB_no {tags : List Nat} {n : Nat} {r : Bool} (h : isaB tags (7 + n) = some r) : False := by
  have := (isaB_lt h).1
  omega
theorem isa_of {us : List Value} {tags : List Nat} (h : ∀ n, n < 7 → PySem.W.kitAny w.K (tagVal w n) us = some (tags.contains n)) : Isa w us (isaB tags) :=
  ⟨fun n r e => by obtain ⟨h1, h2⟩ := isaB_lt e; rw [h2]; exact h n h1, fun n r e => (isaB_no e).elim⟩
theorem isa_int : Isa w [.type "int"] (isaB [1, 2]) := isa_of fun n hn => by
  match n, hn with
  | 0, _ => kernel_rfl
  | 1, _ => kernel_rfl
  | 2, _ => kernel_rfl
  | 3, _ => kernel_rfl
  | 4, _ => kernel_rfl
  | 5, _ => kernel_rfl
  | 6, _ => kernel_rfl
theorem isa_bool : Isa w [.type "bool"] (isaB [1]) := isa_of fun n hn => by
  match n, hn with
  | 0, _ => kernel_rfl
  | 1, _ => kernel_rfl
  | 2, _ => kernel_rfl
  | 3, _ => kernel_rfl
  | 4, _ => kernel_rfl
  | 5, _ => kernel_rfl
  | 6, _ => kernel_rfl
theorem isa_str : Isa w [.type "str"] (isaB [3]) := isa_of fun n hn => by
  match n, hn with
  | 0, _ => kernel_rfl
  | 1, _ => kernel_rfl
  | 2, _ => kernel_rfl
  | 3, _ => kernel_rfl
  | 4, _ => kernel_rfl
  | 5, _ => kernel_rfl
  | 6, _ => kernel_rfl
theorem isa_tuple : Isa w [.type "tuple"] (isaB [4]) := isa_of fun n hn => by
  match n, hn with
  | 0, _ => kernel_rfl
  | 1, _ => kernel_rfl
  | 2, _ => kernel_rfl
  | 3, _ => kernel_rfl
  | 4, _ => kernel_rfl
  | 5, _ => kernel_rfl
  | 6, _ => kernel_rfl
theorem isa_list : Isa w [.type "list"] (isaB [5]) := isa_of fun n hn => by
  match n, hn with
  | 0, _ => kernel_rfl
  | 1, _ => kernel_rfl
  | 2, _ => kernel_rfl
  | 3, _ => kernel_rfl
  | 4, _ => kernel_rfl
  | 5, _ => kernel_rfl
  | 6, _ => kernel_rfl
theorem isa_dict : Isa w [.type "dict"] (isaB [6]) := isa_of fun n hn => by
  match n, hn with
  | 0, _ => kernel_rfl
  | 1, _ => kernel_rfl
  | 2, _ => kernel_rfl
  | 3, _ => kernel_rfl
  | 4, _ => kernel_rfl
  | 5, _ => kernel_rfl
  | 6, _ => kernel_rfl
theorem isa_list_tuple : Isa w [.type "list", .type "tuple"] (isaB [4, 5]) := isa_of fun n hn => by
  match n, hn with
  | 0, _ => kernel_rfl
  | 1, _ => kernel_rfl
  | 2, _ => kernel_rfl
  | 3, _ => kernel_rfl
  | 4, _ => kernel_rfl
  | 5, _ => kernel_rfl
  | 6, _ => kernel_rfl
end
end MP
end

section
set_option Elab.async false
set_option linter.all false
set_option maxRecDepth 100000
set_option maxHeartbeats 4000000
/-! MP23: sorted(set(xs)), sorted(d), any number of ints. -/
namespace MPL
open PySem PySem.Spec PyProof.Rows L2
section
variable {P : Program} {w : World} {A : Around} {E : Value → Shared → Prop} {s : Shared}
set_option maxRecDepth 100000 in
set_option maxHeartbeats 3200000 in
theorem call_set_lstI {l : Addr} {items : Array Value} (ns : List Int) {Q : Value → Shared → Prop} (hh : A.handled = none) (hl : s.heap.IsList l items) (hit : IntsAre items.toList ns) (hb : ns.length + 1 < scanBound)
    (h : ∀ (h' : Heap) (tk c : Nat), SetR w h' s.heap.objs.size (fun j => decide (j ∈ ns)) c → c ≤ ns.length → (∀ b o, s.heap.get? b = some o → h'.get? b = some o) → Q (.ref s.heap.objs.size) { s with heap := h', toks := tk }) :
    wpAny (model P w) A (call (.type "set") [.ref l]) Q E s := by
  have hisz : items.size = ns.length := by
    have q := IntsAre.length hit
    rw [Array.length_toList] at q
    exact q
  obtain ⟨c, tl, hmro⟩ := F.called_set.mro
  have hmade := F.called_set.made
  have hsub := F.called_set.sub
  refine wpAny_call (codeAny_of_tree ?_)
  show wpAny _ _ (callAny (.type "set") _) _ _ _
  refine wpAny_pure ⟨Code.quiet_builtin _ (by decide +kernel), codeAny_builtin F.entry_type_call ?_⟩
  rw [Around.under_plain (weight_type_call_type "set" [.ref l] []) rfl]
  have h1 := F.called_set.notType
  have h2 := F.called_set.canCreate
  have hct := F.typeCall_set_1 (.ref l)
  repeat (any_goals (first | assumption | wp_step))

  refine codeAny_mono (code_set_led1 (.ref l) (E := E) (Q₁ := fun obj s₁ => obj = .ref s.heap.objs.size ∧ s₁ = { s with heap := s.heap.push { cls := .type "set", dict := none, data := .set #[] 0 (.fresh 0 0 (!w.params.followText "set-order")) } }) ⟨rfl, rfl⟩) fun r s₁ hr => ?_
  cases r with
  | error e => exact hr
  | ok fl =>
    cases fl with
    | ret obj =>
      obtain ⟨rfl, rfl⟩ := hr
      have hS : (s.heap.push { cls := .type "set", dict := none, data := .set #[] 0 (.fresh 0 0 (!w.params.followText "set-order")) }).get? s.heap.objs.size = some { cls := .type "set", dict := none, data := .set #[] 0 (.fresh 0 0 (!w.params.followText "set-order")) } := Heap.get?_push_size _ rfl
      have hT : Shared.TypeIs { s with heap := s.heap.push { cls := .type "set", dict := none, data := .set #[] 0 (.fresh 0 0 (!w.params.followText "set-order")) } } (.ref s.heap.objs.size) "set" := ⟨_, hS, rfl⟩
      have hli := F.called_set.init.lookup
      have hbi := F.called_set.init.bind (.ref s.heap.objs.size)
      repeat (any_goals (first | assumption | wp_step))

      refine codeAny_mono (codeAny_call_builtin (R := wants (fun r s₂ => r = .none ∧ ∃ h' tk c, s₂ = { s with heap := h', toks := tk } ∧ SetR w h' s.heap.objs.size (fun j => decide (j ∈ ns)) c ∧ c ≤ ns.length ∧
          (∀ b o, s.heap.get? b = some o → h'.get? b = some o)) E) F.called_set.init.plain F.entry_set_init (check_set_init_1 hT ?_)) fun r₂ s₂ hr₂ => ?_
      · obtain ⟨ol, hol, hcl, nl, hdl⟩ := hl
        obtain ⟨ocls, odict, odata, oslots⟩ := ol
        simp only at hcl hdl
        subst hcl; subst hdl
        have hol' : (s.heap.push { cls := .type "set", dict := none, data := .set #[] 0 (.fresh 0 0 (!w.params.followText "set-order")) }).get? l = some { cls := .type "list", dict := odict, data := .seq items nl, slots := oslots } := Heap.get?_push_of_some _ hol
        have hsls := F.sub_list_set
        have hslf := F.sub_list_frozenset
        have hne : (Value.type "list" == Value.type "dict") = false := by decide
        have hl1 : (s.heap.push { cls := .type "set", dict := none, data := .set #[] 0 (.fresh 0 0 (!w.params.followText "set-order")) }).IsList l items := ⟨_, hol', rfl, nl, rfl⟩
        unfold Builtin.«set.__init__» noKeywords Builtin.Frozenset.updateFrom
        generalize hPI : pyIter = PI
        wp_walk
        subst hPI

        refine wpAny_pyIter_list hl1 ?_
        refine wpAny_bind (wpAny_runValue ?_)
        have hlS : l < s.heap.objs.size := Heap.lt_size hol
        have hh3 : A.in1.in1.in1.handled = none := by simp [hh]
        have hz1 : (s.heap.push { cls := .type "set", dict := none, data := .set #[] 0 (.fresh 0 0 (!w.params.followText "set-order")) }).objs.size = s.heap.objs.size + 1 := Heap.size_push ..
        have hneI : l ≠ (s.heap.push { cls := .type "set", dict := none, data := .set #[] 0 (.fresh 0 0 (!w.params.followText "set-order")) }).objs.size := by
          rw [Heap.size_push]; exact Nat.ne_of_lt (Nat.lt_succ_of_lt hlS)
        have hSf : s.heap.objs.size ∉ [(s.heap.push { cls := .type "set", dict := none, data := .set #[] 0 (.fresh 0 0 (!w.params.followText "set-order")) }).objs.size, l] := by
          rw [Heap.size_push]; simp only [List.mem_cons, List.mem_singleton, List.not_mem_nil, or_false, not_or]
          exact ⟨Nat.ne_of_lt (Nat.lt_succ_self _), Nat.ne_of_gt hlS⟩
        have hval : ∀ (i : Nat) (v : Value), items[i]? = some v → ∃ k t, ns[i]? = some k ∧ v = .int k t := fun i v hv => by
          have hi : i < ns.length := by rw [← hisz]; exact (Array.getElem?_eq_some_iff.mp hv).1
          obtain ⟨t, e⟩ := PyProof.Rows.IntsAre.int_at hit i v (by rw [Array.getElem?_toList]; exact hv)
          refine ⟨ns[i], t, List.getElem?_eq_getElem hi, ?_⟩
          rw [e, List.getD_eq_getElem?_getD, List.getElem?_eq_getElem hi] <;> rfl
        refine set_update_ints ((Walks.list hh3 _ l hneI items).toS) s.heap.objs.size
          hSf ns hisz hb hval (items.size - 0) 0 _ (by omega) (Nat.zero_le _)
          ⟨⟨_, Heap.get?_push_size _ rfl, rfl, rfl⟩, (hl1.push _)⟩ ?hS0 ?hR
        case hS0 =>
          have hget : ((s.heap.push { cls := .type "set", dict := none, data := .set #[] 0 (.fresh 0 0 (!w.params.followText "set-order")) }).push { cls := .type "list_iterator", data := .fields #[.ref l, .int 0 0] }).get? s.heap.objs.size
              = some { cls := .type "set", dict := none, data := .set #[] 0 (.fresh 0 0 (!w.params.followText "set-order")) } := Heap.get?_push_of_some _ hS
          exact ⟨0, Nat.le_refl 0, setR_new_at hget⟩
        case hR =>
          intro s' c' hm hc' hS'
          obtain ⟨h', g2, d', tk', os'⟩ := s'
          have eg : g2 = s.gens := hm.gens
          have ed : d' = s.drawn := hm.drawn
          have eo : os' = s.os := hm.os
          subst eg; subst ed; subst eo
          show wpAny _ _ _ _ _ _
          refine wpAny_pure ?_
          show wpAny _ _ (ret Value.none) _ _ _
          rw [hisz] at hc'
          refine wpAny_pure ⟨rfl, h', tk', c', rfl, hS', hc', fun b o e => ?_⟩
          have hb0 : b < s.heap.objs.size := Heap.lt_size e
          have hb1 : b ≠ s.heap.objs.size := Nat.ne_of_lt hb0
          have hb2 : b ≠ (s.heap.push { cls := .type "set", dict := none, data := .set #[] 0 (.fresh 0 0 (!w.params.followText "set-order")) }).objs.size := by
            rw [Heap.size_push]; exact Nat.ne_of_lt (Nat.lt_succ_of_lt hb0)
          exact hm.heap b o (by simp only [List.mem_cons, List.mem_singleton, List.not_mem_nil, or_false, not_or]; exact ⟨hb1, hb2⟩) (Heap.get?_push_of_some _ (Heap.get?_push_of_some _ e))

      · cases r₂ with
        | error e => exact hr₂
        | ok fl₂ =>
          cases fl₂ with
          | ret r =>
            obtain ⟨rfl, h', tk, c', rfl, hS', hc', hk'⟩ := hr₂
            repeat (any_goals (first | assumption | wp_step))
            exact h _ _ _ hS' hc' hk'
          | _ => exact hr₂.elim
    | _ => exact hr.elim

/-- sorted of a set of ints, any number of them -/
theorem sorted_setN {a : Addr} {S : Int → Bool} {n : Nat} {Q : Value → Shared → Prop} (R : SetR w s.heap a S n) (hh : A.handled = none)
    (hQ : ∀ s' p (out : Array Value) (c : Nat) (ns : List Int), (∀ b o, s.heap.get? b = some o → s'.heap.get? b = some o) → s'.gens = s.gens → s'.os = s.os → s.heap.objs.size ≤ p →
      s'.heap.get? p = some (seqObj "list" out c) → IntsAre out.toList ns → ns.Pairwise (· < ·) → (∀ k, k ∈ ns ↔ S k = true) → Q (.ref p) s') :
    wpAny (model P w) A (call (.builtin "sorted") [.ref a]) Q E s := by
  obtain ⟨o, es, ep, t, ho, hex, hd, g, nd, hm, hb, hf, hn, hr, hl⟩ := R
  refine Calls.call_function_entry kind_sorted plain_sorted entry_sorted (args_sorted1 _) ?_
  unfold Builtin.«sorted»
  refine wpAny_bind (m := checkCount "sorted" 1 1 _) (wpAny_pure ?_)
  refine wpAny_bind (collect_set (A := A.in1) hh ⟨o, ho, hex.1, hd⟩ hf hb hr hl fun s1 vs k1 hz g1 o1 pm => ?_)
  have hvl : vs.length ≤ sizeLine := by
    rw [pm.length_eq, List.length_map, Array.length_toList, sizeLine_eq]
    unfold scanBound at hb
    omega
  have hI : IntsAre vs (vs.map Builtin.Re.reRawOf) := ints_of vs fun v hv => by
    obtain ⟨e, he, q⟩ := List.mem_map.mp (pm.mem_iff.mp hv)
    obtain ⟨k, tk, h1, _⟩ := g e he
    exact ⟨k, tk, by rw [← q]; exact h1⟩
  have pk : (vs.map Builtin.Re.reRawOf).Perm (es.toList.map keyOf) := by
    have q := pm.map Builtin.Re.reRawOf
    rw [List.map_map] at q
    exact q
  refine wpAny_bind (wpAny_newList ?_ hvl)
  have hoL : (s1.heap.push (seqObj "list" vs.toArray 0)).get? s1.heap.objs.size = some (seqObj "list" vs.toArray 0) := Heap.get?_push_size _ rfl
  refine wpAny_bind (wpAny_holding (wpAny_call_entry slot_list_sort ⟨_, hoL, rfl⟩ entry_list_sort (SrtO.list_sort_ord SrtO.swo_int hoL hvl (fun h2 => SrtO.ints_sortable hI h2) fun out b1 b2 => ⟨_, rfl, ?_⟩) (args_list_sort _)))
  obtain ⟨a1, a2, a3⟩ := SrtO.ints_out hI b1 b2
  obtain ⟨c, hc⟩ := sortedHeap_at (vs := vs) (out := out.toArray) hoL
  have pn : (out.map SrtO.iv).Perm (es.toList.map keyOf) := a2.trans pk
  refine wpAny_pure ⟨_, rfl, hQ _ s1.heap.objs.size out.toArray c (out.map SrtO.iv) (fun b u e => ?_) g1 o1 hz hc a1 (lt_of_le_nodup _ a3 (pn.nodup_iff.mpr nd)) (fun k => by rw [pn.mem_iff, ← hm k])⟩
  have q := k1 b u e
  have hlt := Heap.lt_size q
  show (sortedHeap (s1.heap.push (seqObj "list" vs.toArray 0)) s1.heap.objs.size vs out.toArray).get? b = some u
  rw [sortedHeap_old (Nat.ne_of_lt hlt) (by rw [size_push']; exact Nat.lt_succ_of_lt hlt)]
  exact Heap.get?_push_of_some _ q
end
section
variable {X : Cx} {e : Expr} {ta : TE} {p p2 q' pos : Pos}
def tSortSet (K : PySem.W.Frag) (ta : TE) : TE := fun σ H Q => ta σ H fun x H1 => ∃ (l : Addr) (ns : List Int), x = .ref l ∧ SqL K H1 l (ns.map V.int) ∧ ns.length ≤ 4000 ∧
  ∀ (ms : List Int) (r : Addr), ms.Pairwise (· < ·) → (∀ k, k ∈ ms ↔ k ∈ ns) → H1 r = none → Q (.ref r) (upd H1 r (.lst (ms.map V.int)))
theorem pe_sortSet (hg : Gl X "sorted") (hm : X.mg "sorted" = none) (hg2 : Gl X "set") (hm2 : X.mg "set" = none) (ha : PE X e ta) (hc : X.calm = true := by rfl)
    (na : starEach [e] X.env = (false, eval e X.env) :: starEach [] X.env := by rfl) : PE X (.Call (.Name "sorted" p) [.Call (.Name "set" p2) [e] [] q'] [] pos) (tSortSet X.K ta) := by
  refine ⟨fun pins s σ H Q I h => ?_⟩
  refine Call_ (ld_blt I hg hm boot_sorted ?_)
  refine PyProof.Rows.callWith_builtin1 (PyProof.Rows.args_cons ?_ rfl) rfl rfl
  refine Call_ (ld_blt I hg2 hm2 boot_set ?_)
  refine PyProof.Rows.callWith_type1 (PyProof.Rows.args_cons (thn (ha.run pins s σ H _ I h) fun v s1 ⟨x, H1, I1, r1, q1⟩ => PyProof.Rows.args_nil ?_) na) na rfl
  obtain ⟨l, ns, rfl, hq, hl, q1⟩ := q1
  cases r1
  obtain ⟨its, r, pl, hz⟩ := I1.list hq
  refine call_set_lstI ns (I1.ok.hd hc) pl.isList (by simpa using RZ.intsAre_vals r) (by unfold scanBound; omega) fun h' tk c hS _ hk => ?_
  refine PyProof.Rows.args_nil ?_
  have I2 : Inv X pins σ H1 { s1 with heap := h', toks := tk } := I1.kept hk
  have hS2 : SetR X.w ({ s1 with heap := h', toks := tk } : Shared).heap s1.heap.objs.size (fun j => decide (j ∈ ns)) c := hS
  generalize s1.heap.objs.size = sa at hS2 ⊢
  clear hS hk
  generalize hs2 : ({ s1 with heap := h', toks := tk } : Shared) = s2 at I2 hS2 ⊢
  refine sorted_setN (s := s2) hS2 (I2.ok.hd hc) fun s' rp out c' ms k g o hp hgt hi hs hm' => ?_
  have hlen : (ms.map V.int).length ≤ sizeLine := by
    have hsub : ms.length ≤ ns.length := by
      have nd : ms.Nodup := hs.imp fun {a b} h z => by omega
      exact (List.nodup_iff_count.mp nd |> fun _ => nd.length_le_of_subset fun k hk => of_decide_eq_true ((hm' k).mp hk))
    rw [List.length_map, sizeLine_eq]; omega
  have hn : H1 rp = none := I2.hok.fresh hp
  have J : Inv X pins σ (upd H1 rp (.lst (ms.map V.int))) { s2 with heap := s'.heap, gens := s'.gens, drawn := s'.drawn, toks := s'.toks } :=
    I2.call (ch := []) (Un.laid k hp hn) (I2.hok.laid k hp ⟨hlen, out.toList, c', vals_of_ints hi, hgt⟩) (by rw [g]; exact I2.bare) (fun _ z => nomatch z)
  have e : s' = { s2 with heap := s'.heap, gens := s'.gens, drawn := s'.drawn, toks := s'.toks } := by
    cases s'
    cases s2
    cases o
    rfl
  rw [e]
  exact ⟨.ref rp, _, J, rfl, q1 ms rp hs (fun k => (hm' k).trans ⟨of_decide_eq_true, decide_eq_true⟩) hn⟩
end
end MPL
end

section
set_option Elab.async false
set_option linter.all false
set_option maxRecDepth 100000
/-! MP24: sorted(d); the readings. -/
namespace MPL
open PySem PySem.Spec PyProof.Rows L2
section
variable {X : Cx}
/-- sorted(d) of a dict, its keys ints, any number of them -/
theorem call_sortedDN (hcalm : X.calm = true) : CallR X (.builtin "sorted") (fun xs H Q => ∃ (a : Addr) (kvs : List (Key × V)) (ks : List Int), xs = [.ref a] ∧ Rd H a (.dK kvs) ∧ kvs.map (·.1) = ks.map Sum.inl ∧ ks.length ≤ sizeLine ∧
    ∀ (ys : List Int) (p : Addr), ys.Perm ks → ys.Pairwise (· ≤ ·) → H p = none → Q (.ref p) (upd H p (.lst (ys.map V.int)))) := by
  intro pins s σ H xs us Q I r q
  obtain ⟨a, kvs, ks, ex, hd, hks, h64, q⟩ := q
  subst ex
  obtain ⟨u, eu, rx⟩ := Vals.one r
  subst eu
  cases rx
  obtain ⟨z, lo, vs, rel, dd⟩ := dk_rd I.hok hd
  obtain ⟨ep, hat⟩ := dd.dictAt
  have hkeys : vs.map (·.1) = ks.map Sum.inl := rel.keys.symm.trans hks
  have hl : vs.length = ks.length := by
    have e := congrArg List.length hkeys
    rw [List.length_map, List.length_map] at e
    exact e
  have h16 : vs.length ≤ sizeLine := by rw [hl]; exact h64
  refine Calls.call_function_entry PyProof.Rows.kind_sorted PyProof.Rows.plain_sorted PyProof.Rows.entry_sorted (PyProof.Rows.args_sorted1 _) ?_
  unfold Builtin.«sorted»
  refine wpAny_bind (m := checkCount "sorted" 1 1 _) (wpAny_pure ?_)
  refine wpAny_bind (PySem.W.kdu_collect (A := X.A.in1) (PySem.W.kdl_dict (knd := mixKind X.prog X.w) (kvs := vs) (ep := ep) lo) (I.ok.hd hcalm) hat h16 fun h' tk acc hk hacc => ?_)
  have hal : acc.toList.length = ks.length := by rw [Array.length_toList, hacc.1, hl]
  have hS : IntsAre acc.toList ks := ints_each hal fun j v e => by
    obtain ⟨k, x, e1, e2⟩ := hacc.2 j v (by rw [← Array.getElem?_toList]; exact e)
    have e3 : (vs.map (·.1))[j]? = some k := by rw [List.getElem?_map, e1]; rfl
    rw [hkeys, List.getElem?_map] at e3
    cases e4 : ks[j]? with
    | none => rw [e4] at e3; cases e3
    | some y =>
      rw [e4] at e3
      have e5 : Sum.inl y = k := Option.some.inj e3
      subst e5
      rcases keyIs_shape (show keyIs (Sum.inl y) v = true from e2) with ⟨i, t, ek, ev⟩ | ⟨z, t, ek, ev⟩
      · cases ek
        exact ⟨y, t, rfl, ev⟩
      · cases ek
  have I1 : Inv X pins σ H { s with heap := h', toks := tk } := I.kept hk
  refine wpAny_bind (wpAny_newList ?_ (by rw [hal]; exact h64))
  have hoL : (h'.push (seqObj "list" acc.toList.toArray 0)).get? h'.objs.size = some (seqObj "list" acc.toList.toArray 0) := Heap.get?_push_size _ rfl
  show wpAny _ _ _ _ _ { s with heap := h'.push (seqObj "list" acc.toList.toArray 0), toks := tk }
  refine wpAny_bind (wpAny_holding (wpAny_call_entry PyProof.Rows.slot_list_sort ⟨_, hoL, rfl⟩ PyProof.Rows.entry_list_sort
    (SrtO.list_sort_ord (s := { s with heap := h'.push (seqObj "list" acc.toList.toArray 0), toks := tk }) SrtO.swo_int hoL (by rw [hal]; exact h64) (fun h2 => SrtO.ints_sortable hS h2) fun out b1 b2 => ⟨_, rfl, ?_⟩) (PyProof.Rows.args_list_sort _)))
  obtain ⟨g1, g2, g3⟩ := SrtO.ints_out hS b1 b2
  obtain ⟨e', he'⟩ := PyProof.Rows.sortedHeap_at (vs := acc.toList) (out := out.toArray) hoL
  have hlen : ((out.map SrtO.iv).map V.int).length ≤ sizeLine := by
    rw [List.length_map, g2.length_eq]
    exact h64
  refine wpAny_pure ⟨_, rfl, .ref h'.objs.size, upd H h'.objs.size (.lst ((out.map SrtO.iv).map V.int)), I1.laid (t' := tk) (fun b u e => ?_) (Nat.le_refl _)
    (show ObjOk X.prog X.w _ _ _ (.lst ((out.map SrtO.iv).map V.int)) from ⟨hlen, out, e', vals_of_ints g1, he'⟩), rfl, q (out.map SrtO.iv) _ g2 g3 (I1.hok.fresh (Nat.le_refl _))⟩
  have hb : b < h'.objs.size := Heap.lt_size e
  rw [PyProof.Rows.sortedHeap_old (Nat.ne_of_lt hb) (by rw [size_push']; exact Nat.lt_succ_of_lt hb)]
  exact Heap.get?_push_of_some _ e
end
end MPL
namespace MP
open PySem PySem.Spec L2
section
variable {X : Cx} {w : Wd} {H0 : En} {W : WX} {e : Expr} {pos p2 p3 p4 p5 : Pos}
def keysI : List (Key × T) → Option (List Int)
  | [] => some []
  | (.inl i, _) :: r => (keysI r).map (i :: ·)
  | _ :: _ => none
theorem keysI_some : ∀ {kts : List (Key × T)} {ks : List Int}, keysI kts = some ks → kts.map (·.1) = ks.map Sum.inl
  | [], ks, h => by cases h; rfl
  | (.inl i, t) :: r, ks, h => by
    simp only [keysI] at h
    cases e : keysI r with
    | none => rw [e] at h; cases h
    | some q =>
      rw [e] at h
      cases h
      simp only [List.map_cons, keysI_some e]
  | (.inr _, _) :: r, ks, h => by simp [keysI] at h
def sortedDF : List T → Option T
  | [.dic kts] => if kts.length ≤ sizeLine then (keysI kts).map fun ns => .lst ((sortI ns).map T.int) else none
  | _ => none
theorem c_sortedD (hc : X.calm = true) : CallF X w (.builtin "sorted") sortedDF := by
  refine ⟨_, MPL.call_sortedDN hc, fun g H A ts y vs Q hr _ hf hq => ?_⟩
  unfold sortedDF at hf
  split at hf
  · rename_i kts
    split at hf
    · rename_i hl
      cases q : keysI kts with
      | none => rw [q] at hf; cases hf
      | some ns =>
        rw [q] at hf
        cases hf
        obtain ⟨v, rfl, r⟩ := hr.one
        obtain ⟨a, kvs, rfl, q1, q2⟩ := r.rdD
        have hk := keysI_some q
        have hn : ns.length = kts.length := by
          have := congrArg List.length hk
          simpa using this.symm
        refine ⟨a, kvs, ns, rfl, .inl q1, q2.1.trans hk, by rw [hn]; exact hl, fun ns' p h1 h2 hp => ?_⟩
        have e2 : ns' = sortI ns := sorted_unique (h1.trans (sortI_perm ns).symm) h2 (sortI_sorted ns)
        subst e2
        obtain ⟨o1, o2⟩ := olst (reps_ints (sortI ns)) hp
        exact hq p _ hp o1 o2
    · cases hf
  · cases hf
theorem CallF.or {f : Value} {F G : List T → Option T} (h : CallF X w f F) (h' : CallF X w f G) : CallF X w f (fun ts => (F ts).or (G ts)) := by
  obtain ⟨r, o, k⟩ := h
  obtain ⟨r', o', k'⟩ := h'
  refine ⟨_, CallR.or o o', fun g H A ts y vs Q ht ha hf hq => ?_⟩
  have hf : (F ts).or (G ts) = some y := hf
  cases e : F ts with
  | some z =>
    rw [e] at hf
    cases hf
    exact .inl (k g H A ts _ vs Q ht ha e hq)
  | none =>
    rw [e] at hf
    exact .inr (k' g H A ts y vs Q ht ha hf hq)
def sortedG : List T → Option T := fun ts => (sortedF ts).or (sortedDF ts)
theorem c_sortedG (hc : X.calm = true) (hK : X.K = w.K := by rfl) : CallF X w (.builtin "sorted") sortedG := (c_sorted hK).or (c_sortedD hc)
/-- each once -/
def onceI : List Int → List Int
  | [] => []
  | x :: r => if x ∈ r then onceI r else x :: onceI r
theorem onceI_mem (k : Int) : ∀ ns : List Int, k ∈ onceI ns ↔ k ∈ ns
  | [] => Iff.rfl
  | x :: r => by
    unfold onceI
    by_cases h : x ∈ r
    · rw [if_pos h, onceI_mem k r, List.mem_cons]
      exact ⟨.inr, fun z => z.elim (fun z => z ▸ h) id⟩
    · rw [if_neg h, List.mem_cons, List.mem_cons, onceI_mem k r]
theorem onceI_nodup : ∀ ns : List Int, (onceI ns).Nodup
  | [] => List.nodup_nil
  | x :: r => by
    unfold onceI
    by_cases h : x ∈ r
    · rw [if_pos h]; exact onceI_nodup r
    · rw [if_neg h]
      exact List.nodup_cons.mpr ⟨fun z => h ((onceI_mem x r).mp z), onceI_nodup r⟩
/-- ints in order, each once -/
def sortU (ns : List Int) : List Int := sortI (onceI ns)
theorem sortU_mem (ns : List Int) (k : Int) : k ∈ sortU ns ↔ k ∈ ns := by
  unfold sortU
  rw [(sortI_perm _).mem_iff, onceI_mem]
theorem strict_unique {xs ys : List Int} (h : ∀ k, k ∈ xs ↔ k ∈ ys) (hx : xs.Pairwise (· < ·)) (hy : ys.Pairwise (· < ·)) : xs = ys := by
  have nx : xs.Nodup := hx.imp fun {a b} h z => by omega
  have ny : ys.Nodup := hy.imp fun {a b} h z => by omega
  exact sorted_unique ((List.perm_ext_iff_of_nodup nx ny).mpr h) (hx.imp fun {a b} h => by omega) (hy.imp fun {a b} h => by omega)
theorem sorted_strict {xs : List Int} (nd : xs.Nodup) (h : xs.Pairwise (· ≤ ·)) : xs.Pairwise (· < ·) := by
  induction xs with
  | nil => exact .nil
  | cons x xs ih =>
    obtain ⟨h1, h2⟩ := List.pairwise_cons.mp h
    obtain ⟨d1, d2⟩ := List.nodup_cons.mp nd
    refine List.pairwise_cons.mpr ⟨fun y hy => ?_, ih d2 h2⟩
    have a := h1 y hy
    have b : x ≠ y := fun z => d1 (z ▸ hy)
    omega
theorem sortI_strict {ns : List Int} (nd : ns.Nodup) : (sortI ns).Pairwise (· < ·) := sorted_strict ((sortI_perm ns).nodup_iff.mpr nd) (sortI_sorted ns)
theorem sortU_strict (ns : List Int) : (sortU ns).Pairwise (· < ·) := sortI_strict (onceI_nodup ns)
def sortSetF : T → Option T
  | .lst xs => match intsT xs with
    | some ns => if ns.length ≤ 4000 then some (.lst ((sortU ns).map T.int)) else none
    | none => none
  | _ => none
theorem f_sortset {m : M T} (hg : Gl X "sorted") (hg2 : Gl X "set") (hs : X.mg "sorted" = none) (ht : X.mg "set" = none) (ha : PE X e (rdL w H0 W m)) (hc : X.calm = true := by rfl) (hK : X.K = w.K := by rfl)
    (na : starEach [e] X.env = (false, eval e X.env) :: starEach [] X.env := by rfl) : PE X (.Call (.Name "sorted" p2) [.Call (.Name "set" p3) [e] [] p4] [] pos) (rdF w H0 W (mUn sortSetF m)) :=
  (MPL.pe_sortSet hg hs hg2 ht ha hc na).imp fun σ H Q q => by
    obtain ⟨g, A, ρ, S, q⟩ := q
    refine ⟨g, A, ρ, S, ?_⟩
    unfold mUn bindM at q
    cases e1 : m ρ with
    | bad => rw [e1] at q; exact q.elim
    | ex c f ρ1 => rw [e1] at q; exact q
    | ok t ρ1 =>
      simp only [e1] at q
      intro A1 H1 v a1 k1 S1 r1
      cases t <;> first | (simp only [sortSetF] at q; done) | skip
      rename_i xs
      cases ei : intsT xs with
      | none => simp only [sortSetF, ei] at q
      | some ns =>
        simp only [sortSetF, ei] at q
        by_cases hl : ns.length ≤ 4000
        · rw [if_pos hl] at q
          obtain ⟨a, us, rfl, q1, r2⟩ := r1.sqL
          rw [intsT_some ei] at r2
          have e := ints_reps r2
          subst e
          refine ⟨a, ns, rfl, by rw [hK]; exact q1, hl, fun ms r h1 h2 hr => ?_⟩
          have e2 : ms = sortU ns := strict_unique (fun k => (h2 k).trans (sortU_mem ns k).symm) h1 (sortU_strict ns)
          subst e2
          obtain ⟨o1, o2⟩ := olst (w := w) (g := g) (H := H1) (A := A1) (reps_ints (sortU ns)) hr
          obtain ⟨S2, S3⟩ := new_own S1 hr o1 o2
          exact q A1 _ r a1 (k1.trans (Kp.new hr)) (S1.unseen k1 hr) S2 S3 o2
        · rw [if_neg hl] at q
          exact q.elim
end
end MP
end

section
set_option Elab.async false
set_option linter.all false
set_option maxRecDepth 100000
/-! MP25: the draw's beginning; the law's own def. -/
namespace MP
open PySem PySem.Spec L2

def absI (i : Int) : Int := if i < 0 then -i else i
def large (ns : List Int) : List Int := (ns.filter fun z => decide ((10 : Int) ^ 18 ≤ absI z)).map absI
def dr0 (ns : List Int) : DS := ⟨large ns, ns, 0, 0, 7⟩
/-- a script -/
structure Scr (ns : List Int) : Prop where
  len : ns.length ≤ 63
  bits : ∀ z ∈ ns, Builtin.Int.intBits z ≤ 1048576
theorem abs_bits (z : Int) : Builtin.Int.intBits (absI z) = Builtin.Int.intBits z := by
  unfold Builtin.Int.intBits
  have h2 : (absI z).natAbs = z.natAbs := by unfold absI; split <;> omega
  have h1 : (absI z == 0) = (z == 0) := by
    by_cases h : z = 0
    · subst h; rfl
    · have : absI z ≠ 0 := by intro h2; unfold absI at h2; split at h2 <;> omega
      rw [beq_eq_false_iff_ne.mpr h, beq_eq_false_iff_ne.mpr this]
  rw [h1, h2]
theorem dr0_ok {ns : List Int} (h : Scr ns) : DOk (dr0 ns) where
  lg := by
    show (large ns).length ≤ 63
    unfold large
    rw [List.length_map]
    exact Nat.le_trans (List.length_filter_le _ _) h.len
  cl := h.len
  lgB := fun z hz => by
    have hz : z ∈ large ns := hz
    unfold large at hz
    obtain ⟨y, hy, rfl⟩ := List.mem_map.mp hz
    have hm := (List.mem_filter.mp hy).1
    refine ⟨by unfold absI; split <;> omega, ?_⟩
    rw [abs_bits]
    have := h.bits y hm
    omega
  clB := h.bits
  rest0 := Int.le_refl 0
  restB := by show Builtin.Int.intBits 0 ≤ 1048577; decide
  turn0 := Int.le_refl 0
  mix0 := by show (0 : Int) ≤ 7 ∧ (7 : Int) < 2147483629; decide
/-- what the beginning promises: a new draw -/
def spBegin (w : Wd) : Sp := fun vs H Q E => ∃ a ns, vs = [.ref a] ∧ SqL w.K H a (ns.map V.int) ∧ Scr ns ∧ ∀ H' d b c, Kp (fun _ => False) H H' → H d = none → H b = none → H c = none → DrawAt H' d b c (dr0 ns) → Q (.ref d) H'
section
variable {X : Cx} {w : Wd} {H0 : En} {W : WX} {e : Expr} {pos p1 p2 p3 p4 p5 p6 p7 p8 p9 p10 p11 p12 p13 : Pos} {x y : Str} {j1 j2 j3 j4 j5 j6 j7 j8 : Nat}
def rdBg (w : Wd) (H0 : En) (iL is : Nat) : TS := fun D σ H => ∃ g A ρ lg cs, SR w g H0 H A ρ σ ∧ g.dr = none ∧ ρ.sl[iL]? = some (some (true, .lst (lg.map T.int))) ∧ ρ.sl[is]? = some (some (false, .lst (cs.map T.int))) ∧
  ∀ H' d b c, Kp (fun _ => False) H0.h H' → H0.h d = none → H0.h b = none → H0.h c = none → H' d = some (.dK (drawKV b c ⟨lg, cs, 0, 0, 7⟩)) → H' b = some (.lst (lg.map V.int)) → H' c = some (.lst (cs.map V.int)) → b ≠ c → D.rt (.ref d) H'
theorem s_begin (iL is : Nat) (hg : Gl X "list") (hm : X.mg "list" = none) (hK : X.K = w.K) (hc : X.calm = true)
    (hN : X.N[iL]? = some x) (hv : Vis X.env.scope x) (hd : (x == ("__debug__" : Str)) = false) (hcd : (x == ("__classdict__" : Str)) = false)
    (hN2 : X.N[is]? = some y) (hv2 : Vis X.env.scope y) (hd2 : (y == ("__debug__" : Str)) = false) (hcd2 : (y == ("__classdict__" : Str)) = false)
    (he : starEach [.Name y p3] X.env = (false, eval (.Name y p3) X.env) :: starEach [] X.env := by rfl) :
    PS X (.Return (some (.Dict [some (.Constant (.str "large") j1 p1), some (.Constant (.str "cells") j2 p2), some (.Constant (.str "rest") j3 p4), some (.Constant (.str "turn") j4 p5), some (.Constant (.str "mix") j5 p6)]
      [.Name x p7, .Call (.Name "list" p8) [.Name y p3] [] p9, .Constant (.int 0) j6 p10, .Constant (.int 0) j7 p11, .Constant (.int 7) j8 p12] p13)) pos) (rdBg w H0 iL is) :=
  (ps_ret (pe_disp (pps_cons pe_str (pe_var hN hv hd hcd) (pps_cons pe_str (exE (fun B => f_callTy (w := w) (H0 := B) (W := fun _ _ _ _ => False) (c_list hc hK) hg hm rfl (al_cons (l_var is hN2 hv2 hd2 hcd2) al_nil he) (by decide) (by decide) he rfl)) (pps_cons pe_str pe_int (pps_cons pe_str pe_int (pps_cons pe_str pe_int pps_nil))))) rfl rfl (fun z => nomatch z) (show 5 ≤ 15 by decide))).imp fun D σ H q => by
  obtain ⟨g, A, ρ, lg, cs, S, hgd, e1, e2, q⟩ := q
  have noD : ∀ a, ¬ DD g a := fun a ⟨d, b, c, z, _⟩ => by rw [hgd] at z; cases z
  intro p hp
  have kp : Kp (fun _ => False) H (upd H p (.dK [])) := Kp.new hp
  obtain ⟨b, b1, ⟨vs, b2, b3⟩, b4, b5, b6⟩ := S.own iL _ e1
  have eb := ints_reps b3
  subst eb
  refine ⟨_, b1, H0, g, A, ρ, S.same kp, ?_⟩
  have em : mCall listF (mCons (mL is) mNil) ρ = .ok (.lst (cs.map T.int)) ρ := by
    unfold mCall mCons bindM mL
    rw [e2]
    rfl
  rw [em]
  intro A2 H2 c a2 k2 hc2 S2 S3 ho
  obtain ⟨vs2, c1, c2⟩ := ho
  have ec := ints_reps c2
  subst ec
  have hp2 : H2 p = some (.dK []) := k2.same _ _ upd_same (noD p)
  have hb2 : H2 b = some (.lst (lg.map V.int)) := k2.same _ _ (kp.same _ _ b2 id) (noD b)
  refine ⟨hp2, [(Sum.inr "large", .ref b), (Sum.inr "cells", .ref c), (Sum.inr "rest", .int 0), (Sum.inr "turn", .int 0), (Sum.inr "mix", .int 7)], rfl, (show 5 ≤ 15 by decide), ?_⟩
  have fr2 : Kp (fun _ => False) H0.h H2 := S2.fr.mono fun a z => (noD a z).elim
  have np := S.new0 hp
  have nc : H0.h c = none := (S.same kp).unseen (S.same kp).fr hc2
  have bp : b ≠ p := fun z => by rw [z, hp] at b2; cases b2
  have cp : c ≠ p := fun z => by rw [z, upd_same] at hc2; cases hc2
  have bc : b ≠ c := fun z => by rw [← z, kp.same _ _ b2 id] at hc2; cases hc2
  refine q _ p b c ?_ np.1 b6.1 nc upd_same (by rw [upd_ne bp]; exact hb2) (by rw [upd_ne cp]; exact c1) bc
  exact ⟨fun a u e n => by rw [upd_ne (ne_of_none e np.1)]; exact fr2.same a u e n, fun a u e => by rw [upd_ne (ne_of_none e np.1)]; exact fr2.tups a u e, fun a u v e => by rw [upd_ne (ne_of_none e np.1)]; exact fr2.frzs a u v e⟩
end
end MP
end

section
set_option Elab.async false
set_option linter.all false
set_option maxRecDepth 100000
/-! MP26: the law's own def, the end. -/
namespace MPL
open PySem PySem.Spec PyProof.Rows L2 MP
theorem law_callG {P : Program} {w : World} {K : PySem.W.Frag} {mg mb : Str → Option Value} {CX : CXT} {k : Nat} {fa a : Addr} {fd : FuncData} {x : Str} {sp : Sp} {s₁ : Shared} {vs : List Value} {ns : List Int}
    (KX : K.In s₁.heap) (hns : s₁.heap.Ns mainGlobals mg) (hb : s₁.heap.Ns builtinsNs mb) (hbb : ∀ x : Str, x ≠ "__name__" → mb x = bootBuiltins x) (hlim : s₁.heap.NoLimit) (hg : s₁.gens = #[])
    (ha : s₁.heap.get? a = some { cls := .type "list", data := .seq vs.toArray }) (hi : IntsAre vs ns) (hl : ns.length ≤ sizeLine) (hr : RoomG k callerA)
    (F : ∀ base : Heap, K.In base → base.Ns mainGlobals mg → FnG P w K mg base CX k fa fd [x] sp) (hbind : ∀ (s : Shared) (u : Value), BindsTo s fd ⟨[u], []⟩ [(x, u)])
    (hsp : ∀ H : Hp, Only H → SqL K H a (ns.map V.int) → sp [.ref a] H (fun v _ => v = .bl true) fun _ _ _ => False)
    (hCX : ∀ H e s', CX [] H s₁ (fun _ _ _ => False) e s' → False) :
    codeAny (model P w) callerA (.call (.ref fa) ⟨[.ref a], []⟩) (fun r s' => r = .ok (.ret (.bool true)) ∧ OldK s₁.heap s'.heap ∧ s'.os = s₁.os ∧ AllBare s'.gens) s₁ := by
  have rv := vals_ints hi
  have lenV := hi.length
  -- from an abstract heap in which nothing but the script may be tracked
  have core : ∀ H : Hp, Only H → SqL K H a (ns.map V.int) → HOk P w H s₁.heap → (∀ b, H b ≠ none → b = a) → (H a ≠ none → K.lookup a = none) →
      codeAny (model P w) callerA (.call (.ref fa) ⟨[.ref a], []⟩) (fun r s' => r = .ok (.ret (.bool true)) ∧ OldK s₁.heap s'.heap ∧ s'.os = s₁.os ∧ AllBare s'.gens) s₁ := by
    intro H hO hS hok hA hK
    have base_of : ∀ {b : Addr} {o : Obj}, s₁.heap.get? b = some o → H b = none → (hidT s₁.heap H).get? b = some o := fun e n => hidT_get e n
    have noA : ∀ {b : Addr} {o : Obj} {es : Array DictEntry} {ep : Nat}, s₁.heap.get? b = some o → o.data = .dict es ep → H b = none := fun {b o es ep} e d => by
      cases q : H b with
      | none => rfl
      | some u =>
        have e' : b = a := hA b (by rw [q]; simp)
        subst e'
        rw [ha] at e; cases e
        have d' : Data.seq vs.toArray _ = Data.dict es ep := d
        cases d'
    have nsK : ∀ {b : Addr} {m : Str → Option Value}, s₁.heap.Ns b m → (hidT s₁.heap H).Ns b m := fun {b m} ⟨o, es, ep, e, d, r⟩ => ⟨o, es, ep, base_of e (noA e d), d, r⟩
    have hKb : K.In (hidT s₁.heap H) := fun b o e => base_of (KX b o e) (by
      cases q : H b with
      | none => rfl
      | some u =>
        have e' : b = a := hA b (by rw [q]; simp)
        subst e'
        rw [hK (by rw [q]; simp)] at e; cases e)
    have hM : Mod K mg (hidT s₁.heap H) := ⟨hKb, nsK hns, ⟨mb, nsK hb, hbb⟩, let ⟨mc, h1, h2⟩ := hlim; ⟨mc, nsK h1, h2⟩⟩
    have e0 : Env0 P w K mg (hidT s₁.heap H) callerA [] s₁ H := ⟨rfl, hM, fun b o e => of_hidT e, Nat.le_of_eq (hidT_size _ _), trivial, fun b hb => absurd (show b ∈ ([] : List Addr) from hb) (by simp), hok, .of_eq hg⟩
    refine codeAny_mono ((F _ hKb (nsK hns)).run callerA [] s₁ H ⟨[.ref a], []⟩ [.ref a] [.ref a] _ _ hr e0 (hbind s₁ (.ref a)) (.cons rfl .nil) (hsp H hO hS)) fun r s' h => ?_
    cases r with
    | error e => exact (hCX H e s' h).elim
    | ok fl =>
      cases fl with
      | next => exact False.elim h
      | brk => exact False.elim h
      | cont => exact False.elim h
      | ret u =>
        obtain ⟨v, H', os, bare, un, hok', r', q⟩ := h
        have q' : v = .bl true := q
        subst q'
        obtain rfl : u = Value.bool true := r'
        refine ⟨rfl, OldK.of_keep fun b o e => ?_, os, bare⟩
        cases q : H b with
        | none => exact un.keep b o e q (by intro z; exact absurd (show b ∈ ([] : List Addr) from z) (by simp)) (by simp)
        | some u =>
          rcases hO b with z | ⟨ob, xs, z⟩
          · rw [q] at z; cases z
          · have z2 := un.frzs b ob _ z
            obtain ⟨e1, _⟩ := hok b _ z
            obtain ⟨e2, _⟩ := hok' b _ z2
            rw [e] at e1; cases e1
            exact e2
  cases hk : K.lookup a with
  | some o =>
    -- the script is one of the module's own objects
    have e := KX a o hk
    rw [ha] at e
    cases e
    refine core (fun _ => none) (fun _ => .inl rfl) (.inr ⟨_, vs.toArray, _, hk, rfl, rfl, rfl, by rw [List.size_toArray, lenV]; exact hl, by simpa using rv⟩) (fun b u z => by have z' : (none : Option HO) = some u := z; cases z') (fun b z => absurd rfl z) fun z => absurd rfl z
  | none =>
    refine core (fun b => if b = a then some (.frz { cls := .type "list", data := .seq vs.toArray } (.lst (ns.map V.int))) else none) (fun b => ?_) (.inl (.inr ⟨{ cls := .type "list", data := .seq vs.toArray }, if_pos rfl⟩)) (fun b u z => ?_) (fun b z => ?_) fun _ => hk
    · by_cases hb : b = a
      · exact .inr ⟨_, _, if_pos hb⟩
      · exact .inl (if_neg hb)
    · by_cases hb : b = a
      · have z' := (if_pos hb).symm.trans z
        cases z'
        subst hb
        exact ⟨ha, by rw [List.length_map]; exact hl, vs, _, rv, ha⟩
      · have z' := (if_neg hb).symm.trans z
        cases z'
    · by_cases hb : b = a
      · exact hb
      · exact absurd (if_neg hb) z
/-- a law: F gives the written part, the function object, the promise over every base -/
theorem walk_ofG {l : PySem.W.OpenLaw} {n k : Nat} {q : Program} {loose : List Str} {XP : (Str → Option Value) → Heap → Prop} {YP : World → Heap → Prop} {d : DefRec} {CX : World → CXT} {x : Str}
    (hn : l.most = some n) (hn2 : n ≤ sizeLine) (hdf : d.params.defaults = []) (hr : RoomG k callerA)
    (F : ∀ (w : World) (mg : Str → Option Value) (fa : Addr) (h : Heap), YP w h → h.Ns mainGlobals mg → mg d.name = some (.ref fa) →
      ∃ (K : PySem.W.Frag) (fd : FuncData) (sp : Sp), K.In h ∧ (∀ (s : Shared) (u : Value), BindsTo s fd ⟨[u], []⟩ [(x, u)]) ∧
        (∀ (H : Hp) (a : Addr) (ns : List Int), ns.length ≤ n → (∀ z ∈ ns, Builtin.Int.intBits z ≤ 1048576) → SqL K H a (ns.map V.int) → sp [.ref a] H (fun v _ => v = .bl true) fun _ _ _ => False) ∧
        ∀ base : Heap, K.In base → base.Ns mainGlobals mg → FnG l.prog w K mg base (CX w) k fa fd [x] sp)
    (hCX : ∀ (w : World) (H : Hp) (s : Shared) (e : Value) (s' : Shared), CX w [] H s (fun _ _ _ => False) e s' → False) :
    PySem.W.WalkO q loose XP YP l.row.toRowW d [] (fun f vs => PySem.call f vs) := by
  refine Att.attach_callB hn hdf fun w s₀ s₁ mg mb fa o pm cd doc a vs ns G Y ho hd hcd hmg hobj hints hlen hbits hg => ?_
  obtain ⟨K, fd, sp, KX, hb, hsp, hF⟩ := F w mg fa _ Y G.T.g hmg
  exact law_callG KX G.T.g G.T.b G.T.builtins G.T.nolimit hg hobj hints (Nat.le_trans hlen hn2) hr hF hb (fun H hO hS => hsp H a ns hlen hbits hS) fun H e s' => hCX w H s₁ e s'
end MPL
namespace MP
open PySem PySem.Spec L2
abbrev mLarge0 : M T := mLc (mIt seqT (mV 0)) (gN 2) (mTst (mBin geT (mCall absF (mCons (mL 2) mNil)) (mBin powT (mC (.int 10)) (mC (.int 18))))) (mCall absF (mCons (mL 2) mNil)) [2]
theorem large_turns (s : T) (dr : DS) : ∀ (ns acc : List Int), lcL (gN 2) (mTst (mBin geT (mCall absF (mCons (mL 2) mNil)) (mBin powT (mC (.int 10)) (mC (.int 18))))) (mCall absF (mCons (mL 2) mNil)) [2] (ns.map T.int) (acc.map T.int) ⟨[some (false, s), none, none], dr⟩ = .ok ((acc ++ large ns).map T.int) ⟨[some (false, s), none, none], dr⟩
  | [], acc => by
    show Out.ok (acc.map T.int) _ = _
    rw [show large [] = [] from rfl, List.append_nil]
  | z :: ns, acc => by
    rw [List.map_cons, lcL]
    have e1 : gN 2 (.int z) ⟨[some (false, s), none, none], dr⟩ = some ⟨[some (false, s), none, some (false, .int z)], dr⟩ := rfl
    have e3 : mCall absF (mCons (mL 2) mNil) ⟨[some (false, s), none, some (false, .int z)], dr⟩ = .ok (.int (absI z)) ⟨[some (false, s), none, some (false, .int z)], dr⟩ := rfl
    have e2 : mTst (mBin geT (mCall absF (mCons (mL 2) mNil)) (mBin powT (mC (.int 10)) (mC (.int 18)))) ⟨[some (false, s), none, some (false, .int z)], dr⟩ = .ok (decide ((10 : Int) ^ 18 ≤ absI z)) ⟨[some (false, s), none, some (false, .int z)], dr⟩ := by
      unfold mTst bindM mBin
      rw [e3]
      rfl
    rw [e1]
    simp only [e2]
    by_cases h : (10 : Int) ^ 18 ≤ absI z
    · rw [decide_eq_true h]
      simp only [e3]
      have := large_turns s dr ns (acc ++ [absI z])
      rw [List.map_append, List.map_cons, List.map_nil] at this
      rw [show blank [2] ⟨[some (false, s), none, some (false, .int z)], dr⟩ = ⟨[some (false, s), none, none], dr⟩ from rfl, this]
      have el : large (z :: ns) = absI z :: large ns := by
        unfold large
        rw [List.filter_cons, if_pos (decide_eq_true h), List.map_cons]
      rw [el, List.append_assoc]
      rfl
    · rw [decide_eq_false h]
      have := large_turns s dr ns acc
      simp only
      rw [show blank [2] ⟨[some (false, s), none, some (false, .int z)], dr⟩ = ⟨[some (false, s), none, none], dr⟩ from rfl]
      have el : large (z :: ns) = large ns := by
        unfold large
        rw [List.filter_cons, if_neg (fun q => h (of_decide_eq_true q))]
      rw [el]
      exact this
theorem large_eval {ns : List Int} (dr : DS) (h : ns.length ≤ 63) : mLarge0 ⟨[some (false, .lst (ns.map T.int)), none, none], dr⟩ = .ok (.lst ((large ns).map T.int)) ⟨[some (false, .lst (ns.map T.int)), none, none], dr⟩ := by
  unfold mLarge0 mLc
  have e1 : mIt seqT (mV 0) ⟨[some (false, .lst (ns.map T.int)), none, none], dr⟩ = .ok (ns.map T.int) ⟨[some (false, .lst (ns.map T.int)), none, none], dr⟩ := rfl
  unfold bindM
  rw [e1]
  simp only [lcK]
  rw [if_pos (by rw [List.length_map, sizeLine_eq]; omega), show blank [2] ⟨[some (false, .lst (ns.map T.int)), none, none], dr⟩ = ⟨[some (false, .lst (ns.map T.int)), none, none], dr⟩ from rfl]
  have := large_turns (.lst (ns.map T.int)) dr ns []
  rw [List.map_nil, List.nil_append] at this
  rw [this]
section
variable {P : Program} {w0 : World} {K : PySem.W.Frag} {mg : Str → Option Value} {base : Heap} {x qual : Str} {params : Arguments} {body : List Stmt} {scope : Scope} {dvs : List V} {kws : List (Str × V)} {f : Addr} {fd : FuncData} {N ps : List Str} {k : Nat} {w : Wd}
theorem SR.first {H : Hp} {g : DG} {σ : L2.St} {a : Addr} {vs : List V} {ts : List T} {dr : DS} {n : Nat} (hg : g.dr = none) (hK : SqL w.K H a vs) (r : ∀ g A, VReps w g H A ts vs) (hσ : σ = some (.ref a) :: List.replicate n none) :
    SR w g ⟨H, fun _ => False⟩ H (fun _ => False) ⟨some (false, .lst ts) :: List.replicate n none, dr⟩ σ := by
  subst hσ
  have none_at : ∀ {α : Type} {i : Nat} {p : α}, (List.replicate n (none : Option α))[i]? = some (some p) → False := fun {α i p} e => by
    rw [List.getElem?_replicate] at e
    split at e <;> cases e
  have hv : SqLA w.K H (fun _ => False) a vs := by
    rcases hK with h | h
    · exact .inl ⟨h, id⟩
    · exact .inr h
  refine ⟨by simp, fun _ z => z.elim, fun i t e => ?_, fun i t e => ?_, fun i j t u b hij e1 => ?_, fun d b c e => (by rw [hg] at e; cases e), fun a ⟨d, b, c, e, _⟩ => (by rw [hg] at e; cases e), fun _ z => z.elim, Kp.refl⟩
  · cases i with
    | zero => cases e; exact ⟨_, rfl, .lst hv (r g _)⟩
    | succ i => rw [List.getElem?_cons_succ] at e; exact (none_at e).elim
  · cases i with
    | zero => cases e
    | succ i => rw [List.getElem?_cons_succ] at e; exact (none_at e).elim
  · cases i with
    | zero => cases e1
    | succ i => rw [List.getElem?_cons_succ] at e1; exact (none_at e1).elim
/-- _law_begin -/
theorem begin_fn (F : FunD K x qual params body scope dvs kws f fd) (S : FnScope N ps scope) (hw : w.K = K) (hps : ps.length = 1) (hN : N.length = 3)
    (hb : ∀ (cdv : Value) (A : Around) (outer : List Env) (s : Shared) (H : Hp) (E : XK) (H0 : En), RoomG k (cxOf (CX P w0) P w0 K mg base N qual scope f cdv A outer s H E).A →
      PSs (cxOf (CX P w0) P w0 K mg base N qual scope f cdv A outer s H E) body (tSeq (rdS w H0 (WOf E) (mOwn 1 mLarge0)) (rdBg w H0 1 0))) : FnG P w0 K mg base (CX P w0) (k + 1) f fd ps (spBegin w) := by
  refine okG F S (fun vs H Q E h => ?_) fun cdv A outer s H vs Q E hr h => ?_
  · obtain ⟨a, ns, rfl, _⟩ := h
    exact hps.symm
  · obtain ⟨a, ns, rfl, hl, scr, q⟩ := h
    refine ⟨_, hb cdv A outer s H E ⟨H, fun _ => False⟩ hr, ?_⟩
    have hst : L2.start N [.ref a] = some (.ref a) :: List.replicate 2 none := by
      unfold L2.start
      rw [hN]
      rfl
    rw [hst]
    have S0 : SR w ⟨none, none⟩ ⟨H, fun _ => False⟩ H (fun _ => False) ⟨[some (false, .lst (ns.map T.int)), none, none], default⟩ (some (.ref a) :: List.replicate 2 none) := SR.first (n := 2) rfl hl (fun g A => reps_ints ns) rfl
    refine rdS_post.mpr ⟨⟨none, none⟩, _, _, S0, ?_⟩
    have e1 : mOwn 1 mLarge0 ⟨[some (false, .lst (ns.map T.int)), none, none], default⟩ = .nx ⟨[some (false, .lst (ns.map T.int)), some (true, .lst ((large ns).map T.int)), none], default⟩ := by
      unfold mOwn mThen
      rw [large_eval default scr.len]
      rfl
    rw [e1]
    intro A' H' σ' P' S'
    refine ⟨⟨none, none⟩, A', _, large ns, ns, S', rfl, rfl, rfl, fun H2 d b c k2 n1 n2 n3 h1 h2 h3 bc => q H2 d b c k2 n1 n2 n3 ⟨h1, h2, h3, bc, dr0_ok scr⟩⟩
/-- what the law promises -/
def spLaw (w : Wd) : Sp := fun vs H Q _ => ∃ a ns, vs = [.ref a] ∧ SqL w.K H a (ns.map V.int) ∧ Scr ns ∧ ∀ H', Q (.bl true) H'
/-- the state behind the law's first statement -/
abbrev law0 (n : Nat) (ns : List Int) : Ev := ⟨some (false, .lst (ns.map T.int)) :: some (false, .drw) :: List.replicate n none, dr0 ns⟩
theorem law_fn {n : Nat} {m : SM} (F : FunD K x qual params body scope dvs kws f fd) (S : FnScope N ps scope) (hps : ps.length = 1) (hN : N.length = n + 2)
    (hm : ∀ ns, Scr ns → ∃ ρ, m (law0 n ns) = .rt false (.bl true) ρ)
    (hb : ∀ (cdv : Value) (A : Around) (outer : List Env) (s : Shared) (H : Hp) (E : XK) (H0 : En), RoomG k (cxOf (CX P w0) P w0 K mg base N qual scope f cdv A outer s H E).A →
      PSs (cxOf (CX P w0) P w0 K mg base N qual scope f cdv A outer s H E) body (tSeq (tAsg (tCA (fun σ vs _ H Q => spBegin w (vs ++ []) H Q (WE (WOf E) σ)) (tCons (tVar 0) tNil)) (gName 1)) (rdS w H0 (WOf E) m))) : FnG P w0 K mg base (CX P w0) (k + 1) f fd ps (spLaw w) := by
  refine okG F S (fun vs H Q E h => ?_) fun cdv A outer s H vs Q E hr h => ?_
  · obtain ⟨a, ns, rfl, _⟩ := h
    exact hps.symm
  · obtain ⟨a, ns, rfl, hl, scr, q⟩ := h
    refine ⟨_, hb cdv A outer s H E ⟨H, fun _ => False⟩ hr, ?_⟩
    have hst : L2.start N [.ref a] = some (.ref a) :: List.replicate (n + 1) none := by
      unfold L2.start
      rw [hN]
      rfl
    rw [hst]
    refine ⟨.ref a, rfl, a, ns, rfl, hl, scr, fun H' d b c k2 n1 n2 n3 D => ?_⟩
    obtain ⟨ρ, em⟩ := hm ns scr
    let g : DG := ⟨some (d, b, c), none⟩
    have hv : SqLA w.K H' (DD g) a (ns.map V.int) := by
      rcases hl with (h | ⟨o, h⟩) | h
      · refine .inl ⟨.inl (k2.same _ _ h id), ?_⟩
        rintro ⟨d', b', c', e, z⟩
        cases e
        rcases z with rfl | rfl | rfl
        · rw [n1] at h; cases h
        · rw [n2] at h; cases h
        · rw [n3] at h; cases h
      · refine .inl ⟨.inr ⟨o, k2.frzs _ _ _ h⟩, ?_⟩
        rintro ⟨d', b', c', e, z⟩
        cases e
        rcases z with rfl | rfl | rfl
        · rw [n1] at h; cases h
        · rw [n2] at h; cases h
        · rw [n3] at h; cases h
      · exact .inr h
    have none_at : ∀ {α : Type} {i : Nat} {p : α}, (List.replicate n (none : Option α))[i]? = some (some p) → False := fun {α i p} e => by
      rw [List.getElem?_replicate] at e
      split at e <;> cases e
    have S1 : SR w g ⟨H, fun _ => False⟩ H' (DD g) (law0 n ns) ((some (.ref a) :: List.replicate (n + 1) none).set 1 (some (.ref d))) := by
      refine ⟨by simp, fun _ z => z.elim, fun i t e => ?_, fun i t e => ?_, fun i j t u b hij e1 => ?_, fun d' b' c' e => (by cases e; exact D), fun _ z => z, fun y z => ?_, k2.mono fun _ z => z.elim⟩
      · match i, e with
        | 0, e => cases e; exact ⟨_, rfl, .lst hv (reps_ints ns)⟩
        | 1, e => cases e; exact ⟨_, rfl, .drw rfl⟩
        | i + 2, e => exact (none_at (by simpa using e)).elim
      · match i, e with
        | 0, e => cases e
        | 1, e => cases e
        | i + 2, e => exact (none_at (by simpa using e)).elim
      · match i, e1 with
        | 0, e => cases e
        | 1, e => cases e
        | i + 2, e => exact (none_at (by simpa using e)).elim
      · obtain ⟨d', b', c', e, z⟩ := z
        cases e
        rcases z with rfl | rfl | rfl
        · rw [D.dd]; exact fun z => nomatch z
        · rw [D.db]; exact fun z => nomatch z
        · rw [D.dc]; exact fun z => nomatch z
    refine rdS_post.mpr ⟨g, _, _, S1, ?_⟩
    rw [em]
    intro A' H2 σ' v S' r'
    cases (show VRep w g H2 A' (.bl true) v from r')
    exact q H2
end
end MP
end

section
set_option Elab.async false
set_option linter.all false
set_option maxRecDepth 100000
/-! MP27: what the head tells. -/
namespace MP
open PySem PySem.Spec L2

/-- the getter of the property p -/
def gtA (K : PySem.W.Frag) (C p : Str) : Addr := match PySem.W.recIn K (He.ma K (He.ga K C) p) "property" with
  | some (.ref g :: _) => g
  | _ => 0
/-- a def: where it stands, its text -/
structure DefM where
  adr : PySem.W.Frag → Addr
  name : Str
  qual : Str
  params : Arguments
  body : List Stmt
  scope : Scope
  dfl : List He.Dv := []
  kwd : List (Str × He.Dv) := []
def fnA (K : PySem.W.Frag) (a : Addr) : He.FnW := match K.lookup a with
  | some ⟨_, _, .func fd, _⟩ => some (fd.name, fd.qualname, fd.params, fd.body, fd.scope, fd.globals, fd.closure, fd.builtins)
  | _ => none
def DefM.val (d : DefM) : He.FnW := some (d.name, d.qual, d.params, .stmts d.body, d.scope, mainGlobals, [], builtinsNs)
def DefM.dvs (K : PySem.W.Frag) (d : DefM) : List V := d.dfl.map (He.Dv.v K)
def DefM.kws (K : PySem.W.Frag) (d : DefM) : List (Str × V) := d.kwd.map fun q => (q.1, q.2.v K)
def DefM.ok (K : PySem.W.Frag) (d : DefM) : Bool := PySem.W.keepIn K (.ref (d.adr K)) && (match K.lookup (d.adr K) with
  | some ⟨_, _, .func fd, _⟩ => PySem.W.codeIn K fd.code d.qual && (He.dflB K fd.defaults (d.dvs K) && He.kwdB K fd.kwdefaults (d.kws K))
  | _ => false)
theorem DefM.funD {K : PySem.W.Frag} {d : DefM} (e : fnA K (d.adr K) = d.val) (c : d.ok K = true) : ∃ fd, FunD K d.name d.qual d.params d.body d.scope (d.dvs K) (d.kws K) (d.adr K) fd := by
  obtain ⟨kp, c2⟩ := He.ba c
  unfold fnA at e
  cases q : K.lookup (d.adr K) with
  | none => rw [q] at c2; cases c2
  | some o =>
    obtain ⟨oc, od, dt, osl⟩ := o
    rw [q] at c2 e
    cases dt with
    | func fd =>
      obtain ⟨n1, n2, n3, n4, n5, n6, n7, n8, n9, n10, n11, n12, n13, n14, n15⟩ := fd
      have e2 : (some (n1, n2, n3, n4, n5, n6, n7, n15) : He.FnW) = some (d.name, d.qual, d.params, .stmts d.body, d.scope, mainGlobals, [], builtinsNs) := e
      simp only [Option.some.injEq, Prod.mk.injEq] at e2
      obtain ⟨h1, h2, h3, h4, h5, h6, h7, h8⟩ := e2
      subst h1 h2 h3 h4 h5 h6 h7 h8
      have c3 : (PySem.W.codeIn K n13 d.qual && (He.dflB K n8 (d.dvs K) && He.kwdB K n9 (d.kws K))) = true := c2
      obtain ⟨k1, k2⟩ := He.ba c3
      obtain ⟨k3, k4⟩ := He.ba k2
      exact ⟨_, ⟨oc, od, n8, n9, n10, n11, n12, n13, n14, osl, rfl, q, k1, He.dflB_ok k3, He.kwdB_ok k4⟩, kp⟩
    | _ => cases c2
abbrev AlM : Type := Bool × List He.FnW × List (Option (List (Option (Str × Int))))
def obsM (fa : List He.Fa) (fm : List DefM) (ts : List He.Tab) (ex : PySem.W.Frag → Bool) (K : PySem.W.Frag) : AlM :=
  ((fa.all fun f => f.ok K) && ((fm.all fun d => d.ok K) && ex K), fm.map fun d => fnA K (d.adr K), ts.map fun t => He.dicW K (t.1 K))
def valM (fm : List DefM) (ts : List He.Tab) (w : World) : AlM := (true, fm.map DefM.val, ts.map fun t => some (He.keysIn w.params t.2))
def obsMG (n : Nat) (fa : List He.Fa) (fm : List DefM) (ts : List He.Tab) (ex : PySem.W.Frag → Bool) (g : Addr → Option Obj) : AlM := obsM fa fm ts ex (He.frG g (He.asD g n))
structure SaysM (fa : List He.Fa) (fm : List DefM) (ts : List He.Tab) (ex : PySem.W.Frag → Bool) (w : World) (K : PySem.W.Frag) : Prop where
  fa : ∀ f ∈ fa, f.ok K = true
  fm : ∀ d ∈ fm, ∃ fd, FunD K d.name d.qual d.params d.body d.scope (d.dvs K) (d.kws K) (d.adr K) fd
  ts : ∀ t ∈ ts, He.dicW K (t.1 K) = some (He.keysIn w.params t.2)
  ex : ex K = true
theorem map_eq_mem {α β : Type} {f g : α → β} : ∀ {l : List α}, l.map f = l.map g → ∀ x ∈ l, f x = g x
  | [], _, x, h => by cases h
  | y :: l, e, x, h => by
    rw [List.map_cons, List.map_cons] at e
    injection e with e1 e2
    rcases List.mem_cons.mp h with rfl | h
    · exact e1
    · exact map_eq_mem e2 x h
theorem saysM_of {fa : List He.Fa} {fm : List DefM} {ts : List He.Tab} {ex : PySem.W.Frag → Bool} {w : World} {K : PySem.W.Frag} (e : obsM fa fm ts ex K = valM fm ts w) : SaysM fa fm ts ex w K := by
  unfold obsM valM at e
  obtain ⟨e1, e23⟩ := Prod.mk.inj e
  obtain ⟨e2, e3⟩ := Prod.mk.inj e23
  obtain ⟨k1, k2⟩ := He.ba e1
  obtain ⟨k3, k4⟩ := He.ba k2
  exact ⟨fun f hf => List.all_eq_true.mp k1 f hf, fun d hd => DefM.funD (map_eq_mem e2 d hd) (List.all_eq_true.mp k3 d hd), fun t ht => map_eq_mem e3 t ht, k4⟩
def hookM (n : Nat) (fa : List He.Fa) (fm : List DefM) (ts : List He.Tab) (ex : PySem.W.Frag → Bool) : PySem.W.Hook where
  α := AlM
  obs := fun s => obsMG n fa fm ts ex s.heap.get?
  val := fun w => valM fm ts w
  says := fun w h => ∃ K : PySem.W.Frag, K.In h ∧ SaysM fa fm ts ex w K
  of := fun _ _ e => ⟨_, He.frG_in, saysM_of e⟩
  keeps := fun _ _ _ ⟨K, hK, c⟩ k => ⟨K, PySem.W.Frag.In.keeps hK k, c⟩
theorem obsMG_eq {n : Nat} {fa : List He.Fa} {fm : List DefM} {ts : List He.Tab} {ex : PySem.W.Frag → Bool} {g : Addr → Option Obj} {s : Shared} (h : ∀ a, g a = s.heap.get? a) : obsMG n fa fm ts ex g = (hookM n fa fm ts ex).obs s := by
  have e : g = s.heap.get? := funext h
  rw [e] <;> rfl
/-! ### properties, classes asked for, tables -/
def propB (K : PySem.W.Frag) (C f : Str) : Bool := He.eqO (PySem.W.findIn K (.ref (He.ga K C)) f) (some (some (.ref (He.ma K (He.ga K C) f)))) && (He.eqO (PySem.W.specialIn K (.ref (He.ma K (He.ga K C) f)) "__get__") (some (some (.builtin "property.__get__"))) &&
  (decide (PySem.W.takesIn K (.ref (He.ma K (He.ga K C) f)) = some true) && (match PySem.W.recIn K (He.ma K (He.ga K C) f) "property" with
    | some (.ref _ :: _) => true
    | _ => false)))
theorem propB_ok {K : PySem.W.Frag} {C f : Str} (h : propB K C f = true) : PropOf K (He.ga K C) f (He.ma K (He.ga K C) f) (gtA K C f) := by
  obtain ⟨h1, h⟩ := He.ba h
  obtain ⟨h2, h⟩ := He.ba h
  obtain ⟨h3, h4⟩ := He.ba h
  refine ⟨He.eqO_ok h1, He.eqO_ok h2, of_decide_eq_true h3, ?_⟩
  unfold gtA
  split at h4
  · rename_i g r e
    rw [e]
    exact ⟨r, rfl⟩
  · cases h4
def iclB (K : PySem.W.Frag) (C : Addr) : Bool := (PySem.W.plainGet K C Str.empty && (PySem.W.hasDictIn K C && (PySem.W.plainOver K C && He.eqO (PySem.W.findIn K (.ref C) "__setattr__") (some (some (.builtin "object.__setattr__")))))) &&
  (He.eqO (PySem.W.findIn K (.ref C) "__class__") (some (some (.builtin "object.__class__"))) && (He.eqO (PySem.W.specialIn K (.builtin "object.__class__") "__get__") (some (some (.builtin "getset_descriptor.__get__"))) &&
  (decide (PySem.W.takesIn K (.builtin "object.__class__") = some true) && decide (PySem.W.mroIn K C (.type "object") = some true))))
theorem iclB_ok {K : PySem.W.Frag} {C : Addr} (h : iclB K C = true) : ICl K C := by
  obtain ⟨h0, h⟩ := He.ba h
  obtain ⟨a1, h0⟩ := He.ba h0
  obtain ⟨a2, h0⟩ := He.ba h0
  obtain ⟨a3, a4⟩ := He.ba h0
  obtain ⟨h1, h⟩ := He.ba h
  obtain ⟨h2, h⟩ := He.ba h
  obtain ⟨h3, h4⟩ := He.ba h
  exact ⟨⟨a1, a2, a3, He.eqO_ok a4⟩, He.eqO_ok h1, He.eqO_ok h2, of_decide_eq_true h3, of_decide_eq_true h4⟩
def isaOK (w : Wd) (us : List Value) (f : Nat → Option Bool) (m : Nat) : Bool := (List.range m).all fun n => match f n with
  | some r => decide (PySem.W.kitAny w.K (tagVal w n) us = some r) && (decide (n < 7) || iclB w.K (w.ct (n - 7)))
  | none => true
theorem isaOK_ok {w : Wd} {us : List Value} {f : Nat → Option Bool} {m : Nat} (h : isaOK w us f m = true) (hf : ∀ n, m ≤ n → f n = none) : Isa w us f := by
  have key : ∀ n r, f n = some r → PySem.W.kitAny w.K (tagVal w n) us = some r ∧ (n < 7 ∨ iclB w.K (w.ct (n - 7)) = true) := fun n r e => by
    have hn : n < m := by
      by_cases c : n < m
      · exact c
      · rw [hf n (by omega)] at e; cases e
    have := List.all_eq_true.mp h n (List.mem_range.mpr hn)
    simp only [e] at this
    obtain ⟨q1, q2⟩ := He.ba this
    refine ⟨of_decide_eq_true q1, ?_⟩
    rcases Bool.or_eq_true_iff.mp q2 with q | q
    · exact .inl (of_decide_eq_true q)
    · exact .inr q
  refine ⟨fun n r e => (key n r e).1, fun n r e => ?_⟩
  rcases (key (7 + n) r e).2 with q | q
  · omega
  · rw [show 7 + n - 7 = n by omega] at q
    exact iclB_ok q
def tDv : He.Dv → T
  | .bl b => .bl b
  | .int i => .int i
  | .str x => .str x
  | _ => .non
def okDv : He.Dv → Bool
  | .bl _ => true
  | .int _ => true
  | .str _ => true
  | .non => true
  | _ => false
theorem cst_dv {w : Wd} {K : PySem.W.Frag} {d : He.Dv} (h : okDv d = true) : Cst w [tDv d] [d.v K] := fun g H A => by
  cases d <;> first | (cases h; done) | skip
  · exact .cons .non .nil
  · exact .cons (.bl _) .nil
  · exact .cons (.int _) .nil
  · exact .cons (.str _) .nil
theorem keys_no {P : Params} {z : Str} : ∀ {l : List DictEntry} {ks : List Str}, l.map He.keyOf = He.keysIn P ks → z ∉ ks → l.find? (fun e => Value.isStrOf z e.key) = none
  | [], _, _, _ => rfl
  | e :: r, [], h, _ => by cases h
  | e :: r, k :: ks, h, hz => by
    have h1 : He.keyOf e :: r.map He.keyOf = some (k, PyData.keyHash P k) :: He.keysIn P ks := h
    injection h1 with h2 h3
    have hne : Value.isStrOf z e.key = false := by
      cases q : Value.isStrOf z e.key with
      | false => rfl
      | true =>
        obtain ⟨t, ek⟩ := Value.isStrOf_shape q
        unfold He.keyOf at h2
        rw [ek] at h2
        have e1 : z = k := (Prod.mk.inj (Option.some.inj h2)).1
        exact absurd (by rw [e1]; exact List.mem_cons_self ..) hz
    rw [List.find?_cons, hne]
    exact keys_no h3 fun m => hz (List.mem_cons_of_mem _ m)
theorem wtab_of {w : Wd} {wo : World} {a : Addr} {kvs : List (Str × He.Dv)} (h : He.dicW w.K a = some (He.keysIn wo.params (kvs.map (·.1)))) (hv : He.valsB w.K a kvs = true) (hd : kvs.all (fun q => okDv q.2) = true) : WTab w wo a (kvs.map fun q => (q.1, tDv q.2)) := by
  obtain ⟨es, n, KD⟩ := He.dicW_ok h
  have hk : es.toList.map He.keyOf = He.keysIn wo.params (kvs.map (·.1)) := by
    unfold He.dicW at h
    rw [KD.at_] at h
    simp only at h
    split at h
    · exact Option.some.inj h
    · cases h
  have look : ∀ {z : Str} {t : T} {l : List (Str × He.Dv)}, (l.map fun q => (q.1, tDv q.2)).lookup z = some t → ∃ q ∈ l, q.1 = z ∧ tDv q.2 = t := by
    intro z t l
    induction l with
    | nil => intro e; cases e
    | cons p l ih =>
      intro e
      rw [List.map_cons, List.lookup_cons] at e
      cases q : z == p.1 with
      | true =>
        rw [q] at e
        exact ⟨p, List.mem_cons_self .., (eq_of_beq q).symm, Option.some.inj e⟩
      | false =>
        rw [q] at e
        obtain ⟨r, h1, h2⟩ := ih e
        exact ⟨r, List.mem_cons_of_mem _ h1, h2⟩
  have lookn : ∀ {z : Str} {l : List (Str × He.Dv)}, (l.map fun q => (q.1, tDv q.2)).lookup z = none → z ∉ l.map (·.1) := by
    intro z l
    induction l with
    | nil => intro _ m; cases m
    | cons p l ih =>
      intro e m
      rw [List.map_cons, List.lookup_cons] at e
      rw [List.map_cons, List.mem_cons] at m
      cases q : z == p.1 with
      | true => rw [q] at e; cases e
      | false =>
        rw [q] at e
        rcases m with m | m
        · rw [m, beq_self_eq_true] at q; cases q
        · exact ih e m
  refine ⟨es, n, KD, fun z t e => ?_, fun z e => ?_⟩
  · obtain ⟨q, hq, rfl, rfl⟩ := look e
    obtain ⟨u, h1, h2⟩ := He.valsB_ok hv hq
    exact ⟨u, q.2.v w.K, h1, h2, cst_dv (List.all_eq_true.mp hd q hq)⟩
  · unfold findBy
    have e2 := keys_no hk (lookn e)
    obtain ⟨l⟩ := es
    rw [List.find?_toArray, e2]
    rfl
end MP
end

section
set_option Elab.async false
set_option linter.all false
namespace MP
open PySem PySem.Spec L2
theorem SaysM.faAt {fa : List He.Fa} {fm : List DefM} {ts : List He.Tab} {ex : PySem.W.Frag → Bool} {w : World} {K : PySem.W.Frag} (c : SaysM fa fm ts ex w K) (i : Nat) {f : He.Fa} (h : fa[i]? = some f) : f.ok K = true := c.fa f (List.mem_of_getElem? h)
theorem SaysM.fmAt {fa : List He.Fa} {fm : List DefM} {ts : List He.Tab} {ex : PySem.W.Frag → Bool} {w : World} {K : PySem.W.Frag} (c : SaysM fa fm ts ex w K) (i : Nat) {d : DefM} (h : fm[i]? = some d) : ∃ fd, FunD K d.name d.qual d.params d.body d.scope (d.dvs K) (d.kws K) (d.adr K) fd := c.fm d (List.mem_of_getElem? h)
theorem SaysM.tsAt {fa : List He.Fa} {fm : List DefM} {ts : List He.Tab} {ex : PySem.W.Frag → Bool} {w : World} {K : PySem.W.Frag} (c : SaysM fa fm ts ex w K) (i : Nat) {t : He.Tab} (h : ts[i]? = some t) : He.dicW K (t.1 K) = some (He.keysIn w.params t.2) := c.ts t (List.mem_of_getElem? h)
theorem SaysM.exAt {fa : List He.Fa} {fm : List DefM} {ts : List He.Tab} {el : PySem.W.Frag → List Bool} {w : World} {K : PySem.W.Frag} (c : SaysM fa fm ts (fun K => (el K).all id) w K) (i : Nat) {b : Bool} (h : (el K)[i]? = some b) : b = true := List.all_eq_true.mp c.ex b (List.mem_of_getElem? h)
end MP
namespace MPL
open PySem PySem.Spec L2
theorem no_cx {P : Program} : ∀ (w : World) (H : Hp) (s : Shared) (e : Value) (s' : Shared), L2.CX P w [] H s (fun _ _ _ => False) e s' → False := by
  intro w H s e s' h
  unfold L2.CX at h
  obtain ⟨_, _, _, _, _, _, _, _, _, _, _, _, z⟩ := h
  exact z
end MPL
end

section
set_option Elab.async false
set_option linter.all false
set_option maxRecDepth 100000
/-! MP29: how the combinators run. -/
namespace MP
open PySem PySem.Spec L2
section
variable {ρ ρ1 ρ2 ρ3 : Ev} {t u y : T} {ts us : List T} {m n : M T} {b c : Bool}
theorem r_bin {f : T → T → Option T} {ma mb : M T} (h1 : ma ρ = .ok t ρ1) (h2 : mb ρ1 = .ok u ρ2) (h3 : f t u = some y) : mBin f ma mb ρ = .ok y ρ2 := by
  unfold mBin
  rw [h1]
  simp only
  rw [h2]
  simp only
  rw [h3]
theorem r_un {f : T → Option T} (h1 : m ρ = .ok t ρ1) (h3 : f t = some y) : mUn f m ρ = .ok y ρ1 := by
  unfold mUn bindM
  rw [h1]
  simp only
  rw [h3]
theorem r_tst (h : m ρ = .ok (.bl b) ρ1) : mTst m ρ = .ok b ρ1 := by
  unfold mTst bindM
  rw [h]
  rfl
theorem r_not {m : M Bool} (h : m ρ = .ok b ρ1) : mNotB m ρ = .ok (!b) ρ1 := by
  unfold mNotB bindM
  rw [h]
theorem r_andT {m n : M Bool} (h : m ρ = .ok true ρ1) (h2 : n ρ1 = .ok b ρ2) : mAndB m n ρ = .ok b ρ2 := by
  unfold mAndB bindM
  rw [h]
  exact h2
theorem r_andF {m n : M Bool} (h : m ρ = .ok false ρ1) : mAndB m n ρ = .ok false ρ1 := by
  unfold mAndB bindM
  rw [h]
  rfl
theorem r_orF {m n : M Bool} (h : m ρ = .ok false ρ1) (h2 : n ρ1 = .ok b ρ2) : mOrB m n ρ = .ok b ρ2 := by
  unfold mOrB bindM
  rw [h]
  exact h2
theorem r_orT {m n : M Bool} (h : m ρ = .ok true ρ1) : mOrB m n ρ = .ok true ρ1 := by
  unfold mOrB bindM
  rw [h]
  rfl
theorem r_nil : mNil ρ = .ok [] ρ := rfl
theorem r_cons {ml : M (List T)} (h : m ρ = .ok t ρ1) (h2 : ml ρ1 = .ok ts ρ2) : mCons m ml ρ = .ok (t :: ts) ρ2 := by
  unfold mCons bindM
  rw [h]
  simp only
  rw [h2]
theorem r_call {F : List T → Option T} {ml : M (List T)} (h : ml ρ = .ok ts ρ1) (h2 : F ts = some y) : mCall F ml ρ = .ok y ρ1 := by
  unfold mCall bindM
  rw [h]
  simp only
  rw [h2]
theorem r_tup {ml : M (List T)} (h : ml ρ = .ok ts ρ1) (h2 : ts.length ≤ 1000) : mTup ml ρ = .ok (.tup ts) ρ1 := by
  unfold mTup bindM
  rw [h]
  simp only
  rw [if_pos h2]
theorem r_lst {ml : M (List T)} (h : ml ρ = .ok ts ρ1) (h2 : ts.length ≤ 1000) : mLst ml ρ = .ok (.lst ts) ρ1 := by
  unfold mLst bindM
  rw [h]
  simp only
  rw [if_pos h2]
theorem r_ite {mc : M Bool} (h : mc ρ = .ok b ρ1) (h2 : (if b = true then m else n) ρ1 = .ok y ρ2) : mIte mc m n ρ = .ok y ρ2 := by
  unfold mIte bindM
  rw [h]
  simp only
  cases b with
  | true => exact h2
  | false => exact h2
theorem r_fn {F : TF} {ml : M (List T)} {fr : Bool} {d : DS} (h : ml ρ = .ok ts ρ1) (h2 : F ρ1.dr ts = .ok fr y d) : mFn F [] ml ρ = .ok y { ρ1 with dr := d } := by
  unfold mFn
  rw [h]
  simp only
  rw [List.append_nil, h2]
theorem r_fnF {F : TF} {ml : M (List T)} {d : DS} (h : ml ρ = .ok ts ρ1) (h2 : F ρ1.dr ts = .ok true y d) : mFnF F [] ml ρ = .ok y { ρ1 with dr := d } := by
  unfold mFnF
  rw [h]
  simp only
  rw [List.append_nil, h2]
theorem r_mIt {F : T → Option (List T)} (h : m ρ = .ok t ρ1) (h2 : F t = some ts) : mIt F m ρ = .ok ts ρ1 := by
  unfold mIt bindM
  rw [h]
  simp only
  rw [h2]
theorem r_mItA {F : List T → Option (List T)} {ml : M (List T)} (h : ml ρ = .ok us ρ1) (h2 : F us = some ts) : mItA F ml ρ = .ok ts ρ1 := by
  unfold mItA bindM
  rw [h]
  simp only
  rw [h2]
variable {a s : SM} {r : SO}
theorem r_seq (h : a ρ = .nx ρ1) : mSeq a s ρ = s ρ1 := by
  unfold mSeq
  rw [h]
theorem r_seqR {fr : Bool} (h : a ρ = .rt fr t ρ1) : mSeq a s ρ = .rt fr t ρ1 := by
  unfold mSeq
  rw [h]
theorem r_ifT {mc : M Bool} (h : mc ρ = .ok true ρ1) : mIfS mc a s ρ = a ρ1 := by
  unfold mIfS
  rw [h]
theorem r_ifF {mc : M Bool} (h : mc ρ = .ok false ρ1) : mIfS mc a s ρ = s ρ1 := by
  unfold mIfS
  rw [h]
theorem r_set {i : Nat} (h : m ρ = .ok t ρ1) : mSet i m ρ = .nx (setSl ρ1 i (some (false, t))) := by
  unfold mSet mThen
  rw [h]
theorem r_own {i : Nat} (h : m ρ = .ok t ρ1) : mOwn i m ρ = .nx (setSl ρ1 i (some (true, t))) := by
  unfold mOwn mThen
  rw [h]
theorem r_drop (h : m ρ = .ok t ρ1) : mDrop m ρ = .nx ρ1 := by
  unfold mDrop mThen
  rw [h]
theorem r_ret (h : m ρ = .ok t ρ1) : mRet m ρ = .rt false t ρ1 := by
  unfold mRet mThen
  rw [h]
theorem r_retF (h : m ρ = .ok t ρ1) : mRetF m ρ = .rt true t ρ1 := by
  unfold mRetF mThen
  rw [h]
theorem r_asg {f : Tgt} (h : m ρ = .ok t ρ1) (h2 : f t ρ1 = some ρ2) : mAsg m f ρ = .nx ρ2 := by
  unfold mAsg mThen
  rw [h]
  simp only
  rw [h2]
theorem r_par {i j : Nat} {ml : M (List T)} (h : ml ρ = .ok [t, u] ρ1) : mPar2 i j ml ρ = .nx (setSl (setSl ρ1 i (some (false, t))) j (some (false, u))) := by
  unfold mPar2
  rw [h]
theorem r_for {mi : M (List T)} {f : Tgt} (h : mi ρ = .ok ts ρ1) : mFor mi f s ρ = forL f s ts ρ1 := by
  unfold mFor
  rw [h]
/-- the turns of a loop keep something -/
theorem r_forL {f : Tgt} {I : List T → Ev → Prop} (h : ∀ t ts ρ, I (t :: ts) ρ → ∃ ρ1 ρ2, f t ρ = some ρ1 ∧ (s ρ1 = .nx ρ2 ∨ s ρ1 = .ct ρ2) ∧ I ts ρ2) : ∀ (ts : List T) (ρ : Ev), I ts ρ → ∃ ρ', forL f s ts ρ = .nx ρ' ∧ I [] ρ'
  | [], ρ, hi => ⟨ρ, rfl, hi⟩
  | t :: ts, ρ, hi => by
    obtain ⟨ρ1, ρ2, e1, e2, hi2⟩ := h t ts ρ hi
    obtain ⟨ρ', e3, hi3⟩ := r_forL h ts ρ2 hi2
    refine ⟨ρ', ?_, hi3⟩
    rw [forL, e1]
    rcases e2 with e2 | e2 <;> (simp only [e2]; exact e3)
/-- the turns of a comprehension -/
theorem r_lcL {f : Tgt} {mc : M Bool} {vs : List Nat} {I : List T → List T → Ev → Prop}
    (h : ∀ t ts acc ρ, I (t :: ts) acc ρ → ∃ ρ1 ρ2, f t ρ = some ρ1 ∧ ((∃ u ρ3, mc ρ1 = .ok true ρ2 ∧ m ρ2 = .ok u ρ3 ∧ I ts (acc ++ [u]) (blank vs ρ3)) ∨ (mc ρ1 = .ok false ρ2 ∧ I ts acc (blank vs ρ2)))) :
    ∀ (ts acc : List T) (ρ : Ev), I ts acc ρ → ∃ us ρ', lcL f mc m vs ts acc ρ = .ok us ρ' ∧ I [] us ρ'
  | [], acc, ρ, hi => ⟨acc, ρ, rfl, hi⟩
  | t :: ts, acc, ρ, hi => by
    obtain ⟨ρ1, ρ2, e1, e2⟩ := h t ts acc ρ hi
    rcases e2 with ⟨u, ρ3, e2, e3, hi2⟩ | ⟨e2, hi2⟩
    · obtain ⟨us, ρ', e4, hi3⟩ := r_lcL h ts (acc ++ [u]) _ hi2
      refine ⟨us, ρ', ?_, hi3⟩
      rw [lcL, e1]
      simp only [e2, e3]
      exact e4
    · obtain ⟨us, ρ', e4, hi3⟩ := r_lcL h ts acc _ hi2
      refine ⟨us, ρ', ?_, hi3⟩
      rw [lcL, e1]
      simp only [e2]
      exact e4
theorem r_lc {mi : M (List T)} {f : Tgt} {mc : M Bool} {vs : List Nat} (h : mi ρ = .ok ts ρ1) (hl : ts.length ≤ sizeLine) (h2 : lcL f mc m vs ts [] (blank vs ρ1) = .ok us ρ2) : mLc mi f mc m vs ρ = .ok (.lst us) ρ2 := by
  unfold mLc bindM
  rw [h]
  simp only [lcK]
  rw [if_pos hl, h2]
end
/-! ### data -/
theorem eqT_i (i j : Int) : eqT (.int i) (.int j) = some (.bl (decide (i = j))) := by
  show (none : Option T).or (eqDT _ _) = _
  rw [Option.none_or]
  unfold eqDT dat eqB
  simp only [toPD]
  rfl
theorem neT_i (i j : Int) : neT (.int i) (.int j) = some (.bl (!decide (i = j))) := by
  show (none : Option T).or (neDT _ _) = _
  rw [Option.none_or]
  unfold neDT dat eqB
  simp only [toPD]
  rfl
theorem intT_e {C : Int → Int → Bool} {g : Int → Int → T} {i j : Int} (h : C i j = true) : intT C g (.int i) (.int j) = some (g i j) := if_pos h
theorem addT_i (i j : Int) : addT (.int i) (.int j) = some (.int (i + j)) := rfl
/-! ### the draw -/
/-- a draw with room for n takes -/
structure Dk (d : DS) (n : Nat) : Prop where
  ok : DOk d
  room : d.turn + n ≤ 1152921504606846976
theorem Dk.less {d : DS} {n m : Nat} (h : Dk d n) (l : m ≤ n) : Dk d m := ⟨h.ok, by have := h.room; omega⟩
theorem bits_small {i : Int} (h : 0 ≤ i) (h2 : i < 18446744073709551616) : Builtin.Int.intBits i ≤ 64 := by
  have h3 : i.natAbs < 2 ^ 64 := by omega
  exact PyProof.Rows.intBits_le h3
theorem cMul_of2 {i j : Int} {a b : Nat} (h1 : Builtin.Int.intBits i ≤ a) (h2 : Builtin.Int.intBits j ≤ b) (h : a + b ≤ 134217728) : cMul i j = true := by
  unfold cMul
  apply decide_eq_true
  have h3 : ((Builtin.Int.intBits i + Builtin.Int.intBits j : Nat) : Int) ≤ ((134217728 : Nat) : Int) := Int.ofNat_le.mpr (Nat.le_trans (Nat.add_le_add h1 h2) h)
  rw [Int.natCast_add] at h3
  exact h3
abbrev envT (n : Int) (x y : Option (Bool × T)) (d : DS) : Ev := ⟨[some (false, .drw), some (false, .int n), x, y], d⟩
theorem drSet_rest {d : DS} {i : Int} (h : 0 ≤ i) (h2 : Builtin.Int.intBits i ≤ 1048577) : drSet "rest" i d = some { d with rest := i } := by
  unfold drSet
  rw [if_pos rfl, if_pos ⟨h, h2⟩]
theorem drSet_turn {d : DS} {i : Int} (h : 0 ≤ i) : drSet "turn" i d = some { d with turn := i } := by
  unfold drSet
  rw [if_neg (by decide), if_pos rfl, if_pos h]
theorem drSet_mix {d : DS} {i : Int} (h : 0 ≤ i ∧ i < 2147483629) : drSet "mix" i d = some { d with mix := i } := by
  unfold drSet
  rw [if_neg (by decide), if_neg (by decide), if_pos rfl, if_pos h]
theorem mDr_e {f : Str} {n : Int} {x y : Option (Bool × T)} {d : DS} {i : Int} (h : drI f d = some i) : mDr 0 f (envT n x y d) = .ok (.int i) (envT n x y d) := by
  unfold mDr
  simp only [List.getElem?_cons_zero, h]
theorem gDr_e {f : Str} {n : Int} {x y : Option (Bool × T)} {d d' : DS} {i : Int} (h : drSet f i d = some d') : gDr 0 f (.int i) (envT n x y d) = some (envT n x y d') := by
  unfold gDr
  simp only [List.getElem?_cons_zero, h]
abbrev mMix : SM := (mAsg (mBin modT (mCall intF (mCons (mBin addT (mBin addT (mBin mulI (mDr 0 "mix") (mC (.int 69621))) (mBin mulI (mL 2) (mC (.int 48271)))) (mC (.int 12345))) mNil)) (mC (.int 2147483629))) (gDr 0 "mix"))
theorem mix_step {d : DS} {n z : Int} {y : Option (Bool × T)} (h : DOk d) (hz : Builtin.Int.intBits z ≤ 1048577) :
    ∃ m, 0 ≤ m ∧ m < 2147483629 ∧ mMix (envT n (some (false, .int z)) y d) = .nx (envT n (some (false, .int z)) y { d with mix := m }) := by
  have hm := h.mix0
  have c1 : cMul d.mix 69621 = true := cMul_of2 (bits_small hm.1 (Int.lt_trans hm.2 (by decide))) (bits_small (by decide) (by decide)) (by decide)
  have c2 : cMul z 48271 = true := cMul_of2 hz (bits_small (by decide) (by decide)) (by decide)
  refine ⟨(d.mix * 69621 + z * 48271 + 12345) % 2147483629, Int.emod_nonneg _ (by decide), Int.emod_lt_of_pos _ (by decide), ?_⟩
  refine r_asg (t := .int ((d.mix * 69621 + z * 48271 + 12345) % 2147483629)) (ρ1 := envT n (some (false, .int z)) y d) ?_ (gDr_e (drSet_mix ⟨Int.emod_nonneg _ (by decide), Int.emod_lt_of_pos _ (by decide)⟩))
  refine r_bin (t := .int (d.mix * 69621 + z * 48271 + 12345)) (u := .int 2147483629) ?_ rfl (intT_e (decide_eq_true (show (0 : Int) < 2147483629 by decide)))
  refine r_call (r_cons (r_bin (r_bin (r_bin (mDr_e rfl) rfl (intT_e c1)) (r_bin (t := .int z) rfl rfl (intT_e c2)) (addT_i _ _)) rfl (addT_i _ _)) r_nil) rfl
/-- the loop over the cells -/
theorem forL_cons {f : Tgt} {s : SM} {t : T} {ts : List T} {ρ ρ1 ρ2 : Ev} (h : f t ρ = some ρ1) (h2 : s ρ1 = .nx ρ2) : forL f s (t :: ts) ρ = forL f s ts ρ2 := by
  rw [forL, h]
  simp only [h2]
theorem mix_loop {n : Int} {y : Option (Bool × T)} (zs : List Int) : ∀ (d : DS) (x : Option (Bool × T)), DOk d → (∀ z ∈ zs, Builtin.Int.intBits z ≤ 1048577) →
    ∃ m x', 0 ≤ m ∧ m < 2147483629 ∧ forL (gN 2) mMix (zs.map T.int) (envT n x y d) = .nx (envT n x' y { d with mix := m }) := by
  generalize hM : mMix = M
  have st : ∀ {d : DS} {z : Int}, DOk d → Builtin.Int.intBits z ≤ 1048577 → ∃ m, 0 ≤ m ∧ m < 2147483629 ∧ M (envT n (some (false, .int z)) y d) = .nx (envT n (some (false, .int z)) y { d with mix := m }) := by
    rw [← hM]
    exact fun h hz => mix_step h hz
  clear hM
  induction zs with
  | nil => exact fun d x h _ => ⟨d.mix, x, h.mix0.1, h.mix0.2, rfl⟩
  | cons z zs ih =>
    intro d x h hz
    obtain ⟨m, m0, m1, e⟩ := st h (hz z (List.mem_cons_self ..))
    obtain ⟨m2, x', q0, q1, e2⟩ := ih { d with mix := m } (some (false, .int z)) { h with mix0 := ⟨m0, m1⟩ } fun z h => hz z (List.mem_cons_of_mem _ h)
    exact ⟨m2, x', q0, q1, (forL_cons (ρ1 := envT n (some (false, .int z)) y d) rfl e).trans e2⟩
abbrev mTakeNew : SM := (mSeq (mAsg (mBin addT (mDr 0 "turn") (mC (.int 1))) (gDr 0 "turn"))
  (mSeq (mFor (mIt seqT (mCells 0)) (gN 2)
    mMix)
  (mAsg (mBin modT (mCall intF (mCons (mBin powT (mDr 0 "mix") (mC (.int 5))) mNil)) (mC (.int 2305843009213693951))) (gDr 0 "rest"))))
abbrev mTakeEnd : SM := (mSeq (mAsg (mCall divmodF (mCons (mDr 0 "rest") (mCons (mL 1) mNil))) (gTn 2 (gsCons (gDr 0 "rest") (gsCons (gN 3) gsNil))))
  (mRetV 3))
def mTake : SM :=
  (mSeq (mIfS (mAndB (mTst (mBin eqT (mDr 0 "rest") (mC (.int 0)))) (mLarge 0))
    (mAsg (mPopL 0) (gDr 0 "rest"))
    (mIfS (mTst (mBin eqT (mDr 0 "rest") (mC (.int 0))))
    mTakeNew
    mSkip))
  mTakeEnd)
theorem r_c {v : T} : mC v ρ = .ok v ρ := rfl
theorem r_gTn {n : Nat} {fs : Tgts} {ts : List T} (h : ts.length = n) (h2 : fs ts ρ = some ρ1) : gTn n fs (.tup ts) ρ = some ρ1 := (if_pos h).trans h2
theorem r_gsNil : gsNil [] ρ = some ρ := rfl
theorem r_gsCons {f : Tgt} {fs : Tgts} {t : T} {ts : List T} (h : f t ρ = some ρ1) (h2 : fs ts ρ1 = some ρ2) : gsCons f fs (t :: ts) ρ = some ρ2 := by
  unfold gsCons
  simp only [h, h2]
theorem powT_5 {m : Int} (c : cPow m 5 = true) : powT (.int m) (.int 5) = some (.int (m ^ 5)) := (intT_e c : powT (.int m) (.int 5) = some (.int (m ^ Int.toNat 5)))
theorem modT_b {m n : Int} (c : 0 < n) : modT (.int m) (.int n) = some (.int (m % n)) := intT_e (decide_eq_true c)
theorem cells_e {n : Int} {x y : Option (Bool × T)} {d : DS} : mCells 0 (envT n x y d) = .ok (.lst ((d.turn :: d.cells).map T.int)) (envT n x y d) := rfl
theorem itCells_e {n : Int} {x y : Option (Bool × T)} {d : DS} : mIt seqT (mCells 0) (envT n x y d) = .ok ((d.turn :: d.cells).map T.int) (envT n x y d) := r_mIt cells_e rfl
theorem forCells_e {n : Int} {x y : Option (Bool × T)} {d : DS} {s : SM} : mFor (mIt seqT (mCells 0)) (gN 2) s (envT n x y d) = forL (gN 2) s ((d.turn :: d.cells).map T.int) (envT n x y d) := r_for itCells_e
theorem take_new {n : Int} {x y : Option (Bool × T)} {d : DS} {k : Nat} (h : Dk d (k + 1)) : ∃ x' d', mTakeNew (envT n x y d) = .nx (envT n x' y d') ∧ Dk d' k := by
  have ht := h.ok.turn0
  have hr := h.room
  have o1 : DOk { d with turn := d.turn + 1 } := { h.ok with turn0 := Int.add_nonneg ht (by decide) }
  have hz : ∀ z ∈ (d.turn + 1) :: d.cells, Builtin.Int.intBits z ≤ 1048577 := fun z hz => by
    rcases List.mem_cons.mp hz with rfl | hz
    · exact Nat.le_trans (bits_small (Int.add_nonneg ht (by decide)) (by omega)) (by decide)
    · exact Nat.le_succ_of_le (h.ok.clB z hz)
  obtain ⟨m, x', m0, m1, e⟩ := mix_loop (n := n) (y := y) ((d.turn + 1) :: d.cells) { d with turn := d.turn + 1 } x o1 hz
  have hp0 : 0 ≤ m ^ 5 % 2305843009213693951 := Int.emod_nonneg _ (by decide)
  have hp1 : m ^ 5 % 2305843009213693951 < 2305843009213693951 := Int.emod_lt_of_pos _ (by decide)
  have hb : Builtin.Int.intBits (m ^ 5 % 2305843009213693951) ≤ 1048577 := Nat.le_trans (bits_small hp0 (Int.lt_trans hp1 (by decide))) (by decide)
  refine ⟨x', { d with turn := d.turn + 1, mix := m, rest := m ^ 5 % 2305843009213693951 }, ?_, { o1 with mix0 := ⟨m0, m1⟩, rest0 := hp0, restB := hb }, by show d.turn + 1 + k ≤ _; omega⟩
  unfold mTakeNew
  have s1 : mAsg (mBin addT (mDr 0 "turn") (mC (.int 1))) (gDr 0 "turn") (envT n x y d) = .nx (envT n x y { d with turn := d.turn + 1 }) :=
    r_asg (r_bin (mDr_e (i := d.turn) rfl) r_c (addT_i _ _)) (gDr_e (drSet_turn (Int.add_nonneg ht (by decide))))
  have s2 : mFor (mIt seqT (mCells 0)) (gN 2) mMix (envT n x y { d with turn := d.turn + 1 }) = .nx (envT n x' y { d with turn := d.turn + 1, mix := m }) :=
    forCells_e.trans e
  rw [r_seq s1, r_seq s2]
  have c : cPow m 5 = true := decide_eq_true ⟨by decide, by decide, by omega⟩
  have s3 : mBin powT (mDr 0 "mix") (mC (.int 5)) (envT n x' y { d with turn := d.turn + 1, mix := m }) = .ok (.int (m ^ 5)) (envT n x' y { d with turn := d.turn + 1, mix := m }) :=
    r_bin (mDr_e (i := m) rfl) r_c (powT_5 c)
  have s4 : mCall intF (mCons (mBin powT (mDr 0 "mix") (mC (.int 5))) mNil) (envT n x' y { d with turn := d.turn + 1, mix := m }) = .ok (.int (m ^ 5)) (envT n x' y { d with turn := d.turn + 1, mix := m }) :=
    r_call (r_cons s3 r_nil) rfl
  have s5 : modT (.int (m ^ 5)) (.int 2305843009213693951) = some (.int (m ^ 5 % 2305843009213693951)) := modT_b (by decide)
  exact r_asg (r_bin s4 r_c s5) (gDr_e (drSet_rest hp0 hb))
theorem bits_div {a n : Int} (h : 0 ≤ a) (hn : 0 < n) : Builtin.Int.intBits (a / n) ≤ Builtin.Int.intBits a := by
  have h1 : (a / n).natAbs ≤ a.natAbs := by
    have h2 : 0 ≤ a / n := Int.ediv_nonneg h (Int.le_of_lt hn)
    have h3 : a / n ≤ a := Int.ediv_le_self _ h
    omega
  have h2 : a.natAbs < 2 ^ Builtin.Int.intBits a := by
    unfold Builtin.Int.intBits
    split
    · rename_i e
      rw [eq_of_beq e]
      decide
    · exact Nat.lt_log2_self
  exact PyProof.Rows.intBits_le (Nat.lt_of_le_of_lt h1 h2)
theorem take_end {n : Int} {x y : Option (Bool × T)} {d : DS} {k : Nat} (h : Dk d k) (h0 : 0 < n) (h1 : n < 1073741824) : ∃ v ρ', mTakeEnd (envT n x y d) = .rt false (.int v) ρ' ∧ 0 ≤ v ∧ v < n ∧ Dk ρ'.dr k := by
  have hr := h.ok.rest0
  have q0 : 0 ≤ d.rest / n := Int.ediv_nonneg hr (Int.le_of_lt h0)
  have hb : Builtin.Int.intBits (d.rest / n) ≤ 1048577 := Nat.le_trans (bits_div hr h0) h.ok.restB
  refine ⟨d.rest % n, ⟨[some (false, .drw), some (false, .int n), x, none], { d with rest := d.rest / n }⟩, ?_, Int.emod_nonneg _ (by omega), Int.emod_lt_of_pos _ h0, ⟨{ h.ok with rest0 := q0, restB := hb }, h.room⟩⟩
  unfold mTakeEnd
  have e1 : divmodF [.int d.rest, .int n] = some (.tup [.int (d.rest / n), .int (d.rest % n)]) := if_pos ⟨h0, h1⟩
  have e2 : gTn 2 (gsCons (gDr 0 "rest") (gsCons (gN 3) gsNil)) (.tup [.int (d.rest / n), .int (d.rest % n)]) (envT n x y d) = some (envT n x (some (false, .int (d.rest % n))) { d with rest := d.rest / n }) := by
    have e3 : gDr 0 "rest" (.int (d.rest / n)) (envT n x y d) = _ := gDr_e (drSet_rest q0 hb)
    exact r_gTn rfl (r_gsCons e3 (r_gsCons (ρ1 := envT n x (some (false, .int (d.rest % n))) { d with rest := d.rest / n }) rfl r_gsNil))
  have e4 : mCall divmodF (mCons (mDr 0 "rest") (mCons (mL 1) mNil)) (envT n x y d) = .ok (.tup [.int (d.rest / n), .int (d.rest % n)]) (envT n x y d) := r_call (r_cons (mDr_e (i := d.rest) rfl) (r_cons (t := .int n) (m := mL 1) rfl r_nil)) e1
  rw [r_seq (r_asg e4 e2)]
  rfl
theorem take_run {n : Int} {x y : Option (Bool × T)} {d : DS} {k : Nat} (h : Dk d (k + 1)) (h0 : 0 < n) (h1 : n < 1073741824) : ∃ v ρ', mTake (envT n x y d) = .rt false (.int v) ρ' ∧ 0 ≤ v ∧ v < n ∧ Dk ρ'.dr k := by
  have key : ∃ x' d', (mIfS (mAndB (mTst (mBin eqT (mDr 0 "rest") (mC (.int 0)))) (mLarge 0)) (mAsg (mPopL 0) (gDr 0 "rest")) (mIfS (mTst (mBin eqT (mDr 0 "rest") (mC (.int 0)))) mTakeNew mSkip)) (envT n x y d) = .nx (envT n x' y d') ∧ Dk d' k := by
    have et : mTst (mBin eqT (mDr 0 "rest") (mC (.int 0))) (envT n x y d) = .ok (decide (d.rest = 0)) (envT n x y d) := r_tst (r_bin (mDr_e rfl) rfl (eqT_i _ _))
    have el : mLarge 0 (envT n x y d) = .ok (!d.large.isEmpty) (envT n x y d) := rfl
    by_cases c : d.rest = 0
    · rw [decide_eq_true c] at et
      cases hl : d.large with
      | nil =>
        rw [hl] at el
        rw [r_ifF (r_andT et el), r_ifT et]
        exact take_new h
      | cons z r =>
        rw [hl] at el
        rw [r_ifT (r_andT et el)]
        have hz := h.ok.lgB z (by rw [hl]; exact List.mem_cons_self ..)
        refine ⟨x, { d with large := r, rest := z }, ?_, ⟨{ h.ok with lg := ?_, lgB := fun w hw => h.ok.lgB w (by rw [hl]; exact List.mem_cons_of_mem _ hw), rest0 := hz.1, restB := hz.2 }, (h.less (Nat.le_succ k)).room⟩⟩
        · refine r_asg (t := .int z) (ρ1 := envT n x y { d with large := r }) ?_ (gDr_e (drSet_rest hz.1 hz.2))
          unfold mPopL
          simp only [List.getElem?_cons_zero, hl]
        · have := h.ok.lg
          rw [hl] at this
          exact Nat.le_of_succ_le this
    · rw [decide_eq_false c] at et
      rw [r_ifF (r_andF et), r_ifF et]
      exact ⟨x, d, rfl, h.less (Nat.le_succ k)⟩
  obtain ⟨x', d', e, h'⟩ := key
  unfold mTake
  rw [r_seq e]
  exact take_end h' h0 h1
/-- one take -/
theorem take_ok {n : Int} {d : DS} {k : Nat} (h : Dk d (k + 1)) (h0 : 0 < n) (h1 : n < 1073741824) : ∃ v d', runF 4 mTake d [.drw, .int n] = .ok false (.int v) d' ∧ 0 ≤ v ∧ v < n ∧ Dk d' k := by
  obtain ⟨v, ρ', e, v0, v1, h'⟩ := take_run (x := none) (y := none) h h0 h1
  refine ⟨v, ρ'.dr, ?_, v0, v1, h'⟩
  unfold runF
  rw [show (⟨startT 4 [.drw, .int n], d⟩ : Ev) = envT n none none d from rfl, e]
theorem r_v {ρ : Ev} {i : Nat} {t : T} (h : ρ.sl[i]? = some (some (false, t))) : mV i ρ = .ok t ρ := by
  unfold mV
  rw [h]
theorem r_vo {ρ : Ev} {i : Nat} {t : T} (h : ρ.sl[i]? = some (some (true, t))) : mV i ρ = .ok t (setSl ρ i (some (false, t))) := by
  unfold mV
  rw [h]
theorem r_l {ρ : Ev} {i : Nat} {t : T} {f : Bool} (h : ρ.sl[i]? = some (some (f, t))) : mL i ρ = .ok t ρ := by
  unfold mL
  rw [h]
theorem r_rtv {ρ : Ev} {i : Nat} {t : T} {f : Bool} (h : ρ.sl[i]? = some (some (f, t))) : mRetV i ρ = .rt f t (setSl ρ i none) := by
  unfold mRetV
  rw [h]
end MP
end

section
set_option Elab.async false
set_option linter.all false
set_option maxRecDepth 100000
/-! MP30: wishes: what is wanted of a run, read from the end; equations for simp. -/
namespace MP
open PySem PySem.Spec L2
/-- what simp does not look into -/
class Lz {α : Sort u} (a : α) : Type where
  x : Bool
instance instLz {α : Sort u} (a : α) : Lz a := ⟨true⟩
/-- the run of m ends with a value that Q wants, or with an exception that X wants -/
def wE {α : Type} (m : M α) (ρ : Ev) (Q : α → Ev → Prop) (X : Nat → Option (Str × T) → Ev → Prop) [Lz m] [Lz Q] [Lz X] : Prop := match m ρ with
  | .ok a ρ1 => Q a ρ1
  | .ex c f ρ1 => X c f ρ1
  | .bad => False
def wO {α : Type} (o : Option α) (Q : α → Prop) [Lz Q] : Prop := match o with
  | some a => Q a
  | none => False
def wB (t : T) (Q : Bool → Prop) [Lz Q] : Prop := match t with
  | .bl b => Q b
  | _ => False
def wI (t : T) (Q : Int → Prop) [Lz Q] : Prop := match t with
  | .int b => Q b
  | _ => False
def wIf (b : Bool) (A B : Prop) [Lz A] [Lz B] : Prop := match b with
  | true => A
  | false => B
def wSl (o : Option (Option (Bool × T))) (Q Q' : T → Prop) [Lz Q] [Lz Q'] : Prop := match o with
  | some (some (false, t)) => Q t
  | some (some (true, t)) => Q' t
  | _ => False
def wIns (c : Nat) (t : T) (Q : List (Str × T) → Prop) [Lz Q] : Prop := match t with
  | .ins c' fs => if c' = c then Q fs else False
  | _ => False
def wSlf (c : Nat) (t : T) (Q : List (Str × T) → Prop) [Lz Q] : Prop := match t with
  | .slf c' fs => if c' = c then Q fs else False
  | _ => False
def wDic (t : T) (Q : List (Key × T) → Prop) [Lz Q] : Prop := match t with
  | .dic k => Q k
  | _ => False
def w2 {α : Type} (ts : List α) (Q : α → α → Prop) [Lz Q] : Prop := match ts with
  | [a, b] => Q a b
  | _ => False
def wR (o : SO) (K : SO → Prop) [Lz K] : Prop := match o with
  | .bad => False
  | r => K r
def wS (s : SM) (ρ : Ev) (K : SO → Prop) [Lz s] [Lz K] : Prop := wR (s ρ) K
def wF (F : TF) (d : DS) (ts : List T) (R : Bool → T → DS → Prop) (X : Nat → Option (Str × T) → DS → Prop) [Lz R] [Lz X] : Prop := match F d ts with
  | .ok fr t d' => R fr t d'
  | .ex c f d' => X c f d'
  | .bad => False
def sqK (b : SM) (K : SO → Prop) [Lz b] [Lz K] : SO → Prop := fun r => match r with
  | .nx ρ => wS b ρ K
  | r => K r
def fnK (R : Bool → T → DS → Prop) (X : Nat → Option (Str × T) → DS → Prop) [Lz R] [Lz X] : SO → Prop := fun r => match r with
  | .nx ρ => R false .non ρ.dr
  | .rt fr t ρ => R fr t ρ.dr
  | .ex c f ρ => X c f ρ.dr
  | _ => False
abbrev noX {β : Type} : Nat → Option (Str × T) → β → Prop := fun _ _ _ => False
section
variable {α β : Type} {Q : α → Prop} {QT : T → Ev → Prop} {QL : List T → Ev → Prop} {QB : Bool → Ev → Prop} {X : Nat → Option (Str × T) → Ev → Prop} {K : SO → Prop} {ρ : Ev} {m n ma mb mc mo mk mx : M T} {ml mh : M (List T)} {A B : Prop}
theorem wE_ext {m : M α} {Q Q' : α → Ev → Prop} (h : ∀ a ρ, Q a ρ = Q' a ρ) : wE m ρ Q X = wE m ρ Q' X := by
  have e : Q = Q' := funext fun a => funext fun r => h a r
  subst e
  rfl
/-! leaves -/
theorem wO_some {a : α} : wO (some a) Q = Q a := rfl
theorem wO_none : wO none Q = False := rfl
theorem wO_if {c : Prop} [Decidable c] {o : Option α} : wO (if c then o else none) Q = (c ∧ wO o Q) := by
  by_cases h : c
  · rw [if_pos h]; exact propext ⟨fun q => ⟨h, q⟩, fun q => q.2⟩
  · rw [if_neg h]; exact propext ⟨fun q => q.elim, fun q => h q.1⟩
theorem wO_map {o : Option β} {f : β → α} : wO (o.map f) Q = wO o fun b => Q (f b) := by cases o <;> rfl
theorem wO_bind {o : Option β} {f : β → Option α} : wO (o.bind f) Q = wO o fun b => wO (f b) Q := by cases o <;> rfl
theorem wB_bl {b : Bool} {Q : Bool → Prop} : wB (.bl b) Q = Q b := rfl
theorem wI_int {b : Int} {Q : Int → Prop} : wI (.int b) Q = Q b := rfl
theorem wIf_t : wIf true A B = A := rfl
theorem wIf_f : wIf false A B = B := rfl
theorem wIf_not {b : Bool} : wIf (!b) A B = wIf b B A := by cases b <;> rfl
theorem wSl_f {t : T} {Q Q' : T → Prop} : wSl (some (some (false, t))) Q Q' = Q t := rfl
theorem wSl_t {t : T} {Q Q' : T → Prop} : wSl (some (some (true, t))) Q Q' = Q' t := rfl
theorem wIns_e {c : Nat} {fs : List (Str × T)} {Q : List (Str × T) → Prop} : wIns c (.ins c fs) Q = Q fs := if_pos rfl
theorem wSlf_e {c : Nat} {fs : List (Str × T)} {Q : List (Str × T) → Prop} : wSlf c (.slf c fs) Q = Q fs := if_pos rfl
theorem wDic_e {fs : List (Key × T)} {Q : List (Key × T) → Prop} : wDic (.dic fs) Q = Q fs := rfl
theorem w2_e {a b : α} {Q : α → α → Prop} : w2 [a, b] Q = Q a b := rfl
theorem wR_nx : wR (.nx ρ) K = K (.nx ρ) := rfl
theorem wR_rt {fr : Bool} {t : T} : wR (.rt fr t ρ) K = K (.rt fr t ρ) := rfl
theorem wR_bk : wR (.bk ρ) K = K (.bk ρ) := rfl
theorem wR_ct : wR (.ct ρ) K = K (.ct ρ) := rfl
theorem wR_ex {c : Nat} {f : Option (Str × T)} : wR (.ex c f ρ) K = K (.ex c f ρ) := rfl
theorem wR_bad : wR .bad K = False := rfl
theorem sqK_nx {b : SM} : sqK b K (.nx ρ) = wS b ρ K := rfl
theorem sqK_rt {b : SM} {fr : Bool} {t : T} : sqK b K (.rt fr t ρ) = K (.rt fr t ρ) := rfl
theorem sqK_bk {b : SM} : sqK b K (.bk ρ) = K (.bk ρ) := rfl
theorem sqK_ct {b : SM} : sqK b K (.ct ρ) = K (.ct ρ) := rfl
theorem sqK_ex {b : SM} {c : Nat} {f : Option (Str × T)} : sqK b K (.ex c f ρ) = K (.ex c f ρ) := rfl
variable {R : Bool → T → DS → Prop} {XF : Nat → Option (Str × T) → DS → Prop}
theorem fnK_nx : fnK R XF (.nx ρ) = R false .non ρ.dr := rfl
theorem fnK_rt {fr : Bool} {t : T} : fnK R XF (.rt fr t ρ) = R fr t ρ.dr := rfl
theorem fnK_ex {c : Nat} {f : Option (Str × T)} : fnK R XF (.ex c f ρ) = XF c f ρ.dr := rfl
/-! expressions -/
theorem wE_C {t : T} : wE (mC t) ρ QT X = QT t ρ := rfl
theorem wE_V {i : Nat} : wE (mV i) ρ QT X = wSl ρ.sl[i]? (fun t => QT t ρ) (fun t => QT t (setSl ρ i (some (false, t)))) := by
  unfold wE mV
  cases h : ρ.sl[i]? with
  | none => rfl
  | some o =>
    cases o with
    | none => rfl
    | some p => obtain ⟨b, t⟩ := p; cases b <;> rfl
theorem wE_L {i : Nat} : wE (mL i) ρ QT X = wSl ρ.sl[i]? (fun t => QT t ρ) (fun t => QT t ρ) := by
  unfold wE mL
  cases h : ρ.sl[i]? with
  | none => rfl
  | some o =>
    cases o with
    | none => rfl
    | some p => obtain ⟨b, t⟩ := p; cases b <;> rfl
theorem wE_bind {m : M β} {k : β → M α} {Q : α → Ev → Prop} : wE (bindM m k) ρ Q X = wE m ρ (fun t ρ1 => wE (k t) ρ1 Q X) X := by
  unfold wE bindM
  cases m ρ <;> rfl
theorem wE_bin {f : T → T → Option T} : wE (mBin f ma mb) ρ QT X = wE ma ρ (fun t ρ1 => wE mb ρ1 (fun u ρ2 => wO (f t u) fun y => QT y ρ2) X) X := by
  unfold wE mBin
  cases ma ρ with
  | bad => rfl
  | ex _ _ _ => rfl
  | ok t ρ1 =>
    simp only []
    cases mb ρ1 with
    | bad => rfl
    | ex _ _ _ => rfl
    | ok u ρ2 => simp only []; cases f t u <;> rfl
theorem wE_un {f : T → Option T} : wE (mUn f m) ρ QT X = wE m ρ (fun t ρ1 => wO (f t) fun y => QT y ρ1) X := by
  unfold mUn
  rw [wE_bind]
  refine wE_ext fun t ρ1 => ?_
  cases f t <;> rfl
theorem wE_call {F : List T → Option T} : wE (mCall F ml) ρ QT X = wE ml ρ (fun t ρ1 => wO (F t) fun y => QT y ρ1) X := by
  unfold mCall
  rw [wE_bind]
  refine wE_ext fun t ρ1 => ?_
  cases F t <;> rfl
theorem wE_it {F : T → Option (List T)} : wE (mIt F m) ρ QL X = wE m ρ (fun t ρ1 => wO (F t) fun y => QL y ρ1) X := by
  unfold mIt
  rw [wE_bind]
  refine wE_ext fun t ρ1 => ?_
  cases F t <;> rfl
theorem wE_itA {F : List T → Option (List T)} : wE (mItA F ml) ρ QL X = wE ml ρ (fun t ρ1 => wO (F t) fun y => QL y ρ1) X := by
  unfold mItA
  rw [wE_bind]
  refine wE_ext fun t ρ1 => ?_
  cases F t <;> rfl
theorem wE_isa {f : Nat → Option Bool} : wE (mIsa f m) ρ QT X = wE m ρ (fun t ρ1 => wO (f (tagT t)) fun b => QT (.bl b) ρ1) X := by
  unfold mIsa
  rw [wE_un]
  refine wE_ext fun t ρ1 => ?_
  cases f (tagT t) <;> rfl
theorem wE_tst : wE (mTst m) ρ QB X = wE m ρ (fun t ρ1 => wB t fun b => QB b ρ1) X := by
  unfold mTst
  rw [wE_bind]
  refine wE_ext fun t ρ1 => ?_
  cases t <;> rfl
theorem wE_yes : wE mYes ρ QB X = QB true ρ := rfl
theorem wE_pure {b : α} {Q : α → Ev → Prop} : wE (fun ρ => .ok b ρ) ρ Q X = Q b ρ := rfl
theorem wE_not {m : M Bool} : wE (mNotB m) ρ QB X = wE m ρ (fun b ρ1 => QB (!b) ρ1) X := by
  unfold mNotB
  rw [wE_bind]
  rfl
theorem wE_andB {m n : M Bool} : wE (mAndB m n) ρ QB X = wE m ρ (fun b ρ1 => wIf b (wE n ρ1 QB X) (QB false ρ1)) X := by
  unfold mAndB
  rw [wE_bind]
  refine wE_ext fun b ρ1 => ?_
  cases b <;> rfl
theorem wE_orB {m n : M Bool} : wE (mOrB m n) ρ QB X = wE m ρ (fun b ρ1 => wIf b (QB true ρ1) (wE n ρ1 QB X)) X := by
  unfold mOrB
  rw [wE_bind]
  refine wE_ext fun b ρ1 => ?_
  cases b <;> rfl
theorem wE_andV : wE (mAndV m n) ρ QT X = wE m ρ (fun t ρ1 => wB t fun b => wIf b (wE n ρ1 QT X) (QT (.bl false) ρ1)) X := by
  unfold mAndV
  rw [wE_bind]
  refine wE_ext fun t ρ1 => ?_
  cases t <;> first | rfl | skip
  rename_i b
  cases b <;> rfl
theorem wE_orV : wE (mOrV m n) ρ QT X = wE m ρ (fun t ρ1 => wB t fun b => wIf b (QT (.bl true) ρ1) (wE n ρ1 QT X)) X := by
  unfold mOrV
  rw [wE_bind]
  refine wE_ext fun t ρ1 => ?_
  cases t <;> first | rfl | skip
  rename_i b
  cases b <;> rfl
theorem wE_ite {c : M Bool} : wE (mIte c m n) ρ QT X = wE c ρ (fun b ρ1 => wIf b (wE m ρ1 QT X) (wE n ρ1 QT X)) X := by
  unfold mIte
  rw [wE_bind]
  refine wE_ext fun b ρ1 => ?_
  cases b <;> rfl
theorem wE_nil : wE mNil ρ QL X = QL [] ρ := rfl
theorem wE_cons : wE (mCons m ml) ρ QL X = wE m ρ (fun t ρ1 => wE ml ρ1 (fun ts ρ2 => QL (t :: ts) ρ2) X) X := by
  unfold mCons
  rw [wE_bind]
  refine wE_ext fun t ρ1 => ?_
  rw [wE_bind]
  rfl
theorem wE_tup : wE (mTup ml) ρ QT X = wE ml ρ (fun ts ρ1 => ts.length ≤ 1000 ∧ QT (.tup ts) ρ1) X := by
  unfold mTup
  rw [wE_bind]
  refine wE_ext fun ts ρ1 => ?_
  unfold wE
  by_cases h : ts.length ≤ 1000 <;> simp only [h, ↓reduceIte, true_and, false_and]
theorem wE_lst : wE (mLst ml) ρ QT X = wE ml ρ (fun ts ρ1 => ts.length ≤ 1000 ∧ QT (.lst ts) ρ1) X := by
  unfold mLst
  rw [wE_bind]
  refine wE_ext fun ts ρ1 => ?_
  unfold wE
  by_cases h : ts.length ≤ 1000 <;> simp only [h, ↓reduceIte, true_and, false_and]
theorem wE_fn {F : TF} : wE (mFn F [] ml) ρ QT X = wE ml ρ (fun ts ρ1 => wF F ρ1.dr ts (fun _ y d => QT y ⟨ρ1.sl, d⟩) (fun c f d => X c f ⟨ρ1.sl, d⟩)) X := by
  unfold wE mFn wF
  cases ml ρ with
  | bad => rfl
  | ex _ _ _ => rfl
  | ok ts ρ1 => simp only [List.append_nil]; cases F ρ1.dr ts <;> rfl
theorem wE_fnF {F : TF} : wE (mFnF F [] ml) ρ QT X = wE ml ρ (fun ts ρ1 => wF F ρ1.dr ts (fun fr y d => fr = true ∧ QT y ⟨ρ1.sl, d⟩) (fun c f d => X c f ⟨ρ1.sl, d⟩)) X := by
  unfold wE mFnF wF
  cases ml ρ with
  | bad => rfl
  | ex _ _ _ => rfl
  | ok ts ρ1 =>
    simp only [List.append_nil]
    cases F ρ1.dr ts with
    | ok fr t d => cases fr <;> simp
    | ex _ _ _ => rfl
    | bad => rfl
theorem wE_prop {c : Nat} {F : TF} : wE (mProp c F m) ρ QT X = wE m ρ (fun t ρ1 => wIns c t fun fs => wF F ρ1.dr [.ins c fs] (fun _ u d => QT u ⟨ρ1.sl, d⟩) noX) X := by
  unfold mProp
  rw [wE_bind]
  refine wE_ext fun t ρ1 => ?_
  cases t <;> first | rfl | skip
  rename_i c' fs
  unfold wIns wE wF
  by_cases h : c' = c
  · subst h
    simp only [if_pos]
    cases F ρ1.dr [.ins c' fs] <;> rfl
  · simp only [if_neg h]
theorem wE_inst {c : Nat} {mn : Str} : wE (mInst c mn mo ml) ρ QL X = wE mo ρ (fun t ρ1 => wIns c t fun fs => fs.lookup mn = none ∧ wE ml ρ1 (fun ts ρ2 => QL (.ins c fs :: ts) ρ2) X) X := by
  unfold mInst
  rw [wE_bind]
  refine wE_ext fun t ρ1 => ?_
  cases t <;> first | rfl | skip
  rename_i c' fs
  unfold wE wIns
  by_cases h : c' = c
  · subst h
    by_cases h2 : fs.lookup mn = none
    · simp only [h2, and_self, ↓reduceIte, true_and]
      unfold bindM
      cases ml ρ1 <;> rfl
    · simp only [h2, and_false, ↓reduceIte, false_and]
  · simp only [h, false_and, ↓reduceIte]
theorem wE_kw {G : List T → List T → List T} : wE (mKw G ml mh) ρ QL X = wE ml ρ (fun ts ρ1 => wE mh ρ1 (fun zs ρ2 => QL (G ts zs) ρ2) X) X := by
  unfold mKw
  rw [wE_bind]
  refine wE_ext fun t ρ1 => ?_
  rw [wE_bind]
  rfl
theorem wE_part {QO : Option Int → Ev → Prop} : wE (mPart m) ρ QO X = wE m ρ (fun t ρ1 => wI t fun i => QO (some i) ρ1) X := by
  unfold mPart
  rw [wE_bind]
  refine wE_ext fun t ρ1 => ?_
  cases t <;> rfl
theorem wE_noPart {QO : Option Int → Ev → Prop} : wE mNoPart ρ QO X = QO none ρ := rfl
theorem wE_sl {pl ph : M (Option Int)} : wE (mSl m pl ph) ρ QT X = wE m ρ (fun t ρ1 => wE pl ρ1 (fun lo ρ2 => wE ph ρ2 (fun hi ρ3 => wO (slT t lo hi) fun y => QT y ρ3) X) X) X := by
  unfold mSl
  rw [wE_bind]
  refine wE_ext fun t ρ1 => ?_
  rw [wE_bind]
  refine wE_ext fun lo ρ2 => ?_
  rw [wE_bind]
  refine wE_ext fun hi ρ3 => ?_
  cases slT t lo hi <;> rfl
theorem wE_chain {f f' : T → T → Option T} : wE (mChain f f' ma mb mc) ρ QT X = wE ma ρ (fun t ρ1 => wE mb ρ1 (fun u ρ2 => wO (f t u) fun y => wB y fun b => wIf b (wE mc ρ2 (fun v ρ3 => wO (f' u v) fun z => QT z ρ3) X) (QT (.bl false) ρ2)) X) X := by
  unfold mChain
  rw [wE_bind]
  refine wE_ext fun t ρ1 => ?_
  rw [wE_bind]
  refine wE_ext fun u ρ2 => ?_
  cases f t u with
  | none => rfl
  | some y =>
    cases y <;> first | rfl | skip
    rename_i b
    cases b with
    | false => rfl
    | true =>
      simp only [wO_some, wB_bl, wIf_t]
      rw [wE_bind]
      refine wE_ext fun v ρ3 => ?_
      cases f' u v <;> rfl
theorem wE_get2 : wE (mGet2 mo mk mx) ρ QT X = wE mo ρ (fun t ρ1 => wDic t fun kts => wE mk ρ1 (fun k ρ2 => wE mx ρ2 (fun y ρ3 => wO (getT kts k y) fun r => QT r ρ3) X) X) X := by
  unfold mGet2
  rw [wE_bind]
  refine wE_ext fun t ρ1 => ?_
  cases t <;> first | rfl | skip
  rw [wDic_e, wE_bind]
  refine wE_ext fun k ρ2 => ?_
  rw [wE_bind]
  refine wE_ext fun y ρ3 => ?_
  cases getT _ k y <;> rfl
theorem wE_wget {kts : List (Str × T)} : wE (mWGet kts mk mx) ρ QT X = wE mk ρ (fun k ρ2 => wE mx ρ2 (fun y ρ3 => wO (wgetT kts k y) fun r => QT r ρ3) X) X := by
  unfold mWGet
  rw [wE_bind]
  refine wE_ext fun k ρ2 => ?_
  rw [wE_bind]
  refine wE_ext fun y ρ3 => ?_
  cases wgetT kts k y <;> rfl
theorem wE_ps0 {QP : List (T × T) → Ev → Prop} : wE (mPairs []) ρ QP X = QP [] ρ := rfl
theorem wE_ps {QP : List (T × T) → Ev → Prop} {r : List (M T × M T)} : wE (mPairs ((mk, mx) :: r)) ρ QP X = wE mk ρ (fun k ρ1 => wE mx ρ1 (fun v ρ2 => wE (mPairs r) ρ2 (fun ps ρ3 => QP ((k, v) :: ps) ρ3) X) X) X := by
  rw [mPairs, wE_bind]
  refine wE_ext fun k ρ1 => ?_
  rw [wE_bind]
  refine wE_ext fun v ρ2 => ?_
  rw [wE_bind]
  rfl
theorem wE_disp {ms : List (M T × M T)} : wE (mDisp ms) ρ QT X = wE (mPairs ms) ρ (fun ps ρ1 => wO (keysT ps) fun kts => kts.length ≤ 15 ∧ QT (.dic (mergeT [] kts)) ρ1) X := by
  unfold mDisp
  rw [wE_bind]
  refine wE_ext fun ps ρ1 => ?_
  unfold wE
  cases keysT ps with
  | none => rfl
  | some kts =>
    simp only [wO_some]
    by_cases h : kts.length ≤ 15 <;> simp only [h, ↓reduceIte, true_and, false_and]
theorem wE_om {S : String} {i : Nat} {F : T → List T → Option (T × T)} : wE (mOM S i F ml) ρ QT X = wSl ρ.sl[i]? (fun _ => False) (fun t0 => tyT S t0 = true ∧ wE ml ρ (fun ts ρ1 => wSl ρ1.sl[i]? (fun _ => False) fun t => wO (F t ts) fun p => QT p.2 (setSl ρ1 i (some (true, p.1)))) X) := by
  unfold mOM
  cases h : ρ.sl[i]? with
  | none => unfold wE; simp only [h]; rfl
  | some o =>
    cases o with
    | none => unfold wE; simp only [h]; rfl
    | some p =>
      obtain ⟨b, t⟩ := p
      cases b with
      | false => unfold wE; simp only [h]; rfl
      | true =>
        unfold wE
        simp only [h, wSl_t]
        by_cases c : tyT S t = true
        · simp only [c, if_true, true_and]
          cases ml ρ with
          | bad => rfl
          | ex _ _ _ => rfl
          | ok ts ρ1 =>
            simp only []
            cases h1 : ρ1.sl[i]? with
            | none => rfl
            | some o1 =>
              cases o1 with
              | none => rfl
              | some p1 =>
                obtain ⟨b1, t1⟩ := p1
                cases b1 with
                | false => rfl
                | true =>
                  simp only [wSl_t]
                  cases F t1 ts with
                  | none => rfl
                  | some q => rfl
        · simp only [c, Bool.false_eq_true, ↓reduceIte, false_and]
theorem wE_lc {pi : M (List T)} {f : Tgt} {c : M Bool} {vs : List Nat} : wE (mLc pi f c m vs) ρ QT X = wE pi ρ (fun ts ρ1 => ts.length ≤ sizeLine ∧ wE (lcL f c m vs ts []) (blank vs ρ1) (fun us ρ2 => QT (.lst us) ρ2) noX) X := by
  unfold mLc
  rw [wE_bind]
  refine wE_ext fun ts ρ1 => ?_
  unfold wE lcK
  by_cases h : ts.length ≤ sizeLine
  · simp only [h, ↓reduceIte, true_and]
    cases lcL f c m vs ts [] (blank vs ρ1) <;> rfl
  · simp only [h, ↓reduceIte, false_and]
/-! the draw -/
theorem wE_dr {i : Nat} {f : Str} : wE (mDr i f) ρ QT X = wSl ρ.sl[i]? (fun t => match t with | .drw => wO (drI f ρ.dr) fun n => QT (.int n) ρ | _ => False) (fun _ => False) := by
  unfold wE mDr
  cases h : ρ.sl[i]? with
  | none => rfl
  | some o =>
    cases o with
    | none => rfl
    | some p =>
      obtain ⟨b, t⟩ := p
      cases b with
      | true => cases t <;> rfl
      | false =>
        cases t <;> first | rfl | skip
        simp only [wSl_f]
        cases drI f ρ.dr <;> rfl
/-! targets -/
variable {QE : Ev → Prop}
theorem wO_gN {i : Nat} {t : T} : wO (gN i t ρ) QE = QE (setSl ρ i (some (false, t))) := rfl
theorem wO_gTn {n : Nat} {fs : Tgts} {ts : List T} : wO (gTn n fs (.tup ts) ρ) QE = (ts.length = n ∧ wO (fs ts ρ) QE) := by
  unfold gTn
  by_cases h : ts.length = n
  · subst h; simp only [↓reduceIte, true_and]
  · simp only [h, ↓reduceIte, false_and]; rfl
theorem wO_gs0 : wO (gsNil [] ρ) QE = QE ρ := rfl
theorem wO_gs {f : Tgt} {fs : Tgts} {t : T} {r : List T} : wO (gsCons f fs (t :: r) ρ) QE = wO (f t ρ) fun ρ1 => wO (fs r ρ1) QE := by
  unfold gsCons
  simp only []
  cases f t ρ <;> rfl
theorem wO_gPut {F : T → T → T → Option T} {i : Nat} {t : T} : wO (gPut F i mk t ρ) QE = wSl ρ.sl[i]? (fun _ => False) (fun _ => wE mk ρ (fun k ρ1 => wSl ρ1.sl[i]? (fun _ => False) fun u => wO (F u k t) fun u' => QE (setSl ρ1 i (some (true, u')))) noX) := by
  unfold gPut
  cases h : ρ.sl[i]? with
  | none => rfl
  | some o =>
    cases o with
    | none => rfl
    | some p =>
      obtain ⟨b, t0⟩ := p
      cases b with
      | false => rfl
      | true =>
        simp only [wSl_t]
        unfold wE
        cases mk ρ with
        | bad => rfl
        | ex _ _ _ => rfl
        | ok k ρ1 =>
          simp only []
          cases h1 : ρ1.sl[i]? with
          | none => rfl
          | some o1 =>
            cases o1 with
            | none => rfl
            | some p1 =>
              obtain ⟨b1, t1⟩ := p1
              cases b1 with
              | false => rfl
              | true =>
                simp only [wSl_t]
                cases F t1 k t <;> rfl
/-! statements -/
variable {a b : SM}
theorem wS_seq : wS (mSeq a b) ρ K = wS a ρ (sqK b K) := by
  unfold wS mSeq
  cases a ρ <;> rfl
theorem wS_skip : wS mSkip ρ K = K (.nx ρ) := rfl
theorem wS_bk : wS (fun ρ => .bk ρ) ρ K = K (.bk ρ) := rfl
theorem wS_ct : wS (fun ρ => .ct ρ) ρ K = K (.ct ρ) := rfl
theorem wS_rtN {fr : Bool} {t : T} : wS (fun ρ => .rt fr t ρ) ρ K = K (.rt fr t ρ) := rfl
theorem wS_no : wS mNoS ρ K = False := rfl
theorem wS_if {c : M Bool} : wS (mIfS c a b) ρ K = wE c ρ (fun t ρ1 => wIf t (wS a ρ1 K) (wS b ρ1 K)) (fun c f ρ1 => K (.ex c f ρ1)) := by
  unfold wS mIfS wE
  cases c ρ with
  | bad => rfl
  | ex _ _ _ => rfl
  | ok t ρ1 => cases t <;> rfl
theorem wS_then {k : T → Ev → SO} : wS (mThen m k) ρ K = wE m ρ (fun t ρ1 => wR (k t ρ1) K) (fun c f ρ1 => K (.ex c f ρ1)) := by
  unfold wS mThen wE
  cases m ρ <;> rfl
theorem wS_asg {f : Tgt} : wS (mAsg m f) ρ K = wE m ρ (fun t ρ1 => wO (f t ρ1) fun ρ2 => K (.nx ρ2)) (fun c f ρ1 => K (.ex c f ρ1)) := by
  unfold mAsg
  rw [wS_then]
  refine wE_ext fun t ρ1 => ?_
  cases f t ρ1 <;> rfl
theorem wS_par {i j : Nat} : wS (mPar2 i j ml) ρ K = wE ml ρ (fun ts ρ1 => w2 ts fun t u => K (.nx (setSl (setSl ρ1 i (some (false, t))) j (some (false, u))))) (fun c f ρ1 => K (.ex c f ρ1)) := by
  unfold wS mPar2 wE
  cases ml ρ with
  | bad => rfl
  | ex _ _ _ => rfl
  | ok ts ρ1 =>
    cases ts with
    | nil => rfl
    | cons t r => cases r with
      | nil => rfl
      | cons u r => cases r <;> rfl
theorem wS_retV {i : Nat} : wS (mRetV i) ρ K = wSl ρ.sl[i]? (fun t => K (.rt false t (setSl ρ i none))) (fun t => K (.rt true t (setSl ρ i none))) := by
  unfold wS mRetV
  cases h : ρ.sl[i]? with
  | none => rfl
  | some o =>
    cases o with
    | none => rfl
    | some p => obtain ⟨b, t⟩ := p; cases b <;> rfl
theorem wS_fld {c i : Nat} {fn : Str} : wS (mFld c i fn m) ρ K = wE m ρ (fun t ρ1 => wSl ρ1.sl[i]? (fun _ => False) fun s => wSlf c s fun fs => fs.length < 1000 ∧ K (.nx (setSl ρ1 i (some (true, .slf c (putFT fn t fs)))))) (fun c f ρ1 => K (.ex c f ρ1)) := by
  unfold wS mFld wE
  cases m ρ with
  | bad => rfl
  | ex _ _ _ => rfl
  | ok t ρ1 =>
    simp only []
    cases h1 : ρ1.sl[i]? with
    | none => rfl
    | some o1 =>
      cases o1 with
      | none => rfl
      | some p1 =>
        obtain ⟨b1, t1⟩ := p1
        cases b1 with
        | false => rfl
        | true =>
          simp only [wSl_t]
          cases t1 <;> first | rfl | skip
          rename_i c' fs
          unfold wSlf
          by_cases h : c' = c
          · subst h
            by_cases h2 : fs.length < 1000
            · simp only [h2, and_self, if_true, true_and, wR_nx]
            · simp only [h2, and_false, if_false, if_true, false_and, wR_bad]
          · simp only [h, false_and, if_false, wR_bad]
theorem wS_for {pi : M (List T)} {f : Tgt} : wS (mFor pi f b) ρ K = wE pi ρ (fun ts ρ1 => wS (forL f b ts) ρ1 K) (fun c f ρ1 => K (.ex c f ρ1)) := by
  unfold wS mFor wE
  cases pi ρ <;> rfl
/-! defs -/
theorem wF_run {n : Nat} {s : SM} {d : DS} {ts : List T} : wF (runF n s) d ts R XF = wS s ⟨startT n ts, d⟩ (fnK R XF) := by
  unfold wF runF wS
  cases s ⟨startT n ts, d⟩ <;> rfl
/-! environments -/
theorem setSl_e {l : List (Option (Bool × T))} {d : DS} {i : Nat} {o : Option (Bool × T)} : setSl ⟨l, d⟩ i o = ⟨l.set i o, d⟩ := rfl
theorem blank_e {l : List (Option (Bool × T))} {d : DS} {vs : List Nat} : blank vs ⟨l, d⟩ = ⟨wipeL l vs, d⟩ := rfl
theorem startT_c {n : Nat} {t : T} {ts : List T} : startT (n + 1) (t :: ts) = some (false, t) :: startT n ts := by
  unfold startT
  rw [List.map_cons, List.length_cons, Nat.add_sub_add_right, List.cons_append]
theorem startT_n {n : Nat} : startT (n + 1) [] = none :: startT n [] := rfl
theorem startT_0 : startT 0 [] = [] := rfl
/-! loops -/
/-- what a loop's turn wants -/
def lpK (J : Ev → Prop) (K : SO → Prop) [Lz J] [Lz K] : SO → Prop := fun r => match r with
  | .nx ρ => J ρ
  | .ct ρ => J ρ
  | .bk ρ => K (.nx ρ)
  | r => K r
theorem lpK_nx {J : Ev → Prop} : lpK J K (.nx ρ) = J ρ := rfl
theorem lpK_ct {J : Ev → Prop} : lpK J K (.ct ρ) = J ρ := rfl
theorem lpK_bk {J : Ev → Prop} : lpK J K (.bk ρ) = K (.nx ρ) := rfl
theorem lpK_rt {J : Ev → Prop} {fr : Bool} {t : T} : lpK J K (.rt fr t ρ) = K (.rt fr t ρ) := rfl
theorem lpK_ex {J : Ev → Prop} {c : Nat} {f : Option (Str × T)} : lpK J K (.ex c f ρ) = K (.ex c f ρ) := rfl
theorem w_for0 {f : Tgt} : wS (forL f b []) ρ K = K (.nx ρ) := rfl
theorem w_forC {f : Tgt} {t : T} {ts : List T} : wS (forL f b (t :: ts)) ρ K = wO (f t ρ) fun ρ1 => wS b ρ1 (lpK (fun ρ2 => wS (forL f b ts) ρ2 K) K) := by
  unfold wS
  rw [forL]
  cases f t ρ with
  | none => rfl
  | some ρ1 =>
    simp only [wO_some]
    cases b ρ1 <;> rfl
/-- a for loop by an invariant of the items left -/
theorem w_for {f : Tgt} (I : List T → Ev → Prop) {ts : List T} (h0 : I ts ρ) (hs : ∀ t r ρ, I (t :: r) ρ → wO (f t ρ) fun ρ1 => wS b ρ1 (lpK (I r) K)) (hd : ∀ ρ, I [] ρ → K (.nx ρ)) : wS (forL f b ts) ρ K := by
  induction ts generalizing ρ with
  | nil => exact hd ρ h0
  | cons t r ih =>
    rw [w_forC]
    have h := hs t r ρ h0
    cases e : f t ρ with
    | none => rw [e] at h; exact h
    | some ρ1 =>
      rw [e] at h
      show wS b ρ1 _
      have h : wS b ρ1 (lpK (I r) K) := h
      unfold wS at h ⊢
      cases e2 : b ρ1 with
      | nx ρ2 => rw [e2] at h; exact ih h
      | ct ρ2 => rw [e2] at h; exact ih h
      | bk ρ2 => rw [e2] at h; exact h
      | rt fr t ρ2 => rw [e2] at h; exact h
      | ex c f ρ2 => rw [e2] at h; exact h
      | bad => rw [e2] at h; exact h
theorem w_lc0 {f : Tgt} {c : M Bool} {vs : List Nat} {acc : List T} : wE (lcL f c m vs [] acc) ρ QL noX = QL acc ρ := rfl
theorem w_lcC {f : Tgt} {c : M Bool} {vs : List Nat} {acc : List T} {t : T} {ts : List T} : wE (lcL f c m vs (t :: ts) acc) ρ QL noX = wO (f t ρ) fun ρ1 => wE c ρ1 (fun k ρ2 => wIf k (wE m ρ2 (fun u ρ3 => wE (lcL f c m vs ts (acc ++ [u])) (blank vs ρ3) QL noX) noX) (wE (lcL f c m vs ts acc) (blank vs ρ2) QL noX)) noX := by
  unfold wE
  rw [lcL]
  cases f t ρ with
  | none => rfl
  | some ρ1 =>
    simp only [wO_some]
    cases c ρ1 with
    | bad => rfl
    | ex _ _ _ => rfl
    | ok k ρ2 =>
      cases k with
      | false => rfl
      | true =>
        simp only [wIf_t]
        cases m ρ2 <;> rfl
/-- a comprehension by an invariant of the items left and what is made -/
theorem w_lc {f : Tgt} {c : M Bool} {vs : List Nat} (I : List T → List T → Ev → Prop) {ts acc : List T} (h0 : I ts acc ρ)
    (hs : ∀ t r acc ρ, I (t :: r) acc ρ → wO (f t ρ) fun ρ1 => wE c ρ1 (fun k ρ2 => wIf k (wE m ρ2 (fun u ρ3 => I r (acc ++ [u]) (blank vs ρ3)) noX) (I r acc (blank vs ρ2))) noX)
    (hd : ∀ acc ρ, I [] acc ρ → QL acc ρ) : wE (lcL f c m vs ts acc) ρ QL noX := by
  induction ts generalizing ρ acc with
  | nil => exact hd acc ρ h0
  | cons t r ih =>
    rw [w_lcC]
    have h := hs t r acc ρ h0
    cases e : f t ρ with
    | none => rw [e] at h; exact h
    | some ρ1 =>
      rw [e] at h
      simp only [wO_some] at h ⊢
      unfold wE at h ⊢
      cases e2 : c ρ1 with
      | bad => simp only [e2] at h
      | ex _ _ _ => simp only [e2] at h; exact False.elim h
      | ok k ρ2 =>
        simp only [e2] at h ⊢
        cases k with
        | false => exact ih h
        | true =>
          simp only [wIf_t] at h ⊢
          cases e3 : m ρ2 with
          | bad => simp only [e3] at h
          | ex _ _ _ => simp only [e3] at h; exact False.elim h
          | ok u ρ3 => simp only [e3] at h ⊢; exact ih h
/-- wishes for more -/
theorem wE_mono {m : M α} {Q Q' : α → Ev → Prop} {X X' : Nat → Option (Str × T) → Ev → Prop} (h : wE m ρ Q X) (h1 : ∀ a ρ, Q a ρ → Q' a ρ) (h2 : ∀ c f ρ, X c f ρ → X' c f ρ) : wE m ρ Q' X' := by
  unfold wE at h ⊢
  cases e : m ρ with
  | bad => rw [e] at h; exact h
  | ex _ _ _ => rw [e] at h; exact h2 _ _ _ h
  | ok u ρ3 => rw [e] at h; exact h1 _ _ h
theorem wF_mono {F : TF} {d : DS} {ts : List T} {R R' : Bool → T → DS → Prop} {X X' : Nat → Option (Str × T) → DS → Prop} (h : wF F d ts R X) (h1 : ∀ fr t d, R fr t d → R' fr t d) (h2 : ∀ c f d, X c f d → X' c f d) : wF F d ts R' X' := by
  unfold wF at h ⊢
  cases e : F d ts with
  | bad => rw [e] at h; exact h
  | ex _ _ _ => rw [e] at h; exact h2 _ _ _ h
  | ok _ _ _ => rw [e] at h; exact h1 _ _ _ h
theorem wS_mono {s : SM} {K K' : SO → Prop} (h : wS s ρ K) (h1 : ∀ r, K r → K' r) : wS s ρ K' := by
  unfold wS at h ⊢
  cases e : s ρ <;> (rw [e] at h; first | exact h1 _ h | exact h)
/-- known outcomes -/
theorem wF_of {F : TF} {d d' : DS} {ts : List T} {fr : Bool} {t : T} (h : F d ts = .ok fr t d') : wF F d ts R XF = R fr t d' := by
  unfold wF
  rw [h]
theorem wF_is {F : TF} {d d' : DS} {ts : List T} {fr : Bool} {t : T} (h : wF F d ts (fun a b c => a = fr ∧ b = t ∧ c = d') noX) : F d ts = .ok fr t d' := by
  unfold wF at h
  cases e : F d ts with
  | bad => rw [e] at h; exact h.elim
  | ex _ _ _ => rw [e] at h; exact h.elim
  | ok _ _ _ => rw [e] at h; obtain ⟨rfl, rfl, rfl⟩ := h; rfl
theorem wE_of {m : M α} {ρ1 : Ev} {t : α} {Q : α → Ev → Prop} (h : m ρ = .ok t ρ1) : wE m ρ Q X = Q t ρ1 := by
  unfold wE
  rw [h]
theorem wS_is {s : SM} {r : SO} (h : wS s ρ (fun q => q = r)) : s ρ = r := by
  unfold wS at h
  cases e : s ρ <;> (rw [e] at h; first | exact h | exact False.elim h)
theorem wIf_i {b : Bool} (h1 : b = true → A) (h2 : b = false → B) : wIf b A B := by
  cases b with
  | true => exact h1 rfl
  | false => exact h2 rfl
end
end MP
end

section
set_option Elab.async false
set_option linter.all false
set_option maxRecDepth 100000
/-! MP31: data; what simp needs of it. -/
namespace MP
open PySem PySem.Spec L2
theorem intT_0 {C : Int → Int → Bool} {g : Int → Int → T} {i j : Int} : intT C g (.int i) (.int j) = if C i j = true then some (g i j) else none := rfl
theorem addT_ll0 {a b : List T} : addT (.lst a) (.lst b) = if a.length + b.length ≤ sizeLine then some (.lst (a ++ b)) else none := rfl
theorem addT_tt0 {a b : List T} : addT (.tup a) (.tup b) = if a.length + b.length ≤ sizeLine then some (.tup (a ++ b)) else none := rfl
theorem addT_ss0 {a b : Str} : addT (.str a) (.str b) = if a.length + b.length ≤ sizeLine then some (.str (a ++ b)) else none := rfl
theorem negI_i {i : Int} : negI (.int i) = some (.int (-i)) := rfl
theorem notV_b {b : Bool} : notV (.bl b) = some (.bl (!b)) := rfl
theorem isT_n {t : T} : isT t .non = some (.bl (isNon t)) := by cases t <;> rfl
theorem isnT_n {t : T} : isnT t .non = some (.bl (!isNon t)) := by cases t <;> rfl
theorem isT_b {a b : Bool} : isT (.bl a) (.bl b) = some (.bl (decide (a = b))) := rfl
theorem isnT_b {a b : Bool} : isnT (.bl a) (.bl b) = some (.bl (!decide (a = b))) := rfl
theorem ixT_l {xs : List T} {i : Int} : ixT (.lst xs) (.int i) = atI xs i := rfl
theorem ixT_t {xs : List T} {i : Int} : ixT (.tup xs) (.int i) = atI xs i := rfl
theorem sbT_l {xs : List T} {i : Int} : sbT (.lst xs) (.int i) = atI xs i := by unfold sbT; rw [ixT_l]; cases atI xs i <;> rfl
theorem sbT_t {xs : List T} {i : Int} : sbT (.tup xs) (.int i) = atI xs i := by unfold sbT; rw [ixT_t]; cases atI xs i <;> rfl
theorem sbT_d {k : List (Key × T)} {u : T} : sbT (.dic k) u = dgT (.dic k) u := by cases u <;> rfl
theorem dgT_s {k : List (Key × T)} {u : Str} : dgT (.dic k) (.str u) = valT k (.inr u) := rfl
theorem dgT_i {k : List (Key × T)} {u : Int} : dgT (.dic k) (.int u) = valT k (.inl u) := rfl
theorem atI_nat {α : Type} {xs : List α} {n : Nat} : atI xs (n : Int) = xs[n]? := by
  unfold atI ixN
  rw [if_pos (Int.natCast_nonneg n)]
  by_cases h : n < xs.length
  · rw [if_pos (by omega)]; rfl
  · rw [if_neg (by omega), List.getElem?_eq_none (by omega)]; rfl
theorem atI_0 {α : Type} {a : α} {r : List α} : atI (a :: r) 0 = some a := atI_nat (n := 0)
theorem atI_1 {α : Type} {a b : α} {r : List α} : atI (a :: b :: r) 1 = some b := atI_nat (n := 1)
theorem atI_2 {α : Type} {a b c : α} {r : List α} : atI (a :: b :: c :: r) 2 = some c := atI_nat (n := 2)
theorem atI_3 {α : Type} {a b c d : α} {r : List α} : atI (a :: b :: c :: d :: r) 3 = some d := atI_nat (n := 3)
theorem atI_4 {α : Type} {a b c d e : α} {r : List α} : atI (a :: b :: c :: d :: e :: r) 4 = some e := atI_nat (n := 4)
theorem atI_m1 {α : Type} {xs : List α} : atI xs (-1) = xs[xs.length - 1]? := by
  unfold atI ixN
  rw [if_neg (by decide)]
  cases xs with
  | nil => rfl
  | cons a r =>
    have e : ((-1 : Int) + ((a :: r).length : Nat)).toNat = (a :: r).length - 1 := by rw [List.length_cons]; omega
    rw [if_pos (by rw [List.length_cons]; omega), e]
    rfl
theorem isNon_n : isNon .non = true := rfl
theorem isNon_i {i : Int} : isNon (.int i) = false := rfl
theorem isNon_b {i : Bool} : isNon (.bl i) = false := rfl
theorem isNon_s {i : Str} : isNon (.str i) = false := rfl
theorem isNon_t {i : List T} : isNon (.tup i) = false := rfl
theorem isNon_l {i : List T} : isNon (.lst i) = false := rfl
theorem isNon_d {i : List (Key × T)} : isNon (.dic i) = false := rfl
theorem isNon_c {c : Nat} {i : List (Str × T)} : isNon (.ins c i) = false := rfl
theorem lenF_l {xs : List T} : lenF [.lst xs] = some (.int xs.length) := rfl
theorem lenF_t {xs : List T} : lenF [.tup xs] = some (.int xs.length) := rfl
theorem lenF_d {xs : List (Key × T)} : lenF [.dic xs] = some (.int xs.length) := rfl
theorem lenF_s0 {s : Str} : lenF [.str s] = if s.length ≤ sizeLine then some (.int s.length) else none := rfl
theorem absF_i {i : Int} : absF [.int i] = some (.int (if i < 0 then -i else i)) := rfl
theorem intF_i {i : Int} : intF [.int i] = some (.int i) := rfl
theorem intF_b {k : Bool} : intF [.bl k] = some (.int (if k then 1 else 0)) := rfl
theorem maxF_ii {i j : Int} : maxF [.int i, .int j] = some (.int (max i j)) := by
  have e : (if j > i then j else i) = max i j := by split <;> omega
  show some (T.int (if j > i then j else i)) = _
  rw [e]
theorem minF_ii {i j : Int} : minF [.int i, .int j] = some (.int (min i j)) := by
  have e : (if j < i then j else i) = min i j := by split <;> omega
  show some (T.int (if j < i then j else i)) = _
  rw [e]
theorem allF_m {ns : List Bool} : allF [.lst (ns.map T.bl)] = some (.bl (ns.all id)) := by show (blsT _).map _ = _; rw [blsT_map]; rfl
theorem anyF_m {ns : List Bool} : anyF [.lst (ns.map T.bl)] = some (.bl (ns.any id)) := by show (blsT _).map _ = _; rw [blsT_map]; rfl
theorem sumF_m {ns : List Int} : sumF [.lst (ns.map T.int)] = some (.int ns.sum) := by show (intsT _).map _ = _; rw [intsT_map]; rfl
theorem maxF_m {ns : List Int} : maxF [.lst (ns.map T.int)] = if ns.isEmpty = true then none else some (.int (maxOf ns)) := by show (intsT _).bind _ = _; rw [intsT_map]; rfl
theorem minF_m {ns : List Int} : minF [.lst (ns.map T.int)] = if ns.isEmpty = true then none else some (.int (minOf ns)) := by show (intsT _).bind _ = _; rw [intsT_map]; rfl
theorem sortedF_m {ns : List Int} : sortedF [.lst (ns.map T.int)] = some (.lst ((sortI ns).map T.int)) := by show (intsT _).map _ = _; rw [intsT_map]; rfl
theorem maxF_l2 {i j : Int} : maxF [.lst [.int i, .int j]] = some (.int (max i j)) := rfl
theorem minF_l2 {i j : Int} : minF [.lst [.int i, .int j]] = some (.int (min i j)) := rfl
theorem tupleF_l {xs : List T} : tupleF [.lst xs] = some (.tup xs) := rfl
theorem tupleF_t {xs : List T} : tupleF [.tup xs] = some (.tup xs) := rfl
theorem listF_l {xs : List T} : listF [.lst xs] = some (.lst xs) := rfl
theorem listF_t {xs : List T} : listF [.tup xs] = some (.lst xs) := rfl
theorem dictF_d {xs : List (Key × T)} : dictF [.dic xs] = some (.dic xs) := rfl
theorem divmodF_0 {i j : Int} : divmodF [.int i, .int j] = if 0 < j ∧ j < 1073741824 then some (.tup [.int (i / j), .int (i % j)]) else none := rfl
theorem seqT_l {xs : List T} : seqT (.lst xs) = some xs := rfl
theorem seqT_t {xs : List T} : seqT (.tup xs) = some xs := rfl
theorem enF_l {xs : List T} : enF [.lst xs] = some (enT xs) := rfl
theorem zpF_l {xs ys : List T} : zpF [.lst xs, .lst ys] = some (zpT xs ys) := rfl
theorem zpF_t {xs ys : List T} : zpF [.tup xs, .tup ys] = some (zpT xs ys) := rfl
theorem rnF1_0 {j : Int} : rnF1 [.int j] = if -(2 ^ 62) ≤ j ∧ j < 2 ^ 62 then some (ranT 0 j.toNat) else none := rfl
theorem rnF2_0 {i j : Int} : rnF2 [.int i, .int j] = if -(2 ^ 62) ≤ i ∧ i < 2 ^ 62 ∧ -(2 ^ 62) ≤ j ∧ j < 2 ^ 62 then some (ranT i (j - i).toNat) else none := rfl
theorem slT_l {xs : List T} {lo hi : Option Int} : slT (.lst xs) lo hi = some (.lst (cutT xs lo hi)) := rfl
theorem slT_t {xs : List T} {lo hi : Option Int} : slT (.tup xs) lo hi = some (.tup (cutT xs lo hi)) := rfl
theorem revF_l {xs : List T} : revF (.lst xs) = some (.lst xs.reverse) := rfl
theorem apF_0 {ts : List T} {t : T} : apF (.lst ts) [t] = if ts.length < 1000000 then some (.lst (ts ++ [t]), .non) else none := rfl
theorem insF_0 {ts : List T} {i : Int} {t : T} : insF (.lst ts) [.int i, t] = if ts.length < 1000000 ∧ 0 ≤ i ∧ i < 2 ^ 63 then some (.lst (ts.take i.toNat ++ [t] ++ ts.drop i.toNat), .non) else none := rfl
theorem popF_l {ts : List T} : popF (.lst ts) [] = (ts[ts.length - 1]?).map fun t => (.lst ts.dropLast, t) := rfl
theorem putD_s0 {kts : List (Key × T)} {k : Str} {t : T} : putD (.dic kts) (.str k) t = if kts.length < 1000000 then some (.dic (putT kts (.inr k) t)) else none := rfl
theorem putD_i0 {kts : List (Key × T)} {k : Int} {t : T} : putD (.dic kts) (.int k) t = if kts.length < 1000000 then some (.dic (putT kts (.inl k) t)) else none := rfl
theorem putL_i {ts : List T} {k : Int} {t : T} : putL (.lst ts) (.int k) t = (ixN ts.length k).map fun j => .lst (ts.set j t) := rfl
theorem tyT_l {ts : List T} : tyT "list" (.lst ts) = true := rfl
theorem tyT_d {ts : List (Key × T)} : tyT "dict" (.dic ts) = true := rfl
theorem wgetT_s {kts : List (Str × T)} {z : Str} {x : T} : wgetT kts (.str z) x = some ((kts.lookup z).getD x) := rfl
theorem tagT_n : tagT .non = 0 := rfl
theorem tagT_b {b : Bool} : tagT (.bl b) = 1 := rfl
theorem tagT_i {b : Int} : tagT (.int b) = 2 := rfl
theorem tagT_s {b : Str} : tagT (.str b) = 3 := rfl
theorem tagT_t {b : List T} : tagT (.tup b) = 4 := rfl
theorem tagT_l {b : List T} : tagT (.lst b) = 5 := rfl
theorem tagT_d {b : List (Key × T)} : tagT (.dic b) = 6 := rfl
theorem keysT_0 : keysT [] = some [] := rfl
theorem keysT_s {k : Str} {v : T} {r : List (T × T)} : keysT ((.str k, v) :: r) = (keysT r).map fun r => (.inr k, v) :: r := by rw [keysT]; cases keysT r <;> rfl
theorem keysT_i {k : Int} {v : T} {r : List (T × T)} : keysT ((.int k, v) :: r) = (keysT r).map fun r => (.inl k, v) :: r := by rw [keysT]; cases keysT r <;> rfl
theorem eqT_s {s t : Str} : eqT (.str s) (.str t) = some (.bl (decide (s = t))) := rfl
theorem neT_s {s t : Str} : neT (.str s) (.str t) = some (.bl (!decide (s = t))) := rfl
theorem eqT_sn {s : Str} : eqT (.str s) .non = some (.bl false) := rfl
theorem eqT_ns {s : Str} : eqT .non (.str s) = some (.bl false) := rfl
theorem neT_sn {s : Str} : neT (.str s) .non = some (.bl true) := rfl
theorem neT_ns {s : Str} : neT .non (.str s) = some (.bl true) := rfl
/-- equal data -/
theorem eqT_d {t u : T} (h : eqS t u = none) (ht : dat t = true) (hu : dat u = true) : eqT t u = some (.bl (eqB t u)) := by
  unfold eqT
  rw [h]
  show eqDT t u = _
  unfold eqDT
  rw [ht, hu]
  rfl
theorem neT_d {t u : T} (h : eqS t u = none) (ht : dat t = true) (hu : dat u = true) : neT t u = some (.bl (!eqB t u)) := by
  unfold neT
  rw [h]
  show neDT t u = _
  unfold neDT
  rw [ht, hu]
  rfl
theorem eqB_refl {t : T} (h : dat t = true) : eqB t t = true := SeqAt.eqv_refl _ (SeqAt.canLay_of_shaped h)
theorem reprF_e {t : T} : reprF [t] = if shT t = true then some (.str (PyData.shown (toPD t))) else none := rfl
theorem sortSetF_m {ns : List Int} : sortSetF (.lst (ns.map T.int)) = sortSetF (.lst (ns.map T.int)) := rfl

theorem addT_ll {a b : List T} (h : a.length + b.length ≤ 16777216) : addT (.lst a) (.lst b) = some (.lst (a ++ b)) := if_pos h
theorem addT_tt {a b : List T} (h : a.length + b.length ≤ 16777216) : addT (.tup a) (.tup b) = some (.tup (a ++ b)) := if_pos h
theorem rnF1_i {j : Int} (h : -4611686018427387904 ≤ j) (h2 : j < 4611686018427387904) : rnF1 [.int j] = some (ranT 0 j.toNat) := if_pos ⟨h, h2⟩
theorem rnF2_i {i j : Int} (h : -4611686018427387904 ≤ i) (h2 : i < 4611686018427387904) (h3 : -4611686018427387904 ≤ j) (h4 : j < 4611686018427387904) : rnF2 [.int i, .int j] = some (ranT i (j - i).toNat) := if_pos ⟨h, h2, h3, h4⟩
theorem apF_l {ts : List T} {t : T} (h : ts.length < 1000000) : apF (.lst ts) [t] = some (.lst (ts ++ [t]), .non) := if_pos h
theorem insF_l {ts : List T} {i : Int} {t : T} (h : ts.length < 1000000) (h1 : 0 ≤ i) (h2 : i < 9223372036854775808) : insF (.lst ts) [.int i, t] = some (.lst (ts.take i.toNat ++ [t] ++ ts.drop i.toNat), .non) := if_pos ⟨h, h1, h2⟩
theorem putD_s {kts : List (Key × T)} {k : Str} {t : T} (h : kts.length < 1000000) : putD (.dic kts) (.str k) t = some (.dic (putT kts (.inr k) t)) := if_pos h
theorem putD_i {kts : List (Key × T)} {k : Int} {t : T} (h : kts.length < 1000000) : putD (.dic kts) (.int k) t = some (.dic (putT kts (.inl k) t)) := if_pos h
theorem divmodF_i {i j : Int} (h : 0 < j) (h2 : j < 1073741824) : divmodF [.int i, .int j] = some (.tup [.int (i / j), .int (i % j)]) := if_pos ⟨h, h2⟩
theorem intT_yes {g : Int → Int → T} {i j : Int} : intT cYes g (.int i) (.int j) = some (g i j) := rfl
theorem cMul_ok {i j : Int} (h1 : -18446744073709551616 < i) (h2 : i < 18446744073709551616) (h3 : -18446744073709551616 < j) (h4 : j < 18446744073709551616) : cMul i j = true := by
  refine cMul_of2 (a := 64) (b := 64) (PyProof.Rows.intBits_le ?_) (PyProof.Rows.intBits_le ?_) (by decide)
  · have : (2 : Nat) ^ 64 = 18446744073709551616 := rfl
    omega
  · have : (2 : Nat) ^ 64 = 18446744073709551616 := rfl
    omega
theorem intT_mul {g : Int → Int → T} {i j : Int} (h1 : -18446744073709551616 < i) (h2 : i < 18446744073709551616) (h3 : -18446744073709551616 < j) (h4 : j < 18446744073709551616) : intT cMul g (.int i) (.int j) = some (g i j) := if_pos (cMul_ok h1 h2 h3 h4)
theorem intT_mod {g : Int → Int → T} {i j : Int} (h1 : 0 < j) : intT cMod g (.int i) (.int j) = some (g i j) := if_pos (decide_eq_true h1)
theorem intT_div {g : Int → Int → T} {i j : Int} (h1 : 0 < j) (h2 : j < 18446744073709551616) : intT cDiv g (.int i) (.int j) = some (g i j) := by
  refine if_pos (decide_eq_true ⟨h1, ?_⟩)
  have h3 : j.natAbs < 2 ^ 64 := by have : (2 : Nat) ^ 64 = 18446744073709551616 := rfl; omega
  have h4 : j.natAbs.log2 < 64 := by
    by_cases z : j.natAbs = 0
    · omega
    · exact (Nat.log2_lt z).mpr h3
  omega
/-- a comprehension that maps -/
theorem w_lcMap {f : Tgt} {c : M Bool} {m : M T} {vs : List Nat} {ρ : Ev} {QL : List T → Ev → Prop} (g : T → T) {ts acc : List T}
    (h : ∀ t ∈ ts, wO (f t ρ) fun ρ1 => wE c ρ1 (fun k ρ2 => wIf k (wE m ρ2 (fun u ρ3 => u = g t ∧ blank vs ρ3 = ρ) noX) False) noX) (q : QL (acc ++ ts.map g) ρ) : wE (lcL f c m vs ts acc) ρ QL noX := by
  refine w_lc (fun r acc' ρ' => ρ' = ρ ∧ (∀ t ∈ r, t ∈ ts) ∧ acc' ++ r.map g = acc ++ ts.map g) ⟨rfl, fun _ h => h, rfl⟩ ?_ ?_
  · rintro t r acc' ρ' ⟨rfl, h1, h2⟩
    have h3 := h t (h1 t (List.mem_cons_self ..))
    cases e : f t ρ' with
    | none => rw [e] at h3; exact h3
    | some ρ1 =>
      rw [e] at h3
      have h3 : wE c ρ1 _ _ := h3
      show wE c ρ1 _ _
      refine wE_mono h3 (fun k ρ2 h4 => ?_) fun _ _ _ z => z
      cases k with
      | false => exact h4.elim
      | true =>
        have h4 : wE m ρ2 _ _ := h4
        show wE m ρ2 _ _
        refine wE_mono h4 (fun u ρ3 h5 => ?_) fun _ _ _ z => z
        obtain ⟨rfl, h6⟩ := h5
        refine ⟨h6, fun x hx => h1 x (List.mem_cons_of_mem _ hx), ?_⟩
        rw [← h2, List.map_cons, List.append_assoc]
        rfl
  · rintro acc' ρ' ⟨rfl, h1, h2⟩
    rw [List.map_nil, List.append_nil] at h2
    rw [h2]
    exact q
/-- .. that keeps some -/
theorem w_lcFilter {f : Tgt} {c : M Bool} {m : M T} {vs : List Nat} {ρ : Ev} {QL : List T → Ev → Prop} (p : T → Bool) (g : T → T) {ts acc : List T}
    (h : ∀ t ∈ ts, wO (f t ρ) fun ρ1 => wE c ρ1 (fun k ρ2 => k = p t ∧ wIf k (wE m ρ2 (fun u ρ3 => u = g t ∧ blank vs ρ3 = ρ) noX) (blank vs ρ2 = ρ)) noX) (q : QL (acc ++ (ts.filter p).map g) ρ) : wE (lcL f c m vs ts acc) ρ QL noX := by
  refine w_lc (fun r acc' ρ' => ρ' = ρ ∧ (∀ t ∈ r, t ∈ ts) ∧ acc' ++ (r.filter p).map g = acc ++ (ts.filter p).map g) ⟨rfl, fun _ h => h, rfl⟩ ?_ ?_
  · rintro t r acc' ρ' ⟨rfl, h1, h2⟩
    have h3 := h t (h1 t (List.mem_cons_self ..))
    cases e : f t ρ' with
    | none => rw [e] at h3; exact h3
    | some ρ1 =>
      rw [e] at h3
      have h3 : wE c ρ1 _ _ := h3
      show wE c ρ1 _ _
      refine wE_mono h3 (fun k ρ2 h4 => ?_) fun _ _ _ z => z
      obtain ⟨h5, h4⟩ := h4
      cases k with
      | false =>
        refine ⟨h4, fun x hx => h1 x (List.mem_cons_of_mem _ hx), ?_⟩
        rw [← h2, List.filter_cons_of_neg (by rw [← h5]; decide)]
      | true =>
        have h4 : wE m ρ2 _ _ := h4
        show wE m ρ2 _ _
        refine wE_mono h4 (fun u ρ3 h6 => ?_) fun _ _ _ z => z
        obtain ⟨rfl, h7⟩ := h6
        refine ⟨h7, fun x hx => h1 x (List.mem_cons_of_mem _ hx), ?_⟩
        rw [← h2, List.filter_cons_of_pos h5.symm, List.map_cons, List.append_assoc]
        rfl
  · rintro acc' ρ' ⟨rfl, h1, h2⟩
    rw [List.filter_nil, List.map_nil, List.append_nil] at h2
    rw [h2]
    exact q
/-- ints from a to b - 1 -/
def rng (a b : Int) : List Int := (List.range (b - a).toNat).map fun i => a + (i : Nat)
theorem ranT_rng (a b : Int) : ranT a (b - a).toNat = (rng a b).map T.int := by
  unfold ranT rng
  rw [List.map_map]
  rfl
theorem ranT_rng0 (b : Int) : ranT 0 b.toNat = (rng 0 b).map T.int := by
  have := ranT_rng 0 b
  rwa [Int.sub_zero] at this
theorem mem_rng {a b x : Int} : x ∈ rng a b ↔ a ≤ x ∧ x < b := by
  unfold rng
  rw [List.mem_map]
  constructor
  · rintro ⟨i, hi, rfl⟩
    have := List.mem_range.mp hi
    omega
  · rintro ⟨h1, h2⟩
    exact ⟨(x - a).toNat, List.mem_range.mpr (by omega), by omega⟩
theorem rng_length {a b : Int} : (rng a b).length = (b - a).toNat := by unfold rng; rw [List.length_map, List.length_range]
/-- a comprehension over range(a, b) that makes ints -/
theorem w_lcR {f : Tgt} {c : M Bool} {m : M T} {vs : List Nat} {ρ : Ev} {QL : List T → Ev → Prop} (g : Int → Int) {a b : Int} {acc : List T}
    (h : ∀ i : Int, a ≤ i → i < b → wO (f (.int i) ρ) fun ρ1 => wE c ρ1 (fun k ρ2 => wIf k (wE m ρ2 (fun u ρ3 => u = .int (g i) ∧ blank vs ρ3 = ρ) noX) False) noX) (q : QL (acc ++ ((rng a b).map g).map T.int) ρ) : wE (lcL f c m vs (ranT a (b - a).toNat) acc) ρ QL noX := by
  rw [ranT_rng]
  refine w_lcMap (fun t => match t with | .int i => .int (g i) | t => t) (fun t ht => ?_) ?_
  · obtain ⟨i, hi, rfl⟩ := List.mem_map.mp ht
    obtain ⟨h1, h2⟩ := mem_rng.mp hi
    exact h i h1 h2
  · rw [List.map_map] at q ⊢
    exact q
theorem sizeLine_e : sizeLine = 16777216 := rfl
/-! an __init__ -/
def slfW (o : Option (Option (Bool × T))) (Q : Nat → List (Str × T) → Prop) [Lz Q] : Prop := match o with
  | some (some (true, .slf c fs)) => Q c fs
  | _ => False
theorem slfW_e {c : Nat} {fs : List (Str × T)} {Q : Nat → List (Str × T) → Prop} : slfW (some (some (true, .slf c fs))) Q = Q c fs := rfl
def inK (R : Bool → T → DS → Prop) (X : Nat → Option (Str × T) → DS → Prop) [Lz R] [Lz X] : SO → Prop := fun r => match r with
  | .nx ρ => slfW ρ.sl[0]? fun c fs => R true (.ins c fs) ρ.dr
  | .rt false .non ρ => slfW ρ.sl[0]? fun c fs => R true (.ins c fs) ρ.dr
  | .ex c f ρ => X c f ρ.dr
  | _ => False
section
variable {R : Bool → T → DS → Prop} {XF : Nat → Option (Str × T) → DS → Prop} {ρ : Ev}
theorem inK_nx : inK R XF (.nx ρ) = slfW ρ.sl[0]? fun c fs => R true (.ins c fs) ρ.dr := rfl
theorem inK_ex {c : Nat} {f : Option (Str × T)} : inK R XF (.ex c f ρ) = XF c f ρ.dr := rfl
theorem wF_init {n c : Nat} {s : SM} {d : DS} {ts : List T} : wF (runI n c s) d ts R XF = wS s ⟨some (true, .slf c []) :: startT (n - 1) ts, d⟩ (inK R XF) := by
  unfold wF runI wS
  cases s ⟨some (true, .slf c []) :: startT (n - 1) ts, d⟩ with
  | nx ρ =>
    simp only [wR_nx, inK_nx]
    cases h : ρ.sl[0]? with
    | none => rfl
    | some o =>
      cases o with
      | none => rfl
      | some p =>
        obtain ⟨b, t⟩ := p
        cases b with
        | false => rfl
        | true => cases t <;> rfl
  | rt fr t ρ =>
    cases fr with
    | true => rfl
    | false =>
      cases t <;> first | rfl | skip
      show (match slfT ρ.sl[0]? ρ.dr with | .ok fr t d' => R fr t d' | .ex c f d' => XF c f d' | .bad => False) = slfW ρ.sl[0]? fun c fs => R true (.ins c fs) ρ.dr
      cases h : ρ.sl[0]? with
      | none => rfl
      | some o =>
        cases o with
        | none => rfl
        | some p =>
          obtain ⟨b, t⟩ := p
          cases b with
          | false => rfl
          | true => cases t <;> rfl
  | bk ρ => rfl
  | ct ρ => rfl
  | ex c f ρ => rfl
  | bad => rfl
end
theorem wipeL_0 {l : List (Option (Bool × T))} : wipeL l [] = l := rfl
theorem wipeL_c {l : List (Option (Bool × T))} {v : Nat} {vs : List Nat} : wipeL l (v :: vs) = (wipeL l vs).set v none := rfl
theorem isaB_1_2_0 : isaB [1, 2] 0 = some false := rfl
theorem isaB_1_2_1 : isaB [1, 2] 1 = some true := rfl
theorem isaB_1_2_2 : isaB [1, 2] 2 = some true := rfl
theorem isaB_1_2_3 : isaB [1, 2] 3 = some false := rfl
theorem isaB_1_2_4 : isaB [1, 2] 4 = some false := rfl
theorem isaB_1_2_5 : isaB [1, 2] 5 = some false := rfl
theorem isaB_1_2_6 : isaB [1, 2] 6 = some false := rfl
theorem isaB_1_0 : isaB [1] 0 = some false := rfl
theorem isaB_1_1 : isaB [1] 1 = some true := rfl
theorem isaB_1_2 : isaB [1] 2 = some false := rfl
theorem isaB_1_3 : isaB [1] 3 = some false := rfl
theorem isaB_1_4 : isaB [1] 4 = some false := rfl
theorem isaB_1_5 : isaB [1] 5 = some false := rfl
theorem isaB_1_6 : isaB [1] 6 = some false := rfl
theorem isaB_3_0 : isaB [3] 0 = some false := rfl
theorem isaB_3_1 : isaB [3] 1 = some false := rfl
theorem isaB_3_2 : isaB [3] 2 = some false := rfl
theorem isaB_3_3 : isaB [3] 3 = some true := rfl
theorem isaB_3_4 : isaB [3] 4 = some false := rfl
theorem isaB_3_5 : isaB [3] 5 = some false := rfl
theorem isaB_3_6 : isaB [3] 6 = some false := rfl
theorem isaB_4_0 : isaB [4] 0 = some false := rfl
theorem isaB_4_1 : isaB [4] 1 = some false := rfl
theorem isaB_4_2 : isaB [4] 2 = some false := rfl
theorem isaB_4_3 : isaB [4] 3 = some false := rfl
theorem isaB_4_4 : isaB [4] 4 = some true := rfl
theorem isaB_4_5 : isaB [4] 5 = some false := rfl
theorem isaB_4_6 : isaB [4] 6 = some false := rfl
theorem isaB_5_0 : isaB [5] 0 = some false := rfl
theorem isaB_5_1 : isaB [5] 1 = some false := rfl
theorem isaB_5_2 : isaB [5] 2 = some false := rfl
theorem isaB_5_3 : isaB [5] 3 = some false := rfl
theorem isaB_5_4 : isaB [5] 4 = some false := rfl
theorem isaB_5_5 : isaB [5] 5 = some true := rfl
theorem isaB_5_6 : isaB [5] 6 = some false := rfl
theorem isaB_6_0 : isaB [6] 0 = some false := rfl
theorem isaB_6_1 : isaB [6] 1 = some false := rfl
theorem isaB_6_2 : isaB [6] 2 = some false := rfl
theorem isaB_6_3 : isaB [6] 3 = some false := rfl
theorem isaB_6_4 : isaB [6] 4 = some false := rfl
theorem isaB_6_5 : isaB [6] 5 = some false := rfl
theorem isaB_6_6 : isaB [6] 6 = some true := rfl
theorem isaB_4_5_0 : isaB [4, 5] 0 = some false := rfl
theorem isaB_4_5_1 : isaB [4, 5] 1 = some false := rfl
theorem isaB_4_5_2 : isaB [4, 5] 2 = some false := rfl
theorem isaB_4_5_3 : isaB [4, 5] 3 = some false := rfl
theorem isaB_4_5_4 : isaB [4, 5] 4 = some true := rfl
theorem isaB_4_5_5 : isaB [4, 5] 5 = some true := rfl
theorem isaB_4_5_6 : isaB [4, 5] 6 = some false := rfl
end MP
end

section
set_option Elab.async false
set_option linter.all false
set_option maxRecDepth 100000
/-! MP32: loops over ranges; dicts of ints as sets; sorted sets. -/
namespace MP
open PySem PySem.Spec L2
theorem rng_cons {a c : Int} (h : a < c) : rng a c = a :: rng (a + 1) c := by
  unfold rng
  obtain ⟨n, hn⟩ : ∃ n : Nat, (c - a).toNat = n + 1 := ⟨(c - a).toNat - 1, by omega⟩
  have hn2 : (c - (a + 1)).toNat = n := by omega
  rw [hn, hn2, List.range_succ_eq_map, List.map_cons, List.map_map]
  congr 1
  · simp
  · apply List.map_congr_left
    intro i _
    simp only [Function.comp, Nat.succ_eq_add_one, Int.natCast_add, Int.natCast_one]
    omega
theorem rng_nil {a c : Int} (h : c ≤ a) : rng a c = [] := by
  unfold rng
  rw [show (c - a).toNat = 0 by omega]
  rfl
theorem w_forR {f : Tgt} {b : SM} {K : SO → Prop} {ρ : Ev} (I : Int → Ev → Prop) {a c : Int} (hac : a ≤ c) (h0 : I a ρ)
    (hs : ∀ i ρ, a ≤ i → i < c → I i ρ → wO (f (.int i) ρ) fun ρ1 => wS b ρ1 (lpK (I (i + 1)) K)) (hd : ∀ ρ, I c ρ → K (.nx ρ)) : wS (forL f b (ranT a (c - a).toNat)) ρ K := by
  rw [ranT_rng]
  refine w_for (fun ts ρ => ∃ i, a ≤ i ∧ i ≤ c ∧ ts = (rng i c).map T.int ∧ I i ρ) ⟨a, Int.le_refl _, hac, rfl, h0⟩ ?_ ?_
  · rintro t r ρ ⟨i, i0, i1, e, h⟩
    by_cases hi : i < c
    · rw [rng_cons hi, List.map_cons] at e
      cases e
      have h2 := hs i ρ i0 hi h
      cases e2 : f (.int i) ρ with
      | none => rw [e2] at h2; exact h2
      | some ρ1 =>
        rw [e2] at h2
        have h2 : wS b ρ1 _ := h2
        refine wS_mono h2 fun q hq => ?_
        cases q with
        | nx ρ2 => exact ⟨i + 1, by omega, by omega, rfl, hq⟩
        | ct ρ2 => exact ⟨i + 1, by omega, by omega, rfl, hq⟩
        | bk ρ2 => exact hq
        | rt fr t ρ2 => exact hq
        | ex c f ρ2 => exact hq
        | bad => exact hq
    · rw [rng_nil (by omega)] at e
      cases e
  · rintro ρ ⟨i, i0, i1, e, h⟩
    by_cases hi : i < c
    · rw [rng_cons hi, List.map_cons] at e
      cases e
    · have : i = c := by omega
      subst this
      exact hd ρ h
/-- the loop over range(n) -/
theorem w_forR0 {f : Tgt} {b : SM} {K : SO → Prop} {ρ : Ev} (I : Int → Ev → Prop) {c : Int} (hac : 0 ≤ c) (h0 : I 0 ρ)
    (hs : ∀ i ρ, 0 ≤ i → i < c → I i ρ → wO (f (.int i) ρ) fun ρ1 => wS b ρ1 (lpK (I (i + 1)) K)) (hd : ∀ ρ, I c ρ → K (.nx ρ)) : wS (forL f b (ranT 0 c.toNat)) ρ K := by
  have := w_forR (f := f) (b := b) I hac h0 hs hd
  rwa [Int.sub_zero] at this
/-! a dict of ints whose values are all True -/
def kd (ks : List Int) : List (Key × T) := ks.map fun k => (.inl k, .bl true)
def insK (ks : List Int) (k : Int) : List Int := if k ∈ ks then ks else ks ++ [k]
theorem mem_insK {ks : List Int} {k x : Int} : x ∈ insK ks k ↔ x ∈ ks ∨ x = k := by
  unfold insK
  by_cases h : k ∈ ks
  · rw [if_pos h]
    exact ⟨.inl, fun z => z.elim id fun z => z ▸ h⟩
  · rw [if_neg h, List.mem_append, List.mem_singleton]
theorem nodup_insK {ks : List Int} {k : Int} (h : ks.Nodup) : (insK ks k).Nodup := by
  unfold insK
  by_cases c : k ∈ ks
  · rw [if_pos c]; exact h
  · rw [if_neg c]
    exact List.nodup_append.mpr ⟨h, List.nodup_cons.mpr ⟨by simp, List.nodup_nil⟩, fun a ha b hb => by
      rw [List.mem_singleton.mp hb]
      exact fun z => c (z ▸ ha)⟩
theorem putT_kd {ks : List Int} {k : Int} : putT (kd ks) (.inl k) (.bl true) = kd (insK ks k) := by
  unfold putT insK
  by_cases c : k ∈ ks
  · have h : ((kd ks).any fun kv => decide (kv.1 = .inl k)) = true := by
      rw [List.any_eq_true]
      exact ⟨(.inl k, .bl true), List.mem_map.mpr ⟨k, c, rfl⟩, decide_eq_true rfl⟩
    rw [if_pos h, if_pos c]
    unfold kd
    rw [List.map_map]
    apply List.map_congr_left
    intro i _
    simp only [Function.comp]
    split <;> rfl
  · have h : ¬ ((kd ks).any fun kv => decide (kv.1 = .inl k)) = true := by
      rw [List.any_eq_true]
      rintro ⟨x, hx, e⟩
      obtain ⟨i, hi, rfl⟩ := List.mem_map.mp hx
      have e := of_decide_eq_true e
      cases e
      exact c hi
    rw [if_neg h, if_neg c]
    unfold kd
    rw [List.map_append]
    rfl
theorem kd_length {ks : List Int} : (kd ks).length = ks.length := List.length_map ..
theorem nodup_le : ∀ {ks L : List Int}, ks.Nodup → (∀ x ∈ ks, x ∈ L) → ks.length ≤ L.length
  | [], L, _, _ => Nat.zero_le _
  | k :: ks, L, nd, h => by
    obtain ⟨n1, n2⟩ := List.nodup_cons.mp nd
    have hk : k ∈ L := h k (List.mem_cons_self ..)
    have h2 := nodup_le (ks := ks) (L := L.erase k) n2 fun x hx => by
      have hne : x ≠ k := fun z => n1 (z ▸ hx)
      exact (List.mem_erase_of_ne hne).mpr (h x (List.mem_cons_of_mem _ hx))
    rw [List.length_erase_of_mem hk] at h2
    have : 0 < L.length := List.length_pos_of_mem hk
    rw [List.length_cons]
    omega
theorem keysI_kd : ∀ {ks : List Int}, keysI (kd ks) = some ks
  | [] => rfl
  | k :: ks => by
    show (keysI (kd ks)).map (k :: ·) = _
    rw [keysI_kd]
    rfl
theorem sortedG_kd {ks : List Int} (h : ks.length ≤ 16777216) : sortedG [.dic (kd ks)] = some (.lst ((sortI ks).map T.int)) := by
  show (none : Option T).or (sortedDF [.dic (kd ks)]) = _
  rw [Option.none_or]
  show (if (kd ks).length ≤ sizeLine then (keysI (kd ks)).map fun ns => T.lst ((sortI ns).map T.int) else none) = _
  rw [if_pos (by rw [kd_length]; exact h), keysI_kd]
  rfl
theorem sortedG_l {ns : List Int} : sortedG [.lst (ns.map T.int)] = some (.lst ((sortI ns).map T.int)) := by
  show (sortedF [.lst (ns.map T.int)]).or _ = _
  rw [sortedF_m]
  rfl
theorem sortSetF_ok {ns : List Int} (h : ns.length ≤ 4000) : sortSetF (.lst (ns.map T.int)) = some (.lst ((sortU ns).map T.int)) := by
  unfold sortSetF
  simp only [intsT_map]
  exact if_pos h
/-- what a set has, in order -/
theorem sortI_sortU {ks L : List Int} (nd : ks.Nodup) (h : ∀ x, x ∈ ks ↔ x ∈ L) : sortI ks = sortU L :=
  strict_unique (fun k => by rw [(sortI_perm _).mem_iff, sortU_mem, h]) (sortI_strict nd) (sortU_strict L)
/-! equality and texts of lists of ints -/
theorem toPDs_ints : ∀ ns : List Int, toPDs (ns.map T.int) = ns.map PyData.int
  | [] => rfl
  | n :: r => by simp only [List.map_cons, toPDs, toPD, toPDs_ints r]
theorem lay_ints : ∀ ns : List Int, PyData.canLayAll0 (ns.map PyData.int) = true
  | [] => rfl
  | n :: r => by simp only [List.map_cons, PyData.canLayAll0, PyData.canLay0, lay_ints r, Bool.and_self]
theorem depth_ints : ∀ ns : List Int, PyData.depthAll (ns.map PyData.int) = 0
  | [] => rfl
  | n :: r => by simp only [List.map_cons, PyData.depthAll, PyData.depth, depth_ints r, Nat.max_self]
theorem dat_ints {ns : List Int} : dat (.lst (ns.map T.int)) = true := by
  simp only [dat, SeqAt.shaped, toPD, toPDs_ints, PyData.canLay0, PyData.depth, lay_ints, depth_ints, Bool.true_and]
  decide
theorem bulk_ints : ∀ ns : List Int, PyData.bulkAll (ns.map PyData.int) = ns.length
  | [] => rfl
  | n :: r => by
    simp only [List.map_cons, PyData.bulkAll, PyData.bulk, bulk_ints r, List.length_cons]
    omega
theorem leaves_ints : ∀ ns : List Int, (∀ n ∈ ns, n.natAbs < 10 ^ 12) → PyData.leavesShortAll 13 (ns.map PyData.int) = true
  | [], _ => rfl
  | n :: r, h => by
    simp only [List.map_cons, PyData.leavesShortAll, PyData.leavesShort, Bool.and_eq_true, decide_eq_true_eq]
    exact ⟨PyData.shown_int_le (h n (List.mem_cons_self ..)), leaves_ints r fun k hk => h k (List.mem_cons_of_mem _ hk)⟩
theorem shT_ints {ns : List Int} (h : ∀ n ∈ ns, n.natAbs < 10 ^ 12) (hl : ns.length ≤ 100000) : shT (.lst (ns.map T.int)) = true := by
  unfold shT
  have e1 := dat_ints (ns := ns)
  unfold dat at e1
  have e2 : PyData.showable (toPD (.lst (ns.map T.int))) = true := by
    simp only [toPD, toPDs_ints, PyData.showable]
    refine PyData.showableAll_ints ns fun n hn => ?_
    have := h n hn
    by_cases z : n.natAbs = 0
    · rw [z]; decide
    · exact Nat.lt_trans ((Nat.log2_lt z).mpr (show n.natAbs < 2 ^ 40 by omega)) (by decide)
  have e3 : (toPD (.lst (ns.map T.int))).depth ≤ 60 := by
    simp only [toPD, toPDs_ints, PyData.depth, depth_ints]
    decide
  have e4 := PyData.shown_le_bulk 13 (by decide) (toPD (.lst (ns.map T.int))) (by simp only [toPD, toPDs_ints, PyData.leavesShort]; exact leaves_ints ns h)
  have e5 : (toPD (.lst (ns.map T.int))).bulk = ns.length := by simp only [toPD, toPDs_ints, PyData.bulk, bulk_ints]
  rw [e5] at e4
  have e6 : (PyData.shown (toPD (.lst (ns.map T.int)))).length ≤ sizeLine := by
    have : sizeLine = 16777216 := rfl
    omega
  rw [e1, e2, decide_eq_true ⟨e3, e6⟩]
  rfl
theorem map_int_inj : ∀ {a b : List Int}, a.map T.int = b.map T.int → a = b
  | [], [], _ => rfl
  | [], _ :: _, h => by cases h
  | _ :: _, [], h => by cases h
  | x :: a, y :: b, h => by
    simp only [List.map_cons, List.cons.injEq, T.int.injEq] at h
    rw [h.1, map_int_inj h.2]
end MP
end

section
set_option Elab.async false
set_option linter.all false
set_option maxRecDepth 100000
set_option maxHeartbeats 4000000
namespace MPG
open PySem PySem.Spec L2 MP
/-! the text -/
abbrev top (i : Nat) : Stmt := PySem.Challenge.pw_allloads_k20_ends_of_rules.main.body.getD i (.Pass ⟨0, 0, 0, 0⟩)
abbrev clsBody (s : Stmt) : List Stmt := match s with
  | .ClassDef _ _ _ b _ _ _ _ _ _ _ => b
  | _ => []
def wd (K : PySem.W.Frag) : Wd := ⟨K, fun c => match c with
  | 0 => He.ga K "LoadError"
  | 1 => He.ga K "BadRule"
  | 2 => He.ga K "NoPlace"
  | 3 => He.ga K "Rule"
  | _ => 0⟩
def tab_SIZES : List (Str × T) := [("over", (.int 3)), ("under", (.int 3)), ("aim", (.int 4))]
abbrev st_law_begin : Stmt := top 23
abbrev st_Rule_parts : Stmt := (clsBody (top 21)).getD 1 (.Pass ⟨0, 0, 0, 0⟩)
abbrev st_Rule_most : Stmt := (clsBody (top 21)).getD 3 (.Pass ⟨0, 0, 0, 0⟩)
abbrev st_Rule_least : Stmt := (clsBody (top 21)).getD 2 (.Pass ⟨0, 0, 0, 0⟩)
abbrev st_marks_of : Stmt := top 7
abbrev st_ends_of : Stmt := top 8
abbrev st_law_due : Stmt := top 29
abbrev st_is_integer : Stmt := top 5
abbrev st_is_between : Stmt := top 15
abbrev st_is_limit : Stmt := top 18
abbrev st_need_limits : Stmt := top 19
abbrev st_is_part : Stmt := top 16
abbrev st_are_parts : Stmt := top 17
abbrev st_Rule_init : Stmt := (clsBody (top 21)).getD 0 (.Pass ⟨0, 0, 0, 0⟩)
abbrev st_law_rule : Stmt := top 28
abbrev st_law_take : Stmt := top 24
abbrev st_law_pick : Stmt := top 25
abbrev st_law_part : Stmt := top 26
abbrev st_law_case : Stmt := top 27
abbrev st_law : Stmt := top 30
/-! what the head tells -/
structure Fc (w0 : World) (K : PySem.W.Frag) (mg : Str → Option Value) : Prop where
  g_law : mg "law" = some (.ref (He.ga K "law"))
  g_law_begin : mg "_law_begin" = some (.ref (He.ga K "_law_begin"))
  n_abs : mg "abs" = none
  n_list : mg "list" = none
  n_len : mg "len" = none
  n_min : mg "min" = none
  n_range : mg "range" = none
  n_sorted : mg "sorted" = none
  n_set : mg "set" = none
  cls_Rule : Cls K (He.ga K "Rule")
  na_Rule_r_parts : NoAttr K (He.ga K "Rule") "r_parts"
  pr_Rule_parts : PropOf K (He.ga K "Rule") "parts" (He.ma K (He.ga K "Rule") "parts") (gtA K "Rule" "parts")
  na_Rule_r_bounds : NoAttr K (He.ga K "Rule") "r_bounds"
  pr_Rule_most : PropOf K (He.ga K "Rule") "most" (He.ma K (He.ga K "Rule") "most") (gtA K "Rule" "most")
  pr_Rule_least : PropOf K (He.ga K "Rule") "least" (He.ma K (He.ga K "Rule") "least") (gtA K "Rule" "least")
  g_marks_of : mg "marks_of" = some (.ref (He.ga K "marks_of"))
  g_ends_of : mg "ends_of" = some (.ref (He.ga K "ends_of"))
  n_repr : mg "repr" = none
  n_isinstance : mg "isinstance" = none
  g_law_due : mg "_law_due" = some (.ref (He.ga K "_law_due"))
  na_Rule_r_limits : NoAttr K (He.ga K "Rule") "r_limits"
  n_tuple : mg "tuple" = none
  n_bool : mg "bool" = none
  n_int : mg "int" = none
  g_is_integer : mg "is_integer" = some (.ref (He.ga K "is_integer"))
  i_LONGEST_WINDOW : ∃ t, mg "LONGEST_WINDOW" = some (.int 3 t)
  g_is_between : mg "is_between" = some (.ref (He.ga K "is_between"))
  i_MOST_SERVERS : ∃ t, mg "MOST_SERVERS" = some (.int 8 t)
  g_is_limit : mg "is_limit" = some (.ref (He.ga K "is_limit"))
  g_need_limits : mg "need_limits" = some (.ref (He.ga K "need_limits"))
  i_HIGHEST_MARK : ∃ t, mg "HIGHEST_MARK" = some (.int 60 t)
  n_all : mg "all" = none
  tab_SIZES : WTab (wd K) w0 (He.ga K "SIZES") MPG.tab_SIZES
  g_SIZES : mg "SIZES" = some (.ref (He.ga K "SIZES"))
  n_str : mg "str" = none
  g_is_part : mg "is_part" = some (.ref (He.ga K "is_part"))
  i_MOST_PARTS : ∃ t, mg "MOST_PARTS" = some (.int 4 t)
  g_are_parts : mg "are_parts" = some (.ref (He.ga K "are_parts"))
  mk_Rule : Mk K (He.ga K "Rule") (He.ma K (He.ga K "Rule") "__init__")
  g_Rule : mg "Rule" = some (.ref (He.ga K "Rule"))
  g_law_rule : mg "_law_rule" = some (.ref (He.ga K "_law_rule"))
  n_divmod : mg "divmod" = none
  g_law_take : mg "_law_take" = some (.ref (He.ga K "_law_take"))
  g_law_pick : mg "_law_pick" = some (.ref (He.ga K "_law_pick"))
  g_law_part : mg "_law_part" = some (.ref (He.ga K "_law_part"))
  g_law_case : mg "_law_case" = some (.ref (He.ga K "_law_case"))
  fd_law_begin : ∃ fd, FunD K "_law_begin" "_law_begin" (defArgs st_law_begin) (defBody st_law_begin) (defScope st_law_begin) [] [] (He.ga K "_law_begin") fd
  fd_Rule_parts : ∃ fd, FunD K "parts" "Rule.parts" (defArgs st_Rule_parts) (defBody st_Rule_parts) (defScope st_Rule_parts) [] [] (gtA K "Rule" "parts") fd
  fd_Rule_most : ∃ fd, FunD K "most" "Rule.most" (defArgs st_Rule_most) (defBody st_Rule_most) (defScope st_Rule_most) [] [] (gtA K "Rule" "most") fd
  fd_Rule_least : ∃ fd, FunD K "least" "Rule.least" (defArgs st_Rule_least) (defBody st_Rule_least) (defScope st_Rule_least) [] [] (gtA K "Rule" "least") fd
  fd_marks_of : ∃ fd, FunD K "marks_of" "marks_of" (defArgs st_marks_of) (defBody st_marks_of) (defScope st_marks_of) [] [] (He.ga K "marks_of") fd
  fd_ends_of : ∃ fd, FunD K "ends_of" "ends_of" (defArgs st_ends_of) (defBody st_ends_of) (defScope st_ends_of) [] [] (He.ga K "ends_of") fd
  fd_law_due : ∃ fd, FunD K "_law_due" "_law_due" (defArgs st_law_due) (defBody st_law_due) (defScope st_law_due) [] [] (He.ga K "_law_due") fd
  fd_is_integer : ∃ fd, FunD K "is_integer" "is_integer" (defArgs st_is_integer) (defBody st_is_integer) (defScope st_is_integer) [] [] (He.ga K "is_integer") fd
  fd_is_between : ∃ fd, FunD K "is_between" "is_between" (defArgs st_is_between) (defBody st_is_between) (defScope st_is_between) [] [] (He.ga K "is_between") fd
  fd_is_limit : ∃ fd, FunD K "is_limit" "is_limit" (defArgs st_is_limit) (defBody st_is_limit) (defScope st_is_limit) [] [] (He.ga K "is_limit") fd
  fd_need_limits : ∃ fd, FunD K "need_limits" "need_limits" (defArgs st_need_limits) (defBody st_need_limits) (defScope st_need_limits) [] [] (He.ga K "need_limits") fd
  fd_is_part : ∃ fd, FunD K "is_part" "is_part" (defArgs st_is_part) (defBody st_is_part) (defScope st_is_part) [] [] (He.ga K "is_part") fd
  fd_are_parts : ∃ fd, FunD K "are_parts" "are_parts" (defArgs st_are_parts) (defBody st_are_parts) (defScope st_are_parts) [] [] (He.ga K "are_parts") fd
  fd_Rule_init : ∃ fd, FunD K "__init__" "Rule.__init__" (defArgs st_Rule_init) (defBody st_Rule_init) (defScope st_Rule_init) [] [("least", .int 1), ("most", .int 8), ("rise", .non), ("fall", .non), ("up", .int 1), ("down", .int 1)] (He.ma K (He.ga K "Rule") "__init__") fd
  fd_law_rule : ∃ fd, FunD K "_law_rule" "_law_rule" (defArgs st_law_rule) (defBody st_law_rule) (defScope st_law_rule) [] [] (He.ga K "_law_rule") fd
  fd_law_take : ∃ fd, FunD K "_law_take" "_law_take" (defArgs st_law_take) (defBody st_law_take) (defScope st_law_take) [] [] (He.ga K "_law_take") fd
  fd_law_pick : ∃ fd, FunD K "_law_pick" "_law_pick" (defArgs st_law_pick) (defBody st_law_pick) (defScope st_law_pick) [] [] (He.ga K "_law_pick") fd
  fd_law_part : ∃ fd, FunD K "_law_part" "_law_part" (defArgs st_law_part) (defBody st_law_part) (defScope st_law_part) [] [] (He.ga K "_law_part") fd
  fd_law_case : ∃ fd, FunD K "_law_case" "_law_case" (defArgs st_law_case) (defBody st_law_case) (defScope st_law_case) [] [] (He.ga K "_law_case") fd
  fd_law : ∃ fd, FunD K "law" "law" (defArgs st_law) (defBody st_law) (defScope st_law) [] [] (He.ga K "law") fd
section
variable {P : Program} {w0 : World} {K : PySem.W.Frag} {mg : Str → Option Value} {base : Heap}
theorem sc_law_begin : FnScope ["_law_script", "_law_large", "_law_cell"] ["_law_script"] (defScope st_law_begin) := ⟨rfl, rfl, rfl, by decide +kernel, rfl, by decide +kernel, by decide +kernel⟩
theorem ok_law_begin (c : Fc w0 K mg) : ∃ fd, FnG P w0 K mg base (CX P w0) 1 (He.ga K "_law_begin") fd ["_law_script"] (spBegin (wd K)) ∧ (Binds K fd ["_law_script"] []) ∧ PySem.W.keepIn K (.ref (He.ga K "_law_begin")) = true ∧ FunD K "_law_begin" "_law_begin" (defArgs st_law_begin) (defBody st_law_begin) (defScope st_law_begin) [] [] (He.ga K "_law_begin") fd := by
  obtain ⟨fd, F⟩ := c.fd_law_begin
  refine ⟨fd, ?_, F.bindsN (fun _ _ _ _ _ _ us hl => match us, hl with | [_], _ => rfl), F.kp, F⟩
  have nd := (sc_law_begin).nd
  refine begin_fn (w := wd K) (k := 0) F sc_law_begin rfl rfl rfl (fun cdv A outer s H E H0 hr => ?_)
  exact pss_cons (s_ownLc (lc_own (i := 1) (own := [("_law_cell", 2)]) rfl nd rfl rfl (sw_true rfl rfl rfl rfl) (i_seq (e_var 0)) (blkOk_by (by rfl)) rfl (fun B s H C cl fp => (gc_name nd (i := 2) rfl (by first | exact Or.inl rfl | exact Or.inr rfl))) (fun B s H C cl fp => (ts_one (t_cmp b_ge (toL (e_callB c_abs rfl c.n_abs rfl (al_cons (l_var 2) al_nil))) (toL (e_bin b_pow (toL e_int) (toL e_int))) (nomark _)))) (fun B s H C cl fp => (e_callB c_abs rfl c.n_abs rfl (al_cons (l_var 2) al_nil))))) (pss_one (s_begin 1 0 rfl c.n_list rfl rfl rfl (by first | exact Or.inl rfl | exact Or.inr (Or.inl rfl) | exact Or.inr (Or.inr rfl)) rfl rfl rfl (by first | exact Or.inl rfl | exact Or.inr (Or.inl rfl) | exact Or.inr (Or.inr rfl)) rfl rfl))
/-! Rule.parts -/
def m_Rule_parts : SM :=
  (mRet (mUn (fldT 3 "r_parts") (mL 0)))
def F_Rule_parts : TF := runF 1 m_Rule_parts
theorem sc_Rule_parts : FnScope ["self"] ["self"] (defScope st_Rule_parts) := ⟨rfl, rfl, rfl, by decide +kernel, rfl, by decide +kernel, by decide +kernel⟩
theorem ok_Rule_parts (c : Fc w0 K mg) : ∃ fd, FnG P w0 K mg base (CX P w0) 2 (gtA K "Rule" "parts") fd ["self"] (spF (wd K) 1 F_Rule_parts) ∧ (Binds K fd ["self"] []) ∧ PySem.W.keepIn K (.ref (gtA K "Rule" "parts")) = true ∧ FunD K "parts" "Rule.parts" (defArgs st_Rule_parts) (defBody st_Rule_parts) (defScope st_Rule_parts) [] [] (gtA K "Rule" "parts") fd := by
  obtain ⟨fd, F⟩ := c.fd_Rule_parts
  refine ⟨fd, ?_, F.bindsN (fun _ _ _ _ _ _ us hl => match us, hl with | [_], _ => rfl), F.kp, F⟩
  have nd := (sc_Rule_parts).nd
  refine fn_ok (w := wd K) (k := 1) (n := 1) (m := m_Rule_parts) F sc_Rule_parts rfl (fun cdv A outer s H E H0 hr => ?_)
  have tk := @takes_fn P w0 K mg base "Rule.parts" (defScope st_Rule_parts) (gtA K "Rule" "parts") ["self"] cdv A outer s H E
  have po := @passes_fn P w0 K mg base "Rule.parts" (defScope st_Rule_parts) (gtA K "Rule" "parts") ["self"] cdv A outer s H E
  have u1 := Nat.lt_of_le_of_lt (Nat.add_le_add_left (show 1 ≤ 64 by decide) _) hr.units
  have u65 := un65 hr
  exact (s_one (s_ret (e_fld 3 rfl c.cls_Rule c.na_Rule_r_parts (l_var 0))))
/-! Rule.most -/
def m_Rule_most : SM :=
  (mRet (mBin ixT (mUn (fldT 3 "r_bounds") (mL 0)) (mC (.int 1))))
def F_Rule_most : TF := runF 1 m_Rule_most
theorem sc_Rule_most : FnScope ["self"] ["self"] (defScope st_Rule_most) := ⟨rfl, rfl, rfl, by decide +kernel, rfl, by decide +kernel, by decide +kernel⟩
theorem ok_Rule_most (c : Fc w0 K mg) : ∃ fd, FnG P w0 K mg base (CX P w0) 2 (gtA K "Rule" "most") fd ["self"] (spF (wd K) 1 F_Rule_most) ∧ (Binds K fd ["self"] []) ∧ PySem.W.keepIn K (.ref (gtA K "Rule" "most")) = true ∧ FunD K "most" "Rule.most" (defArgs st_Rule_most) (defBody st_Rule_most) (defScope st_Rule_most) [] [] (gtA K "Rule" "most") fd := by
  obtain ⟨fd, F⟩ := c.fd_Rule_most
  refine ⟨fd, ?_, F.bindsN (fun _ _ _ _ _ _ us hl => match us, hl with | [_], _ => rfl), F.kp, F⟩
  have nd := (sc_Rule_most).nd
  refine fn_ok (w := wd K) (k := 1) (n := 1) (m := m_Rule_most) F sc_Rule_most rfl (fun cdv A outer s H E H0 hr => ?_)
  have tk := @takes_fn P w0 K mg base "Rule.most" (defScope st_Rule_most) (gtA K "Rule" "most") ["self"] cdv A outer s H E
  have po := @passes_fn P w0 K mg base "Rule.most" (defScope st_Rule_most) (gtA K "Rule" "most") ["self"] cdv A outer s H E
  have u1 := Nat.lt_of_le_of_lt (Nat.add_le_add_left (show 1 ≤ 64 by decide) _) hr.units
  have u65 := un65 hr
  exact (s_one (s_ret (e_ix (toL (e_fld 3 rfl c.cls_Rule c.na_Rule_r_bounds (l_var 0))) (toL e_int))))
/-! Rule.least -/
def m_Rule_least : SM :=
  (mRet (mBin ixT (mUn (fldT 3 "r_bounds") (mL 0)) (mC (.int 0))))
def F_Rule_least : TF := runF 1 m_Rule_least
theorem sc_Rule_least : FnScope ["self"] ["self"] (defScope st_Rule_least) := ⟨rfl, rfl, rfl, by decide +kernel, rfl, by decide +kernel, by decide +kernel⟩
theorem ok_Rule_least (c : Fc w0 K mg) : ∃ fd, FnG P w0 K mg base (CX P w0) 2 (gtA K "Rule" "least") fd ["self"] (spF (wd K) 1 F_Rule_least) ∧ (Binds K fd ["self"] []) ∧ PySem.W.keepIn K (.ref (gtA K "Rule" "least")) = true ∧ FunD K "least" "Rule.least" (defArgs st_Rule_least) (defBody st_Rule_least) (defScope st_Rule_least) [] [] (gtA K "Rule" "least") fd := by
  obtain ⟨fd, F⟩ := c.fd_Rule_least
  refine ⟨fd, ?_, F.bindsN (fun _ _ _ _ _ _ us hl => match us, hl with | [_], _ => rfl), F.kp, F⟩
  have nd := (sc_Rule_least).nd
  refine fn_ok (w := wd K) (k := 1) (n := 1) (m := m_Rule_least) F sc_Rule_least rfl (fun cdv A outer s H E H0 hr => ?_)
  have tk := @takes_fn P w0 K mg base "Rule.least" (defScope st_Rule_least) (gtA K "Rule" "least") ["self"] cdv A outer s H E
  have po := @passes_fn P w0 K mg base "Rule.least" (defScope st_Rule_least) (gtA K "Rule" "least") ["self"] cdv A outer s H E
  have u1 := Nat.lt_of_le_of_lt (Nat.add_le_add_left (show 1 ≤ 64 by decide) _) hr.units
  have u65 := un65 hr
  exact (s_one (s_ret (e_ix (toL (e_fld 3 rfl c.cls_Rule c.na_Rule_r_bounds (l_var 0))) (toL e_int))))
/-! marks_of -/
def m_marks_of : SM :=
  (mRet (mIte (mTst (mBin eqT (mBin ixT (mL 0) (mC (.int 0))) (mC (.str "aim")))) (mCall listF (mCons (mSl (mL 0) (mPart (mC (.int 2))) mNoPart) mNil)) (mLst (mCons (mBin ixT (mL 0) (mC (.int 1))) mNil))))
def F_marks_of : TF := runF 1 m_marks_of
theorem sc_marks_of : FnScope ["part"] ["part"] (defScope st_marks_of) := ⟨rfl, rfl, rfl, by decide +kernel, rfl, by decide +kernel, by decide +kernel⟩
theorem ok_marks_of (c : Fc w0 K mg) : ∃ fd, FnG P w0 K mg base (CX P w0) 2 (He.ga K "marks_of") fd ["part"] (spF (wd K) 1 F_marks_of) ∧ (Binds K fd ["part"] []) ∧ PySem.W.keepIn K (.ref (He.ga K "marks_of")) = true ∧ FunD K "marks_of" "marks_of" (defArgs st_marks_of) (defBody st_marks_of) (defScope st_marks_of) [] [] (He.ga K "marks_of") fd := by
  obtain ⟨fd, F⟩ := c.fd_marks_of
  refine ⟨fd, ?_, F.bindsN (fun _ _ _ _ _ _ us hl => match us, hl with | [_], _ => rfl), F.kp, F⟩
  have nd := (sc_marks_of).nd
  refine fn_ok (w := wd K) (k := 1) (n := 1) (m := m_marks_of) F sc_marks_of rfl (fun cdv A outer s H E H0 hr => ?_)
  have tk := @takes_fn P w0 K mg base "marks_of" (defScope st_marks_of) (He.ga K "marks_of") ["part"] cdv A outer s H E
  have po := @passes_fn P w0 K mg base "marks_of" (defScope st_marks_of) (He.ga K "marks_of") ["part"] cdv A outer s H E
  have u1 := Nat.lt_of_le_of_lt (Nat.add_le_add_left (show 1 ≤ 64 by decide) _) hr.units
  have u65 := un65 hr
  exact (s_one (s_ret (e_ite (t_cmp (b_eq hr.units rfl) (toL (e_ix (l_var 0) (toL e_int))) (toL e_str) (nomark _)) (toE (f_callTy (c_list rfl rfl) rfl c.n_list rfl (al_cons (toL (e_sl (l_var 0) (o_some (toL e_int)) o_none)) al_nil))) (toE (f_lst (a_cons (e_ix (l_var 0) (toL e_int)) a_nil))))))
/-! ends_of -/
def m_ends_of : SM :=
  (mSeq (mSet 1 (mLst mNil))
  (mSeq (mFor (mIt seqT (mProp 3 F_Rule_parts (mV 0))) (gN 2)
    (mSeq (mFor (mIt seqT (mFn F_marks_of [] (mCons (mV 2) mNil))) (gN 3)
    (mSet 1 (mBin addT (mL 1) (mLc (mItA rnF2 (mCons (mProp 3 F_Rule_least (mV 0)) (mCons (mBin addT (mProp 3 F_Rule_most (mV 0)) (mC (.int 1))) mNil))) (gN 4) mYes (mBin mulI (mL 3) (mL 4)) [4]))))
  (mIfS (mTst (mBin eqT (mBin ixT (mL 2) (mC (.int 0))) (mC (.str "aim"))))
    (mSet 1 (mBin addT (mL 1) (mLc (mItA rnF2 (mCons (mProp 3 F_Rule_least (mV 0)) (mCons (mProp 3 F_Rule_most (mV 0)) mNil))) (gN 4) mYes (mBin mulI (mBin ixT (mL 2) (mC (.int 1))) (mL 4)) [4])))
    mSkip)))
  (mRetF (mUn sortSetF (mL 1)))))
def F_ends_of : TF := runF 5 m_ends_of
theorem sc_ends_of : FnScope ["rule", "found", "part", "mark", "servers"] ["rule"] (defScope st_ends_of) := ⟨rfl, rfl, rfl, by decide +kernel, rfl, by decide +kernel, by decide +kernel⟩
theorem ok_ends_of (c : Fc w0 K mg) : ∃ fd, FnG P w0 K mg base (CX P w0) 4 (He.ga K "ends_of") fd ["rule"] (spF (wd K) 1 F_ends_of) ∧ (Binds K fd ["rule"] []) ∧ PySem.W.keepIn K (.ref (He.ga K "ends_of")) = true ∧ FunD K "ends_of" "ends_of" (defArgs st_ends_of) (defBody st_ends_of) (defScope st_ends_of) [] [] (He.ga K "ends_of") fd := by
  obtain ⟨fd, F⟩ := c.fd_ends_of
  obtain ⟨fd_Rule_parts, h_Rule_parts⟩ := ok_Rule_parts (P := P) (base := base) c
  obtain ⟨fd_Rule_most, h_Rule_most⟩ := ok_Rule_most (P := P) (base := base) c
  obtain ⟨fd_Rule_least, h_Rule_least⟩ := ok_Rule_least (P := P) (base := base) c
  obtain ⟨fd_marks_of, h_marks_of⟩ := ok_marks_of (P := P) (base := base) c
  refine ⟨fd, ?_, F.bindsN (fun _ _ _ _ _ _ us hl => match us, hl with | [_], _ => rfl), F.kp, F⟩
  have nd := (sc_ends_of).nd
  refine fn_ok (w := wd K) (k := 3) (n := 1) (m := m_ends_of) F sc_ends_of rfl (fun cdv A outer s H E H0 hr => ?_)
  have tk := @takes_fn P w0 K mg base "ends_of" (defScope st_ends_of) (He.ga K "ends_of") ["rule", "found", "part", "mark", "servers"] cdv A outer s H E
  have po := @passes_fn P w0 K mg base "ends_of" (defScope st_ends_of) (He.ga K "ends_of") ["rule", "found", "part", "mark", "servers"] cdv A outer s H E
  have u1 := Nat.lt_of_le_of_lt (Nat.add_le_add_left (show 1 ≤ 64 by decide) _) hr.units
  have u65 := un65 hr
  exact (s_cons (s_set nd (i := 1) rfl (by first | exact Or.inl rfl | exact Or.inr rfl) (toE (f_lst a_nil)))
  (s_cons (s_for po rfl (i_seq (e_prop 3 rfl c.cls_Rule c.pr_Rule_parts h_Rule_parts.1 (hr.mono (by decide)) h_Rule_parts.2.1 .nil (e_var 0))) (g_name nd (i := 2) rfl (by first | exact Or.inl rfl | exact Or.inr rfl))
    (s_cons (s_for po rfl (i_seq (x_pos (n := 1) (m := 1) rsE Cst.nil (callAt_fn h_marks_of.1 (hr.mono (by decide)) tk h_marks_of.2.1 .nil) rfl c.g_marks_of h_marks_of.2.2.1 (a_cons (e_var 2) a_nil) (Len.cons Len.nil))) (g_name nd (i := 3) rfl (by first | exact Or.inl rfl | exact Or.inr rfl))
    (s_one (s_set nd (i := 1) rfl (by first | exact Or.inl rfl | exact Or.inr rfl) (e_bin (b_add rfl) (l_var 1) (toL (toE (f_lc (own := [("servers", 4)]) rfl nd (i_range2 rfl c.n_range (a_cons (e_prop 3 rfl c.cls_Rule c.pr_Rule_least h_Rule_least.1 (hr.mono (by decide)) h_Rule_least.2.1 .nil (e_var 0)) (a_cons (e_bin (b_add rfl) (toL (e_prop 3 rfl c.cls_Rule c.pr_Rule_most h_Rule_most.1 (hr.mono (by decide)) h_Rule_most.2.1 .nil (e_var 0))) (toL e_int)) a_nil))) (blkOk_by (by rfl)) rfl (fun B s H C cl fp => (gc_name nd (i := 4) rfl (by first | exact Or.inl rfl | exact Or.inr rfl))) (fun B s H C cl fp => ts_nil) (fun B s H C cl fp => (e_bin b_mul (l_var 3) (l_var 4))))))))))
  (s_one (s_if (t_cmp (b_eq hr.units rfl) (toL (e_ix (l_var 2) (toL e_int))) (toL e_str) (nomark _))
    (s_one (s_set nd (i := 1) rfl (by first | exact Or.inl rfl | exact Or.inr rfl) (e_bin (b_add rfl) (l_var 1) (toL (toE (f_lc (own := [("servers", 4)]) rfl nd (i_range2 rfl c.n_range (a_cons (e_prop 3 rfl c.cls_Rule c.pr_Rule_least h_Rule_least.1 (hr.mono (by decide)) h_Rule_least.2.1 .nil (e_var 0)) (a_cons (e_prop 3 rfl c.cls_Rule c.pr_Rule_most h_Rule_most.1 (hr.mono (by decide)) h_Rule_most.2.1 .nil (e_var 0)) a_nil))) (blkOk_by (by rfl)) rfl (fun B s H C cl fp => (gc_name nd (i := 4) rfl (by first | exact Or.inl rfl | exact Or.inr rfl))) (fun B s H C cl fp => ts_nil) (fun B s H C cl fp => (e_bin b_mul (toL (e_ix (l_var 2) (toL e_int))) (l_var 4)))))))))
    s_nil))))
  (s_one (s_retF (f_sortset rfl rfl c.n_sorted c.n_set (l_var 1))))))
abbrev kG_ends_of_0_rule {α : Type} (ts zs : List α) : List α := kG [0] ts zs
theorem kG_ends_of_0_rule_ok : GOk (wd K) kG_ends_of_0_rule kG_ends_of_0_rule := kG_ok [0]
theorem kG_ends_of_0_rule_cons : ∀ (u : V) (vs zs : List V), kG_ends_of_0_rule (u :: vs) zs = u :: kG_ends_of_0_rule vs zs := kG_cons [0]
theorem kG_ends_of_0_rule_len : ∀ vs zs : List V, vs.length = 0 → zs.length = 1 → (kG_ends_of_0_rule vs zs).length = 1 := fun vs zs h1 h2 => match vs, zs, h1, h2 with
  | [], [_], _, _ => rfl
theorem kB_ends_of_0_rule {fd : FuncData} (F : FunD K "ends_of" "ends_of" (defArgs st_ends_of) (defBody st_ends_of) (defScope st_ends_of) [] [] (He.ga K "ends_of") fd) : KBn K fd ["rule"] 0 ["rule"] kG_ends_of_0_rule kG_ends_of_0_rule :=
  kbn_of F 0 _ [0] fun kV doc pm an cdv ct us ws h1 h2 => match us, ws, h1, h2 with
  | [], [_], _, _ => rfl
/-! _law_due -/
def m_law_due : SM :=
  (mSeq (mOwn 1 (mC (.dic [])))
  (mSeq (mFor (mIt seqT (mBin dgT (mL 0) (mC (.str "parts")))) (gN 2)
    (mSeq (mFor (mItA rnF2 (mCons (mBin dgT (mL 0) (mC (.str "least"))) (mCons (mBin addT (mBin dgT (mL 0) (mC (.str "most"))) (mC (.int 1))) mNil))) (gN 3)
    (mSeq (mSet 4 (mIte (mTst (mBin eqT (mBin ixT (mL 2) (mC (.int 0))) (mC (.str "aim")))) (mSl (mL 2) (mPart (mC (.int 2))) mNoPart) (mSl (mL 2) (mPart (mC (.int 1))) (mPart (mC (.int 2))))))
  (mFor (mIt seqT (mV 4)) (gN 5)
    (mAsg (mC (.bl true)) (gPut putD 1 (mBin mulI (mL 5) (mL 3)))))))
  (mFor (mItA rnF2 (mCons (mBin dgT (mL 0) (mC (.str "least"))) (mCons (mBin dgT (mL 0) (mC (.str "most"))) mNil))) (gN 3)
    (mIfS (mTst (mBin eqT (mBin ixT (mL 2) (mC (.int 0))) (mC (.str "aim"))))
    (mAsg (mC (.bl true)) (gPut putD 1 (mBin mulI (mBin ixT (mL 2) (mC (.int 1))) (mL 3))))
    mSkip))))
  (mRetF (mCall sortedG (mCons (mL 1) mNil)))))
def F_law_due : TF := runF 6 m_law_due
theorem sc_law_due : FnScope ["_law_case_here", "_law_found", "_law_part_here", "_law_servers", "_law_sides", "_law_side"] ["_law_case_here"] (defScope st_law_due) := ⟨rfl, rfl, rfl, by decide +kernel, rfl, by decide +kernel, by decide +kernel⟩
theorem ok_law_due (c : Fc w0 K mg) : ∃ fd, FnG P w0 K mg base (CX P w0) 2 (He.ga K "_law_due") fd ["_law_case_here"] (spF (wd K) 1 F_law_due) ∧ (Binds K fd ["_law_case_here"] []) ∧ PySem.W.keepIn K (.ref (He.ga K "_law_due")) = true ∧ FunD K "_law_due" "_law_due" (defArgs st_law_due) (defBody st_law_due) (defScope st_law_due) [] [] (He.ga K "_law_due") fd := by
  obtain ⟨fd, F⟩ := c.fd_law_due
  refine ⟨fd, ?_, F.bindsN (fun _ _ _ _ _ _ us hl => match us, hl with | [_], _ => rfl), F.kp, F⟩
  have nd := (sc_law_due).nd
  refine fn_ok (w := wd K) (k := 1) (n := 1) (m := m_law_due) F sc_law_due rfl (fun cdv A outer s H E H0 hr => ?_)
  have tk := @takes_fn P w0 K mg base "_law_due" (defScope st_law_due) (He.ga K "_law_due") ["_law_case_here", "_law_found", "_law_part_here", "_law_servers", "_law_sides", "_law_side"] cdv A outer s H E
  have po := @passes_fn P w0 K mg base "_law_due" (defScope st_law_due) (He.ga K "_law_due") ["_law_case_here", "_law_found", "_law_part_here", "_law_servers", "_law_sides", "_law_side"] cdv A outer s H E
  have u1 := Nat.lt_of_le_of_lt (Nat.add_le_add_left (show 1 ≤ 64 by decide) _) hr.units
  have u65 := un65 hr
  exact (s_cons (s_own nd (i := 1) rfl (by first | exact Or.inl rfl | exact Or.inr rfl) f_dnew)
  (s_cons (s_for po rfl (i_seq (e_dg u1 (l_var 0) (toL e_str))) (g_name nd (i := 2) rfl (by first | exact Or.inl rfl | exact Or.inr rfl))
    (s_cons (s_for po rfl (i_range2 rfl c.n_range (a_cons (e_dg u1 (l_var 0) (toL e_str)) (a_cons (e_bin (b_add rfl) (toL (e_dg u1 (l_var 0) (toL e_str))) (toL e_int)) a_nil))) (g_name nd (i := 3) rfl (by first | exact Or.inl rfl | exact Or.inr rfl))
    (s_cons (s_set nd (i := 4) rfl (by first | exact Or.inl rfl | exact Or.inr rfl) (e_ite (t_cmp (b_eq hr.units rfl) (toL (e_ix (l_var 2) (toL e_int))) (toL e_str) (nomark _)) (e_sl (l_var 2) (o_some (toL e_int)) o_none) (e_sl (l_var 2) (o_some (toL e_int)) (o_some (toL e_int)))))
  (s_one (s_for po rfl (i_seq (e_var 4)) (g_name nd (i := 5) rfl (by first | exact Or.inl rfl | exact Or.inr rfl))
    (s_one (s_asg e_bl (g_putD 1 u1 (toL (e_bin b_mul (l_var 5) (l_var 3))))))))))
  (s_one (s_for po rfl (i_range2 rfl c.n_range (a_cons (e_dg u1 (l_var 0) (toL e_str)) (a_cons (e_dg u1 (l_var 0) (toL e_str)) a_nil))) (g_name nd (i := 3) rfl (by first | exact Or.inl rfl | exact Or.inr rfl))
    (s_one (s_if (t_cmp (b_eq hr.units rfl) (toL (e_ix (l_var 2) (toL e_int))) (toL e_str) (nomark _))
    (s_one (s_asg e_bl (g_putD 1 u1 (toL (e_bin b_mul (toL (e_ix (l_var 2) (toL e_int))) (l_var 3))))))
    s_nil))))))
  (s_one (s_retF (f_callB (c_sortedG rfl rfl) rfl c.n_sorted rfl (al_cons (l_var 1) al_nil))))))
/-! is_integer -/
def m_is_integer : SM :=
  (mRet (mAndV (mIsa (isaB [1, 2]) (mL 0)) (mUn notV (mIsa (isaB [1]) (mL 0)))))
def F_is_integer : TF := runF 1 m_is_integer
theorem sc_is_integer : FnScope ["thing"] ["thing"] (defScope st_is_integer) := ⟨rfl, rfl, rfl, by decide +kernel, rfl, by decide +kernel, by decide +kernel⟩
theorem ok_is_integer (c : Fc w0 K mg) : ∃ fd, FnG P w0 K mg base (CX P w0) 2 (He.ga K "is_integer") fd ["thing"] (spF (wd K) 1 F_is_integer) ∧ (Binds K fd ["thing"] []) ∧ PySem.W.keepIn K (.ref (He.ga K "is_integer")) = true ∧ FunD K "is_integer" "is_integer" (defArgs st_is_integer) (defBody st_is_integer) (defScope st_is_integer) [] [] (He.ga K "is_integer") fd := by
  obtain ⟨fd, F⟩ := c.fd_is_integer
  refine ⟨fd, ?_, F.bindsN (fun _ _ _ _ _ _ us hl => match us, hl with | [_], _ => rfl), F.kp, F⟩
  have nd := (sc_is_integer).nd
  refine fn_ok (w := wd K) (k := 1) (n := 1) (m := m_is_integer) F sc_is_integer rfl (fun cdv A outer s H E H0 hr => ?_)
  have tk := @takes_fn P w0 K mg base "is_integer" (defScope st_is_integer) (He.ga K "is_integer") ["thing"] cdv A outer s H E
  have po := @passes_fn P w0 K mg base "is_integer" (defScope st_is_integer) (He.ga K "is_integer") ["thing"] cdv A outer s H E
  have u1 := Nat.lt_of_le_of_lt (Nat.add_le_add_left (show 1 ≤ 64 by decide) _) hr.units
  have u65 := un65 hr
  exact (s_one (s_ret (e_and (toL (e_isi (isa_int) rfl (.ty "int") rfl c.n_isinstance (l_var 0) (pe_bltn rfl c.n_int rfl rfl))) (e_one (e_not (toL (e_isi (isa_bool) rfl (.ty "bool") rfl c.n_isinstance (l_var 0) (pe_bltn rfl c.n_bool rfl rfl))))))))
/-! is_between -/
def m_is_between : SM :=
  (mRet (mAndV (mFn F_is_integer [] (mCons (mV 0) mNil)) (mChain leT leT (mL 1) (mL 0) (mL 2))))
def F_is_between : TF := runF 3 m_is_between
theorem sc_is_between : FnScope ["thing", "low", "high"] ["thing", "low", "high"] (defScope st_is_between) := ⟨rfl, rfl, rfl, by decide +kernel, rfl, by decide +kernel, by decide +kernel⟩
theorem ok_is_between (c : Fc w0 K mg) : ∃ fd, FnG P w0 K mg base (CX P w0) 3 (He.ga K "is_between") fd ["thing", "low", "high"] (spF (wd K) 3 F_is_between) ∧ (Binds K fd ["thing", "low", "high"] []) ∧ PySem.W.keepIn K (.ref (He.ga K "is_between")) = true ∧ FunD K "is_between" "is_between" (defArgs st_is_between) (defBody st_is_between) (defScope st_is_between) [] [] (He.ga K "is_between") fd := by
  obtain ⟨fd, F⟩ := c.fd_is_between
  obtain ⟨fd_is_integer, h_is_integer⟩ := ok_is_integer (P := P) (base := base) c
  refine ⟨fd, ?_, F.bindsN (fun _ _ _ _ _ _ us hl => match us, hl with | [_, _, _], _ => rfl), F.kp, F⟩
  have nd := (sc_is_between).nd
  refine fn_ok (w := wd K) (k := 2) (n := 3) (m := m_is_between) F sc_is_between rfl (fun cdv A outer s H E H0 hr => ?_)
  have tk := @takes_fn P w0 K mg base "is_between" (defScope st_is_between) (He.ga K "is_between") ["thing", "low", "high"] cdv A outer s H E
  have po := @passes_fn P w0 K mg base "is_between" (defScope st_is_between) (He.ga K "is_between") ["thing", "low", "high"] cdv A outer s H E
  have u1 := Nat.lt_of_le_of_lt (Nat.add_le_add_left (show 1 ≤ 64 by decide) _) hr.units
  have u65 := un65 hr
  exact (s_one (s_ret (e_and (toL (x_pos (n := 1) (m := 1) rsE Cst.nil (callAt_fn h_is_integer.1 (hr.mono (by decide)) tk h_is_integer.2.1 .nil) rfl c.g_is_integer h_is_integer.2.2.1 (a_cons (e_var 0) a_nil) (Len.cons Len.nil))) (e_one (e_chain b_le b_le (l_var 1) (l_var 0) (l_var 2))))))
/-! is_limit -/
def m_is_limit : SM :=
  (mRet (mOrV (mBin isT (mL 0) (mC .non)) (mFn F_is_between [] (mCons (mV 0) (mCons (mC (.int 1)) (mCons (mC (.int 8)) mNil))))))
def F_is_limit : TF := runF 1 m_is_limit
theorem sc_is_limit : FnScope ["thing"] ["thing"] (defScope st_is_limit) := ⟨rfl, rfl, rfl, by decide +kernel, rfl, by decide +kernel, by decide +kernel⟩
theorem ok_is_limit (c : Fc w0 K mg) : ∃ fd, FnG P w0 K mg base (CX P w0) 4 (He.ga K "is_limit") fd ["thing"] (spF (wd K) 1 F_is_limit) ∧ (Binds K fd ["thing"] []) ∧ PySem.W.keepIn K (.ref (He.ga K "is_limit")) = true ∧ FunD K "is_limit" "is_limit" (defArgs st_is_limit) (defBody st_is_limit) (defScope st_is_limit) [] [] (He.ga K "is_limit") fd := by
  obtain ⟨fd, F⟩ := c.fd_is_limit
  obtain ⟨fd_is_between, h_is_between⟩ := ok_is_between (P := P) (base := base) c
  refine ⟨fd, ?_, F.bindsN (fun _ _ _ _ _ _ us hl => match us, hl with | [_], _ => rfl), F.kp, F⟩
  have nd := (sc_is_limit).nd
  refine fn_ok (w := wd K) (k := 3) (n := 1) (m := m_is_limit) F sc_is_limit rfl (fun cdv A outer s H E H0 hr => ?_)
  have tk := @takes_fn P w0 K mg base "is_limit" (defScope st_is_limit) (He.ga K "is_limit") ["thing"] cdv A outer s H E
  have po := @passes_fn P w0 K mg base "is_limit" (defScope st_is_limit) (He.ga K "is_limit") ["thing"] cdv A outer s H E
  have u1 := Nat.lt_of_le_of_lt (Nat.add_le_add_left (show 1 ≤ 64 by decide) _) hr.units
  have u65 := un65 hr
  exact (s_one (s_ret (e_or (toL (e_cmp b_is (l_var 0) (toL e_non) (nomark _))) (e_one (x_pos (n := 3) (m := 3) rsE Cst.nil (callAt_fn h_is_between.1 (hr.mono (by decide)) tk h_is_between.2.1 .nil) rfl c.g_is_between h_is_between.2.2.1 (a_cons (e_var 0) (a_cons e_int (a_cons (e_gint rfl c.i_MOST_SERVERS) a_nil))) (Len.cons (Len.cons (Len.cons Len.nil))))))))
/-! need_limits -/
def m_need_limits : SM :=
  (mSeq (mIfS (mNotB (mTst (mFn F_is_limit [] (mCons (mV 0) mNil))))
    mNoS
    mSkip)
  (mSeq (mIfS (mNotB (mTst (mFn F_is_limit [] (mCons (mV 1) mNil))))
    mNoS
    mSkip)
  (mSeq (mIfS (mNotB (mTst (mFn F_is_between [] (mCons (mV 2) (mCons (mC (.int 1)) (mCons (mC (.int 3)) mNil))))))
    mNoS
    mSkip)
  (mIfS (mNotB (mTst (mFn F_is_between [] (mCons (mV 3) (mCons (mC (.int 1)) (mCons (mC (.int 3)) mNil))))))
    mNoS
    mSkip))))
def F_need_limits : TF := runF 4 m_need_limits
theorem sc_need_limits : FnScope ["rise", "fall", "up", "down"] ["rise", "fall", "up", "down"] (defScope st_need_limits) := ⟨rfl, rfl, rfl, by decide +kernel, rfl, by decide +kernel, by decide +kernel⟩
theorem ok_need_limits (c : Fc w0 K mg) : ∃ fd, FnG P w0 K mg base (CX P w0) 5 (He.ga K "need_limits") fd ["rise", "fall", "up", "down"] (spF (wd K) 4 F_need_limits) ∧ (Binds K fd ["rise", "fall", "up", "down"] []) ∧ PySem.W.keepIn K (.ref (He.ga K "need_limits")) = true ∧ FunD K "need_limits" "need_limits" (defArgs st_need_limits) (defBody st_need_limits) (defScope st_need_limits) [] [] (He.ga K "need_limits") fd := by
  obtain ⟨fd, F⟩ := c.fd_need_limits
  obtain ⟨fd_is_between, h_is_between⟩ := ok_is_between (P := P) (base := base) c
  obtain ⟨fd_is_limit, h_is_limit⟩ := ok_is_limit (P := P) (base := base) c
  refine ⟨fd, ?_, F.bindsN (fun _ _ _ _ _ _ us hl => match us, hl with | [_, _, _, _], _ => rfl), F.kp, F⟩
  have nd := (sc_need_limits).nd
  refine fn_ok (w := wd K) (k := 4) (n := 4) (m := m_need_limits) F sc_need_limits rfl (fun cdv A outer s H E H0 hr => ?_)
  have tk := @takes_fn P w0 K mg base "need_limits" (defScope st_need_limits) (He.ga K "need_limits") ["rise", "fall", "up", "down"] cdv A outer s H E
  have po := @passes_fn P w0 K mg base "need_limits" (defScope st_need_limits) (He.ga K "need_limits") ["rise", "fall", "up", "down"] cdv A outer s H E
  have u1 := Nat.lt_of_le_of_lt (Nat.add_le_add_left (show 1 ≤ 64 by decide) _) hr.units
  have u65 := un65 hr
  exact (s_cons (s_if (t_not (t_val (toL (x_pos (n := 1) (m := 1) rsE Cst.nil (callAt_fn h_is_limit.1 (hr.mono (by decide)) tk h_is_limit.2.1 .nil) rfl c.g_is_limit h_is_limit.2.2.1 (a_cons (e_var 0) a_nil) (Len.cons Len.nil)))))
    (s_one s_no)
    s_nil)
  (s_cons (s_if (t_not (t_val (toL (x_pos (n := 1) (m := 1) rsE Cst.nil (callAt_fn h_is_limit.1 (hr.mono (by decide)) tk h_is_limit.2.1 .nil) rfl c.g_is_limit h_is_limit.2.2.1 (a_cons (e_var 1) a_nil) (Len.cons Len.nil)))))
    (s_one s_no)
    s_nil)
  (s_cons (s_if (t_not (t_val (toL (x_pos (n := 3) (m := 3) rsE Cst.nil (callAt_fn h_is_between.1 (hr.mono (by decide)) tk h_is_between.2.1 .nil) rfl c.g_is_between h_is_between.2.2.1 (a_cons (e_var 2) (a_cons e_int (a_cons (e_gint rfl c.i_LONGEST_WINDOW) a_nil))) (Len.cons (Len.cons (Len.cons Len.nil)))))))
    (s_one s_no)
    s_nil)
  (s_one (s_if (t_not (t_val (toL (x_pos (n := 3) (m := 3) rsE Cst.nil (callAt_fn h_is_between.1 (hr.mono (by decide)) tk h_is_between.2.1 .nil) rfl c.g_is_between h_is_between.2.2.1 (a_cons (e_var 3) (a_cons e_int (a_cons (e_gint rfl c.i_LONGEST_WINDOW) a_nil))) (Len.cons (Len.cons (Len.cons Len.nil)))))))
    (s_one s_no)
    s_nil)))))
/-! is_part -/
def m_is_part : SM :=
  (mSeq (mIfS (mOrB (mNotB (mTst (mIsa (isaB [4]) (mL 0)))) (mOrB (mTst (mBin eqT (mL 0) (mTup mNil))) (mNotB (mTst (mIsa (isaB [3]) (mBin ixT (mL 0) (mC (.int 0))))))))
    (mRet (mC (.bl false)))
    mSkip)
  (mSeq (mIfS (mOrB (mTst (mBin neT (mWGet tab_SIZES (mBin ixT (mL 0) (mC (.int 0))) (mC (.int 0))) (mCall lenF (mCons (mL 0) mNil)))) (mNotB (mTst (mCall allF (mCons (mLc (mIt seqT (mSl (mL 0) (mPart (mC (.int 1))) mNoPart)) (gN 1) mYes (mFn F_is_between [] (mCons (mV 1) (mCons (mC (.int 1)) (mCons (mC (.int 60)) mNil)))) [1]) mNil)))))
    (mRet (mC (.bl false)))
    mSkip)
  (mSeq (mIfS (mTst (mBin eqT (mBin ixT (mL 0) (mC (.int 0))) (mC (.str "aim"))))
    (mRet (mChain leT leT (mBin ixT (mL 0) (mC (.int 2))) (mBin ixT (mL 0) (mC (.int 1))) (mBin ixT (mL 0) (mC (.int 3)))))
    mSkip)
  (mRet (mBin leT (mBin ixT (mL 0) (mC (.int 2))) (mC (.int 8)))))))
def F_is_part : TF := runF 2 m_is_part
theorem sc_is_part : FnScope ["thing", "one"] ["thing"] (defScope st_is_part) := ⟨rfl, rfl, rfl, by decide +kernel, rfl, by decide +kernel, by decide +kernel⟩
theorem ok_is_part (c : Fc w0 K mg) : ∃ fd, FnG P w0 K mg base (CX P w0) 4 (He.ga K "is_part") fd ["thing"] (spF (wd K) 1 F_is_part) ∧ (Binds K fd ["thing"] []) ∧ PySem.W.keepIn K (.ref (He.ga K "is_part")) = true ∧ FunD K "is_part" "is_part" (defArgs st_is_part) (defBody st_is_part) (defScope st_is_part) [] [] (He.ga K "is_part") fd := by
  obtain ⟨fd, F⟩ := c.fd_is_part
  obtain ⟨fd_is_between, h_is_between⟩ := ok_is_between (P := P) (base := base) c
  refine ⟨fd, ?_, F.bindsN (fun _ _ _ _ _ _ us hl => match us, hl with | [_], _ => rfl), F.kp, F⟩
  have nd := (sc_is_part).nd
  refine fn_ok (w := wd K) (k := 3) (n := 1) (m := m_is_part) F sc_is_part rfl (fun cdv A outer s H E H0 hr => ?_)
  have tk := @takes_fn P w0 K mg base "is_part" (defScope st_is_part) (He.ga K "is_part") ["thing", "one"] cdv A outer s H E
  have po := @passes_fn P w0 K mg base "is_part" (defScope st_is_part) (He.ga K "is_part") ["thing", "one"] cdv A outer s H E
  have u1 := Nat.lt_of_le_of_lt (Nat.add_le_add_left (show 1 ≤ 64 by decide) _) hr.units
  have u65 := un65 hr
  exact (s_cons (s_if (PW.pt (t_or (t_not (t_val (toL (e_isi (isa_tuple) rfl (.ty "tuple") rfl c.n_isinstance (l_var 0) (pe_bltn rfl c.n_tuple rfl rfl))))) (t_or (t_cmp (b_eq hr.units rfl) (l_var 0) (toL (e_tup a_nil)) (nomark _)) (t_or1 (t_not (t_val (toL (e_isi (isa_str) rfl (.ty "str") rfl c.n_isinstance (toL (e_ix (l_var 0) (toL e_int))) (pe_bltn rfl c.n_str rfl rfl)))))))))
    (s_one (s_ret e_bl))
    s_nil)
  (s_cons (s_if (PW.pt (t_or (t_cmp (b_ne hr.units rfl) (toL (e_wget rfl c.tab_SIZES rfl c.g_SIZES (toL (e_ix (l_var 0) (toL e_int))) e_int)) (toL (e_callB (c_len rfl) rfl c.n_len rfl (al_cons (l_var 0) al_nil))) (nomark _)) (t_or1 (t_not (t_val (toL (e_callB (c_all rfl rfl) rfl c.n_all rfl (al_cons (toL (toE (f_lc (own := [("one", 1)]) rfl nd (i_seq (e_sl (l_var 0) (o_some (toL e_int)) o_none)) (blkOk_by (by rfl)) rfl (fun B s H C cl fp => (gc_name nd (i := 1) rfl (by first | exact Or.inl rfl | exact Or.inr rfl))) (fun B s H C cl fp => ts_nil) (fun B s H C cl fp => have tk := @takesN (X := Cx.blk _ s H _ (compEnvC _ cl C _) fp); (x_pos (n := 3) (m := 3) rsE Cst.nil (callAt_fn h_is_between.1 (hr.mono (by decide)) tk h_is_between.2.1 .nil) rfl c.g_is_between h_is_between.2.2.1 (a_cons (e_var 1) (a_cons e_int (a_cons (e_gint rfl c.i_HIGHEST_MARK) a_nil))) (Len.cons (Len.cons (Len.cons Len.nil)))))))) al_nil))))))))
    (s_one (s_ret e_bl))
    s_nil)
  (s_cons (s_if (t_cmp (b_eq hr.units rfl) (toL (e_ix (l_var 0) (toL e_int))) (toL e_str) (nomark _))
    (s_one (s_ret (e_chain b_le b_le (toL (e_ix (l_var 0) (toL e_int))) (toL (e_ix (l_var 0) (toL e_int))) (toL (e_ix (l_var 0) (toL e_int))))))
    s_nil)
  (s_one (s_ret (e_cmp b_le (toL (e_ix (l_var 0) (toL e_int))) (toL (e_gint rfl c.i_MOST_SERVERS)) (nomark _)))))))
/-! are_parts -/
def m_are_parts : SM :=
  (mRet (mAndV (mIsa (isaB [4, 5]) (mL 0)) (mAndV (mBin leT (mCall lenF (mCons (mL 0) mNil)) (mC (.int 4))) (mCall allF (mCons (mLc (mIt seqT (mV 0)) (gN 1) mYes (mFn F_is_part [] (mCons (mV 1) mNil)) [1]) mNil)))))
def F_are_parts : TF := runF 2 m_are_parts
theorem sc_are_parts : FnScope ["thing", "one"] ["thing"] (defScope st_are_parts) := ⟨rfl, rfl, rfl, by decide +kernel, rfl, by decide +kernel, by decide +kernel⟩
theorem ok_are_parts (c : Fc w0 K mg) : ∃ fd, FnG P w0 K mg base (CX P w0) 5 (He.ga K "are_parts") fd ["thing"] (spF (wd K) 1 F_are_parts) ∧ (Binds K fd ["thing"] []) ∧ PySem.W.keepIn K (.ref (He.ga K "are_parts")) = true ∧ FunD K "are_parts" "are_parts" (defArgs st_are_parts) (defBody st_are_parts) (defScope st_are_parts) [] [] (He.ga K "are_parts") fd := by
  obtain ⟨fd, F⟩ := c.fd_are_parts
  obtain ⟨fd_is_part, h_is_part⟩ := ok_is_part (P := P) (base := base) c
  refine ⟨fd, ?_, F.bindsN (fun _ _ _ _ _ _ us hl => match us, hl with | [_], _ => rfl), F.kp, F⟩
  have nd := (sc_are_parts).nd
  refine fn_ok (w := wd K) (k := 4) (n := 1) (m := m_are_parts) F sc_are_parts rfl (fun cdv A outer s H E H0 hr => ?_)
  have tk := @takes_fn P w0 K mg base "are_parts" (defScope st_are_parts) (He.ga K "are_parts") ["thing", "one"] cdv A outer s H E
  have po := @passes_fn P w0 K mg base "are_parts" (defScope st_are_parts) (He.ga K "are_parts") ["thing", "one"] cdv A outer s H E
  have u1 := Nat.lt_of_le_of_lt (Nat.add_le_add_left (show 1 ≤ 64 by decide) _) hr.units
  have u65 := un65 hr
  exact (s_one (s_ret (e_and (toL (e_isiT (isa_list_tuple) rfl (.cons (.ty "list") (.cons (.ty "tuple") .nil)) (by decide) rfl c.n_isinstance (l_var 0) (pa_cons (pe_bltn (v := .ty "list") rfl c.n_list rfl rfl) (pa_cons (pe_bltn (v := .ty "tuple") rfl c.n_tuple rfl rfl) pa_nil)) (fun _ _ _ q => q))) (e_and (toL (e_cmp b_le (toL (e_callB (c_len rfl) rfl c.n_len rfl (al_cons (l_var 0) al_nil))) (toL (e_gint rfl c.i_MOST_PARTS)) (nomark _))) (e_one (e_callB (c_all rfl rfl) rfl c.n_all rfl (al_cons (toL (toE (f_lc (own := [("one", 1)]) rfl nd (i_seq (e_var 0)) (blkOk_by (by rfl)) rfl (fun B s H C cl fp => (gc_name nd (i := 1) rfl (by first | exact Or.inl rfl | exact Or.inr rfl))) (fun B s H C cl fp => ts_nil) (fun B s H C cl fp => have tk := @takesN (X := Cx.blk _ s H _ (compEnvC _ cl C _) fp); (x_pos (n := 1) (m := 1) rsE Cst.nil (callAt_fn h_is_part.1 (hr.mono (by decide)) tk h_is_part.2.1 .nil) rfl c.g_is_part h_is_part.2.2.1 (a_cons (e_var 1) a_nil) (Len.cons Len.nil)))))) al_nil)))))))
/-! Rule.__init__ -/
def m_Rule_init : SM :=
  (mSeq (mIfS (mNotB (mTst (mFn F_are_parts [] (mCons (mV 1) mNil))))
    mNoS
    mSkip)
  (mSeq (mIfS (mNotB (mTst (mFn F_is_between [] (mCons (mV 2) (mCons (mC (.int 1)) (mCons (mC (.int 8)) mNil))))))
    mNoS
    mSkip)
  (mSeq (mIfS (mNotB (mTst (mFn F_is_between [] (mCons (mV 3) (mCons (mV 2) (mCons (mC (.int 8)) mNil))))))
    mNoS
    mSkip)
  (mSeq (mDrop (mFn F_need_limits [] (mCons (mV 4) (mCons (mV 5) (mCons (mV 6) (mCons (mV 7) mNil))))))
  (mSeq (mFld 3 0 "r_parts" (mCall tupleF (mCons (mL 1) mNil)))
  (mSeq (mFld 3 0 "r_bounds" (mTup (mCons (mV 2) (mCons (mV 3) mNil))))
  (mFld 3 0 "r_limits" (mTup (mCons (mV 4) (mCons (mV 5) (mCons (mV 6) (mCons (mV 7) mNil))))))))))))
def F_Rule_init : TF := runI 8 3 m_Rule_init
theorem sc_Rule_init : FnScope ["self", "parts", "least", "most", "rise", "fall", "up", "down"] ["self", "parts", "least", "most", "rise", "fall", "up", "down"] (defScope st_Rule_init) := ⟨rfl, rfl, rfl, by decide +kernel, rfl, by decide +kernel, by decide +kernel⟩
theorem ok_Rule_init (c : Fc w0 K mg) : ∃ fd, FnG P w0 K mg base (CX P w0) 6 (He.ma K (He.ga K "Rule") "__init__") fd ["self", "parts", "least", "most", "rise", "fall", "up", "down"] (spI (wd K) 7 3 F_Rule_init) ∧ (True) ∧ PySem.W.keepIn K (.ref (He.ma K (He.ga K "Rule") "__init__")) = true ∧ FunD K "__init__" "Rule.__init__" (defArgs st_Rule_init) (defBody st_Rule_init) (defScope st_Rule_init) [] [("least", .int 1), ("most", .int 8), ("rise", .non), ("fall", .non), ("up", .int 1), ("down", .int 1)] (He.ma K (He.ga K "Rule") "__init__") fd := by
  obtain ⟨fd, F⟩ := c.fd_Rule_init
  obtain ⟨fd_need_limits, h_need_limits⟩ := ok_need_limits (P := P) (base := base) c
  obtain ⟨fd_is_between, h_is_between⟩ := ok_is_between (P := P) (base := base) c
  obtain ⟨fd_are_parts, h_are_parts⟩ := ok_are_parts (P := P) (base := base) c
  refine ⟨fd, ?_, True.intro, F.kp, F⟩
  have nd := (sc_Rule_init).nd
  refine init_ok (w := wd K) (k := 5) (n := 7) (c := 3) (m := m_Rule_init) F sc_Rule_init rfl (fun cdv A outer s H E H0 hr => ?_)
  have tk := @takes_fn P w0 K mg base "Rule.__init__" (defScope st_Rule_init) (He.ma K (He.ga K "Rule") "__init__") ["self", "parts", "least", "most", "rise", "fall", "up", "down"] cdv A outer s H E
  have po := @passes_fn P w0 K mg base "Rule.__init__" (defScope st_Rule_init) (He.ma K (He.ga K "Rule") "__init__") ["self", "parts", "least", "most", "rise", "fall", "up", "down"] cdv A outer s H E
  have u1 := Nat.lt_of_le_of_lt (Nat.add_le_add_left (show 1 ≤ 64 by decide) _) hr.units
  have u65 := un65 hr
  exact (s_cons (s_if (t_not (t_val (toL (x_pos (n := 1) (m := 1) rsE Cst.nil (callAt_fn h_are_parts.1 (hr.mono (by decide)) tk h_are_parts.2.1 .nil) rfl c.g_are_parts h_are_parts.2.2.1 (a_cons (e_var 1) a_nil) (Len.cons Len.nil)))))
    (s_one s_no)
    s_nil)
  (s_cons (s_if (t_not (t_val (toL (x_pos (n := 3) (m := 3) rsE Cst.nil (callAt_fn h_is_between.1 (hr.mono (by decide)) tk h_is_between.2.1 .nil) rfl c.g_is_between h_is_between.2.2.1 (a_cons (e_var 2) (a_cons e_int (a_cons (e_gint rfl c.i_MOST_SERVERS) a_nil))) (Len.cons (Len.cons (Len.cons Len.nil)))))))
    (s_one s_no)
    s_nil)
  (s_cons (s_if (t_not (t_val (toL (x_pos (n := 3) (m := 3) rsE Cst.nil (callAt_fn h_is_between.1 (hr.mono (by decide)) tk h_is_between.2.1 .nil) rfl c.g_is_between h_is_between.2.2.1 (a_cons (e_var 3) (a_cons (e_var 2) (a_cons (e_gint rfl c.i_MOST_SERVERS) a_nil))) (Len.cons (Len.cons (Len.cons Len.nil)))))))
    (s_one s_no)
    s_nil)
  (s_cons (s_drop (toL (x_pos (n := 4) (m := 4) rsE Cst.nil (callAt_fn h_need_limits.1 (hr.mono (by decide)) tk h_need_limits.2.1 .nil) rfl c.g_need_limits h_need_limits.2.2.1 (a_cons (e_var 4) (a_cons (e_var 5) (a_cons (e_var 6) (a_cons (e_var 7) a_nil)))) (Len.cons (Len.cons (Len.cons (Len.cons Len.nil)))))))
  (s_cons (s_fld 3 0 rfl c.cls_Rule c.na_Rule_r_parts (e_callTy (c_tuple rfl) rfl c.n_tuple rfl (al_cons (l_var 1) al_nil)))
  (s_cons (s_fld 3 0 rfl c.cls_Rule c.na_Rule_r_bounds (e_tup (a_cons (e_var 2) (a_cons (e_var 3) a_nil))))
  (s_one (s_fld 3 0 rfl c.cls_Rule c.na_Rule_r_limits (e_tup (a_cons (e_var 4) (a_cons (e_var 5) (a_cons (e_var 6) (a_cons (e_var 7) a_nil)))))))))))))
abbrev kG_Rule_init_2_least_most_rise_fall_up_down {α : Type} (ts zs : List α) : List α := kG [0, 1, 2, 3, 4, 5] ts zs
theorem kG_Rule_init_2_least_most_rise_fall_up_down_ok : GOk (wd K) kG_Rule_init_2_least_most_rise_fall_up_down kG_Rule_init_2_least_most_rise_fall_up_down := kG_ok [0, 1, 2, 3, 4, 5]
theorem kG_Rule_init_2_least_most_rise_fall_up_down_cons : ∀ (u : V) (vs zs : List V), kG_Rule_init_2_least_most_rise_fall_up_down (u :: vs) zs = u :: kG_Rule_init_2_least_most_rise_fall_up_down vs zs := kG_cons [0, 1, 2, 3, 4, 5]
theorem kG_Rule_init_2_least_most_rise_fall_up_down_len : ∀ vs zs : List V, vs.length = 1 → zs.length = 6 → (kG_Rule_init_2_least_most_rise_fall_up_down vs zs).length = 7 := fun vs zs h1 h2 => match vs, zs, h1, h2 with
  | [_], [_, _, _, _, _, _], _, _ => rfl
theorem kB_Rule_init_2_least_most_rise_fall_up_down {fd : FuncData} (F : FunD K "__init__" "Rule.__init__" (defArgs st_Rule_init) (defBody st_Rule_init) (defScope st_Rule_init) [] [("least", .int 1), ("most", .int 8), ("rise", .non), ("fall", .non), ("up", .int 1), ("down", .int 1)] (He.ma K (He.ga K "Rule") "__init__") fd) : KBn K fd ["self", "parts", "least", "most", "rise", "fall", "up", "down"] 2 ["least", "most", "rise", "fall", "up", "down"] kG_Rule_init_2_least_most_rise_fall_up_down kG_Rule_init_2_least_most_rise_fall_up_down :=
  kbn_of F 2 _ [0, 1, 2, 3, 4, 5] fun kV doc pm an cdv ct us ws h1 h2 => match us, ws, h1, h2 with
  | [_, _], [_, _, _, _, _, _], _, _ => rfl
/-! _law_rule -/
def m_law_rule : SM :=
  (mSeq (mSet 1 (mTup (mCons (mBin dgT (mL 0) (mC (.str "rise"))) (mCons (mBin dgT (mL 0) (mC (.str "fall"))) (mCons (mBin dgT (mL 0) (mC (.str "up"))) (mCons (mBin dgT (mL 0) (mC (.str "down"))) mNil))))))
  (mSeq (mOwn 2 (mDisp [((mC (.str "least")), (mBin dgT (mL 0) (mC (.str "least")))), ((mC (.str "most")), (mBin dgT (mL 0) (mC (.str "most"))))]))
  (mRetF (mFnF F_Rule_init [] (mKw kG_Rule_init_2_least_most_rise_fall_up_down (mCons (mCall listF (mCons (mBin dgT (mL 0) (mC (.str "parts"))) mNil)) mNil) (mCons (mBin dgT (mL 2) (mC (.str "least"))) (mCons (mBin dgT (mL 2) (mC (.str "most"))) (mCons (mBin ixT (mL 1) (mC (.int 0))) (mCons (mBin ixT (mL 1) (mC (.int 1))) (mCons (mBin ixT (mL 1) (mC (.int 2))) (mCons (mBin ixT (mL 1) (mC (.int 3))) mNil)))))))))))
def F_law_rule : TF := runF 3 m_law_rule
theorem sc_law_rule : FnScope ["_law_case_here", "_law_limits", "_law_more"] ["_law_case_here"] (defScope st_law_rule) := ⟨rfl, rfl, rfl, by decide +kernel, rfl, by decide +kernel, by decide +kernel⟩
theorem ok_law_rule (c : Fc w0 K mg) : ∃ fd, FnG P w0 K mg base (CX P w0) 8 (He.ga K "_law_rule") fd ["_law_case_here"] (spF (wd K) 1 F_law_rule) ∧ (Binds K fd ["_law_case_here"] []) ∧ PySem.W.keepIn K (.ref (He.ga K "_law_rule")) = true ∧ FunD K "_law_rule" "_law_rule" (defArgs st_law_rule) (defBody st_law_rule) (defScope st_law_rule) [] [] (He.ga K "_law_rule") fd := by
  obtain ⟨fd, F⟩ := c.fd_law_rule
  obtain ⟨fd_Rule_init, h_Rule_init⟩ := ok_Rule_init (P := P) (base := base) c
  refine ⟨fd, ?_, F.bindsN (fun _ _ _ _ _ _ us hl => match us, hl with | [_], _ => rfl), F.kp, F⟩
  have nd := (sc_law_rule).nd
  refine fn_ok (w := wd K) (k := 7) (n := 1) (m := m_law_rule) F sc_law_rule rfl (fun cdv A outer s H E H0 hr => ?_)
  have tk := @takes_fn P w0 K mg base "_law_rule" (defScope st_law_rule) (He.ga K "_law_rule") ["_law_case_here", "_law_limits", "_law_more"] cdv A outer s H E
  have po := @passes_fn P w0 K mg base "_law_rule" (defScope st_law_rule) (He.ga K "_law_rule") ["_law_case_here", "_law_limits", "_law_more"] cdv A outer s H E
  have u1 := Nat.lt_of_le_of_lt (Nat.add_le_add_left (show 1 ≤ 64 by decide) _) hr.units
  have u65 := un65 hr
  exact (s_cons (s_set nd (i := 1) rfl (by first | exact Or.inl rfl | exact Or.inr rfl) (e_tup (a_cons (e_dg u1 (l_var 0) (toL e_str)) (a_cons (e_dg u1 (l_var 0) (toL e_str)) (a_cons (e_dg u1 (l_var 0) (toL e_str)) (a_cons (e_dg u1 (l_var 0) (toL e_str)) a_nil))))))
  (s_cons (s_own nd (i := 2) rfl (by first | exact Or.inl rfl | exact Or.inr rfl) (f_disp (xps_cons (fun _ => e_str) (fun _ => (e_dg u1 (l_var 0) (toL e_str))) (xps_cons (fun _ => e_str) (fun _ => (e_dg u1 (l_var 0) (toL e_str))) xps_nil))))
  (s_one (s_retF (x_mkK (n := 7) (c := 3) (gV := kG_Rule_init_2_least_most_rise_fall_up_down) kG_Rule_init_2_least_most_rise_fall_up_down_ok kG_Rule_init_2_least_most_rise_fall_up_down_cons (callAt_mkK (c.mk_Rule) h_Rule_init.1 (hr.mono (by decide)) tk (kB_Rule_init_2_least_most_rise_fall_up_down h_Rule_init.2.2.2)) rfl c.g_Rule (c.mk_Rule).kp (a_cons (toE (f_callTy (c_list rfl rfl) rfl c.n_list rfl (al_cons (toL (e_dg u1 (l_var 0) (toL e_str))) al_nil))) a_nil) (Len.cons Len.nil) (k_cons (e_dg u1 (l_var 2) (toL e_str)) (k_cons (e_dg u1 (l_var 2) (toL e_str)) (k_cons (e_ix (l_var 1) (toL e_int)) (k_cons (e_ix (l_var 1) (toL e_int)) (k_cons (e_ix (l_var 1) (toL e_int)) (k_cons (e_ix (l_var 1) (toL e_int)) k_nil)))))) (Len.cons (Len.cons (Len.cons (Len.cons (Len.cons (Len.cons Len.nil)))))) kG_Rule_init_2_least_most_rise_fall_up_down_len)))))
/-! _law_take -/
def m_law_take : SM :=
  (mSeq (mIfS (mAndB (mTst (mBin eqT (mDr 0 "rest") (mC (.int 0)))) (mLarge 0))
    (mAsg (mPopL 0) (gDr 0 "rest"))
    (mIfS (mTst (mBin eqT (mDr 0 "rest") (mC (.int 0))))
    (mSeq (mAsg (mBin addT (mDr 0 "turn") (mC (.int 1))) (gDr 0 "turn"))
  (mSeq (mFor (mIt seqT (mCells 0)) (gN 2)
    (mAsg (mBin modT (mCall intF (mCons (mBin addT (mBin addT (mBin mulI (mDr 0 "mix") (mC (.int 69621))) (mBin mulI (mL 2) (mC (.int 48271)))) (mC (.int 12345))) mNil)) (mC (.int 2147483629))) (gDr 0 "mix")))
  (mAsg (mBin modT (mCall intF (mCons (mBin powT (mDr 0 "mix") (mC (.int 5))) mNil)) (mC (.int 2305843009213693951))) (gDr 0 "rest"))))
    mSkip))
  (mSeq (mAsg (mCall divmodF (mCons (mDr 0 "rest") (mCons (mL 1) mNil))) (gTn 2 (gsCons (gDr 0 "rest") (gsCons (gN 3) gsNil))))
  (mRetV 3)))
def F_law_take : TF := runF 4 m_law_take
theorem sc_law_take : FnScope ["_law_draw", "_law_size", "_law_cell", "_law_found"] ["_law_draw", "_law_size"] (defScope st_law_take) := ⟨rfl, rfl, rfl, by decide +kernel, rfl, by decide +kernel, by decide +kernel⟩
theorem ok_law_take (c : Fc w0 K mg) : ∃ fd, FnG P w0 K mg base (CX P w0) 2 (He.ga K "_law_take") fd ["_law_draw", "_law_size"] (spF (wd K) 2 F_law_take) ∧ (Binds K fd ["_law_draw", "_law_size"] []) ∧ PySem.W.keepIn K (.ref (He.ga K "_law_take")) = true ∧ FunD K "_law_take" "_law_take" (defArgs st_law_take) (defBody st_law_take) (defScope st_law_take) [] [] (He.ga K "_law_take") fd := by
  obtain ⟨fd, F⟩ := c.fd_law_take
  refine ⟨fd, ?_, F.bindsN (fun _ _ _ _ _ _ us hl => match us, hl with | [_, _], _ => rfl), F.kp, F⟩
  have nd := (sc_law_take).nd
  refine fn_ok (w := wd K) (k := 1) (n := 2) (m := m_law_take) F sc_law_take rfl (fun cdv A outer s H E H0 hr => ?_)
  have tk := @takes_fn P w0 K mg base "_law_take" (defScope st_law_take) (He.ga K "_law_take") ["_law_draw", "_law_size", "_law_cell", "_law_found"] cdv A outer s H E
  have po := @passes_fn P w0 K mg base "_law_take" (defScope st_law_take) (He.ga K "_law_take") ["_law_draw", "_law_size", "_law_cell", "_law_found"] cdv A outer s H E
  have u1 := Nat.lt_of_le_of_lt (Nat.add_le_add_left (show 1 ≤ 64 by decide) _) hr.units
  have u65 := un65 hr
  exact (s_cons (s_if (PW.pt (t_and (t_cmp (b_eq hr.units rfl) (toL (e_dr 0 u1)) (toL e_int) (nomark _)) (t_and1 (t_large 0 hr.units))))
    (s_one (s_asgM (m_popL 0 u1) (g_dr 0 u1)))
    (s_one (s_if (t_cmp (b_eq hr.units rfl) (toL (e_dr 0 u1)) (toL e_int) (nomark _))
    (s_cons (s_asg (e_bin (b_add rfl) (toL (e_dr 0 u1)) (toL e_int)) (g_dr 0 u1))
  (s_cons (s_for po rfl (i_seq (e_cells 0 u1)) (g_name nd (i := 2) rfl (by first | exact Or.inl rfl | exact Or.inr rfl))
    (s_one (s_asg (e_bin b_mod (toL (e_callTy c_int rfl c.n_int rfl (al_cons (toL (e_bin (b_add rfl) (toL (e_bin (b_add rfl) (toL (e_bin b_mul (toL (e_dr 0 u1)) (toL e_int))) (toL (e_bin b_mul (l_var 2) (toL e_int))))) (toL e_int))) al_nil))) (toL e_int)) (g_dr 0 u1))))
  (s_one (s_asg (e_bin b_mod (toL (e_callTy c_int rfl c.n_int rfl (al_cons (toL (e_bin b_pow (toL (e_dr 0 u1)) (toL e_int))) al_nil))) (toL e_int)) (g_dr 0 u1)))))
    s_nil)))
  (s_cons (s_asg (e_callB c_divmod rfl c.n_divmod rfl (al_cons (toL (e_dr 0 u1)) (al_cons (l_var 1) al_nil))) (g_tup rfl (gs_cons (g_dr 0 u1) (gs_cons (g_name nd (i := 3) rfl (by first | exact Or.inl rfl | exact Or.inr rfl)) gs_nil))))
  (s_one (s_retV 3))))
/-! _law_pick -/
def m_law_pick : SM :=
  (mRet (mBin sbT (mL 1) (mFn F_law_take [] (mCons (mV 0) (mCons (mCall lenF (mCons (mL 1) mNil)) mNil)))))
def F_law_pick : TF := runF 2 m_law_pick
theorem sc_law_pick : FnScope ["_law_draw", "_law_some"] ["_law_draw", "_law_some"] (defScope st_law_pick) := ⟨rfl, rfl, rfl, by decide +kernel, rfl, by decide +kernel, by decide +kernel⟩
theorem ok_law_pick (c : Fc w0 K mg) : ∃ fd, FnG P w0 K mg base (CX P w0) 3 (He.ga K "_law_pick") fd ["_law_draw", "_law_some"] (spF (wd K) 2 F_law_pick) ∧ (Binds K fd ["_law_draw", "_law_some"] []) ∧ PySem.W.keepIn K (.ref (He.ga K "_law_pick")) = true ∧ FunD K "_law_pick" "_law_pick" (defArgs st_law_pick) (defBody st_law_pick) (defScope st_law_pick) [] [] (He.ga K "_law_pick") fd := by
  obtain ⟨fd, F⟩ := c.fd_law_pick
  obtain ⟨fd_law_take, h_law_take⟩ := ok_law_take (P := P) (base := base) c
  refine ⟨fd, ?_, F.bindsN (fun _ _ _ _ _ _ us hl => match us, hl with | [_, _], _ => rfl), F.kp, F⟩
  have nd := (sc_law_pick).nd
  refine fn_ok (w := wd K) (k := 2) (n := 2) (m := m_law_pick) F sc_law_pick rfl (fun cdv A outer s H E H0 hr => ?_)
  have tk := @takes_fn P w0 K mg base "_law_pick" (defScope st_law_pick) (He.ga K "_law_pick") ["_law_draw", "_law_some"] cdv A outer s H E
  have po := @passes_fn P w0 K mg base "_law_pick" (defScope st_law_pick) (He.ga K "_law_pick") ["_law_draw", "_law_some"] cdv A outer s H E
  have u1 := Nat.lt_of_le_of_lt (Nat.add_le_add_left (show 1 ≤ 64 by decide) _) hr.units
  have u65 := un65 hr
  exact (s_one (s_ret (e_sub u1 (l_var 1) (toL (x_pos (n := 2) (m := 2) rsE Cst.nil (callAt_fn h_law_take.1 (hr.mono (by decide)) tk h_law_take.2.1 .nil) rfl c.g_law_take h_law_take.2.2.1 (a_cons (e_var 0) (a_cons (e_callB (c_len rfl) rfl c.n_len rfl (al_cons (l_var 1) al_nil)) a_nil)) (Len.cons (Len.cons Len.nil)))))))
/-! _law_part -/
def m_law_part : SM :=
  (mSeq (mPar2 1 2 (mCons (mFn F_law_take [] (mCons (mV 0) (mCons (mC (.int 5)) mNil))) (mCons (mFn F_law_pick [] (mCons (mV 0) (mCons (mLst (mCons (mC (.int 4)) (mCons (mC (.int 12)) (mCons (mC (.int 12)) (mCons (mC (.int 60)) mNil))))) mNil))) mNil)))
  (mSeq (mSet 3 (mBin addT (mC (.int 1)) (mFn F_law_take [] (mCons (mV 0) (mCons (mV 2) mNil)))))
  (mSeq (mIfS (mTst (mBin ltT (mL 1) (mC (.int 2))))
    (mRet (mTup (mCons (mC (.str "over")) (mCons (mV 3) (mCons (mFn F_law_pick [] (mCons (mV 0) (mCons (mLst (mCons (mC (.int 1)) (mCons (mC (.int 1)) (mCons (mC (.int 2)) (mCons (mC (.int 8)) mNil))))) mNil))) mNil)))))
    mSkip)
  (mSeq (mIfS (mTst (mBin ltT (mL 1) (mC (.int 4))))
    (mRet (mTup (mCons (mC (.str "under")) (mCons (mV 3) (mCons (mFn F_law_pick [] (mCons (mV 0) (mCons (mLst (mCons (mC (.int 1)) (mCons (mC (.int 1)) (mCons (mC (.int 2)) (mCons (mC (.int 8)) mNil))))) mNil))) mNil)))))
    mSkip)
  (mRet (mTup (mCons (mC (.str "aim")) (mCons (mV 3) (mCons (mBin addT (mC (.int 1)) (mFn F_law_take [] (mCons (mV 0) (mCons (mV 3) mNil)))) (mCons (mBin addT (mL 3) (mFn F_law_take [] (mCons (mV 0) (mCons (mCall minF (mCons (mC (.int 4)) (mCons (mBin subT (mC (.int 61)) (mL 3)) mNil))) mNil)))) mNil))))))))))
def F_law_part : TF := runF 4 m_law_part
theorem sc_law_part : FnScope ["_law_draw", "_law_way", "_law_top", "_law_mark"] ["_law_draw"] (defScope st_law_part) := ⟨rfl, rfl, rfl, by decide +kernel, rfl, by decide +kernel, by decide +kernel⟩
theorem ok_law_part (c : Fc w0 K mg) : ∃ fd, FnG P w0 K mg base (CX P w0) 4 (He.ga K "_law_part") fd ["_law_draw"] (spF (wd K) 1 F_law_part) ∧ (Binds K fd ["_law_draw"] []) ∧ PySem.W.keepIn K (.ref (He.ga K "_law_part")) = true ∧ FunD K "_law_part" "_law_part" (defArgs st_law_part) (defBody st_law_part) (defScope st_law_part) [] [] (He.ga K "_law_part") fd := by
  obtain ⟨fd, F⟩ := c.fd_law_part
  obtain ⟨fd_law_take, h_law_take⟩ := ok_law_take (P := P) (base := base) c
  obtain ⟨fd_law_pick, h_law_pick⟩ := ok_law_pick (P := P) (base := base) c
  refine ⟨fd, ?_, F.bindsN (fun _ _ _ _ _ _ us hl => match us, hl with | [_], _ => rfl), F.kp, F⟩
  have nd := (sc_law_part).nd
  refine fn_ok (w := wd K) (k := 3) (n := 1) (m := m_law_part) F sc_law_part rfl (fun cdv A outer s H E H0 hr => ?_)
  have tk := @takes_fn P w0 K mg base "_law_part" (defScope st_law_part) (He.ga K "_law_part") ["_law_draw", "_law_way", "_law_top", "_law_mark"] cdv A outer s H E
  have po := @passes_fn P w0 K mg base "_law_part" (defScope st_law_part) (He.ga K "_law_part") ["_law_draw", "_law_way", "_law_top", "_law_mark"] cdv A outer s H E
  have u1 := Nat.lt_of_le_of_lt (Nat.add_le_add_left (show 1 ≤ 64 by decide) _) hr.units
  have u65 := un65 hr
  exact (s_cons (s_par rfl nd (i := 1) (j := 2) rfl rfl (by decide) rfl rfl (a_cons (x_pos (n := 2) (m := 2) rsE Cst.nil (callAt_fn h_law_take.1 (hr.mono (by decide)) tk h_law_take.2.1 .nil) rfl c.g_law_take h_law_take.2.2.1 (a_cons (e_var 0) (a_cons e_int a_nil)) (Len.cons (Len.cons Len.nil))) (a_cons (x_pos (n := 2) (m := 2) rsE Cst.nil (callAt_fn h_law_pick.1 (hr.mono (by decide)) tk h_law_pick.2.1 .nil) rfl c.g_law_pick h_law_pick.2.2.1 (a_cons (e_var 0) (a_cons (toE (f_lst (a_cons e_int (a_cons e_int (a_cons e_int (a_cons e_int a_nil)))))) a_nil)) (Len.cons (Len.cons Len.nil))) a_nil)) rfl)
  (s_cons (s_set nd (i := 3) rfl (by first | exact Or.inl rfl | exact Or.inr rfl) (e_bin (b_add rfl) (toL e_int) (toL (x_pos (n := 2) (m := 2) rsE Cst.nil (callAt_fn h_law_take.1 (hr.mono (by decide)) tk h_law_take.2.1 .nil) rfl c.g_law_take h_law_take.2.2.1 (a_cons (e_var 0) (a_cons (e_var 2) a_nil)) (Len.cons (Len.cons Len.nil))))))
  (s_cons (s_if (t_cmp b_lt (l_var 1) (toL e_int) (nomark _))
    (s_one (s_ret (e_tup (a_cons e_str (a_cons (e_var 3) (a_cons (x_pos (n := 2) (m := 2) rsE Cst.nil (callAt_fn h_law_pick.1 (hr.mono (by decide)) tk h_law_pick.2.1 .nil) rfl c.g_law_pick h_law_pick.2.2.1 (a_cons (e_var 0) (a_cons (toE (f_lst (a_cons e_int (a_cons e_int (a_cons e_int (a_cons e_int a_nil)))))) a_nil)) (Len.cons (Len.cons Len.nil))) a_nil))))))
    s_nil)
  (s_cons (s_if (t_cmp b_lt (l_var 1) (toL e_int) (nomark _))
    (s_one (s_ret (e_tup (a_cons e_str (a_cons (e_var 3) (a_cons (x_pos (n := 2) (m := 2) rsE Cst.nil (callAt_fn h_law_pick.1 (hr.mono (by decide)) tk h_law_pick.2.1 .nil) rfl c.g_law_pick h_law_pick.2.2.1 (a_cons (e_var 0) (a_cons (toE (f_lst (a_cons e_int (a_cons e_int (a_cons e_int (a_cons e_int a_nil)))))) a_nil)) (Len.cons (Len.cons Len.nil))) a_nil))))))
    s_nil)
  (s_one (s_ret (e_tup (a_cons e_str (a_cons (e_var 3) (a_cons (e_bin (b_add rfl) (toL e_int) (toL (x_pos (n := 2) (m := 2) rsE Cst.nil (callAt_fn h_law_take.1 (hr.mono (by decide)) tk h_law_take.2.1 .nil) rfl c.g_law_take h_law_take.2.2.1 (a_cons (e_var 0) (a_cons (e_var 3) a_nil)) (Len.cons (Len.cons Len.nil))))) (a_cons (e_bin (b_add rfl) (l_var 3) (toL (x_pos (n := 2) (m := 2) rsE Cst.nil (callAt_fn h_law_take.1 (hr.mono (by decide)) tk h_law_take.2.1 .nil) rfl c.g_law_take h_law_take.2.2.1 (a_cons (e_var 0) (a_cons (e_callB (c_min rfl rfl) rfl c.n_min rfl (al_cons (toL e_int) (al_cons (toL (e_bin b_sub (toL e_int) (l_var 3))) al_nil))) a_nil)) (Len.cons (Len.cons Len.nil))))) a_nil)))))))))))
/-! _law_case -/
def m_law_case : SM :=
  (mSeq (mSet 1 (mFn F_law_pick [] (mCons (mV 0) (mCons (mLst (mCons (mC (.int 1)) (mCons (mC (.int 1)) (mCons (mC (.int 1)) (mCons (mC (.int 2)) (mCons (mC (.int 4)) (mCons (mC (.int 8)) mNil))))))) mNil))))
  (mSeq (mOwn 2 (mDisp [((mC (.str "least")), (mV 1)), ((mC (.str "most")), (mCall minF (mCons (mC (.int 8)) (mCons (mBin addT (mL 1) (mFn F_law_take [] (mCons (mV 0) (mCons (mC (.int 8)) mNil)))) mNil)))), ((mC (.str "rise")), (mC .non)), ((mC (.str "fall")), (mC .non))]))
  (mSeq (mAsg (mLc (mItA rnF1 (mCons (mFn F_law_pick [] (mCons (mV 0) (mCons (mLst (mCons (mC (.int 0)) (mCons (mC (.int 1)) (mCons (mC (.int 2)) (mCons (mC (.int 2)) (mCons (mC (.int 2)) (mCons (mC (.int 3)) (mCons (mC (.int 4)) mNil)))))))) mNil))) mNil)) (gN 3) mYes (mFn F_law_part [] (mCons (mV 0) mNil)) [3]) (gPut putD 2 (mC (.str "parts"))))
  (mSeq (mIfS (mTst (mBin eqT (mFn F_law_take [] (mCons (mV 0) (mCons (mC (.int 3)) mNil))) (mC (.int 0))))
    (mAsg (mFn F_law_pick [] (mCons (mV 0) (mCons (mLst (mCons (mC (.int 1)) (mCons (mC (.int 2)) (mCons (mC (.int 3)) (mCons (mBin addT (mC (.int 1)) (mFn F_law_take [] (mCons (mV 0) (mCons (mC (.int 8)) mNil)))) mNil))))) mNil))) (gPut putD 2 (mC (.str "rise"))))
    mSkip)
  (mSeq (mIfS (mTst (mBin eqT (mFn F_law_take [] (mCons (mV 0) (mCons (mC (.int 3)) mNil))) (mC (.int 0))))
    (mAsg (mFn F_law_pick [] (mCons (mV 0) (mCons (mLst (mCons (mC (.int 1)) (mCons (mC (.int 2)) (mCons (mC (.int 3)) (mCons (mBin addT (mC (.int 1)) (mFn F_law_take [] (mCons (mV 0) (mCons (mC (.int 8)) mNil)))) mNil))))) mNil))) (gPut putD 2 (mC (.str "fall"))))
    mSkip)
  (mSeq (mAsg (mTup (mCons (mFn F_law_pick [] (mCons (mV 0) (mCons (mLst (mCons (mC (.int 1)) (mCons (mC (.int 1)) (mCons (mC (.int 2)) (mCons (mC (.int 3)) mNil))))) mNil))) (mCons (mFn F_law_pick [] (mCons (mV 0) (mCons (mLst (mCons (mC (.int 1)) (mCons (mC (.int 1)) (mCons (mC (.int 2)) (mCons (mC (.int 3)) mNil))))) mNil))) mNil))) (gTn 2 (gsCons (gPut putD 2 (mC (.str "up"))) (gsCons (gPut putD 2 (mC (.str "down"))) gsNil))))
  (mRetV 2)))))))
def F_law_case : TF := runF 4 m_law_case
theorem sc_law_case : FnScope ["_law_draw", "_law_floor", "_law_case_here", "_law_turn"] ["_law_draw"] (defScope st_law_case) := ⟨rfl, rfl, rfl, by decide +kernel, rfl, by decide +kernel, by decide +kernel⟩
theorem ok_law_case (c : Fc w0 K mg) : ∃ fd, FnG P w0 K mg base (CX P w0) 5 (He.ga K "_law_case") fd ["_law_draw"] (spF (wd K) 1 F_law_case) ∧ (Binds K fd ["_law_draw"] []) ∧ PySem.W.keepIn K (.ref (He.ga K "_law_case")) = true ∧ FunD K "_law_case" "_law_case" (defArgs st_law_case) (defBody st_law_case) (defScope st_law_case) [] [] (He.ga K "_law_case") fd := by
  obtain ⟨fd, F⟩ := c.fd_law_case
  obtain ⟨fd_law_pick, h_law_pick⟩ := ok_law_pick (P := P) (base := base) c
  obtain ⟨fd_law_take, h_law_take⟩ := ok_law_take (P := P) (base := base) c
  obtain ⟨fd_law_part, h_law_part⟩ := ok_law_part (P := P) (base := base) c
  refine ⟨fd, ?_, F.bindsN (fun _ _ _ _ _ _ us hl => match us, hl with | [_], _ => rfl), F.kp, F⟩
  have nd := (sc_law_case).nd
  refine fn_ok (w := wd K) (k := 4) (n := 1) (m := m_law_case) F sc_law_case rfl (fun cdv A outer s H E H0 hr => ?_)
  have tk := @takes_fn P w0 K mg base "_law_case" (defScope st_law_case) (He.ga K "_law_case") ["_law_draw", "_law_floor", "_law_case_here", "_law_turn"] cdv A outer s H E
  have po := @passes_fn P w0 K mg base "_law_case" (defScope st_law_case) (He.ga K "_law_case") ["_law_draw", "_law_floor", "_law_case_here", "_law_turn"] cdv A outer s H E
  have u1 := Nat.lt_of_le_of_lt (Nat.add_le_add_left (show 1 ≤ 64 by decide) _) hr.units
  have u65 := un65 hr
  exact (s_cons (s_set nd (i := 1) rfl (by first | exact Or.inl rfl | exact Or.inr rfl) (x_pos (n := 2) (m := 2) rsE Cst.nil (callAt_fn h_law_pick.1 (hr.mono (by decide)) tk h_law_pick.2.1 .nil) rfl c.g_law_pick h_law_pick.2.2.1 (a_cons (e_var 0) (a_cons (toE (f_lst (a_cons e_int (a_cons e_int (a_cons e_int (a_cons e_int (a_cons e_int (a_cons e_int a_nil)))))))) a_nil)) (Len.cons (Len.cons Len.nil))))
  (s_cons (s_own nd (i := 2) rfl (by first | exact Or.inl rfl | exact Or.inr rfl) (f_disp (xps_cons (fun _ => e_str) (fun _ => (e_var 1)) (xps_cons (fun _ => e_str) (fun _ => (e_callB (c_min rfl rfl) rfl c.n_min rfl (al_cons (toL e_int) (al_cons (toL (e_bin (b_add rfl) (l_var 1) (toL (x_pos (n := 2) (m := 2) rsE Cst.nil (callAt_fn h_law_take.1 (hr.mono (by decide)) tk h_law_take.2.1 .nil) rfl c.g_law_take h_law_take.2.2.1 (a_cons (e_var 0) (a_cons e_int a_nil)) (Len.cons (Len.cons Len.nil)))))) al_nil)))) (xps_cons (fun _ => e_str) (fun _ => e_non) (xps_cons (fun _ => e_str) (fun _ => e_non) xps_nil))))))
  (s_cons (s_asg (toE (f_lc (own := [("_law_turn", 3)]) rfl nd (i_range1 rfl c.n_range (a_cons (x_pos (n := 2) (m := 2) rsE Cst.nil (callAt_fn h_law_pick.1 (hr.mono (by decide)) tk h_law_pick.2.1 .nil) rfl c.g_law_pick h_law_pick.2.2.1 (a_cons (e_var 0) (a_cons (toE (f_lst (a_cons e_int (a_cons e_int (a_cons e_int (a_cons e_int (a_cons e_int (a_cons e_int (a_cons e_int a_nil))))))))) a_nil)) (Len.cons (Len.cons Len.nil))) a_nil)) (blkOk_by (by rfl)) rfl (fun B s H C cl fp => (gc_name nd (i := 3) rfl (by first | exact Or.inl rfl | exact Or.inr rfl))) (fun B s H C cl fp => ts_nil) (fun B s H C cl fp => have tk := @takesN (X := Cx.blk _ s H _ (compEnvC _ cl C _) fp); (x_pos (n := 1) (m := 1) rsE Cst.nil (callAt_fn h_law_part.1 (hr.mono (by decide)) tk h_law_part.2.1 .nil) rfl c.g_law_part h_law_part.2.2.1 (a_cons (e_var 0) a_nil) (Len.cons Len.nil))))) (g_putD 2 u1 (toL e_str)))
  (s_cons (s_if (t_cmp (b_eq hr.units rfl) (toL (x_pos (n := 2) (m := 2) rsE Cst.nil (callAt_fn h_law_take.1 (hr.mono (by decide)) tk h_law_take.2.1 .nil) rfl c.g_law_take h_law_take.2.2.1 (a_cons (e_var 0) (a_cons e_int a_nil)) (Len.cons (Len.cons Len.nil)))) (toL e_int) (nomark _))
    (s_one (s_asg (x_pos (n := 2) (m := 2) rsE Cst.nil (callAt_fn h_law_pick.1 (hr.mono (by decide)) tk h_law_pick.2.1 .nil) rfl c.g_law_pick h_law_pick.2.2.1 (a_cons (e_var 0) (a_cons (toE (f_lst (a_cons e_int (a_cons e_int (a_cons e_int (a_cons (e_bin (b_add rfl) (toL e_int) (toL (x_pos (n := 2) (m := 2) rsE Cst.nil (callAt_fn h_law_take.1 (hr.mono (by decide)) tk h_law_take.2.1 .nil) rfl c.g_law_take h_law_take.2.2.1 (a_cons (e_var 0) (a_cons e_int a_nil)) (Len.cons (Len.cons Len.nil))))) a_nil)))))) a_nil)) (Len.cons (Len.cons Len.nil))) (g_putD 2 u1 (toL e_str))))
    s_nil)
  (s_cons (s_if (t_cmp (b_eq hr.units rfl) (toL (x_pos (n := 2) (m := 2) rsE Cst.nil (callAt_fn h_law_take.1 (hr.mono (by decide)) tk h_law_take.2.1 .nil) rfl c.g_law_take h_law_take.2.2.1 (a_cons (e_var 0) (a_cons e_int a_nil)) (Len.cons (Len.cons Len.nil)))) (toL e_int) (nomark _))
    (s_one (s_asg (x_pos (n := 2) (m := 2) rsE Cst.nil (callAt_fn h_law_pick.1 (hr.mono (by decide)) tk h_law_pick.2.1 .nil) rfl c.g_law_pick h_law_pick.2.2.1 (a_cons (e_var 0) (a_cons (toE (f_lst (a_cons e_int (a_cons e_int (a_cons e_int (a_cons (e_bin (b_add rfl) (toL e_int) (toL (x_pos (n := 2) (m := 2) rsE Cst.nil (callAt_fn h_law_take.1 (hr.mono (by decide)) tk h_law_take.2.1 .nil) rfl c.g_law_take h_law_take.2.2.1 (a_cons (e_var 0) (a_cons e_int a_nil)) (Len.cons (Len.cons Len.nil))))) a_nil)))))) a_nil)) (Len.cons (Len.cons Len.nil))) (g_putD 2 u1 (toL e_str))))
    s_nil)
  (s_cons (s_asg (e_tup (a_cons (x_pos (n := 2) (m := 2) rsE Cst.nil (callAt_fn h_law_pick.1 (hr.mono (by decide)) tk h_law_pick.2.1 .nil) rfl c.g_law_pick h_law_pick.2.2.1 (a_cons (e_var 0) (a_cons (toE (f_lst (a_cons e_int (a_cons e_int (a_cons e_int (a_cons e_int a_nil)))))) a_nil)) (Len.cons (Len.cons Len.nil))) (a_cons (x_pos (n := 2) (m := 2) rsE Cst.nil (callAt_fn h_law_pick.1 (hr.mono (by decide)) tk h_law_pick.2.1 .nil) rfl c.g_law_pick h_law_pick.2.2.1 (a_cons (e_var 0) (a_cons (toE (f_lst (a_cons e_int (a_cons e_int (a_cons e_int (a_cons e_int a_nil)))))) a_nil)) (Len.cons (Len.cons Len.nil))) a_nil))) (g_tup rfl (gs_cons (g_putD 2 u1 (toL e_str)) (gs_cons (g_putD 2 u1 (toL e_str)) gs_nil))))
  (s_one (s_retV 2))))))))
/-! law -/
def m_law : SM :=
  (mSeq (mFor (mItA rnF1 (mCons (mBin addT (mC (.int 6)) (mCall minF (mCons (mCall lenF (mCons (mL 0) mNil)) (mCons (mC (.int 20)) mNil)))) mNil)) (gN 2)
    (mSeq (mOwn 3 (mFnF F_law_case [] (mCons (mV 1) mNil)))
  (mSeq (mPar2 4 5 (mCons (mFnF F_law_rule [] (mCons (mV 3) mNil)) (mCons (mFnF F_law_due [] (mCons (mV 3) mNil)) mNil)))
  (mSeq (mOwn 6 (mFnF F_ends_of [] (mCons (mV 4) mNil)))
  (mSeq (mIfS (mOrB (mNotB (mTst (mIsa (isaB [5]) (mL 6)))) (mTst (mBin neT (mCall reprF (mCons (mL 6) mNil)) (mCall reprF (mCons (mL 5) mNil)))))
    (mRet (mC (.bl false)))
    mSkip)
  (mSeq (mDrop (mOM "list" 6 apF (mCons (mC (.int 0)) mNil)))
  (mIfS (mTst (mBin neT (mFnF F_ends_of [] (mKw kG_ends_of_0_rule mNil (mCons (mV 4) mNil))) (mL 5)))
    (mRet (mC (.bl false)))
    mSkip)))))))
  (mRet (mC (.bl true))))
theorem sc_law : FnScope ["_law_script", "_law_draw", "_law_turn", "_law_case_here", "_law_made", "_law_due_here", "_law_found"] ["_law_script"] (defScope st_law) := ⟨rfl, rfl, rfl, by decide +kernel, rfl, by decide +kernel, by decide +kernel⟩
theorem ok_law (hm : ∀ ns, Scr ns → ∃ ρ, m_law (law0 5 ns) = .rt false (.bl true) ρ) (c : Fc w0 K mg) {fd : FuncData} (F : FunD K "law" "law" (defArgs st_law) (defBody st_law) (defScope st_law) [] [] (He.ga K "law") fd) : FnG P w0 K mg base (CX P w0) 9 (He.ga K "law") fd ["_law_script"] (spLaw (wd K)) ∧ ∀ (s : Shared) (u : Value), BindsTo s fd ⟨[u], []⟩ [("_law_script", u)] := by
  obtain ⟨fd_ends_of, h_ends_of⟩ := ok_ends_of (P := P) (base := base) c
  obtain ⟨fd_law_due, h_law_due⟩ := ok_law_due (P := P) (base := base) c
  obtain ⟨fd_law_rule, h_law_rule⟩ := ok_law_rule (P := P) (base := base) c
  obtain ⟨fd_law_case, h_law_case⟩ := ok_law_case (P := P) (base := base) c
  obtain ⟨fd_b, h_b⟩ := ok_law_begin (P := P) (base := base) c
  refine ⟨?_, fun s u => FunD.bindsA (ps := ["_law_script"]) F (fun _ _ _ _ _ _ us hl => match us, hl with | [_], _ => rfl) s [u] rfl⟩
  have nd := (sc_law).nd
  refine law_fn (w := wd K) (k := 8) (n := 5) (m := m_law) F sc_law rfl rfl hm (fun cdv A outer s H E H0 hr => ?_)
  have tk := @takes_fn P w0 K mg base "law" (defScope st_law) (He.ga K "law") ["_law_script", "_law_draw", "_law_turn", "_law_case_here", "_law_made", "_law_due_here", "_law_found"] cdv A outer s H E
  have po := @passes_fn P w0 K mg base "law" (defScope st_law) (He.ga K "law") ["_law_script", "_law_draw", "_law_turn", "_law_case_here", "_law_made", "_law_due_here", "_law_found"] cdv A outer s H E
  have u1 := Nat.lt_of_le_of_lt (Nat.add_le_add_left (show 1 ≤ 64 by decide) _) hr.units
  have u65 := un65 hr
  exact pss_cons (ps_set nd (i := 1) rfl (by first | exact Or.inl rfl | exact Or.inr rfl) (w_pos (callAt_fn h_b.1 (hr.mono (by decide)) tk h_b.2.1 .nil) rfl c.g_law_begin h_b.2.2.1 (pa_cons (pe_var (i := 0) rfl (by first | exact Or.inl rfl | exact Or.inr (Or.inl rfl) | exact Or.inr (Or.inr rfl))) pa_nil)) rfl)
    (s_cons (s_for po rfl (i_range1 rfl c.n_range (a_cons (e_bin (b_add rfl) (toL e_int) (toL (e_callB (c_min rfl rfl) rfl c.n_min rfl (al_cons (toL (e_callB (c_len rfl) rfl c.n_len rfl (al_cons (l_var 0) al_nil))) (al_cons (toL e_int) al_nil))))) a_nil)) (g_name nd (i := 2) rfl (by first | exact Or.inl rfl | exact Or.inr rfl))
    (s_cons (s_own nd (i := 3) rfl (by first | exact Or.inl rfl | exact Or.inr rfl) (x_pos (n := 1) (m := 1) rsF Cst.nil (callAt_fn h_law_case.1 (hr.mono (by decide)) tk h_law_case.2.1 .nil) rfl c.g_law_case h_law_case.2.2.1 (a_cons (e_var 1) a_nil) (Len.cons Len.nil)))
  (s_cons (s_par rfl nd (i := 4) (j := 5) rfl rfl (by decide) rfl rfl (a_cons (toE (x_pos (n := 1) (m := 1) rsF Cst.nil (callAt_fn h_law_rule.1 (hr.mono (by decide)) tk h_law_rule.2.1 .nil) rfl c.g_law_rule h_law_rule.2.2.1 (a_cons (e_var 3) a_nil) (Len.cons Len.nil))) (a_cons (toE (x_pos (n := 1) (m := 1) rsF Cst.nil (callAt_fn h_law_due.1 (hr.mono (by decide)) tk h_law_due.2.1 .nil) rfl c.g_law_due h_law_due.2.2.1 (a_cons (e_var 3) a_nil) (Len.cons Len.nil))) a_nil)) rfl)
  (s_cons (s_own nd (i := 6) rfl (by first | exact Or.inl rfl | exact Or.inr rfl) (x_pos (n := 1) (m := 1) rsF Cst.nil (callAt_fn h_ends_of.1 (hr.mono (by decide)) tk h_ends_of.2.1 .nil) rfl c.g_ends_of h_ends_of.2.2.1 (a_cons (e_var 4) a_nil) (Len.cons Len.nil)))
  (s_cons (s_if (PW.pt (t_or (t_not (t_val (toL (e_isi (isa_list) rfl (.ty "list") rfl c.n_isinstance (l_var 6) (pe_bltn rfl c.n_list rfl rfl))))) (t_or1 (t_cmp (b_ne hr.units rfl) (toL (e_callB (c_repr hr.g hr.units rfl) rfl c.n_repr rfl (al_cons (l_var 6) al_nil))) (toL (e_callB (c_repr hr.g hr.units rfl) rfl c.n_repr rfl (al_cons (l_var 5) al_nil))) (nomark _)))))
    (s_one (s_ret e_bl))
    s_nil)
  (s_cons (s_dropM (m_own 6 PySem.F.plainAttrs_list PySem.F.slot_list_append PySem.F.type_list_append mt_append apF_ok rfl (a_cons e_int a_nil)))
  (s_one (s_if (t_cmp (b_ne hr.units rfl) (toL (toE (x_kw0 (n := 1) rsF (gV := kG_ends_of_0_rule) kG_ends_of_0_rule_ok (callAt_fnK h_ends_of.1 (hr.mono (by decide)) tk (kB_ends_of_0_rule h_ends_of.2.2.2)) rfl c.g_ends_of h_ends_of.2.2.1 (k_cons (e_var 4) k_nil) (Len.cons Len.nil) kG_ends_of_0_rule_len))) (l_var 5) (nomark _))
    (s_one (s_ret e_bl))
    s_nil))))))))
  (s_one (s_ret e_bl)))
end
theorem kGe_ends_of_0_rule {α : Type} {z0 : α} : kG_ends_of_0_rule [] [z0] = [z0] := rfl
theorem kGe_Rule_init_2_least_most_rise_fall_up_down {α : Type} {x0 z0 z1 z2 z3 z4 z5 : α} : kG_Rule_init_2_least_most_rise_fall_up_down [x0] [z0, z1, z2, z3, z4, z5] = [x0, z0, z1, z2, z3, z4, z5] := rfl
theorem fl_Rule_r_parts {x0 x1 x2 : T} : fldT 3 "r_parts" (.ins 3 [("r_parts", x0), ("r_bounds", x1), ("r_limits", x2)]) = some x0 := rfl
theorem pf_Rule_r_parts {x0 : T} : putFT "r_parts" x0 [] = ([("r_parts", x0)] : List (Str × T)) := rfl
theorem fs_Rule_r_parts_0 {x0 : T} : fldT 3 "r_parts" (.slf 3 [("r_parts", x0)]) = some x0 := rfl
theorem fs_Rule_r_parts_1 {x0 x1 : T} : fldT 3 "r_parts" (.slf 3 [("r_parts", x0), ("r_bounds", x1)]) = some x0 := rfl
theorem fs_Rule_r_parts_2 {x0 x1 x2 : T} : fldT 3 "r_parts" (.slf 3 [("r_parts", x0), ("r_bounds", x1), ("r_limits", x2)]) = some x0 := rfl
theorem fl_Rule_r_bounds {x0 x1 x2 : T} : fldT 3 "r_bounds" (.ins 3 [("r_parts", x0), ("r_bounds", x1), ("r_limits", x2)]) = some x1 := rfl
theorem pf_Rule_r_bounds {x0 x1 : T} : putFT "r_bounds" x1 [("r_parts", x0)] = ([("r_parts", x0), ("r_bounds", x1)] : List (Str × T)) := rfl
theorem fs_Rule_r_bounds_1 {x0 x1 : T} : fldT 3 "r_bounds" (.slf 3 [("r_parts", x0), ("r_bounds", x1)]) = some x1 := rfl
theorem fs_Rule_r_bounds_2 {x0 x1 x2 : T} : fldT 3 "r_bounds" (.slf 3 [("r_parts", x0), ("r_bounds", x1), ("r_limits", x2)]) = some x1 := rfl
theorem fl_Rule_r_limits {x0 x1 x2 : T} : fldT 3 "r_limits" (.ins 3 [("r_parts", x0), ("r_bounds", x1), ("r_limits", x2)]) = some x2 := rfl
theorem pf_Rule_r_limits {x0 x1 x2 : T} : putFT "r_limits" x2 [("r_parts", x0), ("r_bounds", x1)] = ([("r_parts", x0), ("r_bounds", x1), ("r_limits", x2)] : List (Str × T)) := rfl
theorem fs_Rule_r_limits_2 {x0 x1 x2 : T} : fldT 3 "r_limits" (.slf 3 [("r_parts", x0), ("r_bounds", x1), ("r_limits", x2)]) = some x2 := rfl
theorem mg_0 {x0 x1 : T} : mergeT [] [(.inr "least", x0), (.inr "most", x1)] = [(.inr "least", x0), (.inr "most", x1)] := rfl
theorem dg_0_0 {x0 x1 : T} : dgT (.dic [(.inr "least", x0), (.inr "most", x1)]) (.str "least") = some x0 := rfl
theorem dg_0_1 {x0 x1 : T} : dgT (.dic [(.inr "least", x0), (.inr "most", x1)]) (.str "most") = some x1 := rfl
theorem mg_1 {x0 x1 x2 x3 : T} : mergeT [] [(.inr "least", x0), (.inr "most", x1), (.inr "rise", x2), (.inr "fall", x3)] = [(.inr "least", x0), (.inr "most", x1), (.inr "rise", x2), (.inr "fall", x3)] := rfl
theorem dg_1_0 {x0 x1 x2 x3 : T} : dgT (.dic [(.inr "least", x0), (.inr "most", x1), (.inr "rise", x2), (.inr "fall", x3)]) (.str "least") = some x0 := rfl
theorem dg_1_1 {x0 x1 x2 x3 : T} : dgT (.dic [(.inr "least", x0), (.inr "most", x1), (.inr "rise", x2), (.inr "fall", x3)]) (.str "most") = some x1 := rfl
theorem dg_1_2 {x0 x1 x2 x3 : T} : dgT (.dic [(.inr "least", x0), (.inr "most", x1), (.inr "rise", x2), (.inr "fall", x3)]) (.str "rise") = some x2 := rfl
theorem dg_1_3 {x0 x1 x2 x3 : T} : dgT (.dic [(.inr "least", x0), (.inr "most", x1), (.inr "rise", x2), (.inr "fall", x3)]) (.str "fall") = some x3 := rfl
end MPG
end

section
set_option Elab.async false
set_option linter.all false
set_option maxRecDepth 100000
namespace MPG
open PySem PySem.Spec L2 MP
theorem take_law {n : Int} {d : DS} {k : Nat} (h : Dk d (k + 1)) (h0 : 0 < n) (h1 : n < 1073741824) : ∃ v d', F_law_take d [.drw, .int n] = .ok false (.int v) d' ∧ 0 ≤ v ∧ v < n ∧ Dk d' k := by
  have e : F_law_take = runF 4 mTake := rfl
  rw [e]
  exact take_ok h h0 h1
theorem ix_ok {vs : List T} {v : Int} (h0 : 0 ≤ v) (h1 : v < vs.length) : ∃ t, t ∈ vs ∧ ixT (.lst vs) (.int v) = some t := by
  obtain ⟨i, rfl⟩ := Int.eq_ofNat_of_zero_le h0
  have hi : i < vs.length := by omega
  refine ⟨vs[i], List.getElem_mem hi, ?_⟩
  show atI vs (i : Int) = some vs[i]
  have e : ixN vs.length (i : Int) = some i := by
    unfold ixN
    rw [if_pos h0, if_pos h1]
    rfl
  unfold atI
  rw [e]
  exact List.getElem?_eq_getElem hi
theorem pick_law {vs : List T} {d : DS} {k : Nat} (h : Dk d (k + 1)) (h0 : 0 < vs.length) (h1 : vs.length < 1000000) : ∃ v d', v ∈ vs ∧ F_law_pick d [.drw, .lst vs] = .ok false v d' ∧ Dk d' k := by
  obtain ⟨i, d', e, i0, i1, h'⟩ := take_law (n := vs.length) h (by omega) (by omega)
  obtain ⟨t, ht, e2⟩ := ix_ok (vs := vs) i0 i1
  refine ⟨t, d', ht, ?_, h'⟩
  have e0 : startT 2 [.drw, .lst vs] = [some (false, .drw), some (false, .lst vs)] := rfl
  have e3 : mFn F_law_take [] (mCons (mV 0) (mCons (mCall lenF (mCons (mL 1) mNil)) mNil)) ⟨[some (false, .drw), some (false, .lst vs)], d⟩ = .ok (.int i) ⟨[some (false, .drw), some (false, .lst vs)], d'⟩ :=
    r_fn (r_cons (r_v rfl) (r_cons (r_call (r_cons (r_l rfl) r_nil) rfl) r_nil)) e
  have e4 : sbT (.lst vs) (.int i) = some t := by
    unfold sbT
    rw [e2]
    rfl
  unfold F_law_pick runF m_law_pick
  rw [e0, r_ret (r_bin (r_l rfl) e3 e4)]
end MPG
end

section
set_option Elab.async false
set_option linter.all false
set_option maxRecDepth 100000
namespace MPG
open PySem PySem.Spec L2 MP
/-- what _law_part draws -/
inductive GP : T → Prop
  | over {t s : Int} : 1 ≤ t → t ≤ 60 → 1 ≤ s → s ≤ 8 → GP (.tup [.str "over", .int t, .int s])
  | under {t s : Int} : 1 ≤ t → t ≤ 60 → 1 ≤ s → s ≤ 8 → GP (.tup [.str "under", .int t, .int s])
  | aim {t a b : Int} : 1 ≤ a → a ≤ t → t ≤ b → b ≤ 60 → GP (.tup [.str "aim", .int t, .int a, .int b])
theorem ltT_i (i j : Int) : ltT (.int i) (.int j) = some (.bl (decide (i < j))) := rfl
theorem subT_i (i j : Int) : subT (.int i) (.int j) = some (.int (i - j)) := rfl
theorem four_e (a b c d : T) (ρ : Ev) : mLst (mCons (mC a) (mCons (mC b) (mCons (mC c) (mCons (mC d) mNil)))) ρ = .ok (.lst [a, b, c, d]) ρ :=
  r_lst (r_cons r_c (r_cons r_c (r_cons r_c (r_cons r_c r_nil)))) (by show 4 ≤ 1000; decide)
abbrev e4 (n : Option T) (way top mark : Option T) (d : DS) : Ev := ⟨[n.map fun t => (false, t), way.map fun t => (false, t), top.map fun t => (false, t), mark.map fun t => (false, t)], d⟩
theorem pick4 {a b c e : T} {ρ : Ev} {k : Nat} (h : Dk ρ.dr (k + 1)) (h0 : ρ.sl[0]? = some (some (false, .drw))) : ∃ v d', v ∈ [a, b, c, e] ∧ Dk d' k ∧
    mFn F_law_pick [] (mCons (mV 0) (mCons (mLst (mCons (mC a) (mCons (mC b) (mCons (mC c) (mCons (mC e) mNil))))) mNil)) ρ = .ok v { ρ with dr := d' } := by
  obtain ⟨v, d', hv, e, h'⟩ := pick_law (vs := [a, b, c, e]) h (Nat.succ_pos _) (by show 4 < 1000000; decide)
  exact ⟨v, d', hv, h', r_fn (r_cons (r_v h0) (r_cons (four_e _ _ _ _ _) r_nil)) e⟩
theorem takeE {m : M T} {ρ : Ev} {n : Int} {k : Nat} (h : Dk ρ.dr (k + 1)) (h0 : ρ.sl[0]? = some (some (false, .drw))) (hm : m ρ = .ok (.int n) ρ) (n0 : 0 < n) (n1 : n < 1073741824) : ∃ v d', 0 ≤ v ∧ v < n ∧ Dk d' k ∧
    mFn F_law_take [] (mCons (mV 0) (mCons m mNil)) ρ = .ok (.int v) { ρ with dr := d' } := by
  obtain ⟨v, d', e, v0, v1, h'⟩ := take_law h n0 n1
  exact ⟨v, d', v0, v1, h', r_fn (r_cons (r_v h0) (r_cons hm r_nil)) e⟩
theorem r_ifN {mc : M Bool} {a : SM} {ρ ρ1 : Ev} (h : mc ρ = .ok false ρ1) : mIfS mc a mSkip ρ = .nx ρ1 := r_ifF h
theorem part_law {d : DS} {k : Nat} (h : Dk d (k + 6)) : ∃ t d', GP t ∧ F_law_part d [.drw] = .ok false t d' ∧ Dk d' k := by
  obtain ⟨way, d1, w0, w1, h1, q1⟩ := takeE (m := mC (.int 5)) (ρ := ⟨[some (false, .drw), none, none, none], d⟩) (k := k + 5) h rfl r_c (by decide) (by decide)
  obtain ⟨top, d2, ht, h2, q2⟩ := pick4 (a := .int 4) (b := .int 12) (c := .int 12) (e := .int 60) (ρ := ⟨[some (false, .drw), none, none, none], d1⟩) (k := k + 4) h1 rfl
  obtain ⟨tp, rfl, tp0, tp1⟩ : ∃ n : Int, top = .int n ∧ 0 < n ∧ n ≤ 60 := by
    simp only [List.mem_cons, List.not_mem_nil, or_false] at ht
    rcases ht with rfl | rfl | rfl | rfl <;> exact ⟨_, rfl, by decide, by decide⟩
  have s1 := (r_par (i := 1) (j := 2) (r_cons q1 (r_cons q2 r_nil))).trans (rfl : _ = SO.nx ⟨[some (false, .drw), some (false, .int way), some (false, .int tp), none], d2⟩)
  obtain ⟨mk, d3, m0, m1, h3, q3⟩ := takeE (m := mV 2) (ρ := ⟨[some (false, .drw), some (false, .int way), some (false, .int tp), none], d2⟩) (k := k + 3) h2 rfl (r_v rfl) tp0 (by omega)
  have s2 := r_set (i := 3) (r_bin (r_c (v := .int 1)) q3 (addT_i _ _))
  unfold F_law_part runF m_law_part
  generalize hρ : (⟨[some (false, .drw), some (false, .int way), some (false, .int tp), some (false, .int (1 + mk))], d3⟩ : Ev) = ρ
  have f0 : ρ.sl[0]? = some (some (false, .drw)) := by rw [← hρ]; rfl
  have f1 : ρ.sl[1]? = some (some (false, .int way)) := by rw [← hρ]; rfl
  have f3 : ρ.sl[3]? = some (some (false, .int (1 + mk))) := by rw [← hρ]; rfl
  have fd : Dk ρ.dr (k + 3) := by rw [← hρ]; exact h3
  have c1 : mTst (mBin ltT (mL 1) (mC (.int 2))) ρ = .ok (decide (way < 2)) ρ := r_tst (r_bin (r_l f1) r_c (ltT_i _ _))
  have c2 : mTst (mBin ltT (mL 1) (mC (.int 4))) ρ = .ok (decide (way < 4)) ρ := r_tst (r_bin (r_l f1) r_c (ltT_i _ _))
  have e0 : (⟨startT 4 [.drw], d⟩ : Ev) = ⟨[some (false, .drw), none, none, none], d⟩ := rfl
  have s2' := s2.trans (show _ = SO.nx ρ by rw [← hρ]; rfl)
  rw [e0, r_seq s1, r_seq s2']
  obtain ⟨sv, d4, hs, h4, q4⟩ := pick4 (a := .int 1) (b := .int 1) (c := .int 2) (e := .int 8) (ρ := ρ) fd f0
  obtain ⟨s, rfl, s0, s1⟩ : ∃ n : Int, sv = .int n ∧ 0 < n ∧ n ≤ 8 := by
    simp only [List.mem_cons, List.not_mem_nil, or_false] at hs
    rcases hs with rfl | rfl | rfl | rfl <;> exact ⟨_, rfl, by decide, by decide⟩
  by_cases b1 : way < 2
  · rw [decide_eq_true b1] at c1
    have s3 := (r_ifT (s := mSkip) c1).trans (r_ret (r_tup (r_cons (r_c (v := .str "over")) (r_cons (r_v f3) (r_cons q4 r_nil))) (by show 3 ≤ 1000; decide)))
    rw [r_seqR s3]
    exact ⟨_, _, .over (by omega) (by omega) (by omega) s1, rfl, h4.less (by omega)⟩
  · rw [decide_eq_false b1] at c1
    rw [r_seq (r_ifN c1)]
    by_cases b2 : way < 4
    · rw [decide_eq_true b2] at c2
      have s3 := (r_ifT (s := mSkip) c2).trans (r_ret (r_tup (r_cons (r_c (v := .str "under")) (r_cons (r_v f3) (r_cons q4 r_nil))) (by show 3 ≤ 1000; decide)))
      rw [r_seqR s3]
      exact ⟨_, _, .under (by omega) (by omega) (by omega) s1, rfl, h4.less (by omega)⟩
    · rw [decide_eq_false b2] at c2
      rw [r_seq (r_ifN c2)]
      obtain ⟨a, d5, a0, a1, h5, q5⟩ := takeE (m := mV 3) (ρ := ρ) fd f0 (r_v f3) (by omega) (by omega)
      obtain ⟨b, d6, b0, b1', h6, q6⟩ := takeE (m := mCall minF (mCons (mC (.int 4)) (mCons (mBin subT (mC (.int 61)) (mL 3)) mNil))) (ρ := { ρ with dr := d5 }) h5 f0
        (r_call (r_cons r_c (r_cons (r_bin r_c (r_l f3) (subT_i _ _)) r_nil)) rfl) (by split <;> omega) (by split <;> omega)
      have q7 := r_tup (r_cons (r_c (v := .str "aim") (ρ := ρ)) (r_cons (r_v f3) (r_cons (r_bin (r_c (v := .int 1)) q5 (addT_i _ _)) (r_cons (r_bin (r_l (ρ := { ρ with dr := d5 }) f3) q6 (addT_i _ _)) r_nil)))) (by show 4 ≤ 1000; decide)
      rw [r_ret q7]
      refine ⟨_, _, .aim (by omega) (by omega) (by omega) ?_, rfl, h6.less (by omega)⟩
      split at b1' <;> omega
end MPG
end

section
set_option Elab.async false
set_option linter.all false
set_option maxRecDepth 100000
namespace MPG
open PySem PySem.Spec L2 MP
abbrev e4c (l : T) (K : List (Key × T)) (d : DS) : Ev := ⟨[some (false, .drw), some (false, l), some (true, .dic K), none], d⟩
abbrev dA (l m r f : T) : List (Key × T) := [(.inr "least", l), (.inr "most", m), (.inr "rise", r), (.inr "fall", f)]
abbrev dB (l m r f p : T) : List (Key × T) := [(.inr "least", l), (.inr "most", m), (.inr "rise", r), (.inr "fall", f), (.inr "parts", p)]
abbrev dC (l m r f p u d : T) : List (Key × T) := [(.inr "least", l), (.inr "most", m), (.inr "rise", r), (.inr "fall", f), (.inr "parts", p), (.inr "up", u), (.inr "down", d)]
theorem put_parts (l m r f p : T) : putT (dA l m r f) (.inr "parts") p = dB l m r f p := rfl
theorem put_rise (l m r f p x : T) : putT (dB l m r f p) (.inr "rise") x = dB l m x f p := rfl
theorem put_fall (l m r f p x : T) : putT (dB l m r f p) (.inr "fall") x = dB l m r x p := rfl
theorem put_ud (l m r f p u d : T) : putT (putT (dB l m r f p) (.inr "up") u) (.inr "down") d = dC l m r f p u d := rfl
theorem r_gPut {F : T → T → T → Option T} {i : Nat} {mk : M T} {ρ : Ev} {t u k u' : T} (h0 : ρ.sl[i]? = some (some (true, u))) (hk : mk ρ = .ok k ρ) (hF : F u k t = some u') : gPut F i mk t ρ = some (setSl ρ i (some (true, u'))) := by
  unfold gPut
  simp only [h0, hk, hF]
theorem putD_s {K : List (Key × T)} {k : Str} {t : T} (h : K.length < 1000000) : putD (.dic K) (.str k) t = some (.dic (putT K (.inr k) t)) := if_pos h
theorem r_disp {ms : List (M T × M T)} {ρ ρ1 : Ev} {ps kts} (h : mPairs ms ρ = .ok ps ρ1) (hk : keysT ps = some kts) (hl : kts.length ≤ 15) : mDisp ms ρ = .ok (.dic (mergeT [] kts)) ρ1 := by
  unfold mDisp bindM
  rw [h]
  simp only
  rw [hk]
  exact if_pos hl
end MPG
end

section
set_option Elab.async false
set_option linter.all false
set_option maxRecDepth 100000
namespace MPG
open PySem PySem.Spec L2 MP
theorem lcL_cons {f : Tgt} {mc : M Bool} {m : M T} {vs : List Nat} {t u : T} {ts acc : List T} {ρ ρ1 ρ2 ρ3 ρ4 : Ev} (h1 : f t ρ = some ρ1) (h2 : mc ρ1 = .ok true ρ2) (h3 : m ρ2 = .ok u ρ3) (h4 : blank vs ρ3 = ρ4) :
    lcL f mc m vs (t :: ts) acc ρ = lcL f mc m vs ts (acc ++ [u]) ρ4 := by
  rw [lcL, h1]
  simp only [h2, h3, h4]
abbrev mPart1 : M T := mFn F_law_part [] (mCons (mV 0) mNil)
theorem parts_lc {l : T} {K : List (Key × T)} {k : Nat} (ts : List T) : ∀ (acc : List T) (d : DS), Dk d (k + 6 * ts.length) → (∀ t ∈ acc, GP t) → ∃ ps d', (∀ t ∈ ps, GP t) ∧ ps.length = acc.length + ts.length ∧
    lcL (gN 3) mYes mPart1 [3] ts acc (e4c l K d) = .ok ps (e4c l K d') ∧ Dk d' k := by
  generalize hM : mPart1 = M
  have st : ∀ {d : DS} {t0 : T} {j : Nat}, Dk d (j + 6) → ∃ t d', GP t ∧ Dk d' j ∧ M ⟨[some (false, .drw), some (false, l), some (true, .dic K), some (false, t0)], d⟩ = .ok t ⟨[some (false, .drw), some (false, l), some (true, .dic K), some (false, t0)], d'⟩ := by
    intro d t0 j h
    obtain ⟨t, d', g, e, h'⟩ := part_law h
    refine ⟨t, d', g, h', ?_⟩
    rw [← hM]
    exact r_fn (r_cons (r_v rfl) r_nil) e
  clear hM
  induction ts with
  | nil => exact fun acc d h ha => ⟨acc, d, ha, rfl, rfl, h⟩
  | cons t ts ih =>
    intro acc d h ha
    have h2 : Dk d ((k + 6 * ts.length) + 6) := h.less (by rw [List.length_cons]; omega)
    obtain ⟨u, d1, g, h1, e⟩ := st (t0 := t) h2
    obtain ⟨ps, d', gp, hl, e2, h'⟩ := ih (acc ++ [u]) d1 h1 fun x hx => (List.mem_append.mp hx).elim (ha x) fun z => by rw [List.mem_singleton.mp z]; exact g
    refine ⟨ps, d', gp, by rw [hl, List.length_append, List.length_cons, List.length_cons, List.length_nil]; omega, ?_, h'⟩
    exact (lcL_cons (ρ4 := e4c l K d1) rfl rfl e rfl).trans e2
end MPG
end

section
set_option Elab.async false
set_option linter.all false
set_option maxRecDepth 100000
namespace MPG
open PySem PySem.Spec L2 MP
theorem pickG {ml : M T} {ρ ρ1 : Ev} {vs : List T} {k : Nat} (h0 : ρ.sl[0]? = some (some (false, .drw))) (hm : ml ρ = .ok (.lst vs) ρ1) (h : Dk ρ1.dr (k + 1)) (l0 : 0 < vs.length) (l1 : vs.length < 1000000) :
    ∃ v d', v ∈ vs ∧ Dk d' k ∧ mFn F_law_pick [] (mCons (mV 0) (mCons ml mNil)) ρ = .ok v { ρ1 with dr := d' } := by
  obtain ⟨v, d', hv, e, h'⟩ := pick_law h l0 l1
  exact ⟨v, d', hv, h', r_fn (r_cons (r_v h0) (r_cons hm r_nil)) e⟩
theorem r_pairs {mk mv : M T} {r : List (M T × M T)} {ρ ρ1 ρ2 ρ3 : Ev} {k v : T} {ps} (h1 : mk ρ = .ok k ρ1) (h2 : mv ρ1 = .ok v ρ2) (h3 : mPairs r ρ2 = .ok ps ρ3) : mPairs ((mk, mv) :: r) ρ = .ok ((k, v) :: ps) ρ3 := by
  rw [mPairs]
  unfold bindM
  rw [h1]
  simp only
  rw [h2]
  simp only
  rw [h3]
theorem r_pairs0 {ρ : Ev} : mPairs [] ρ = .ok [] ρ := rfl
theorem case1 {d : DS} {k : Nat} (h : Dk d (k + 1)) : ∃ l d', 1 ≤ l ∧ l ≤ 8 ∧ Dk d' k ∧
    mSet 1 (mFn F_law_pick [] (mCons (mV 0) (mCons (mLst (mCons (mC (.int 1)) (mCons (mC (.int 1)) (mCons (mC (.int 1)) (mCons (mC (.int 2)) (mCons (mC (.int 4)) (mCons (mC (.int 8)) mNil))))))) mNil))) ⟨[some (false, .drw), none, none, none], d⟩ = .nx ⟨[some (false, .drw), some (false, .int l), none, none], d'⟩ := by
  obtain ⟨v, d', hv, h', e⟩ := pickG (vs := [.int 1, .int 1, .int 1, .int 2, .int 4, .int 8]) (ρ := ⟨[some (false, .drw), none, none, none], d⟩) rfl (r_lst (r_cons r_c (r_cons r_c (r_cons r_c (r_cons r_c (r_cons r_c (r_cons r_c r_nil)))))) (by show 6 ≤ 1000; decide)) h (Nat.succ_pos _) (by show 6 < 1000000; decide)
  obtain ⟨l, rfl, l0, l1⟩ : ∃ n : Int, v = .int n ∧ 1 ≤ n ∧ n ≤ 8 := by
    simp only [List.mem_cons, List.not_mem_nil, or_false] at hv
    rcases hv with rfl | rfl | rfl | rfl | rfl | rfl <;> (refine ⟨_, rfl, ?_, ?_⟩ <;> decide)
  exact ⟨l, d', l0, l1, h', (r_set e).trans rfl⟩
theorem case2 {d : DS} {k : Nat} {l : Int} (l0 : 1 ≤ l) (l1 : l ≤ 8) (h : Dk d (k + 1)) : ∃ m d', l ≤ m ∧ m ≤ 8 ∧ Dk d' k ∧
    mOwn 2 (mDisp [((mC (.str "least")), (mV 1)), ((mC (.str "most")), (mCall minF (mCons (mC (.int 8)) (mCons (mBin addT (mL 1) (mFn F_law_take [] (mCons (mV 0) (mCons (mC (.int 8)) mNil)))) mNil)))), ((mC (.str "rise")), (mC .non)), ((mC (.str "fall")), (mC .non))]) ⟨[some (false, .drw), some (false, .int l), none, none], d⟩ = .nx (e4c (.int l) (dA (.int l) (.int m) .non .non) d') := by
  obtain ⟨t, d', t0, t1, h', e⟩ := takeE (m := mC (.int 8)) (ρ := ⟨[some (false, .drw), some (false, .int l), none, none], d⟩) h rfl r_c (by decide) (by decide)
  have q := r_call (F := minF) (r_cons (r_c (v := .int 8)) (r_cons (r_bin (r_l (i := 1) rfl) e (addT_i _ _)) r_nil)) rfl
  have q2 := r_disp (r_pairs (r_c (v := .str "least")) (r_v (i := 1) rfl) (r_pairs (r_c (v := .str "most")) q (r_pairs (r_c (v := .str "rise")) (r_c (v := .non)) (r_pairs (r_c (v := .str "fall")) (r_c (v := .non)) r_pairs0)))) rfl (by show 4 ≤ 15; decide)
  refine ⟨if l + t < 8 then l + t else 8, d', by split <;> omega, by split <;> omega, h', (r_own q2).trans rfl⟩
theorem case3 {d : DS} {k : Nat} {l m : T} (h : Dk d (k + 25)) : ∃ ps d', (∀ t ∈ ps, GP t) ∧ ps.length ≤ 4 ∧ Dk d' k ∧
    mAsg (mLc (mItA rnF1 (mCons (mFn F_law_pick [] (mCons (mV 0) (mCons (mLst (mCons (mC (.int 0)) (mCons (mC (.int 1)) (mCons (mC (.int 2)) (mCons (mC (.int 2)) (mCons (mC (.int 2)) (mCons (mC (.int 3)) (mCons (mC (.int 4)) mNil)))))))) mNil))) mNil)) (gN 3) mYes (mFn F_law_part [] (mCons (mV 0) mNil)) [3]) (gPut putD 2 (mC (.str "parts"))) (e4c l (dA l m .non .non) d) = .nx (e4c l (dB l m .non .non (.lst ps)) d') := by
  obtain ⟨v, d1, hv, h1, e⟩ := pickG (vs := [.int 0, .int 1, .int 2, .int 2, .int 2, .int 3, .int 4]) (k := k + 24) (ρ := e4c l (dA l m .non .non) d) rfl (r_lst (r_cons r_c (r_cons r_c (r_cons r_c (r_cons r_c (r_cons r_c (r_cons r_c (r_cons r_c r_nil))))))) (by show 7 ≤ 1000; decide)) h (Nat.succ_pos _) (by show 7 < 1000000; decide)
  obtain ⟨n, rfl, n0, n1⟩ : ∃ n : Int, v = .int n ∧ 0 ≤ n ∧ n ≤ 4 := by
    simp only [List.mem_cons, List.not_mem_nil, or_false] at hv
    rcases hv with rfl | rfl | rfl | rfl | rfl | rfl | rfl <;> (refine ⟨_, rfl, ?_, ?_⟩ <;> decide)
  have hr : rnF1 [.int n] = some (ranT 0 n.toNat) := if_pos ⟨Int.le_trans (by decide) n0, Int.lt_of_le_of_lt n1 (by decide)⟩
  have hlen := ranT_len 0 n.toNat
  obtain ⟨ps, d', gp, hl, e2, h'⟩ := parts_lc (l := l) (K := dA l m .non .non) (k := k) (ranT 0 n.toNat) [] d1 (h1.less (by rw [hlen]; omega)) (fun _ z => by cases z)
  have hl4 : ps.length ≤ 4 := by rw [hl, hlen, List.length_nil]; omega
  have hs : (ranT 0 n.toNat).length ≤ sizeLine := Nat.le_trans (m := 4) (by rw [hlen]; omega) (by decide)
  refine ⟨ps, d', gp, hl4, h', ?_⟩
  have e3 : lcL (gN 3) mYes mPart1 [3] (ranT 0 n.toNat) [] (blank [3] (e4c l (dA l m .non .non) d1)) = .ok ps (e4c l (dA l m .non .non) d') := e2
  exact r_asg (r_lc (r_mItA (r_cons e r_nil) hr) hs e3) (r_gPut (i := 2) rfl r_c (putD_s (by show 4 < 1000000; decide)))
end MPG
end

section
set_option Elab.async false
set_option linter.all false
set_option maxRecDepth 100000
namespace MPG
open PySem PySem.Spec L2 MP
/-- a limit -/
def GL (t : T) : Prop := t = .non ∨ ∃ n : Int, t = .int n ∧ 1 ≤ n ∧ n ≤ 8
abbrev mPickL : M T := mFn F_law_pick [] (mCons (mV 0) (mCons (mLst (mCons (mC (.int 1)) (mCons (mC (.int 2)) (mCons (mC (.int 3)) (mCons (mBin addT (mC (.int 1)) (mFn F_law_take [] (mCons (mV 0) (mCons (mC (.int 8)) mNil)))) mNil))))) mNil))
abbrev mThird : M Bool := mTst (mBin eqT (mFn F_law_take [] (mCons (mV 0) (mCons (mC (.int 3)) mNil))) (mC (.int 0)))
theorem pickL {ρ : Ev} {k : Nat} (h0 : ρ.sl[0]? = some (some (false, .drw))) (h : Dk ρ.dr (k + 2)) : ∃ v d', GL v ∧ Dk d' k ∧ mPickL ρ = .ok v { ρ with dr := d' } := by
  obtain ⟨t, d1, t0, t1, h1, e⟩ := takeE (k := k + 1) (m := mC (.int 8)) h h0 r_c (by decide) (by decide)
  obtain ⟨v, d2, hv, h2, e2⟩ := pickG (ρ := ρ) (vs := [.int 1, .int 2, .int 3, .int (1 + t)]) h0 (r_lst (r_cons r_c (r_cons r_c (r_cons r_c (r_cons (r_bin (r_c (v := .int 1)) e (addT_i _ _)) r_nil)))) (by show 4 ≤ 1000; decide)) h1 (Nat.succ_pos _) (by show 4 < 1000000; decide)
  refine ⟨v, d2, ?_, h2, e2⟩
  simp only [List.mem_cons, List.not_mem_nil, or_false] at hv
  rcases hv with rfl | rfl | rfl | rfl
  · exact .inr ⟨_, rfl, by decide, by decide⟩
  · exact .inr ⟨_, rfl, by decide, by decide⟩
  · exact .inr ⟨_, rfl, by decide, by decide⟩
  · exact .inr ⟨_, rfl, by omega, by omega⟩
theorem case4 {d : DS} {k : Nat} {l m f p : T} {K K' : List (Key × T)} {s : Str} (hK : K.length < 1000000) (h : Dk d (k + 3)) : ∃ b v d', GL v ∧ Dk d' k ∧
    mIfS mThird (mAsg mPickL (gPut putD 2 (mC (.str s)))) mSkip (e4c l K d) = .nx (e4c l (if b = true then putT K (.inr s) v else K) d') := by
  obtain ⟨t, d1, t0, t1, h1, e⟩ := takeE (k := k + 2) (m := mC (.int 3)) (ρ := e4c l K d) h rfl r_c (by decide) (by decide)
  have et : mThird (e4c l K d) = .ok (decide (t = 0)) (e4c l K d1) := r_tst (r_bin e r_c (eqT_i _ _))
  obtain ⟨v, d2, g, h2, e2⟩ := pickL (ρ := e4c l K d1) rfl h1
  cases hb : decide (t = 0) with
  | false =>
    rw [hb] at et
    exact ⟨false, .non, d1, .inl rfl, h1.less (by omega), r_ifN et⟩
  | true =>
    rw [hb] at et
    exact ⟨true, v, d2, g, h2, (r_ifT et).trans (r_asg e2 (r_gPut (i := 2) rfl r_c (putD_s hK)))⟩
theorem pick4n {ρ : Ev} {k : Nat} (h0 : ρ.sl[0]? = some (some (false, .drw))) (h : Dk ρ.dr (k + 1)) : ∃ n d', 1 ≤ n ∧ n ≤ 3 ∧ Dk d' k ∧
    mFn F_law_pick [] (mCons (mV 0) (mCons (mLst (mCons (mC (.int 1)) (mCons (mC (.int 1)) (mCons (mC (.int 2)) (mCons (mC (.int 3)) mNil))))) mNil)) ρ = .ok (.int n) { ρ with dr := d' } := by
  obtain ⟨v, d', hv, h', e⟩ := pick4 h h0
  simp only [List.mem_cons, List.not_mem_nil, or_false] at hv
  rcases hv with rfl | rfl | rfl | rfl <;> exact ⟨_, d', by decide, by decide, h', e⟩
/-- the case -/
theorem case_law {d : DS} {k : Nat} (h : Dk d (k + 40)) : ∃ l m r f ps u n d', 1 ≤ l ∧ l ≤ m ∧ m ≤ 8 ∧ GL r ∧ GL f ∧ (∀ t ∈ ps, GP t) ∧ ps.length ≤ 4 ∧ 1 ≤ u ∧ u ≤ 3 ∧ 1 ≤ n ∧ n ≤ 3 ∧ Dk d' k ∧
    F_law_case d [.drw] = .ok true (.dic (dC (.int l) (.int m) r f (.lst ps) (.int u) (.int n))) d' := by
  obtain ⟨l, d1, l0, l1, h1, e1⟩ := case1 (k := k + 39) h
  obtain ⟨m, d2, m0, m1, h2, e2⟩ := case2 (k := k + 38) l0 l1 h1
  obtain ⟨ps, d3, gp, hl, h3, e3⟩ := case3 (l := .int l) (m := .int m) (k := k + 13) h2
  obtain ⟨r, d4, gr, h4, e4⟩ : ∃ r d', GL r ∧ Dk d' (k + 10) ∧ mIfS mThird (mAsg mPickL (gPut putD 2 (mC (.str "rise")))) mSkip (e4c (.int l) (dB (.int l) (.int m) .non .non (.lst ps)) d3) = .nx (e4c (.int l) (dB (.int l) (.int m) r .non (.lst ps)) d') := by
    obtain ⟨b, v, d', g, h', e⟩ := case4 (l := .int l) (m := .non) (f := .non) (p := .non) (K' := []) (K := dB (.int l) (.int m) .non .non (.lst ps)) (s := "rise") (k := k + 10) (by show 5 < 1000000; decide) h3
    cases b with
    | false => exact ⟨.non, d', .inl rfl, h', e⟩
    | true => exact ⟨v, d', g, h', e⟩
  obtain ⟨f, d5, gf, h5, e5⟩ : ∃ f d', GL f ∧ Dk d' (k + 7) ∧ mIfS mThird (mAsg mPickL (gPut putD 2 (mC (.str "fall")))) mSkip (e4c (.int l) (dB (.int l) (.int m) r .non (.lst ps)) d4) = .nx (e4c (.int l) (dB (.int l) (.int m) r f (.lst ps)) d') := by
    obtain ⟨b, v, d', g, h', e⟩ := case4 (l := .int l) (m := .non) (f := .non) (p := .non) (K' := []) (K := dB (.int l) (.int m) r .non (.lst ps)) (s := "fall") (k := k + 7) (by show 5 < 1000000; decide) h4
    cases b with
    | false => exact ⟨.non, d', .inl rfl, h', e⟩
    | true => exact ⟨v, d', g, h', e⟩
  obtain ⟨u, d6, u0, u1, h6, e6⟩ := pick4n (k := k + 6) (ρ := e4c (.int l) (dB (.int l) (.int m) r f (.lst ps)) d5) rfl h5
  obtain ⟨n, d7, n0, n1, h7, e7⟩ := pick4n (k := k + 5) (ρ := e4c (.int l) (dB (.int l) (.int m) r f (.lst ps)) d6) rfl h6
  have e8 := r_tup (r_cons e6 (r_cons e7 r_nil)) (by show 2 ≤ 1000; decide)
  have e9 := r_asg e8 (r_gTn (n := 2) rfl (r_gsCons (r_gPut (i := 2) rfl (r_c (v := .str "up")) (putD_s (by show 5 < 1000000; decide))) (r_gsCons (ρ2 := e4c (.int l) (dC (.int l) (.int m) r f (.lst ps) (.int u) (.int n)) d7) (r_gPut (i := 2) rfl (r_c (v := .str "down")) (putD_s (by show 6 < 1000000; decide))) r_gsNil)))
  refine ⟨l, m, r, f, ps, u, n, d7, l0, m0, m1, gr, gf, gp, hl, u0, u1, n0, n1, h7.less (by omega), ?_⟩
  unfold F_law_case runF m_law_case
  rw [show (⟨startT 4 [.drw], d⟩ : Ev) = ⟨[some (false, .drw), none, none, none], d⟩ from rfl, r_seq e1, r_seq e2, r_seq e3, r_seq e4, r_seq e5, r_seq e9, r_rtv (f := true) (t := .dic (dC (.int l) (.int m) r f (.lst ps) (.int u) (.int n))) rfl]
  rfl
end MPG
end

section
set_option Elab.async false
set_option linter.all false
set_option maxRecDepth 100000
namespace MPG
open PySem PySem.Spec L2 MP
theorem leT_i (i j : Int) : leT (.int i) (.int j) = some (.bl (decide (i ≤ j))) := rfl
theorem r_andV {m n : M T} {ρ ρ1 ρ2 : Ev} {y : T} (h : m ρ = .ok (.bl true) ρ1) (h2 : n ρ1 = .ok y ρ2) : mAndV m n ρ = .ok y ρ2 := by
  unfold mAndV bindM
  rw [h]
  exact h2
theorem r_orVT {m n : M T} {ρ ρ1 : Ev} (h : m ρ = .ok (.bl true) ρ1) : mOrV m n ρ = .ok (.bl true) ρ1 := by
  unfold mOrV bindM
  rw [h]
theorem r_orVF {m n : M T} {ρ ρ1 ρ2 : Ev} {y : T} (h : m ρ = .ok (.bl false) ρ1) (h2 : n ρ1 = .ok y ρ2) : mOrV m n ρ = .ok y ρ2 := by
  unfold mOrV bindM
  rw [h]
  exact h2
theorem r_isa {f : Nat → Option Bool} {m : M T} {ρ ρ1 : Ev} {t : T} {b : Bool} (h : m ρ = .ok t ρ1) (h2 : f (tagT t) = some b) : mIsa f m ρ = .ok (.bl b) ρ1 := by
  unfold mIsa
  exact r_un h (by rw [h2]; rfl)
theorem r_chain {f f' : T → T → Option T} {ma mb mc : M T} {ρ ρ1 ρ2 ρ3 : Ev} {t u v y : T} (h1 : ma ρ = .ok t ρ1) (h2 : mb ρ1 = .ok u ρ2) (h3 : f t u = some (.bl true)) (h4 : mc ρ2 = .ok v ρ3) (h5 : f' u v = some y) : mChain f f' ma mb mc ρ = .ok y ρ3 := by
  unfold mChain bindM
  rw [h1]
  simp only
  rw [h2]
  simp only [h3]
  rw [h4]
  simp only [h5]
theorem integer_law {i : Int} {d : DS} : F_is_integer d [.int i] = .ok false (.bl true) d := by
  have e1 : mIsa (isaB [1, 2]) (mL 0) ⟨[some (false, .int i)], d⟩ = .ok (.bl true) ⟨[some (false, .int i)], d⟩ := r_isa (r_l rfl) rfl
  have e2 : mIsa (isaB [1]) (mL 0) ⟨[some (false, .int i)], d⟩ = .ok (.bl false) ⟨[some (false, .int i)], d⟩ := r_isa (r_l rfl) rfl
  unfold F_is_integer runF m_is_integer
  rw [show (⟨startT 1 [.int i], d⟩ : Ev) = ⟨[some (false, .int i)], d⟩ from rfl, r_ret (r_andV e1 (r_un (f := notV) (y := .bl true) e2 rfl))]
theorem between_law {i a b : Int} {d : DS} (h1 : a ≤ i) (h2 : i ≤ b) : F_is_between d [.int i, .int a, .int b] = .ok false (.bl true) d := by
  have e1 : mFn F_is_integer [] (mCons (mV 0) mNil) ⟨[some (false, .int i), some (false, .int a), some (false, .int b)], d⟩ = .ok (.bl true) ⟨[some (false, .int i), some (false, .int a), some (false, .int b)], d⟩ :=
    r_fn (r_cons (r_v rfl) r_nil) integer_law
  have l1 : leT (.int a) (.int i) = some (.bl true) := by rw [leT_i, decide_eq_true h1]
  have l2 : leT (.int i) (.int b) = some (.bl true) := by rw [leT_i, decide_eq_true h2]
  unfold F_is_between runF m_is_between
  rw [show (⟨startT 3 [.int i, .int a, .int b], d⟩ : Ev) = ⟨[some (false, .int i), some (false, .int a), some (false, .int b)], d⟩ from rfl,
    r_ret (r_andV e1 (r_chain (r_l (i := 1) rfl) (r_l (i := 0) rfl) l1 (r_l (i := 2) rfl) l2))]
theorem limit_law {t : T} {d : DS} (h : GL t) : F_is_limit d [t] = .ok false (.bl true) d := by
  rcases h with rfl | ⟨n, rfl, h1, h2⟩
  · unfold F_is_limit runF m_is_limit
    rw [show (⟨startT 1 [.non], d⟩ : Ev) = ⟨[some (false, .non)], d⟩ from rfl, r_ret (r_orVT (r_bin (f := isT) (r_l (i := 0) rfl) (r_c (v := .non)) rfl))]
  · unfold F_is_limit runF m_is_limit
    rw [show (⟨startT 1 [.int n], d⟩ : Ev) = ⟨[some (false, .int n)], d⟩ from rfl, r_ret (r_orVF (r_bin (f := isT) (r_l (i := 0) rfl) (r_c (v := .non)) rfl) (r_fn (r_cons (r_v (i := 0) rfl) (r_cons (r_c (v := .int 1)) (r_cons (r_c (v := .int 8)) r_nil))) (between_law h1 h2)))]
end MPG
end

section
set_option Elab.async false
set_option linter.all false
set_option maxRecDepth 100000
namespace MPG
open PySem PySem.Spec L2 MP
theorem r_ok {m : M T} {a : SM} {ρ ρ1 : Ev} (h : m ρ = .ok (.bl true) ρ1) : mIfS (mNotB (mTst m)) a mSkip ρ = .nx ρ1 := r_ifN (r_not (r_tst h))
theorem limits_law {r f : T} {u n : Int} {d : DS} (hr : GL r) (hf : GL f) (u0 : 1 ≤ u) (u1 : u ≤ 3) (n0 : 1 ≤ n) (n1 : n ≤ 3) : F_need_limits d [r, f, .int u, .int n] = .ok false .non d := by
  unfold F_need_limits runF m_need_limits
  rw [show (⟨startT 4 [r, f, .int u, .int n], d⟩ : Ev) = ⟨[some (false, r), some (false, f), some (false, .int u), some (false, .int n)], d⟩ from rfl]
  generalize hρ : (⟨[some (false, r), some (false, f), some (false, .int u), some (false, .int n)], d⟩ : Ev) = ρ
  have f0 : ρ.sl[0]? = some (some (false, r)) := by rw [← hρ]; rfl
  have f1 : ρ.sl[1]? = some (some (false, f)) := by rw [← hρ]; rfl
  have f2 : ρ.sl[2]? = some (some (false, .int u)) := by rw [← hρ]; rfl
  have f3 : ρ.sl[3]? = some (some (false, .int n)) := by rw [← hρ]; rfl
  have fd : ρ.dr = d := by rw [← hρ]
  have e1 : mFn F_is_limit [] (mCons (mV 0) mNil) ρ = .ok (.bl true) ρ := r_fn (d := ρ.dr) (r_cons (r_v f0) r_nil) (limit_law hr)
  have e2 : mFn F_is_limit [] (mCons (mV 1) mNil) ρ = .ok (.bl true) ρ := r_fn (d := ρ.dr) (r_cons (r_v f1) r_nil) (limit_law hf)
  have e3 : mFn F_is_between [] (mCons (mV 2) (mCons (mC (.int 1)) (mCons (mC (.int 3)) mNil))) ρ = .ok (.bl true) ρ := r_fn (d := ρ.dr) (r_cons (r_v f2) (r_cons r_c (r_cons r_c r_nil))) (between_law u0 u1)
  have e4 : mFn F_is_between [] (mCons (mV 3) (mCons (mC (.int 1)) (mCons (mC (.int 3)) mNil))) ρ = .ok (.bl true) ρ := r_fn (d := ρ.dr) (r_cons (r_v f3) (r_cons r_c (r_cons r_c r_nil))) (between_law n0 n1)
  rw [r_seq (r_ok e1), r_seq (r_ok e2), r_seq (r_ok e3), r_ok e4]
  exact congrArg _ fd
end MPG
end

section
set_option Elab.async false
set_option linter.all false
set_option maxRecDepth 100000
namespace MPG
open PySem PySem.Spec L2 MP
theorem eq_aim_over : eqT (.str "over") (.str "aim") = some (.bl false) := by
  rw [eqT_s, decide_eq_false (by decide)]
theorem eq_aim_under : eqT (.str "under") (.str "aim") = some (.bl false) := by
  rw [eqT_s, decide_eq_false (by decide)]
theorem eq_aim_aim : eqT (.str "aim") (.str "aim") = some (.bl true) := by
  rw [eqT_s, decide_eq_true (by decide)]
theorem eq_nil3 {s : Str} {a b : Int} (hs : PyData.strOk s = true) : eqT (.tup [.str s, .int a, .int b]) (.tup []) = some (.bl false) := by
  rw [eqT_d rfl (by simp [dat, toPD, toPDs, SeqAt.shaped, PyData.canLay0, PyData.depth, PyData.canLayAll0, PyData.depthAll, hs]) (by decide)]
  rfl
theorem eq_nil4 {s : Str} {a b c : Int} (hs : PyData.strOk s = true) : eqT (.tup [.str s, .int a, .int b, .int c]) (.tup []) = some (.bl false) := by
  rw [eqT_d rfl (by simp [dat, toPD, toPDs, SeqAt.shaped, PyData.canLay0, PyData.depth, PyData.canLayAll0, PyData.depthAll, hs]) (by decide)]
  rfl
end MPG
end

section
set_option Elab.async false
set_option linter.all false
set_option maxRecDepth 100000
namespace MPG
open PySem PySem.Spec L2 MP
theorem r_wget {kts : List (Str × T)} {mk mx : M T} {ρ ρ1 ρ2 : Ev} {k x y : T} (h : mk ρ = .ok k ρ1) (h2 : mx ρ1 = .ok x ρ2) (h3 : wgetT kts k x = some y) : mWGet kts mk mx ρ = .ok y ρ2 := by
  unfold mWGet bindM
  rw [h]
  simp only
  rw [h2]
  simp only [h3]
abbrev mRng : M T := mFn F_is_between [] (mCons (mV 1) (mCons (mC (.int 1)) (mCons (mC (.int 60)) mNil)))
theorem rng_step {P : T} {i : Int} {d : DS} {ts acc : List T} (h1 : 1 ≤ i) (h2 : i ≤ 60) : lcL (gN 1) mYes mRng [1] (.int i :: ts) acc ⟨[some (false, P), none], d⟩ = lcL (gN 1) mYes mRng [1] ts (acc ++ [.bl true]) ⟨[some (false, P), none], d⟩ :=
  lcL_cons (ρ1 := ⟨[some (false, P), some (false, .int i)], d⟩) rfl rfl (r_fn (d := d) (r_cons (r_v (i := 1) rfl) (r_cons r_c (r_cons r_c r_nil))) (between_law h1 h2)) rfl
theorem ix_at {xs : List T} {ρ : Ev} {i : Int} {y : T} {f : Bool} (h : ρ.sl[0]? = some (some (f, .tup xs))) (h2 : ixT (.tup xs) (.int i) = some y) : mBin ixT (mL 0) (mC (.int i)) ρ = .ok y ρ := r_bin (r_l h) r_c h2
theorem part_ok3 {s : Str} {t v : Int} {d : DS} (hs : eqT (.str s) (.str "aim") = some (.bl false)) (hk : PyData.strOk s = true) (hw : wgetT tab_SIZES (.str s) (.int 0) = some (.int 3)) (t0 : 1 ≤ t) (t1 : t ≤ 60) (v0 : 1 ≤ v) (v1 : v ≤ 8) :
    F_is_part d [.tup [.str s, .int t, .int v]] = .ok false (.bl true) d := by
  unfold F_is_part runF m_is_part
  rw [show (⟨startT 2 [.tup [.str s, .int t, .int v]], d⟩ : Ev) = ⟨[some (false, .tup [.str s, .int t, .int v]), none], d⟩ from rfl]
  have a0 : mBin ixT (mL 0) (mC (.int 0)) ⟨[some (false, .tup [.str s, .int t, .int v]), none], d⟩ = .ok (.str s) ⟨[some (false, .tup [.str s, .int t, .int v]), none], d⟩ := ix_at rfl rfl
  have a2 : mBin ixT (mL 0) (mC (.int 2)) ⟨[some (false, .tup [.str s, .int t, .int v]), none], d⟩ = .ok (.int v) ⟨[some (false, .tup [.str s, .int t, .int v]), none], d⟩ := ix_at rfl rfl
  have e1 : mIsa (isaB [4]) (mL 0) ⟨[some (false, .tup [.str s, .int t, .int v]), none], d⟩ = .ok (.bl true) ⟨[some (false, .tup [.str s, .int t, .int v]), none], d⟩ := r_isa (r_l rfl) rfl
  have e2 : mTst (mBin eqT (mL 0) (mTup mNil)) ⟨[some (false, .tup [.str s, .int t, .int v]), none], d⟩ = .ok false ⟨[some (false, .tup [.str s, .int t, .int v]), none], d⟩ := r_tst (r_bin (r_l (i := 0) rfl) (r_tup r_nil (Nat.zero_le _)) (eq_nil3 hk))
  have e3 : mIsa (isaB [3]) (mBin ixT (mL 0) (mC (.int 0))) ⟨[some (false, .tup [.str s, .int t, .int v]), none], d⟩ = .ok (.bl true) ⟨[some (false, .tup [.str s, .int t, .int v]), none], d⟩ := r_isa a0 rfl
  have e4 : mTst (mBin neT (mWGet tab_SIZES (mBin ixT (mL 0) (mC (.int 0))) (mC (.int 0))) (mCall lenF (mCons (mL 0) mNil))) ⟨[some (false, .tup [.str s, .int t, .int v]), none], d⟩ = .ok false ⟨[some (false, .tup [.str s, .int t, .int v]), none], d⟩ :=
    r_tst (r_bin (f := neT) (u := .int 3) (r_wget a0 (r_c (v := .int 0)) hw) (r_call (r_cons (r_l (i := 0) rfl) r_nil) rfl) (neT_i 3 3))
  have c1 : mSl (mL 0) (mPart (mC (.int 1))) mNoPart ⟨[some (false, .tup [.str s, .int t, .int v]), none], d⟩ = .ok (.tup [.int t, .int v]) ⟨[some (false, .tup [.str s, .int t, .int v]), none], d⟩ := rfl
  have c2 := r_lc (f := gN 1) (mc := mYes) (m := mRng) (vs := [1]) (us := [.bl true, .bl true]) (r_mIt (F := seqT) c1 rfl) (Nat.le_trans (m := 2) (Nat.le_refl 2) (by decide)) ((rng_step t0 t1).trans ((rng_step v0 (by omega)).trans rfl))
  have e5 := r_call (F := allF) (y := .bl true) (r_cons c2 r_nil) rfl
  have e6 := r_tst (r_bin (f := eqT) a0 (r_c (v := .str "aim")) hs)
  have l8 : leT (.int v) (.int 8) = some (.bl true) := by rw [leT_i, decide_eq_true v1]
  rw [r_seq (r_ifN (r_orF (r_not (r_tst e1)) (r_orF e2 (r_not (r_tst e3))))), r_seq (r_ifN (r_orF e4 (r_not (r_tst e5)))), r_seq (r_ifN e6), r_ret (r_bin a2 (r_c (v := .int 8)) l8)]
end MPG
end

section
set_option Elab.async false
set_option linter.all false
set_option maxRecDepth 100000
namespace MPG
open PySem PySem.Spec L2 MP
theorem part_ok4 {t a b : Int} {d : DS} (a0' : 1 ≤ a) (a1 : a ≤ t) (b0 : t ≤ b) (b1 : b ≤ 60) :
    F_is_part d [.tup [.str "aim", .int t, .int a, .int b]] = .ok false (.bl true) d := by
  unfold F_is_part runF m_is_part
  rw [show (⟨startT 2 [.tup [.str "aim", .int t, .int a, .int b]], d⟩ : Ev) = ⟨[some (false, .tup [.str "aim", .int t, .int a, .int b]), none], d⟩ from rfl]
  have a0 : mBin ixT (mL 0) (mC (.int 0)) ⟨[some (false, .tup [.str "aim", .int t, .int a, .int b]), none], d⟩ = .ok (.str "aim") ⟨[some (false, .tup [.str "aim", .int t, .int a, .int b]), none], d⟩ := ix_at rfl rfl
  have a1' : mBin ixT (mL 0) (mC (.int 1)) ⟨[some (false, .tup [.str "aim", .int t, .int a, .int b]), none], d⟩ = .ok (.int t) ⟨[some (false, .tup [.str "aim", .int t, .int a, .int b]), none], d⟩ := ix_at rfl rfl
  have a2 : mBin ixT (mL 0) (mC (.int 2)) ⟨[some (false, .tup [.str "aim", .int t, .int a, .int b]), none], d⟩ = .ok (.int a) ⟨[some (false, .tup [.str "aim", .int t, .int a, .int b]), none], d⟩ := ix_at rfl rfl
  have a3 : mBin ixT (mL 0) (mC (.int 3)) ⟨[some (false, .tup [.str "aim", .int t, .int a, .int b]), none], d⟩ = .ok (.int b) ⟨[some (false, .tup [.str "aim", .int t, .int a, .int b]), none], d⟩ := ix_at rfl rfl
  have e1 : mIsa (isaB [4]) (mL 0) ⟨[some (false, .tup [.str "aim", .int t, .int a, .int b]), none], d⟩ = .ok (.bl true) ⟨[some (false, .tup [.str "aim", .int t, .int a, .int b]), none], d⟩ := r_isa (r_l rfl) rfl
  have e2 : mTst (mBin eqT (mL 0) (mTup mNil)) ⟨[some (false, .tup [.str "aim", .int t, .int a, .int b]), none], d⟩ = .ok false ⟨[some (false, .tup [.str "aim", .int t, .int a, .int b]), none], d⟩ := r_tst (r_bin (r_l (i := 0) rfl) (r_tup r_nil (Nat.zero_le _)) (eq_nil4 (by decide +kernel)))
  have e3 : mIsa (isaB [3]) (mBin ixT (mL 0) (mC (.int 0))) ⟨[some (false, .tup [.str "aim", .int t, .int a, .int b]), none], d⟩ = .ok (.bl true) ⟨[some (false, .tup [.str "aim", .int t, .int a, .int b]), none], d⟩ := r_isa a0 rfl
  have hw : wgetT tab_SIZES (.str "aim") (.int 0) = some (.int 4) := by rfl
  have e4 : mTst (mBin neT (mWGet tab_SIZES (mBin ixT (mL 0) (mC (.int 0))) (mC (.int 0))) (mCall lenF (mCons (mL 0) mNil))) ⟨[some (false, .tup [.str "aim", .int t, .int a, .int b]), none], d⟩ = .ok false ⟨[some (false, .tup [.str "aim", .int t, .int a, .int b]), none], d⟩ :=
    r_tst (r_bin (f := neT) (u := .int 4) (r_wget a0 (r_c (v := .int 0)) hw) (r_call (r_cons (r_l (i := 0) rfl) r_nil) rfl) (neT_i 4 4))
  have c1 : mSl (mL 0) (mPart (mC (.int 1))) mNoPart ⟨[some (false, .tup [.str "aim", .int t, .int a, .int b]), none], d⟩ = .ok (.tup [.int t, .int a, .int b]) ⟨[some (false, .tup [.str "aim", .int t, .int a, .int b]), none], d⟩ := rfl
  have c2 := r_lc (f := gN 1) (mc := mYes) (m := mRng) (vs := [1]) (us := [.bl true, .bl true, .bl true]) (r_mIt (F := seqT) c1 rfl) (Nat.le_trans (m := 3) (Nat.le_refl 3) (by decide)) ((rng_step (by omega) (by omega)).trans ((rng_step (by omega) (by omega)).trans ((rng_step (by omega) (by omega)).trans rfl)))
  have e5 := r_call (F := allF) (y := .bl true) (r_cons c2 r_nil) rfl
  have e6 := r_tst (r_bin (f := eqT) a0 (r_c (v := .str "aim")) eq_aim_aim)
  have l1 : leT (.int a) (.int t) = some (.bl true) := by rw [leT_i, decide_eq_true a1]
  have l2 : leT (.int t) (.int b) = some (.bl true) := by rw [leT_i, decide_eq_true b0]
  rw [r_seq (r_ifN (r_orF (r_not (r_tst e1)) (r_orF e2 (r_not (r_tst e3))))), r_seq (r_ifN (r_orF e4 (r_not (r_tst e5)))), r_seqR ((r_ifT e6).trans (r_ret (r_chain a2 a1' l1 a3 l2)))]
theorem part_ok {p : T} {d : DS} (h : GP p) : F_is_part d [p] = .ok false (.bl true) d := by
  cases h with
  | over h1 h2 h3 h4 => exact part_ok3 eq_aim_over (by decide +kernel) rfl h1 h2 h3 h4
  | under h1 h2 h3 h4 => exact part_ok3 eq_aim_under (by decide +kernel) rfl h1 h2 h3 h4
  | aim h1 h2 h3 h4 => exact part_ok4 h1 h2 h3 h4
end MPG
end

section
set_option Elab.async false
set_option linter.all false
set_option maxRecDepth 100000
namespace MPG
open PySem PySem.Spec L2 MP
abbrev mIsP : M T := mFn F_is_part [] (mCons (mV 1) mNil)
theorem parts_lcL {P : T} {d : DS} (ps : List T) : ∀ (acc : List T), (∀ p ∈ ps, GP p) → lcL (gN 1) mYes mIsP [1] ps acc ⟨[some (false, P), none], d⟩ = .ok (acc ++ List.replicate ps.length (.bl true)) ⟨[some (false, P), none], d⟩ := by
  generalize hM : mIsP = M
  have st : ∀ {p : T}, GP p → M ⟨[some (false, P), some (false, p)], d⟩ = .ok (.bl true) ⟨[some (false, P), some (false, p)], d⟩ := by
    intro p h
    rw [← hM]
    exact r_fn (d := d) (r_cons (r_v (i := 1) rfl) r_nil) (part_ok h)
  clear hM
  induction ps with
  | nil =>
    intro acc _
    rw [List.length_nil, List.replicate_zero, List.append_nil]
    rfl
  | cons p ps ih =>
    intro acc h
    have e : lcL (gN 1) mYes M [1] (p :: ps) acc ⟨[some (false, P), none], d⟩ = lcL (gN 1) mYes M [1] ps (acc ++ [.bl true]) ⟨[some (false, P), none], d⟩ :=
      lcL_cons (ρ1 := ⟨[some (false, P), some (false, p)], d⟩) rfl rfl (st (h p (List.mem_cons_self ..))) rfl
    rw [e, ih _ fun q hq => h q (List.mem_cons_of_mem _ hq), List.append_assoc, List.length_cons, List.replicate_succ]
    rfl
theorem bls_true : ∀ n : Nat, blsT (List.replicate n (.bl true)) = some (List.replicate n true)
  | 0 => rfl
  | n + 1 => by
    rw [List.replicate_succ, List.replicate_succ]
    show (blsT (.bl true :: List.replicate n (.bl true))) = _
    simp [blsT, bls_true n]
end MPG
end

section
set_option Elab.async false
set_option linter.all false
set_option maxRecDepth 100000
namespace MPG
open PySem PySem.Spec L2 MP
theorem all_true (n : Nat) : allF [.lst (List.replicate n (.bl true))] = some (.bl true) := by
  show (blsT (List.replicate n (.bl true))).map (fun bs => T.bl (bs.all id)) = _
  rw [bls_true]
  simp
theorem are_parts_law {ps : List T} {d : DS} (h : ∀ p ∈ ps, GP p) (hl : ps.length ≤ 4) : F_are_parts d [.lst ps] = .ok false (.bl true) d := by
  have e0 : (⟨startT 2 [.lst ps], d⟩ : Ev) = ⟨[some (false, .lst ps), none], d⟩ := rfl
  have e1 : mIsa (isaB [4, 5]) (mL 0) ⟨[some (false, .lst ps), none], d⟩ = .ok (.bl true) ⟨[some (false, .lst ps), none], d⟩ := r_isa (r_l rfl) rfl
  have l4 : leT (.int ps.length) (.int 4) = some (.bl true) := by rw [leT_i, decide_eq_true (by omega)]
  have e2 : mBin leT (mCall lenF (mCons (mL 0) mNil)) (mC (.int 4)) ⟨[some (false, .lst ps), none], d⟩ = .ok (.bl true) ⟨[some (false, .lst ps), none], d⟩ :=
    r_bin (r_call (F := lenF) (r_cons (r_l (i := 0) rfl) r_nil) rfl) r_c l4
  have c1 : mIt seqT (mV 0) ⟨[some (false, .lst ps), none], d⟩ = .ok ps ⟨[some (false, .lst ps), none], d⟩ := r_mIt (r_v rfl) rfl
  have c2 : mLc (mIt seqT (mV 0)) (gN 1) mYes mIsP [1] ⟨[some (false, .lst ps), none], d⟩ = .ok (.lst ([] ++ List.replicate ps.length (.bl true))) ⟨[some (false, .lst ps), none], d⟩ :=
    r_lc c1 (Nat.le_trans hl (by decide)) (parts_lcL ps [] h)
  have e3 := r_call (F := allF) (y := .bl true) (r_cons c2 r_nil) (all_true _)
  unfold F_are_parts runF m_are_parts
  rw [e0, r_ret (r_andV e1 (r_andV e2 e3))]
end MPG
end

section
set_option Elab.async false
set_option linter.all false
set_option maxRecDepth 100000
namespace MPG
open PySem PySem.Spec L2 MP
theorem r_fld {c i : Nat} {fn : Str} {mv : M T} {ρ ρ1 : Ev} {t : T} {fs} (h : mv ρ = .ok t ρ1) (h2 : ρ1.sl[i]? = some (some (true, .slf c fs))) (hl : fs.length < 1000) : mFld c i fn mv ρ = .nx (setSl ρ1 i (some (true, .slf c (putFT fn t fs)))) := by
  unfold mFld
  simp only [h, h2]
  exact if_pos ⟨True.intro, hl⟩
end MPG
end

section
set_option Elab.async false
set_option linter.all false
set_option maxRecDepth 100000
namespace MPG
open PySem PySem.Spec L2 MP
abbrev rFs (ps : List T) (l m : Int) (r f : T) (u n : Int) : List (Str × T) := [("r_parts", .tup ps), ("r_bounds", .tup [.int l, .int m]), ("r_limits", .tup [r, f, .int u, .int n])]
theorem init_law {ps : List T} {l m u n : Int} {r f : T} {d : DS} (hp : ∀ p ∈ ps, GP p) (hl : ps.length ≤ 4) (l0 : 1 ≤ l) (l1 : l ≤ m) (m1 : m ≤ 8) (hr : GL r) (hf : GL f) (u0 : 1 ≤ u) (u1 : u ≤ 3) (n0 : 1 ≤ n) (n1 : n ≤ 3) :
    F_Rule_init d [.lst ps, .int l, .int m, r, f, .int u, .int n] = .ok true (.ins 3 (rFs ps l m r f u n)) d := by
  unfold F_Rule_init runI m_Rule_init
  rw [show (⟨some (true, .slf 3 []) :: startT (8 - 1) [.lst ps, .int l, .int m, r, f, .int u, .int n], d⟩ : Ev) = ⟨[some (true, .slf 3 []), some (false, .lst ps), some (false, .int l), some (false, .int m), some (false, r), some (false, f), some (false, .int u), some (false, .int n)], d⟩ from rfl]
  have e1 : mFn F_are_parts [] (mCons (mV 1) mNil) ⟨[some (true, .slf 3 []), some (false, .lst ps), some (false, .int l), some (false, .int m), some (false, r), some (false, f), some (false, .int u), some (false, .int n)], d⟩ = .ok (.bl true) ⟨[some (true, .slf 3 []), some (false, .lst ps), some (false, .int l), some (false, .int m), some (false, r), some (false, f), some (false, .int u), some (false, .int n)], d⟩ := r_fn (d := d) (r_cons (r_v rfl) r_nil) (are_parts_law hp hl)
  have e2 : mFn F_is_between [] (mCons (mV 2) (mCons (mC (.int 1)) (mCons (mC (.int 8)) mNil))) ⟨[some (true, .slf 3 []), some (false, .lst ps), some (false, .int l), some (false, .int m), some (false, r), some (false, f), some (false, .int u), some (false, .int n)], d⟩ = .ok (.bl true) ⟨[some (true, .slf 3 []), some (false, .lst ps), some (false, .int l), some (false, .int m), some (false, r), some (false, f), some (false, .int u), some (false, .int n)], d⟩ := r_fn (d := d) (r_cons (r_v rfl) (r_cons r_c (r_cons r_c r_nil))) (between_law l0 (by omega))
  have e3 : mFn F_is_between [] (mCons (mV 3) (mCons (mV 2) (mCons (mC (.int 8)) mNil))) ⟨[some (true, .slf 3 []), some (false, .lst ps), some (false, .int l), some (false, .int m), some (false, r), some (false, f), some (false, .int u), some (false, .int n)], d⟩ = .ok (.bl true) ⟨[some (true, .slf 3 []), some (false, .lst ps), some (false, .int l), some (false, .int m), some (false, r), some (false, f), some (false, .int u), some (false, .int n)], d⟩ := r_fn (d := d) (r_cons (r_v rfl) (r_cons (r_v rfl) (r_cons r_c r_nil))) (between_law l1 m1)
  have e4 : mFn F_need_limits [] (mCons (mV 4) (mCons (mV 5) (mCons (mV 6) (mCons (mV 7) mNil)))) ⟨[some (true, .slf 3 []), some (false, .lst ps), some (false, .int l), some (false, .int m), some (false, r), some (false, f), some (false, .int u), some (false, .int n)], d⟩ = .ok .non ⟨[some (true, .slf 3 []), some (false, .lst ps), some (false, .int l), some (false, .int m), some (false, r), some (false, f), some (false, .int u), some (false, .int n)], d⟩ := r_fn (d := d) (r_cons (r_v rfl) (r_cons (r_v rfl) (r_cons (r_v rfl) (r_cons (r_v rfl) r_nil)))) (limits_law hr hf u0 u1 n0 n1)
  have e5 : mFld 3 0 "r_parts" (mCall tupleF (mCons (mL 1) mNil)) ⟨[some (true, .slf 3 []), some (false, .lst ps), some (false, .int l), some (false, .int m), some (false, r), some (false, f), some (false, .int u), some (false, .int n)], d⟩ = .nx ⟨[some (true, .slf 3 [("r_parts", .tup ps)]), some (false, .lst ps), some (false, .int l), some (false, .int m), some (false, r), some (false, f), some (false, .int u), some (false, .int n)], d⟩ := (r_fld (fs := []) (r_call (F := tupleF) (y := .tup ps) (r_cons (r_l (i := 1) rfl) r_nil) rfl) rfl (by show 0 < 1000; decide)).trans rfl
  have e6 : mFld 3 0 "r_bounds" (mTup (mCons (mV 2) (mCons (mV 3) mNil))) ⟨[some (true, .slf 3 [("r_parts", .tup ps)]), some (false, .lst ps), some (false, .int l), some (false, .int m), some (false, r), some (false, f), some (false, .int u), some (false, .int n)], d⟩ = .nx ⟨[some (true, .slf 3 [("r_parts", .tup ps), ("r_bounds", .tup [.int l, .int m])]), some (false, .lst ps), some (false, .int l), some (false, .int m), some (false, r), some (false, f), some (false, .int u), some (false, .int n)], d⟩ := (r_fld (fs := [("r_parts", .tup ps)]) (r_tup (r_cons (r_v rfl) (r_cons (r_v rfl) r_nil)) (by show 2 ≤ 1000; decide)) rfl (by show 1 < 1000; decide)).trans rfl
  have e7 : mFld 3 0 "r_limits" (mTup (mCons (mV 4) (mCons (mV 5) (mCons (mV 6) (mCons (mV 7) mNil))))) ⟨[some (true, .slf 3 [("r_parts", .tup ps), ("r_bounds", .tup [.int l, .int m])]), some (false, .lst ps), some (false, .int l), some (false, .int m), some (false, r), some (false, f), some (false, .int u), some (false, .int n)], d⟩ = .nx ⟨[some (true, .slf 3 [("r_parts", .tup ps), ("r_bounds", .tup [.int l, .int m]), ("r_limits", .tup [r, f, .int u, .int n])]), some (false, .lst ps), some (false, .int l), some (false, .int m), some (false, r), some (false, f), some (false, .int u), some (false, .int n)], d⟩ := (r_fld (fs := [("r_parts", .tup ps), ("r_bounds", .tup [.int l, .int m])]) (r_tup (r_cons (r_v rfl) (r_cons (r_v rfl) (r_cons (r_v rfl) (r_cons (r_v rfl) r_nil)))) (by show 4 ≤ 1000; decide)) rfl (by show 2 < 1000; decide)).trans rfl
  rw [r_seq (r_ok e1), r_seq (r_ok e2), r_seq (r_ok e3), r_seq (r_drop e4), r_seq e5, r_seq e6, e7]
  rfl
end MPG
end

section
set_option Elab.async false
set_option linter.all false
set_option maxRecDepth 100000
namespace MPG
open PySem PySem.Spec L2 MP
theorem r_kw {G : List T → List T → List T} {ma mk : M (List T)} {ρ ρ1 ρ2 : Ev} {ts zs : List T} (h : ma ρ = .ok ts ρ1) (h2 : mk ρ1 = .ok zs ρ2) : mKw G ma mk ρ = .ok (G ts zs) ρ2 := by
  unfold mKw bindM
  rw [h]
  simp only
  rw [h2]
theorem dg_l {K : List (Key × T)} {ρ : Ev} {i : Nat} {fl : Bool} {k : Str} {y : T} (h : ρ.sl[i]? = some (some (fl, .dic K))) (h2 : dgT (.dic K) (.str k) = some y) : mBin dgT (mL i) (mC (.str k)) ρ = .ok y ρ := r_bin (r_l h) r_c h2
end MPG
end

section
set_option Elab.async false
set_option linter.all false
set_option maxRecDepth 100000
namespace MPG
open PySem PySem.Spec L2 MP
variable {d : DS} {l m u n : Int} {r f : T} {ps : List T}
theorem rule_law (hp : ∀ p ∈ ps, GP p) (hl : ps.length ≤ 4) (l0 : 1 ≤ l) (l1 : l ≤ m) (m1 : m ≤ 8) (hr : GL r) (hf : GL f) (u0 : 1 ≤ u) (u1 : u ≤ 3) (n0 : 1 ≤ n) (n1 : n ≤ 3) :
    F_law_rule d [.dic (dC (.int l) (.int m) r f (.lst ps) (.int u) (.int n))] = .ok true (.ins 3 (rFs ps l m r f u n)) d := by
  apply wF_is
  unfold F_law_rule m_law_rule
  have c1 : dgT (.dic (dC (.int l) (.int m) r f (.lst ps) (.int u) (.int n))) (.str "least") = some (.int l) := rfl
  have c2 : dgT (.dic (dC (.int l) (.int m) r f (.lst ps) (.int u) (.int n))) (.str "most") = some (.int m) := rfl
  have c3 : dgT (.dic (dC (.int l) (.int m) r f (.lst ps) (.int u) (.int n))) (.str "rise") = some r := rfl
  have c4 : dgT (.dic (dC (.int l) (.int m) r f (.lst ps) (.int u) (.int n))) (.str "fall") = some f := rfl
  have c5 : dgT (.dic (dC (.int l) (.int m) r f (.lst ps) (.int u) (.int n))) (.str "parts") = some (.lst ps) := rfl
  have c6 : dgT (.dic (dC (.int l) (.int m) r f (.lst ps) (.int u) (.int n))) (.str "up") = some (.int u) := rfl
  have c7 : dgT (.dic (dC (.int l) (.int m) r f (.lst ps) (.int u) (.int n))) (.str "down") = some (.int n) := rfl
  simp -dsimp only [wO_some, wO_none, wO_if, wO_map, wO_bind, wB_bl, wI_int, wIf_t, wIf_f, wSl_f, wSl_t, wIns_e, wSlf_e, wDic_e, w2_e, wR_nx, wR_rt, wR_bk, wR_ct, wR_ex, wR_bad, sqK_nx, sqK_rt, sqK_bk, sqK_ct, sqK_ex, fnK_nx, fnK_rt, fnK_ex, wE_C, wE_V, wE_L, wE_bin, wE_un, wE_call, wE_it, wE_itA, wE_isa, wE_tst, wE_yes, wE_not, wE_andB, wE_orB, wE_andV, wE_orV, wE_ite, wE_nil, wE_cons, wE_tup, wE_lst, wE_fn, wE_fnF, wE_prop, wE_inst, wE_kw, wE_part, wE_noPart, wE_sl, wE_chain, wE_get2, wE_wget, wE_ps0, wE_ps, wE_disp, wE_om, wE_lc, wE_dr, wO_gN, wO_gTn, wO_gs0, wO_gs, wO_gPut, wS_seq, wS_skip, wS_bk, wS_ct, wS_rtN, wS_no, wS_if, wS_then, wS_asg, wS_par, wS_retV, wS_fld, wS_for, wF_run, setSl_e, blank_e, startT_c, startT_n, startT_0, lpK_nx, lpK_ct, lpK_bk, lpK_rt, lpK_ex, negI_i, notV_b, isT_n, isnT_n, isT_b, isnT_b, ixT_l, ixT_t, sbT_l, sbT_t, sbT_d, atI_0, atI_1, atI_2, atI_3, atI_4, atI_m1, isNon_n, isNon_i, isNon_b, isNon_s, isNon_t, isNon_l, isNon_d, isNon_c, lenF_l, lenF_t, lenF_d, absF_i, intF_i, intF_b, maxF_ii, minF_ii, allF_m, anyF_m, sumF_m, maxF_m, minF_m, sortedF_m, maxF_l2, minF_l2, tupleF_l, tupleF_t, listF_l, listF_t, dictF_d, seqT_l, seqT_t, enF_l, zpF_l, zpF_t, slT_l, slT_t, revF_l, popF_l, putL_i, tyT_l, tyT_d, wgetT_s, tagT_n, tagT_b, tagT_i, tagT_s, tagT_t, tagT_l, tagT_d, keysT_0, keysT_s, keysT_i, eqT_s, neT_s, eqT_sn, eqT_ns, neT_sn, neT_ns, reprF_e, addT_ll, addT_tt, rnF1_i, rnF2_i, apF_l, insF_l, putD_s, putD_i, divmodF_i, intT_yes, intT_mul, intT_mod, intT_div, sizeLine_e, slfW_e, inK_nx, inK_ex, wF_init, wipeL_0, wipeL_c, isaB_1_2_0, isaB_1_2_1, isaB_1_2_2, isaB_1_2_3, isaB_1_2_4, isaB_1_2_5, isaB_1_2_6, isaB_1_0, isaB_1_1, isaB_1_2, isaB_1_3, isaB_1_4, isaB_1_5, isaB_1_6, isaB_3_0, isaB_3_1, isaB_3_2, isaB_3_3, isaB_3_4, isaB_3_5, isaB_3_6, isaB_4_0, isaB_4_1, isaB_4_2, isaB_4_3, isaB_4_4, isaB_4_5, isaB_4_6, isaB_5_0, isaB_5_1, isaB_5_2, isaB_5_3, isaB_5_4, isaB_5_5, isaB_5_6, isaB_6_0, isaB_6_1, isaB_6_2, isaB_6_3, isaB_6_4, isaB_6_5, isaB_6_6, isaB_4_5_0, isaB_4_5_1, isaB_4_5_2, isaB_4_5_3, isaB_4_5_4, isaB_4_5_5, isaB_4_5_6, ranT_len, List.length_map, List.length_append, eqT_i, neT_i, addT_i, List.getElem?_cons_zero, List.getElem?_cons_succ, List.set_cons_zero, List.set_cons_succ, List.length_cons, List.length_nil, Nat.reduceAdd, Nat.reduceLeDiff, Nat.reduceSub, Nat.reduceEqDiff, Nat.zero_add, true_and, and_true, Nat.le_refl, Nat.reduceLT, Nat.zero_le, Bool.not_true, Bool.not_false, reduceCtorEq, and_self, decide_true, decide_false, kGe_ends_of_0_rule, kGe_Rule_init_2_least_most_rise_fall_up_down, fl_Rule_r_parts, pf_Rule_r_parts, fs_Rule_r_parts_0, fs_Rule_r_parts_1, fs_Rule_r_parts_2, fl_Rule_r_bounds, pf_Rule_r_bounds, fs_Rule_r_bounds_1, fs_Rule_r_bounds_2, fl_Rule_r_limits, pf_Rule_r_limits, fs_Rule_r_limits_2, mg_0, dg_0_0, dg_0_1, mg_1, dg_1_0, dg_1_1, dg_1_2, dg_1_3, F_Rule_parts, m_Rule_parts, F_Rule_most, m_Rule_most, F_Rule_least, m_Rule_least, c1, c2, c3, c4, c5, c6, c7, wF_of (init_law hp hl l0 l1 m1 hr hf u0 u1 n0 n1)]
end MPG
end

section
set_option Elab.async false
set_option linter.all false
set_option maxRecDepth 100000
namespace MPG
open PySem PySem.Spec L2 MP
/-- parts, typed -/
inductive Part where
  | over (m k : Int) | under (m k : Int) | aim (m a b : Int)
namespace Part
def t : Part → T
  | over m k => .tup [.str "over", .int m, .int k]
  | under m k => .tup [.str "under", .int m, .int k]
  | aim m a b => .tup [.str "aim", .int m, .int a, .int b]
def ok : Part → Prop
  | over m k => 1 ≤ m ∧ m ≤ 60 ∧ 1 ≤ k ∧ k ≤ 8
  | under m k => 1 ≤ m ∧ m ≤ 60 ∧ 1 ≤ k ∧ k ≤ 8
  | aim m a b => 1 ≤ a ∧ a ≤ m ∧ m ≤ b ∧ b ≤ 60
def marks : Part → List Int
  | over m _ => [m]
  | under m _ => [m]
  | aim _ a b => [a, b]
def ends (l m : Int) : Part → List Int
  | over k _ => (rng l (m + 1)).map (k * ·)
  | under k _ => (rng l (m + 1)).map (k * ·)
  | aim k a b => (rng l (m + 1)).map (a * ·) ++ (rng l (m + 1)).map (b * ·) ++ (rng l m).map (k * ·)
end Part
theorem gp_part {t : T} (h : GP t) : ∃ p : Part, p.ok ∧ t = p.t := by
  cases h with
  | over h1 h2 h3 h4 => exact ⟨.over _ _, ⟨h1, h2, h3, h4⟩, rfl⟩
  | under h1 h2 h3 h4 => exact ⟨.under _ _, ⟨h1, h2, h3, h4⟩, rfl⟩
  | aim h1 h2 h3 h4 => exact ⟨.aim _ _ _, ⟨h1, h2, h3, h4⟩, rfl⟩
theorem gp_parts : ∀ {ts : List T}, (∀ t ∈ ts, GP t) → ∃ ps : List Part, (∀ p ∈ ps, p.ok) ∧ ts = ps.map Part.t
  | [], _ => ⟨[], by simp, rfl⟩
  | t :: ts, h => by
    obtain ⟨p, h1, rfl⟩ := gp_part (h t (List.mem_cons_self ..))
    obtain ⟨ps, h2, rfl⟩ := gp_parts (ts := ts) fun x hx => h x (List.mem_cons_of_mem _ hx)
    refine ⟨p :: ps, fun q hq => ?_, rfl⟩
    rcases List.mem_cons.mp hq with rfl | hq
    · exact h1
    · exact h2 q hq
theorem se_oa : (Str.ofString "over" = Str.ofString "aim") = False := eq_false (by decide +kernel)
theorem se_ua : (Str.ofString "under" = Str.ofString "aim") = False := eq_false (by decide +kernel)
theorem cutT_3_1 {a b c : T} : cutT [a, b, c] (some 1) (some 2) = [b] := rfl
theorem cutT_4_2 {a b c d : T} : cutT [a, b, c, d] (some 2) none = [c, d] := rfl
variable {d : DS} {l m u n : Int} {r f : T}
theorem marks_over {R X} {m k : Int} : wF F_marks_of d [(Part.over m k).t] R X = R false (.lst [.int m]) d := by
  unfold F_marks_of m_marks_of Part.t
  simp -dsimp (disch := first | omega | (simp only [List.length_map, List.length_append, List.length_cons, List.length_nil, rng_length, ranT_len]; omega)) only [wO_some, wO_none, wO_if, wO_map, wO_bind, wB_bl, wI_int, wIf_t, wIf_f, wSl_f, wSl_t, wIns_e, wSlf_e, wDic_e, w2_e, wR_nx, wR_rt, wR_bk, wR_ct, wR_ex, wR_bad, sqK_nx, sqK_rt, sqK_bk, sqK_ct, sqK_ex, fnK_nx, fnK_rt, fnK_ex, wE_C, wE_V, wE_L, wE_bin, wE_un, wE_call, wE_it, wE_itA, wE_isa, wE_tst, wE_yes, wE_not, wE_andB, wE_orB, wE_andV, wE_orV, wE_ite, wE_nil, wE_cons, wE_tup, wE_lst, wE_fn, wE_fnF, wE_prop, wE_inst, wE_kw, wE_part, wE_noPart, wE_sl, wE_chain, wE_get2, wE_wget, wE_ps0, wE_ps, wE_disp, wE_om, wE_lc, wE_dr, wO_gN, wO_gTn, wO_gs0, wO_gs, wO_gPut, wS_seq, wS_skip, wS_bk, wS_ct, wS_rtN, wS_no, wS_if, wS_then, wS_asg, wS_par, wS_retV, wS_fld, wS_for, wF_run, setSl_e, blank_e, startT_c, startT_n, startT_0, lpK_nx, lpK_ct, lpK_bk, lpK_rt, lpK_ex, negI_i, notV_b, isT_n, isnT_n, isT_b, isnT_b, ixT_l, ixT_t, sbT_l, sbT_t, sbT_d, atI_0, atI_1, atI_2, atI_3, atI_4, atI_m1, isNon_n, isNon_i, isNon_b, isNon_s, isNon_t, isNon_l, isNon_d, isNon_c, lenF_l, lenF_t, lenF_d, absF_i, intF_i, intF_b, maxF_ii, minF_ii, allF_m, anyF_m, sumF_m, maxF_m, minF_m, sortedF_m, maxF_l2, minF_l2, tupleF_l, tupleF_t, listF_l, listF_t, dictF_d, seqT_l, seqT_t, enF_l, zpF_l, zpF_t, slT_l, slT_t, revF_l, popF_l, putL_i, tyT_l, tyT_d, wgetT_s, tagT_n, tagT_b, tagT_i, tagT_s, tagT_t, tagT_l, tagT_d, keysT_0, keysT_s, keysT_i, eqT_s, neT_s, eqT_sn, eqT_ns, neT_sn, neT_ns, reprF_e, addT_ll, addT_tt, rnF1_i, rnF2_i, apF_l, insF_l, putD_s, putD_i, divmodF_i, intT_yes, intT_mul, intT_mod, intT_div, sizeLine_e, slfW_e, inK_nx, inK_ex, wF_init, wipeL_0, wipeL_c, isaB_1_2_0, isaB_1_2_1, isaB_1_2_2, isaB_1_2_3, isaB_1_2_4, isaB_1_2_5, isaB_1_2_6, isaB_1_0, isaB_1_1, isaB_1_2, isaB_1_3, isaB_1_4, isaB_1_5, isaB_1_6, isaB_3_0, isaB_3_1, isaB_3_2, isaB_3_3, isaB_3_4, isaB_3_5, isaB_3_6, isaB_4_0, isaB_4_1, isaB_4_2, isaB_4_3, isaB_4_4, isaB_4_5, isaB_4_6, isaB_5_0, isaB_5_1, isaB_5_2, isaB_5_3, isaB_5_4, isaB_5_5, isaB_5_6, isaB_6_0, isaB_6_1, isaB_6_2, isaB_6_3, isaB_6_4, isaB_6_5, isaB_6_6, isaB_4_5_0, isaB_4_5_1, isaB_4_5_2, isaB_4_5_3, isaB_4_5_4, isaB_4_5_5, isaB_4_5_6, ranT_len, List.length_map, List.length_append, eqT_i, neT_i, addT_i, List.getElem?_cons_zero, List.getElem?_cons_succ, List.set_cons_zero, List.set_cons_succ, List.length_cons, List.length_nil, Nat.reduceAdd, Nat.reduceLeDiff, Nat.reduceSub, Nat.reduceEqDiff, Nat.zero_add, true_and, and_true, Nat.le_refl, Nat.reduceLT, Nat.zero_le, Bool.not_true, Bool.not_false, reduceCtorEq, and_self, decide_true, decide_false, kGe_ends_of_0_rule, kGe_Rule_init_2_least_most_rise_fall_up_down, fl_Rule_r_parts, pf_Rule_r_parts, fs_Rule_r_parts_0, fs_Rule_r_parts_1, fs_Rule_r_parts_2, fl_Rule_r_bounds, pf_Rule_r_bounds, fs_Rule_r_bounds_1, fs_Rule_r_bounds_2, fl_Rule_r_limits, pf_Rule_r_limits, fs_Rule_r_limits_2, mg_0, dg_0_0, dg_0_1, mg_1, dg_1_0, dg_1_1, dg_1_2, dg_1_3, F_Rule_parts, m_Rule_parts, F_Rule_most, m_Rule_most, F_Rule_least, m_Rule_least, se_oa]
theorem marks_under {R X} {m k : Int} : wF F_marks_of d [(Part.under m k).t] R X = R false (.lst [.int m]) d := by
  unfold F_marks_of m_marks_of Part.t
  simp -dsimp (disch := first | omega | (simp only [List.length_map, List.length_append, List.length_cons, List.length_nil, rng_length, ranT_len]; omega)) only [wO_some, wO_none, wO_if, wO_map, wO_bind, wB_bl, wI_int, wIf_t, wIf_f, wSl_f, wSl_t, wIns_e, wSlf_e, wDic_e, w2_e, wR_nx, wR_rt, wR_bk, wR_ct, wR_ex, wR_bad, sqK_nx, sqK_rt, sqK_bk, sqK_ct, sqK_ex, fnK_nx, fnK_rt, fnK_ex, wE_C, wE_V, wE_L, wE_bin, wE_un, wE_call, wE_it, wE_itA, wE_isa, wE_tst, wE_yes, wE_not, wE_andB, wE_orB, wE_andV, wE_orV, wE_ite, wE_nil, wE_cons, wE_tup, wE_lst, wE_fn, wE_fnF, wE_prop, wE_inst, wE_kw, wE_part, wE_noPart, wE_sl, wE_chain, wE_get2, wE_wget, wE_ps0, wE_ps, wE_disp, wE_om, wE_lc, wE_dr, wO_gN, wO_gTn, wO_gs0, wO_gs, wO_gPut, wS_seq, wS_skip, wS_bk, wS_ct, wS_rtN, wS_no, wS_if, wS_then, wS_asg, wS_par, wS_retV, wS_fld, wS_for, wF_run, setSl_e, blank_e, startT_c, startT_n, startT_0, lpK_nx, lpK_ct, lpK_bk, lpK_rt, lpK_ex, negI_i, notV_b, isT_n, isnT_n, isT_b, isnT_b, ixT_l, ixT_t, sbT_l, sbT_t, sbT_d, atI_0, atI_1, atI_2, atI_3, atI_4, atI_m1, isNon_n, isNon_i, isNon_b, isNon_s, isNon_t, isNon_l, isNon_d, isNon_c, lenF_l, lenF_t, lenF_d, absF_i, intF_i, intF_b, maxF_ii, minF_ii, allF_m, anyF_m, sumF_m, maxF_m, minF_m, sortedF_m, maxF_l2, minF_l2, tupleF_l, tupleF_t, listF_l, listF_t, dictF_d, seqT_l, seqT_t, enF_l, zpF_l, zpF_t, slT_l, slT_t, revF_l, popF_l, putL_i, tyT_l, tyT_d, wgetT_s, tagT_n, tagT_b, tagT_i, tagT_s, tagT_t, tagT_l, tagT_d, keysT_0, keysT_s, keysT_i, eqT_s, neT_s, eqT_sn, eqT_ns, neT_sn, neT_ns, reprF_e, addT_ll, addT_tt, rnF1_i, rnF2_i, apF_l, insF_l, putD_s, putD_i, divmodF_i, intT_yes, intT_mul, intT_mod, intT_div, sizeLine_e, slfW_e, inK_nx, inK_ex, wF_init, wipeL_0, wipeL_c, isaB_1_2_0, isaB_1_2_1, isaB_1_2_2, isaB_1_2_3, isaB_1_2_4, isaB_1_2_5, isaB_1_2_6, isaB_1_0, isaB_1_1, isaB_1_2, isaB_1_3, isaB_1_4, isaB_1_5, isaB_1_6, isaB_3_0, isaB_3_1, isaB_3_2, isaB_3_3, isaB_3_4, isaB_3_5, isaB_3_6, isaB_4_0, isaB_4_1, isaB_4_2, isaB_4_3, isaB_4_4, isaB_4_5, isaB_4_6, isaB_5_0, isaB_5_1, isaB_5_2, isaB_5_3, isaB_5_4, isaB_5_5, isaB_5_6, isaB_6_0, isaB_6_1, isaB_6_2, isaB_6_3, isaB_6_4, isaB_6_5, isaB_6_6, isaB_4_5_0, isaB_4_5_1, isaB_4_5_2, isaB_4_5_3, isaB_4_5_4, isaB_4_5_5, isaB_4_5_6, ranT_len, List.length_map, List.length_append, eqT_i, neT_i, addT_i, List.getElem?_cons_zero, List.getElem?_cons_succ, List.set_cons_zero, List.set_cons_succ, List.length_cons, List.length_nil, Nat.reduceAdd, Nat.reduceLeDiff, Nat.reduceSub, Nat.reduceEqDiff, Nat.zero_add, true_and, and_true, Nat.le_refl, Nat.reduceLT, Nat.zero_le, Bool.not_true, Bool.not_false, reduceCtorEq, and_self, decide_true, decide_false, kGe_ends_of_0_rule, kGe_Rule_init_2_least_most_rise_fall_up_down, fl_Rule_r_parts, pf_Rule_r_parts, fs_Rule_r_parts_0, fs_Rule_r_parts_1, fs_Rule_r_parts_2, fl_Rule_r_bounds, pf_Rule_r_bounds, fs_Rule_r_bounds_1, fs_Rule_r_bounds_2, fl_Rule_r_limits, pf_Rule_r_limits, fs_Rule_r_limits_2, mg_0, dg_0_0, dg_0_1, mg_1, dg_1_0, dg_1_1, dg_1_2, dg_1_3, F_Rule_parts, m_Rule_parts, F_Rule_most, m_Rule_most, F_Rule_least, m_Rule_least, se_ua]
theorem marks_aim {R X} {m a b : Int} : wF F_marks_of d [(Part.aim m a b).t] R X = R false (.lst [.int a, .int b]) d := by
  unfold F_marks_of m_marks_of Part.t
  simp -dsimp (disch := first | omega | (simp only [List.length_map, List.length_append, List.length_cons, List.length_nil, rng_length, ranT_len]; omega)) only [wO_some, wO_none, wO_if, wO_map, wO_bind, wB_bl, wI_int, wIf_t, wIf_f, wSl_f, wSl_t, wIns_e, wSlf_e, wDic_e, w2_e, wR_nx, wR_rt, wR_bk, wR_ct, wR_ex, wR_bad, sqK_nx, sqK_rt, sqK_bk, sqK_ct, sqK_ex, fnK_nx, fnK_rt, fnK_ex, wE_C, wE_V, wE_L, wE_bin, wE_un, wE_call, wE_it, wE_itA, wE_isa, wE_tst, wE_yes, wE_not, wE_andB, wE_orB, wE_andV, wE_orV, wE_ite, wE_nil, wE_cons, wE_tup, wE_lst, wE_fn, wE_fnF, wE_prop, wE_inst, wE_kw, wE_part, wE_noPart, wE_sl, wE_chain, wE_get2, wE_wget, wE_ps0, wE_ps, wE_disp, wE_om, wE_lc, wE_dr, wO_gN, wO_gTn, wO_gs0, wO_gs, wO_gPut, wS_seq, wS_skip, wS_bk, wS_ct, wS_rtN, wS_no, wS_if, wS_then, wS_asg, wS_par, wS_retV, wS_fld, wS_for, wF_run, setSl_e, blank_e, startT_c, startT_n, startT_0, lpK_nx, lpK_ct, lpK_bk, lpK_rt, lpK_ex, negI_i, notV_b, isT_n, isnT_n, isT_b, isnT_b, ixT_l, ixT_t, sbT_l, sbT_t, sbT_d, atI_0, atI_1, atI_2, atI_3, atI_4, atI_m1, isNon_n, isNon_i, isNon_b, isNon_s, isNon_t, isNon_l, isNon_d, isNon_c, lenF_l, lenF_t, lenF_d, absF_i, intF_i, intF_b, maxF_ii, minF_ii, allF_m, anyF_m, sumF_m, maxF_m, minF_m, sortedF_m, maxF_l2, minF_l2, tupleF_l, tupleF_t, listF_l, listF_t, dictF_d, seqT_l, seqT_t, enF_l, zpF_l, zpF_t, slT_l, slT_t, revF_l, popF_l, putL_i, tyT_l, tyT_d, wgetT_s, tagT_n, tagT_b, tagT_i, tagT_s, tagT_t, tagT_l, tagT_d, keysT_0, keysT_s, keysT_i, eqT_s, neT_s, eqT_sn, eqT_ns, neT_sn, neT_ns, reprF_e, addT_ll, addT_tt, rnF1_i, rnF2_i, apF_l, insF_l, putD_s, putD_i, divmodF_i, intT_yes, intT_mul, intT_mod, intT_div, sizeLine_e, slfW_e, inK_nx, inK_ex, wF_init, wipeL_0, wipeL_c, isaB_1_2_0, isaB_1_2_1, isaB_1_2_2, isaB_1_2_3, isaB_1_2_4, isaB_1_2_5, isaB_1_2_6, isaB_1_0, isaB_1_1, isaB_1_2, isaB_1_3, isaB_1_4, isaB_1_5, isaB_1_6, isaB_3_0, isaB_3_1, isaB_3_2, isaB_3_3, isaB_3_4, isaB_3_5, isaB_3_6, isaB_4_0, isaB_4_1, isaB_4_2, isaB_4_3, isaB_4_4, isaB_4_5, isaB_4_6, isaB_5_0, isaB_5_1, isaB_5_2, isaB_5_3, isaB_5_4, isaB_5_5, isaB_5_6, isaB_6_0, isaB_6_1, isaB_6_2, isaB_6_3, isaB_6_4, isaB_6_5, isaB_6_6, isaB_4_5_0, isaB_4_5_1, isaB_4_5_2, isaB_4_5_3, isaB_4_5_4, isaB_4_5_5, isaB_4_5_6, ranT_len, List.length_map, List.length_append, eqT_i, neT_i, addT_i, List.getElem?_cons_zero, List.getElem?_cons_succ, List.set_cons_zero, List.set_cons_succ, List.length_cons, List.length_nil, Nat.reduceAdd, Nat.reduceLeDiff, Nat.reduceSub, Nat.reduceEqDiff, Nat.zero_add, true_and, and_true, Nat.le_refl, Nat.reduceLT, Nat.zero_le, Bool.not_true, Bool.not_false, reduceCtorEq, and_self, decide_true, decide_false, kGe_ends_of_0_rule, kGe_Rule_init_2_least_most_rise_fall_up_down, fl_Rule_r_parts, pf_Rule_r_parts, fs_Rule_r_parts_0, fs_Rule_r_parts_1, fs_Rule_r_parts_2, fl_Rule_r_bounds, pf_Rule_r_bounds, fs_Rule_r_bounds_1, fs_Rule_r_bounds_2, fl_Rule_r_limits, pf_Rule_r_limits, fs_Rule_r_limits_2, mg_0, dg_0_0, dg_0_1, mg_1, dg_1_0, dg_1_1, dg_1_2, dg_1_3, F_Rule_parts, m_Rule_parts, F_Rule_most, m_Rule_most, F_Rule_least, m_Rule_least, cutT_4_2]
theorem part_len {p : Part} (l0 : 1 ≤ l) (m1 : m ≤ 8) : (p.ends l m).length ≤ 24 := by
  cases p <;> simp only [Part.ends, List.length_append, List.length_map, rng_length] <;> omega
theorem ends_len {ps : List Part} (l0 : 1 ≤ l) (m1 : m ≤ 8) : (ps.flatMap (Part.ends l m)).length ≤ 24 * ps.length := by
  induction ps with
  | nil => simp
  | cons p ps ih =>
    rw [List.flatMap_cons, List.length_append, List.length_cons]
    have := part_len (p := p) l0 m1
    omega
theorem ends_law {ps : List Part} (hp : ∀ p ∈ ps, p.ok) (hl : ps.length ≤ 4) (l0 : 1 ≤ l) (l1 : l ≤ m) (m1 : m ≤ 8) :
    F_ends_of d [.ins 3 (rFs (ps.map Part.t) l m r f u n)] = .ok true (.lst ((sortU (ps.flatMap (Part.ends l m))).map T.int)) d := by
  apply wF_is
  unfold F_ends_of m_ends_of
  simp -dsimp (disch := first | omega | (simp only [List.length_map, List.length_append, List.length_cons, List.length_nil, rng_length, ranT_len]; omega)) only [wO_some, wO_none, wO_if, wO_map, wO_bind, wB_bl, wI_int, wIf_t, wIf_f, wSl_f, wSl_t, wIns_e, wSlf_e, wDic_e, w2_e, wR_nx, wR_rt, wR_bk, wR_ct, wR_ex, wR_bad, sqK_nx, sqK_rt, sqK_bk, sqK_ct, sqK_ex, fnK_nx, fnK_rt, fnK_ex, wE_C, wE_V, wE_L, wE_bin, wE_un, wE_call, wE_it, wE_itA, wE_isa, wE_tst, wE_yes, wE_not, wE_andB, wE_orB, wE_andV, wE_orV, wE_ite, wE_nil, wE_cons, wE_tup, wE_lst, wE_fn, wE_fnF, wE_prop, wE_inst, wE_kw, wE_part, wE_noPart, wE_sl, wE_chain, wE_get2, wE_wget, wE_ps0, wE_ps, wE_disp, wE_om, wE_lc, wE_dr, wO_gN, wO_gTn, wO_gs0, wO_gs, wO_gPut, wS_seq, wS_skip, wS_bk, wS_ct, wS_rtN, wS_no, wS_if, wS_then, wS_asg, wS_par, wS_retV, wS_fld, wS_for, wF_run, setSl_e, blank_e, startT_c, startT_n, startT_0, lpK_nx, lpK_ct, lpK_bk, lpK_rt, lpK_ex, negI_i, notV_b, isT_n, isnT_n, isT_b, isnT_b, ixT_l, ixT_t, sbT_l, sbT_t, sbT_d, atI_0, atI_1, atI_2, atI_3, atI_4, atI_m1, isNon_n, isNon_i, isNon_b, isNon_s, isNon_t, isNon_l, isNon_d, isNon_c, lenF_l, lenF_t, lenF_d, absF_i, intF_i, intF_b, maxF_ii, minF_ii, allF_m, anyF_m, sumF_m, maxF_m, minF_m, sortedF_m, maxF_l2, minF_l2, tupleF_l, tupleF_t, listF_l, listF_t, dictF_d, seqT_l, seqT_t, enF_l, zpF_l, zpF_t, slT_l, slT_t, revF_l, popF_l, putL_i, tyT_l, tyT_d, wgetT_s, tagT_n, tagT_b, tagT_i, tagT_s, tagT_t, tagT_l, tagT_d, keysT_0, keysT_s, keysT_i, eqT_s, neT_s, eqT_sn, eqT_ns, neT_sn, neT_ns, reprF_e, addT_ll, addT_tt, rnF1_i, rnF2_i, apF_l, insF_l, putD_s, putD_i, divmodF_i, intT_yes, intT_mul, intT_mod, intT_div, sizeLine_e, slfW_e, inK_nx, inK_ex, wF_init, wipeL_0, wipeL_c, isaB_1_2_0, isaB_1_2_1, isaB_1_2_2, isaB_1_2_3, isaB_1_2_4, isaB_1_2_5, isaB_1_2_6, isaB_1_0, isaB_1_1, isaB_1_2, isaB_1_3, isaB_1_4, isaB_1_5, isaB_1_6, isaB_3_0, isaB_3_1, isaB_3_2, isaB_3_3, isaB_3_4, isaB_3_5, isaB_3_6, isaB_4_0, isaB_4_1, isaB_4_2, isaB_4_3, isaB_4_4, isaB_4_5, isaB_4_6, isaB_5_0, isaB_5_1, isaB_5_2, isaB_5_3, isaB_5_4, isaB_5_5, isaB_5_6, isaB_6_0, isaB_6_1, isaB_6_2, isaB_6_3, isaB_6_4, isaB_6_5, isaB_6_6, isaB_4_5_0, isaB_4_5_1, isaB_4_5_2, isaB_4_5_3, isaB_4_5_4, isaB_4_5_5, isaB_4_5_6, ranT_len, List.length_map, List.length_append, eqT_i, neT_i, addT_i, List.getElem?_cons_zero, List.getElem?_cons_succ, List.set_cons_zero, List.set_cons_succ, List.length_cons, List.length_nil, Nat.reduceAdd, Nat.reduceLeDiff, Nat.reduceSub, Nat.reduceEqDiff, Nat.zero_add, true_and, and_true, Nat.le_refl, Nat.reduceLT, Nat.zero_le, Bool.not_true, Bool.not_false, reduceCtorEq, and_self, decide_true, decide_false, kGe_ends_of_0_rule, kGe_Rule_init_2_least_most_rise_fall_up_down, fl_Rule_r_parts, pf_Rule_r_parts, fs_Rule_r_parts_0, fs_Rule_r_parts_1, fs_Rule_r_parts_2, fl_Rule_r_bounds, pf_Rule_r_bounds, fs_Rule_r_bounds_1, fs_Rule_r_bounds_2, fl_Rule_r_limits, pf_Rule_r_limits, fs_Rule_r_limits_2, mg_0, dg_0_0, dg_0_1, mg_1, dg_1_0, dg_1_1, dg_1_2, dg_1_3, F_Rule_parts, m_Rule_parts, F_Rule_most, m_Rule_most, F_Rule_least, m_Rule_least]
  refine w_for (fun ts ρ => ∃ (qs : List Part) (acc : List Int) (x y : Option (Bool × T)), ts = qs.map Part.t ∧ (∀ p ∈ qs, p.ok) ∧ ρ = ⟨[some (false, .ins 3 (rFs (ps.map Part.t) l m r f u n)), some (false, .lst (acc.map T.int)), x, y, none], d⟩ ∧ acc ++ qs.flatMap (Part.ends l m) = ps.flatMap (Part.ends l m)) ?_ ?_ ?_
  · exact ⟨ps, [], none, none, rfl, hp, rfl, rfl⟩
  · rintro t r' ρ ⟨qs, acc, x, y, e, hq, rfl, h⟩
    have hlen := ends_len (ps := ps) l0 m1
    rw [← h, List.length_append] at hlen
    cases qs with
    | nil => cases e
    | cons p qs =>
      cases e
      cases p with
      | over k s =>
        have hk : 1 ≤ k ∧ k ≤ 60 := by have := hq _ (List.mem_cons_self ..); exact ⟨this.1, this.2.1⟩
        simp -dsimp (disch := first | omega | (simp only [List.length_map, List.length_append, List.length_cons, List.length_nil, rng_length, ranT_len]; omega)) only [wO_some, wO_none, wO_if, wO_map, wO_bind, wB_bl, wI_int, wIf_t, wIf_f, wSl_f, wSl_t, wIns_e, wSlf_e, wDic_e, w2_e, wR_nx, wR_rt, wR_bk, wR_ct, wR_ex, wR_bad, sqK_nx, sqK_rt, sqK_bk, sqK_ct, sqK_ex, fnK_nx, fnK_rt, fnK_ex, wE_C, wE_V, wE_L, wE_bin, wE_un, wE_call, wE_it, wE_itA, wE_isa, wE_tst, wE_yes, wE_not, wE_andB, wE_orB, wE_andV, wE_orV, wE_ite, wE_nil, wE_cons, wE_tup, wE_lst, wE_fn, wE_fnF, wE_prop, wE_inst, wE_kw, wE_part, wE_noPart, wE_sl, wE_chain, wE_get2, wE_wget, wE_ps0, wE_ps, wE_disp, wE_om, wE_lc, wE_dr, wO_gN, wO_gTn, wO_gs0, wO_gs, wO_gPut, wS_seq, wS_skip, wS_bk, wS_ct, wS_rtN, wS_no, wS_if, wS_then, wS_asg, wS_par, wS_retV, wS_fld, wS_for, wF_run, setSl_e, blank_e, startT_c, startT_n, startT_0, lpK_nx, lpK_ct, lpK_bk, lpK_rt, lpK_ex, negI_i, notV_b, isT_n, isnT_n, isT_b, isnT_b, ixT_l, ixT_t, sbT_l, sbT_t, sbT_d, atI_0, atI_1, atI_2, atI_3, atI_4, atI_m1, isNon_n, isNon_i, isNon_b, isNon_s, isNon_t, isNon_l, isNon_d, isNon_c, lenF_l, lenF_t, lenF_d, absF_i, intF_i, intF_b, maxF_ii, minF_ii, allF_m, anyF_m, sumF_m, maxF_m, minF_m, sortedF_m, maxF_l2, minF_l2, tupleF_l, tupleF_t, listF_l, listF_t, dictF_d, seqT_l, seqT_t, enF_l, zpF_l, zpF_t, slT_l, slT_t, revF_l, popF_l, putL_i, tyT_l, tyT_d, wgetT_s, tagT_n, tagT_b, tagT_i, tagT_s, tagT_t, tagT_l, tagT_d, keysT_0, keysT_s, keysT_i, eqT_s, neT_s, eqT_sn, eqT_ns, neT_sn, neT_ns, reprF_e, addT_ll, addT_tt, rnF1_i, rnF2_i, apF_l, insF_l, putD_s, putD_i, divmodF_i, intT_yes, intT_mul, intT_mod, intT_div, sizeLine_e, slfW_e, inK_nx, inK_ex, wF_init, wipeL_0, wipeL_c, isaB_1_2_0, isaB_1_2_1, isaB_1_2_2, isaB_1_2_3, isaB_1_2_4, isaB_1_2_5, isaB_1_2_6, isaB_1_0, isaB_1_1, isaB_1_2, isaB_1_3, isaB_1_4, isaB_1_5, isaB_1_6, isaB_3_0, isaB_3_1, isaB_3_2, isaB_3_3, isaB_3_4, isaB_3_5, isaB_3_6, isaB_4_0, isaB_4_1, isaB_4_2, isaB_4_3, isaB_4_4, isaB_4_5, isaB_4_6, isaB_5_0, isaB_5_1, isaB_5_2, isaB_5_3, isaB_5_4, isaB_5_5, isaB_5_6, isaB_6_0, isaB_6_1, isaB_6_2, isaB_6_3, isaB_6_4, isaB_6_5, isaB_6_6, isaB_4_5_0, isaB_4_5_1, isaB_4_5_2, isaB_4_5_3, isaB_4_5_4, isaB_4_5_5, isaB_4_5_6, ranT_len, List.length_map, List.length_append, eqT_i, neT_i, addT_i, List.getElem?_cons_zero, List.getElem?_cons_succ, List.set_cons_zero, List.set_cons_succ, List.length_cons, List.length_nil, Nat.reduceAdd, Nat.reduceLeDiff, Nat.reduceSub, Nat.reduceEqDiff, Nat.zero_add, true_and, and_true, Nat.le_refl, Nat.reduceLT, Nat.zero_le, Bool.not_true, Bool.not_false, reduceCtorEq, and_self, decide_true, decide_false, kGe_ends_of_0_rule, kGe_Rule_init_2_least_most_rise_fall_up_down, fl_Rule_r_parts, pf_Rule_r_parts, fs_Rule_r_parts_0, fs_Rule_r_parts_1, fs_Rule_r_parts_2, fl_Rule_r_bounds, pf_Rule_r_bounds, fs_Rule_r_bounds_1, fs_Rule_r_bounds_2, fl_Rule_r_limits, pf_Rule_r_limits, fs_Rule_r_limits_2, mg_0, dg_0_0, dg_0_1, mg_1, dg_1_0, dg_1_1, dg_1_2, dg_1_3, F_Rule_parts, m_Rule_parts, F_Rule_most, m_Rule_most, F_Rule_least, m_Rule_least, marks_over, w_forC]
        refine ⟨by omega, w_lcR (k * ·) (fun i i0 i1 => ?_) ?_⟩
        · simp -dsimp (disch := first | omega | (simp only [List.length_map, List.length_append, List.length_cons, List.length_nil, rng_length, ranT_len]; omega)) only [wO_some, wO_none, wO_if, wO_map, wO_bind, wB_bl, wI_int, wIf_t, wIf_f, wSl_f, wSl_t, wIns_e, wSlf_e, wDic_e, w2_e, wR_nx, wR_rt, wR_bk, wR_ct, wR_ex, wR_bad, sqK_nx, sqK_rt, sqK_bk, sqK_ct, sqK_ex, fnK_nx, fnK_rt, fnK_ex, wE_C, wE_V, wE_L, wE_bin, wE_un, wE_call, wE_it, wE_itA, wE_isa, wE_tst, wE_yes, wE_not, wE_andB, wE_orB, wE_andV, wE_orV, wE_ite, wE_nil, wE_cons, wE_tup, wE_lst, wE_fn, wE_fnF, wE_prop, wE_inst, wE_kw, wE_part, wE_noPart, wE_sl, wE_chain, wE_get2, wE_wget, wE_ps0, wE_ps, wE_disp, wE_om, wE_lc, wE_dr, wO_gN, wO_gTn, wO_gs0, wO_gs, wO_gPut, wS_seq, wS_skip, wS_bk, wS_ct, wS_rtN, wS_no, wS_if, wS_then, wS_asg, wS_par, wS_retV, wS_fld, wS_for, wF_run, setSl_e, blank_e, startT_c, startT_n, startT_0, lpK_nx, lpK_ct, lpK_bk, lpK_rt, lpK_ex, negI_i, notV_b, isT_n, isnT_n, isT_b, isnT_b, ixT_l, ixT_t, sbT_l, sbT_t, sbT_d, atI_0, atI_1, atI_2, atI_3, atI_4, atI_m1, isNon_n, isNon_i, isNon_b, isNon_s, isNon_t, isNon_l, isNon_d, isNon_c, lenF_l, lenF_t, lenF_d, absF_i, intF_i, intF_b, maxF_ii, minF_ii, allF_m, anyF_m, sumF_m, maxF_m, minF_m, sortedF_m, maxF_l2, minF_l2, tupleF_l, tupleF_t, listF_l, listF_t, dictF_d, seqT_l, seqT_t, enF_l, zpF_l, zpF_t, slT_l, slT_t, revF_l, popF_l, putL_i, tyT_l, tyT_d, wgetT_s, tagT_n, tagT_b, tagT_i, tagT_s, tagT_t, tagT_l, tagT_d, keysT_0, keysT_s, keysT_i, eqT_s, neT_s, eqT_sn, eqT_ns, neT_sn, neT_ns, reprF_e, addT_ll, addT_tt, rnF1_i, rnF2_i, apF_l, insF_l, putD_s, putD_i, divmodF_i, intT_yes, intT_mul, intT_mod, intT_div, sizeLine_e, slfW_e, inK_nx, inK_ex, wF_init, wipeL_0, wipeL_c, isaB_1_2_0, isaB_1_2_1, isaB_1_2_2, isaB_1_2_3, isaB_1_2_4, isaB_1_2_5, isaB_1_2_6, isaB_1_0, isaB_1_1, isaB_1_2, isaB_1_3, isaB_1_4, isaB_1_5, isaB_1_6, isaB_3_0, isaB_3_1, isaB_3_2, isaB_3_3, isaB_3_4, isaB_3_5, isaB_3_6, isaB_4_0, isaB_4_1, isaB_4_2, isaB_4_3, isaB_4_4, isaB_4_5, isaB_4_6, isaB_5_0, isaB_5_1, isaB_5_2, isaB_5_3, isaB_5_4, isaB_5_5, isaB_5_6, isaB_6_0, isaB_6_1, isaB_6_2, isaB_6_3, isaB_6_4, isaB_6_5, isaB_6_6, isaB_4_5_0, isaB_4_5_1, isaB_4_5_2, isaB_4_5_3, isaB_4_5_4, isaB_4_5_5, isaB_4_5_6, ranT_len, List.length_map, List.length_append, eqT_i, neT_i, addT_i, List.getElem?_cons_zero, List.getElem?_cons_succ, List.set_cons_zero, List.set_cons_succ, List.length_cons, List.length_nil, Nat.reduceAdd, Nat.reduceLeDiff, Nat.reduceSub, Nat.reduceEqDiff, Nat.zero_add, true_and, and_true, Nat.le_refl, Nat.reduceLT, Nat.zero_le, Bool.not_true, Bool.not_false, reduceCtorEq, and_self, decide_true, decide_false, kGe_ends_of_0_rule, kGe_Rule_init_2_least_most_rise_fall_up_down, fl_Rule_r_parts, pf_Rule_r_parts, fs_Rule_r_parts_0, fs_Rule_r_parts_1, fs_Rule_r_parts_2, fl_Rule_r_bounds, pf_Rule_r_bounds, fs_Rule_r_bounds_1, fs_Rule_r_bounds_2, fl_Rule_r_limits, pf_Rule_r_limits, fs_Rule_r_limits_2, mg_0, dg_0_0, dg_0_1, mg_1, dg_1_0, dg_1_1, dg_1_2, dg_1_3, F_Rule_parts, m_Rule_parts, F_Rule_most, m_Rule_most, F_Rule_least, m_Rule_least]
        · simp -dsimp (disch := first | omega | (simp only [List.length_map, List.length_append, List.length_cons, List.length_nil, rng_length, ranT_len]; omega)) only [wO_some, wO_none, wO_if, wO_map, wO_bind, wB_bl, wI_int, wIf_t, wIf_f, wSl_f, wSl_t, wIns_e, wSlf_e, wDic_e, w2_e, wR_nx, wR_rt, wR_bk, wR_ct, wR_ex, wR_bad, sqK_nx, sqK_rt, sqK_bk, sqK_ct, sqK_ex, fnK_nx, fnK_rt, fnK_ex, wE_C, wE_V, wE_L, wE_bin, wE_un, wE_call, wE_it, wE_itA, wE_isa, wE_tst, wE_yes, wE_not, wE_andB, wE_orB, wE_andV, wE_orV, wE_ite, wE_nil, wE_cons, wE_tup, wE_lst, wE_fn, wE_fnF, wE_prop, wE_inst, wE_kw, wE_part, wE_noPart, wE_sl, wE_chain, wE_get2, wE_wget, wE_ps0, wE_ps, wE_disp, wE_om, wE_lc, wE_dr, wO_gN, wO_gTn, wO_gs0, wO_gs, wO_gPut, wS_seq, wS_skip, wS_bk, wS_ct, wS_rtN, wS_no, wS_if, wS_then, wS_asg, wS_par, wS_retV, wS_fld, wS_for, wF_run, setSl_e, blank_e, startT_c, startT_n, startT_0, lpK_nx, lpK_ct, lpK_bk, lpK_rt, lpK_ex, negI_i, notV_b, isT_n, isnT_n, isT_b, isnT_b, ixT_l, ixT_t, sbT_l, sbT_t, sbT_d, atI_0, atI_1, atI_2, atI_3, atI_4, atI_m1, isNon_n, isNon_i, isNon_b, isNon_s, isNon_t, isNon_l, isNon_d, isNon_c, lenF_l, lenF_t, lenF_d, absF_i, intF_i, intF_b, maxF_ii, minF_ii, allF_m, anyF_m, sumF_m, maxF_m, minF_m, sortedF_m, maxF_l2, minF_l2, tupleF_l, tupleF_t, listF_l, listF_t, dictF_d, seqT_l, seqT_t, enF_l, zpF_l, zpF_t, slT_l, slT_t, revF_l, popF_l, putL_i, tyT_l, tyT_d, wgetT_s, tagT_n, tagT_b, tagT_i, tagT_s, tagT_t, tagT_l, tagT_d, keysT_0, keysT_s, keysT_i, eqT_s, neT_s, eqT_sn, eqT_ns, neT_sn, neT_ns, reprF_e, addT_ll, addT_tt, rnF1_i, rnF2_i, apF_l, insF_l, putD_s, putD_i, divmodF_i, intT_yes, intT_mul, intT_mod, intT_div, sizeLine_e, slfW_e, inK_nx, inK_ex, wF_init, wipeL_0, wipeL_c, isaB_1_2_0, isaB_1_2_1, isaB_1_2_2, isaB_1_2_3, isaB_1_2_4, isaB_1_2_5, isaB_1_2_6, isaB_1_0, isaB_1_1, isaB_1_2, isaB_1_3, isaB_1_4, isaB_1_5, isaB_1_6, isaB_3_0, isaB_3_1, isaB_3_2, isaB_3_3, isaB_3_4, isaB_3_5, isaB_3_6, isaB_4_0, isaB_4_1, isaB_4_2, isaB_4_3, isaB_4_4, isaB_4_5, isaB_4_6, isaB_5_0, isaB_5_1, isaB_5_2, isaB_5_3, isaB_5_4, isaB_5_5, isaB_5_6, isaB_6_0, isaB_6_1, isaB_6_2, isaB_6_3, isaB_6_4, isaB_6_5, isaB_6_6, isaB_4_5_0, isaB_4_5_1, isaB_4_5_2, isaB_4_5_3, isaB_4_5_4, isaB_4_5_5, isaB_4_5_6, ranT_len, List.length_map, List.length_append, eqT_i, neT_i, addT_i, List.getElem?_cons_zero, List.getElem?_cons_succ, List.set_cons_zero, List.set_cons_succ, List.length_cons, List.length_nil, Nat.reduceAdd, Nat.reduceLeDiff, Nat.reduceSub, Nat.reduceEqDiff, Nat.zero_add, true_and, and_true, Nat.le_refl, Nat.reduceLT, Nat.zero_le, Bool.not_true, Bool.not_false, reduceCtorEq, and_self, decide_true, decide_false, kGe_ends_of_0_rule, kGe_Rule_init_2_least_most_rise_fall_up_down, fl_Rule_r_parts, pf_Rule_r_parts, fs_Rule_r_parts_0, fs_Rule_r_parts_1, fs_Rule_r_parts_2, fl_Rule_r_bounds, pf_Rule_r_bounds, fs_Rule_r_bounds_1, fs_Rule_r_bounds_2, fl_Rule_r_limits, pf_Rule_r_limits, fs_Rule_r_limits_2, mg_0, dg_0_0, dg_0_1, mg_1, dg_1_0, dg_1_1, dg_1_2, dg_1_3, F_Rule_parts, m_Rule_parts, F_Rule_most, m_Rule_most, F_Rule_least, m_Rule_least, List.nil_append, w_for0, Part.t, se_oa]
          refine ⟨qs, acc ++ (rng l (m + 1)).map (k * ·), _, _, rfl, fun p hp => hq p (List.mem_cons_of_mem _ hp), by rw [List.map_append], ?_⟩
          rw [← h, List.flatMap_cons, List.append_assoc]
          rfl
      | under k s =>
        have hk : 1 ≤ k ∧ k ≤ 60 := by have := hq _ (List.mem_cons_self ..); exact ⟨this.1, this.2.1⟩
        simp -dsimp (disch := first | omega | (simp only [List.length_map, List.length_append, List.length_cons, List.length_nil, rng_length, ranT_len]; omega)) only [wO_some, wO_none, wO_if, wO_map, wO_bind, wB_bl, wI_int, wIf_t, wIf_f, wSl_f, wSl_t, wIns_e, wSlf_e, wDic_e, w2_e, wR_nx, wR_rt, wR_bk, wR_ct, wR_ex, wR_bad, sqK_nx, sqK_rt, sqK_bk, sqK_ct, sqK_ex, fnK_nx, fnK_rt, fnK_ex, wE_C, wE_V, wE_L, wE_bin, wE_un, wE_call, wE_it, wE_itA, wE_isa, wE_tst, wE_yes, wE_not, wE_andB, wE_orB, wE_andV, wE_orV, wE_ite, wE_nil, wE_cons, wE_tup, wE_lst, wE_fn, wE_fnF, wE_prop, wE_inst, wE_kw, wE_part, wE_noPart, wE_sl, wE_chain, wE_get2, wE_wget, wE_ps0, wE_ps, wE_disp, wE_om, wE_lc, wE_dr, wO_gN, wO_gTn, wO_gs0, wO_gs, wO_gPut, wS_seq, wS_skip, wS_bk, wS_ct, wS_rtN, wS_no, wS_if, wS_then, wS_asg, wS_par, wS_retV, wS_fld, wS_for, wF_run, setSl_e, blank_e, startT_c, startT_n, startT_0, lpK_nx, lpK_ct, lpK_bk, lpK_rt, lpK_ex, negI_i, notV_b, isT_n, isnT_n, isT_b, isnT_b, ixT_l, ixT_t, sbT_l, sbT_t, sbT_d, atI_0, atI_1, atI_2, atI_3, atI_4, atI_m1, isNon_n, isNon_i, isNon_b, isNon_s, isNon_t, isNon_l, isNon_d, isNon_c, lenF_l, lenF_t, lenF_d, absF_i, intF_i, intF_b, maxF_ii, minF_ii, allF_m, anyF_m, sumF_m, maxF_m, minF_m, sortedF_m, maxF_l2, minF_l2, tupleF_l, tupleF_t, listF_l, listF_t, dictF_d, seqT_l, seqT_t, enF_l, zpF_l, zpF_t, slT_l, slT_t, revF_l, popF_l, putL_i, tyT_l, tyT_d, wgetT_s, tagT_n, tagT_b, tagT_i, tagT_s, tagT_t, tagT_l, tagT_d, keysT_0, keysT_s, keysT_i, eqT_s, neT_s, eqT_sn, eqT_ns, neT_sn, neT_ns, reprF_e, addT_ll, addT_tt, rnF1_i, rnF2_i, apF_l, insF_l, putD_s, putD_i, divmodF_i, intT_yes, intT_mul, intT_mod, intT_div, sizeLine_e, slfW_e, inK_nx, inK_ex, wF_init, wipeL_0, wipeL_c, isaB_1_2_0, isaB_1_2_1, isaB_1_2_2, isaB_1_2_3, isaB_1_2_4, isaB_1_2_5, isaB_1_2_6, isaB_1_0, isaB_1_1, isaB_1_2, isaB_1_3, isaB_1_4, isaB_1_5, isaB_1_6, isaB_3_0, isaB_3_1, isaB_3_2, isaB_3_3, isaB_3_4, isaB_3_5, isaB_3_6, isaB_4_0, isaB_4_1, isaB_4_2, isaB_4_3, isaB_4_4, isaB_4_5, isaB_4_6, isaB_5_0, isaB_5_1, isaB_5_2, isaB_5_3, isaB_5_4, isaB_5_5, isaB_5_6, isaB_6_0, isaB_6_1, isaB_6_2, isaB_6_3, isaB_6_4, isaB_6_5, isaB_6_6, isaB_4_5_0, isaB_4_5_1, isaB_4_5_2, isaB_4_5_3, isaB_4_5_4, isaB_4_5_5, isaB_4_5_6, ranT_len, List.length_map, List.length_append, eqT_i, neT_i, addT_i, List.getElem?_cons_zero, List.getElem?_cons_succ, List.set_cons_zero, List.set_cons_succ, List.length_cons, List.length_nil, Nat.reduceAdd, Nat.reduceLeDiff, Nat.reduceSub, Nat.reduceEqDiff, Nat.zero_add, true_and, and_true, Nat.le_refl, Nat.reduceLT, Nat.zero_le, Bool.not_true, Bool.not_false, reduceCtorEq, and_self, decide_true, decide_false, kGe_ends_of_0_rule, kGe_Rule_init_2_least_most_rise_fall_up_down, fl_Rule_r_parts, pf_Rule_r_parts, fs_Rule_r_parts_0, fs_Rule_r_parts_1, fs_Rule_r_parts_2, fl_Rule_r_bounds, pf_Rule_r_bounds, fs_Rule_r_bounds_1, fs_Rule_r_bounds_2, fl_Rule_r_limits, pf_Rule_r_limits, fs_Rule_r_limits_2, mg_0, dg_0_0, dg_0_1, mg_1, dg_1_0, dg_1_1, dg_1_2, dg_1_3, F_Rule_parts, m_Rule_parts, F_Rule_most, m_Rule_most, F_Rule_least, m_Rule_least, marks_under, w_forC]
        refine ⟨by omega, w_lcR (k * ·) (fun i i0 i1 => ?_) ?_⟩
        · simp -dsimp (disch := first | omega | (simp only [List.length_map, List.length_append, List.length_cons, List.length_nil, rng_length, ranT_len]; omega)) only [wO_some, wO_none, wO_if, wO_map, wO_bind, wB_bl, wI_int, wIf_t, wIf_f, wSl_f, wSl_t, wIns_e, wSlf_e, wDic_e, w2_e, wR_nx, wR_rt, wR_bk, wR_ct, wR_ex, wR_bad, sqK_nx, sqK_rt, sqK_bk, sqK_ct, sqK_ex, fnK_nx, fnK_rt, fnK_ex, wE_C, wE_V, wE_L, wE_bin, wE_un, wE_call, wE_it, wE_itA, wE_isa, wE_tst, wE_yes, wE_not, wE_andB, wE_orB, wE_andV, wE_orV, wE_ite, wE_nil, wE_cons, wE_tup, wE_lst, wE_fn, wE_fnF, wE_prop, wE_inst, wE_kw, wE_part, wE_noPart, wE_sl, wE_chain, wE_get2, wE_wget, wE_ps0, wE_ps, wE_disp, wE_om, wE_lc, wE_dr, wO_gN, wO_gTn, wO_gs0, wO_gs, wO_gPut, wS_seq, wS_skip, wS_bk, wS_ct, wS_rtN, wS_no, wS_if, wS_then, wS_asg, wS_par, wS_retV, wS_fld, wS_for, wF_run, setSl_e, blank_e, startT_c, startT_n, startT_0, lpK_nx, lpK_ct, lpK_bk, lpK_rt, lpK_ex, negI_i, notV_b, isT_n, isnT_n, isT_b, isnT_b, ixT_l, ixT_t, sbT_l, sbT_t, sbT_d, atI_0, atI_1, atI_2, atI_3, atI_4, atI_m1, isNon_n, isNon_i, isNon_b, isNon_s, isNon_t, isNon_l, isNon_d, isNon_c, lenF_l, lenF_t, lenF_d, absF_i, intF_i, intF_b, maxF_ii, minF_ii, allF_m, anyF_m, sumF_m, maxF_m, minF_m, sortedF_m, maxF_l2, minF_l2, tupleF_l, tupleF_t, listF_l, listF_t, dictF_d, seqT_l, seqT_t, enF_l, zpF_l, zpF_t, slT_l, slT_t, revF_l, popF_l, putL_i, tyT_l, tyT_d, wgetT_s, tagT_n, tagT_b, tagT_i, tagT_s, tagT_t, tagT_l, tagT_d, keysT_0, keysT_s, keysT_i, eqT_s, neT_s, eqT_sn, eqT_ns, neT_sn, neT_ns, reprF_e, addT_ll, addT_tt, rnF1_i, rnF2_i, apF_l, insF_l, putD_s, putD_i, divmodF_i, intT_yes, intT_mul, intT_mod, intT_div, sizeLine_e, slfW_e, inK_nx, inK_ex, wF_init, wipeL_0, wipeL_c, isaB_1_2_0, isaB_1_2_1, isaB_1_2_2, isaB_1_2_3, isaB_1_2_4, isaB_1_2_5, isaB_1_2_6, isaB_1_0, isaB_1_1, isaB_1_2, isaB_1_3, isaB_1_4, isaB_1_5, isaB_1_6, isaB_3_0, isaB_3_1, isaB_3_2, isaB_3_3, isaB_3_4, isaB_3_5, isaB_3_6, isaB_4_0, isaB_4_1, isaB_4_2, isaB_4_3, isaB_4_4, isaB_4_5, isaB_4_6, isaB_5_0, isaB_5_1, isaB_5_2, isaB_5_3, isaB_5_4, isaB_5_5, isaB_5_6, isaB_6_0, isaB_6_1, isaB_6_2, isaB_6_3, isaB_6_4, isaB_6_5, isaB_6_6, isaB_4_5_0, isaB_4_5_1, isaB_4_5_2, isaB_4_5_3, isaB_4_5_4, isaB_4_5_5, isaB_4_5_6, ranT_len, List.length_map, List.length_append, eqT_i, neT_i, addT_i, List.getElem?_cons_zero, List.getElem?_cons_succ, List.set_cons_zero, List.set_cons_succ, List.length_cons, List.length_nil, Nat.reduceAdd, Nat.reduceLeDiff, Nat.reduceSub, Nat.reduceEqDiff, Nat.zero_add, true_and, and_true, Nat.le_refl, Nat.reduceLT, Nat.zero_le, Bool.not_true, Bool.not_false, reduceCtorEq, and_self, decide_true, decide_false, kGe_ends_of_0_rule, kGe_Rule_init_2_least_most_rise_fall_up_down, fl_Rule_r_parts, pf_Rule_r_parts, fs_Rule_r_parts_0, fs_Rule_r_parts_1, fs_Rule_r_parts_2, fl_Rule_r_bounds, pf_Rule_r_bounds, fs_Rule_r_bounds_1, fs_Rule_r_bounds_2, fl_Rule_r_limits, pf_Rule_r_limits, fs_Rule_r_limits_2, mg_0, dg_0_0, dg_0_1, mg_1, dg_1_0, dg_1_1, dg_1_2, dg_1_3, F_Rule_parts, m_Rule_parts, F_Rule_most, m_Rule_most, F_Rule_least, m_Rule_least]
        · simp -dsimp (disch := first | omega | (simp only [List.length_map, List.length_append, List.length_cons, List.length_nil, rng_length, ranT_len]; omega)) only [wO_some, wO_none, wO_if, wO_map, wO_bind, wB_bl, wI_int, wIf_t, wIf_f, wSl_f, wSl_t, wIns_e, wSlf_e, wDic_e, w2_e, wR_nx, wR_rt, wR_bk, wR_ct, wR_ex, wR_bad, sqK_nx, sqK_rt, sqK_bk, sqK_ct, sqK_ex, fnK_nx, fnK_rt, fnK_ex, wE_C, wE_V, wE_L, wE_bin, wE_un, wE_call, wE_it, wE_itA, wE_isa, wE_tst, wE_yes, wE_not, wE_andB, wE_orB, wE_andV, wE_orV, wE_ite, wE_nil, wE_cons, wE_tup, wE_lst, wE_fn, wE_fnF, wE_prop, wE_inst, wE_kw, wE_part, wE_noPart, wE_sl, wE_chain, wE_get2, wE_wget, wE_ps0, wE_ps, wE_disp, wE_om, wE_lc, wE_dr, wO_gN, wO_gTn, wO_gs0, wO_gs, wO_gPut, wS_seq, wS_skip, wS_bk, wS_ct, wS_rtN, wS_no, wS_if, wS_then, wS_asg, wS_par, wS_retV, wS_fld, wS_for, wF_run, setSl_e, blank_e, startT_c, startT_n, startT_0, lpK_nx, lpK_ct, lpK_bk, lpK_rt, lpK_ex, negI_i, notV_b, isT_n, isnT_n, isT_b, isnT_b, ixT_l, ixT_t, sbT_l, sbT_t, sbT_d, atI_0, atI_1, atI_2, atI_3, atI_4, atI_m1, isNon_n, isNon_i, isNon_b, isNon_s, isNon_t, isNon_l, isNon_d, isNon_c, lenF_l, lenF_t, lenF_d, absF_i, intF_i, intF_b, maxF_ii, minF_ii, allF_m, anyF_m, sumF_m, maxF_m, minF_m, sortedF_m, maxF_l2, minF_l2, tupleF_l, tupleF_t, listF_l, listF_t, dictF_d, seqT_l, seqT_t, enF_l, zpF_l, zpF_t, slT_l, slT_t, revF_l, popF_l, putL_i, tyT_l, tyT_d, wgetT_s, tagT_n, tagT_b, tagT_i, tagT_s, tagT_t, tagT_l, tagT_d, keysT_0, keysT_s, keysT_i, eqT_s, neT_s, eqT_sn, eqT_ns, neT_sn, neT_ns, reprF_e, addT_ll, addT_tt, rnF1_i, rnF2_i, apF_l, insF_l, putD_s, putD_i, divmodF_i, intT_yes, intT_mul, intT_mod, intT_div, sizeLine_e, slfW_e, inK_nx, inK_ex, wF_init, wipeL_0, wipeL_c, isaB_1_2_0, isaB_1_2_1, isaB_1_2_2, isaB_1_2_3, isaB_1_2_4, isaB_1_2_5, isaB_1_2_6, isaB_1_0, isaB_1_1, isaB_1_2, isaB_1_3, isaB_1_4, isaB_1_5, isaB_1_6, isaB_3_0, isaB_3_1, isaB_3_2, isaB_3_3, isaB_3_4, isaB_3_5, isaB_3_6, isaB_4_0, isaB_4_1, isaB_4_2, isaB_4_3, isaB_4_4, isaB_4_5, isaB_4_6, isaB_5_0, isaB_5_1, isaB_5_2, isaB_5_3, isaB_5_4, isaB_5_5, isaB_5_6, isaB_6_0, isaB_6_1, isaB_6_2, isaB_6_3, isaB_6_4, isaB_6_5, isaB_6_6, isaB_4_5_0, isaB_4_5_1, isaB_4_5_2, isaB_4_5_3, isaB_4_5_4, isaB_4_5_5, isaB_4_5_6, ranT_len, List.length_map, List.length_append, eqT_i, neT_i, addT_i, List.getElem?_cons_zero, List.getElem?_cons_succ, List.set_cons_zero, List.set_cons_succ, List.length_cons, List.length_nil, Nat.reduceAdd, Nat.reduceLeDiff, Nat.reduceSub, Nat.reduceEqDiff, Nat.zero_add, true_and, and_true, Nat.le_refl, Nat.reduceLT, Nat.zero_le, Bool.not_true, Bool.not_false, reduceCtorEq, and_self, decide_true, decide_false, kGe_ends_of_0_rule, kGe_Rule_init_2_least_most_rise_fall_up_down, fl_Rule_r_parts, pf_Rule_r_parts, fs_Rule_r_parts_0, fs_Rule_r_parts_1, fs_Rule_r_parts_2, fl_Rule_r_bounds, pf_Rule_r_bounds, fs_Rule_r_bounds_1, fs_Rule_r_bounds_2, fl_Rule_r_limits, pf_Rule_r_limits, fs_Rule_r_limits_2, mg_0, dg_0_0, dg_0_1, mg_1, dg_1_0, dg_1_1, dg_1_2, dg_1_3, F_Rule_parts, m_Rule_parts, F_Rule_most, m_Rule_most, F_Rule_least, m_Rule_least, List.nil_append, w_for0, Part.t, se_ua]
          refine ⟨qs, acc ++ (rng l (m + 1)).map (k * ·), _, _, rfl, fun p hp => hq p (List.mem_cons_of_mem _ hp), by rw [List.map_append], ?_⟩
          rw [← h, List.flatMap_cons, List.append_assoc]
          rfl
      | aim k a b =>
        have hk : 1 ≤ a ∧ a ≤ k ∧ k ≤ b ∧ b ≤ 60 := hq _ (List.mem_cons_self ..)
        simp -dsimp (disch := first | omega | (simp only [List.length_map, List.length_append, List.length_cons, List.length_nil, rng_length, ranT_len]; omega)) only [wO_some, wO_none, wO_if, wO_map, wO_bind, wB_bl, wI_int, wIf_t, wIf_f, wSl_f, wSl_t, wIns_e, wSlf_e, wDic_e, w2_e, wR_nx, wR_rt, wR_bk, wR_ct, wR_ex, wR_bad, sqK_nx, sqK_rt, sqK_bk, sqK_ct, sqK_ex, fnK_nx, fnK_rt, fnK_ex, wE_C, wE_V, wE_L, wE_bin, wE_un, wE_call, wE_it, wE_itA, wE_isa, wE_tst, wE_yes, wE_not, wE_andB, wE_orB, wE_andV, wE_orV, wE_ite, wE_nil, wE_cons, wE_tup, wE_lst, wE_fn, wE_fnF, wE_prop, wE_inst, wE_kw, wE_part, wE_noPart, wE_sl, wE_chain, wE_get2, wE_wget, wE_ps0, wE_ps, wE_disp, wE_om, wE_lc, wE_dr, wO_gN, wO_gTn, wO_gs0, wO_gs, wO_gPut, wS_seq, wS_skip, wS_bk, wS_ct, wS_rtN, wS_no, wS_if, wS_then, wS_asg, wS_par, wS_retV, wS_fld, wS_for, wF_run, setSl_e, blank_e, startT_c, startT_n, startT_0, lpK_nx, lpK_ct, lpK_bk, lpK_rt, lpK_ex, negI_i, notV_b, isT_n, isnT_n, isT_b, isnT_b, ixT_l, ixT_t, sbT_l, sbT_t, sbT_d, atI_0, atI_1, atI_2, atI_3, atI_4, atI_m1, isNon_n, isNon_i, isNon_b, isNon_s, isNon_t, isNon_l, isNon_d, isNon_c, lenF_l, lenF_t, lenF_d, absF_i, intF_i, intF_b, maxF_ii, minF_ii, allF_m, anyF_m, sumF_m, maxF_m, minF_m, sortedF_m, maxF_l2, minF_l2, tupleF_l, tupleF_t, listF_l, listF_t, dictF_d, seqT_l, seqT_t, enF_l, zpF_l, zpF_t, slT_l, slT_t, revF_l, popF_l, putL_i, tyT_l, tyT_d, wgetT_s, tagT_n, tagT_b, tagT_i, tagT_s, tagT_t, tagT_l, tagT_d, keysT_0, keysT_s, keysT_i, eqT_s, neT_s, eqT_sn, eqT_ns, neT_sn, neT_ns, reprF_e, addT_ll, addT_tt, rnF1_i, rnF2_i, apF_l, insF_l, putD_s, putD_i, divmodF_i, intT_yes, intT_mul, intT_mod, intT_div, sizeLine_e, slfW_e, inK_nx, inK_ex, wF_init, wipeL_0, wipeL_c, isaB_1_2_0, isaB_1_2_1, isaB_1_2_2, isaB_1_2_3, isaB_1_2_4, isaB_1_2_5, isaB_1_2_6, isaB_1_0, isaB_1_1, isaB_1_2, isaB_1_3, isaB_1_4, isaB_1_5, isaB_1_6, isaB_3_0, isaB_3_1, isaB_3_2, isaB_3_3, isaB_3_4, isaB_3_5, isaB_3_6, isaB_4_0, isaB_4_1, isaB_4_2, isaB_4_3, isaB_4_4, isaB_4_5, isaB_4_6, isaB_5_0, isaB_5_1, isaB_5_2, isaB_5_3, isaB_5_4, isaB_5_5, isaB_5_6, isaB_6_0, isaB_6_1, isaB_6_2, isaB_6_3, isaB_6_4, isaB_6_5, isaB_6_6, isaB_4_5_0, isaB_4_5_1, isaB_4_5_2, isaB_4_5_3, isaB_4_5_4, isaB_4_5_5, isaB_4_5_6, ranT_len, List.length_map, List.length_append, eqT_i, neT_i, addT_i, List.getElem?_cons_zero, List.getElem?_cons_succ, List.set_cons_zero, List.set_cons_succ, List.length_cons, List.length_nil, Nat.reduceAdd, Nat.reduceLeDiff, Nat.reduceSub, Nat.reduceEqDiff, Nat.zero_add, true_and, and_true, Nat.le_refl, Nat.reduceLT, Nat.zero_le, Bool.not_true, Bool.not_false, reduceCtorEq, and_self, decide_true, decide_false, kGe_ends_of_0_rule, kGe_Rule_init_2_least_most_rise_fall_up_down, fl_Rule_r_parts, pf_Rule_r_parts, fs_Rule_r_parts_0, fs_Rule_r_parts_1, fs_Rule_r_parts_2, fl_Rule_r_bounds, pf_Rule_r_bounds, fs_Rule_r_bounds_1, fs_Rule_r_bounds_2, fl_Rule_r_limits, pf_Rule_r_limits, fs_Rule_r_limits_2, mg_0, dg_0_0, dg_0_1, mg_1, dg_1_0, dg_1_1, dg_1_2, dg_1_3, F_Rule_parts, m_Rule_parts, F_Rule_most, m_Rule_most, F_Rule_least, m_Rule_least, marks_aim, w_forC]
        refine ⟨by omega, w_lcR (a * ·) (fun i i0 i1 => ?_) ?_⟩
        · simp -dsimp (disch := first | omega | (simp only [List.length_map, List.length_append, List.length_cons, List.length_nil, rng_length, ranT_len]; omega)) only [wO_some, wO_none, wO_if, wO_map, wO_bind, wB_bl, wI_int, wIf_t, wIf_f, wSl_f, wSl_t, wIns_e, wSlf_e, wDic_e, w2_e, wR_nx, wR_rt, wR_bk, wR_ct, wR_ex, wR_bad, sqK_nx, sqK_rt, sqK_bk, sqK_ct, sqK_ex, fnK_nx, fnK_rt, fnK_ex, wE_C, wE_V, wE_L, wE_bin, wE_un, wE_call, wE_it, wE_itA, wE_isa, wE_tst, wE_yes, wE_not, wE_andB, wE_orB, wE_andV, wE_orV, wE_ite, wE_nil, wE_cons, wE_tup, wE_lst, wE_fn, wE_fnF, wE_prop, wE_inst, wE_kw, wE_part, wE_noPart, wE_sl, wE_chain, wE_get2, wE_wget, wE_ps0, wE_ps, wE_disp, wE_om, wE_lc, wE_dr, wO_gN, wO_gTn, wO_gs0, wO_gs, wO_gPut, wS_seq, wS_skip, wS_bk, wS_ct, wS_rtN, wS_no, wS_if, wS_then, wS_asg, wS_par, wS_retV, wS_fld, wS_for, wF_run, setSl_e, blank_e, startT_c, startT_n, startT_0, lpK_nx, lpK_ct, lpK_bk, lpK_rt, lpK_ex, negI_i, notV_b, isT_n, isnT_n, isT_b, isnT_b, ixT_l, ixT_t, sbT_l, sbT_t, sbT_d, atI_0, atI_1, atI_2, atI_3, atI_4, atI_m1, isNon_n, isNon_i, isNon_b, isNon_s, isNon_t, isNon_l, isNon_d, isNon_c, lenF_l, lenF_t, lenF_d, absF_i, intF_i, intF_b, maxF_ii, minF_ii, allF_m, anyF_m, sumF_m, maxF_m, minF_m, sortedF_m, maxF_l2, minF_l2, tupleF_l, tupleF_t, listF_l, listF_t, dictF_d, seqT_l, seqT_t, enF_l, zpF_l, zpF_t, slT_l, slT_t, revF_l, popF_l, putL_i, tyT_l, tyT_d, wgetT_s, tagT_n, tagT_b, tagT_i, tagT_s, tagT_t, tagT_l, tagT_d, keysT_0, keysT_s, keysT_i, eqT_s, neT_s, eqT_sn, eqT_ns, neT_sn, neT_ns, reprF_e, addT_ll, addT_tt, rnF1_i, rnF2_i, apF_l, insF_l, putD_s, putD_i, divmodF_i, intT_yes, intT_mul, intT_mod, intT_div, sizeLine_e, slfW_e, inK_nx, inK_ex, wF_init, wipeL_0, wipeL_c, isaB_1_2_0, isaB_1_2_1, isaB_1_2_2, isaB_1_2_3, isaB_1_2_4, isaB_1_2_5, isaB_1_2_6, isaB_1_0, isaB_1_1, isaB_1_2, isaB_1_3, isaB_1_4, isaB_1_5, isaB_1_6, isaB_3_0, isaB_3_1, isaB_3_2, isaB_3_3, isaB_3_4, isaB_3_5, isaB_3_6, isaB_4_0, isaB_4_1, isaB_4_2, isaB_4_3, isaB_4_4, isaB_4_5, isaB_4_6, isaB_5_0, isaB_5_1, isaB_5_2, isaB_5_3, isaB_5_4, isaB_5_5, isaB_5_6, isaB_6_0, isaB_6_1, isaB_6_2, isaB_6_3, isaB_6_4, isaB_6_5, isaB_6_6, isaB_4_5_0, isaB_4_5_1, isaB_4_5_2, isaB_4_5_3, isaB_4_5_4, isaB_4_5_5, isaB_4_5_6, ranT_len, List.length_map, List.length_append, eqT_i, neT_i, addT_i, List.getElem?_cons_zero, List.getElem?_cons_succ, List.set_cons_zero, List.set_cons_succ, List.length_cons, List.length_nil, Nat.reduceAdd, Nat.reduceLeDiff, Nat.reduceSub, Nat.reduceEqDiff, Nat.zero_add, true_and, and_true, Nat.le_refl, Nat.reduceLT, Nat.zero_le, Bool.not_true, Bool.not_false, reduceCtorEq, and_self, decide_true, decide_false, kGe_ends_of_0_rule, kGe_Rule_init_2_least_most_rise_fall_up_down, fl_Rule_r_parts, pf_Rule_r_parts, fs_Rule_r_parts_0, fs_Rule_r_parts_1, fs_Rule_r_parts_2, fl_Rule_r_bounds, pf_Rule_r_bounds, fs_Rule_r_bounds_1, fs_Rule_r_bounds_2, fl_Rule_r_limits, pf_Rule_r_limits, fs_Rule_r_limits_2, mg_0, dg_0_0, dg_0_1, mg_1, dg_1_0, dg_1_1, dg_1_2, dg_1_3, F_Rule_parts, m_Rule_parts, F_Rule_most, m_Rule_most, F_Rule_least, m_Rule_least]
        · simp -dsimp (disch := first | omega | (simp only [List.length_map, List.length_append, List.length_cons, List.length_nil, rng_length, ranT_len]; omega)) only [wO_some, wO_none, wO_if, wO_map, wO_bind, wB_bl, wI_int, wIf_t, wIf_f, wSl_f, wSl_t, wIns_e, wSlf_e, wDic_e, w2_e, wR_nx, wR_rt, wR_bk, wR_ct, wR_ex, wR_bad, sqK_nx, sqK_rt, sqK_bk, sqK_ct, sqK_ex, fnK_nx, fnK_rt, fnK_ex, wE_C, wE_V, wE_L, wE_bin, wE_un, wE_call, wE_it, wE_itA, wE_isa, wE_tst, wE_yes, wE_not, wE_andB, wE_orB, wE_andV, wE_orV, wE_ite, wE_nil, wE_cons, wE_tup, wE_lst, wE_fn, wE_fnF, wE_prop, wE_inst, wE_kw, wE_part, wE_noPart, wE_sl, wE_chain, wE_get2, wE_wget, wE_ps0, wE_ps, wE_disp, wE_om, wE_lc, wE_dr, wO_gN, wO_gTn, wO_gs0, wO_gs, wO_gPut, wS_seq, wS_skip, wS_bk, wS_ct, wS_rtN, wS_no, wS_if, wS_then, wS_asg, wS_par, wS_retV, wS_fld, wS_for, wF_run, setSl_e, blank_e, startT_c, startT_n, startT_0, lpK_nx, lpK_ct, lpK_bk, lpK_rt, lpK_ex, negI_i, notV_b, isT_n, isnT_n, isT_b, isnT_b, ixT_l, ixT_t, sbT_l, sbT_t, sbT_d, atI_0, atI_1, atI_2, atI_3, atI_4, atI_m1, isNon_n, isNon_i, isNon_b, isNon_s, isNon_t, isNon_l, isNon_d, isNon_c, lenF_l, lenF_t, lenF_d, absF_i, intF_i, intF_b, maxF_ii, minF_ii, allF_m, anyF_m, sumF_m, maxF_m, minF_m, sortedF_m, maxF_l2, minF_l2, tupleF_l, tupleF_t, listF_l, listF_t, dictF_d, seqT_l, seqT_t, enF_l, zpF_l, zpF_t, slT_l, slT_t, revF_l, popF_l, putL_i, tyT_l, tyT_d, wgetT_s, tagT_n, tagT_b, tagT_i, tagT_s, tagT_t, tagT_l, tagT_d, keysT_0, keysT_s, keysT_i, eqT_s, neT_s, eqT_sn, eqT_ns, neT_sn, neT_ns, reprF_e, addT_ll, addT_tt, rnF1_i, rnF2_i, apF_l, insF_l, putD_s, putD_i, divmodF_i, intT_yes, intT_mul, intT_mod, intT_div, sizeLine_e, slfW_e, inK_nx, inK_ex, wF_init, wipeL_0, wipeL_c, isaB_1_2_0, isaB_1_2_1, isaB_1_2_2, isaB_1_2_3, isaB_1_2_4, isaB_1_2_5, isaB_1_2_6, isaB_1_0, isaB_1_1, isaB_1_2, isaB_1_3, isaB_1_4, isaB_1_5, isaB_1_6, isaB_3_0, isaB_3_1, isaB_3_2, isaB_3_3, isaB_3_4, isaB_3_5, isaB_3_6, isaB_4_0, isaB_4_1, isaB_4_2, isaB_4_3, isaB_4_4, isaB_4_5, isaB_4_6, isaB_5_0, isaB_5_1, isaB_5_2, isaB_5_3, isaB_5_4, isaB_5_5, isaB_5_6, isaB_6_0, isaB_6_1, isaB_6_2, isaB_6_3, isaB_6_4, isaB_6_5, isaB_6_6, isaB_4_5_0, isaB_4_5_1, isaB_4_5_2, isaB_4_5_3, isaB_4_5_4, isaB_4_5_5, isaB_4_5_6, ranT_len, List.length_map, List.length_append, eqT_i, neT_i, addT_i, List.getElem?_cons_zero, List.getElem?_cons_succ, List.set_cons_zero, List.set_cons_succ, List.length_cons, List.length_nil, Nat.reduceAdd, Nat.reduceLeDiff, Nat.reduceSub, Nat.reduceEqDiff, Nat.zero_add, true_and, and_true, Nat.le_refl, Nat.reduceLT, Nat.zero_le, Bool.not_true, Bool.not_false, reduceCtorEq, and_self, decide_true, decide_false, kGe_ends_of_0_rule, kGe_Rule_init_2_least_most_rise_fall_up_down, fl_Rule_r_parts, pf_Rule_r_parts, fs_Rule_r_parts_0, fs_Rule_r_parts_1, fs_Rule_r_parts_2, fl_Rule_r_bounds, pf_Rule_r_bounds, fs_Rule_r_bounds_1, fs_Rule_r_bounds_2, fl_Rule_r_limits, pf_Rule_r_limits, fs_Rule_r_limits_2, mg_0, dg_0_0, dg_0_1, mg_1, dg_1_0, dg_1_1, dg_1_2, dg_1_3, F_Rule_parts, m_Rule_parts, F_Rule_most, m_Rule_most, F_Rule_least, m_Rule_least, List.nil_append, w_for0, w_forC]
          refine ⟨by omega, w_lcR (b * ·) (fun i i0 i1 => ?_) ?_⟩
          · simp -dsimp (disch := first | omega | (simp only [List.length_map, List.length_append, List.length_cons, List.length_nil, rng_length, ranT_len]; omega)) only [wO_some, wO_none, wO_if, wO_map, wO_bind, wB_bl, wI_int, wIf_t, wIf_f, wSl_f, wSl_t, wIns_e, wSlf_e, wDic_e, w2_e, wR_nx, wR_rt, wR_bk, wR_ct, wR_ex, wR_bad, sqK_nx, sqK_rt, sqK_bk, sqK_ct, sqK_ex, fnK_nx, fnK_rt, fnK_ex, wE_C, wE_V, wE_L, wE_bin, wE_un, wE_call, wE_it, wE_itA, wE_isa, wE_tst, wE_yes, wE_not, wE_andB, wE_orB, wE_andV, wE_orV, wE_ite, wE_nil, wE_cons, wE_tup, wE_lst, wE_fn, wE_fnF, wE_prop, wE_inst, wE_kw, wE_part, wE_noPart, wE_sl, wE_chain, wE_get2, wE_wget, wE_ps0, wE_ps, wE_disp, wE_om, wE_lc, wE_dr, wO_gN, wO_gTn, wO_gs0, wO_gs, wO_gPut, wS_seq, wS_skip, wS_bk, wS_ct, wS_rtN, wS_no, wS_if, wS_then, wS_asg, wS_par, wS_retV, wS_fld, wS_for, wF_run, setSl_e, blank_e, startT_c, startT_n, startT_0, lpK_nx, lpK_ct, lpK_bk, lpK_rt, lpK_ex, negI_i, notV_b, isT_n, isnT_n, isT_b, isnT_b, ixT_l, ixT_t, sbT_l, sbT_t, sbT_d, atI_0, atI_1, atI_2, atI_3, atI_4, atI_m1, isNon_n, isNon_i, isNon_b, isNon_s, isNon_t, isNon_l, isNon_d, isNon_c, lenF_l, lenF_t, lenF_d, absF_i, intF_i, intF_b, maxF_ii, minF_ii, allF_m, anyF_m, sumF_m, maxF_m, minF_m, sortedF_m, maxF_l2, minF_l2, tupleF_l, tupleF_t, listF_l, listF_t, dictF_d, seqT_l, seqT_t, enF_l, zpF_l, zpF_t, slT_l, slT_t, revF_l, popF_l, putL_i, tyT_l, tyT_d, wgetT_s, tagT_n, tagT_b, tagT_i, tagT_s, tagT_t, tagT_l, tagT_d, keysT_0, keysT_s, keysT_i, eqT_s, neT_s, eqT_sn, eqT_ns, neT_sn, neT_ns, reprF_e, addT_ll, addT_tt, rnF1_i, rnF2_i, apF_l, insF_l, putD_s, putD_i, divmodF_i, intT_yes, intT_mul, intT_mod, intT_div, sizeLine_e, slfW_e, inK_nx, inK_ex, wF_init, wipeL_0, wipeL_c, isaB_1_2_0, isaB_1_2_1, isaB_1_2_2, isaB_1_2_3, isaB_1_2_4, isaB_1_2_5, isaB_1_2_6, isaB_1_0, isaB_1_1, isaB_1_2, isaB_1_3, isaB_1_4, isaB_1_5, isaB_1_6, isaB_3_0, isaB_3_1, isaB_3_2, isaB_3_3, isaB_3_4, isaB_3_5, isaB_3_6, isaB_4_0, isaB_4_1, isaB_4_2, isaB_4_3, isaB_4_4, isaB_4_5, isaB_4_6, isaB_5_0, isaB_5_1, isaB_5_2, isaB_5_3, isaB_5_4, isaB_5_5, isaB_5_6, isaB_6_0, isaB_6_1, isaB_6_2, isaB_6_3, isaB_6_4, isaB_6_5, isaB_6_6, isaB_4_5_0, isaB_4_5_1, isaB_4_5_2, isaB_4_5_3, isaB_4_5_4, isaB_4_5_5, isaB_4_5_6, ranT_len, List.length_map, List.length_append, eqT_i, neT_i, addT_i, List.getElem?_cons_zero, List.getElem?_cons_succ, List.set_cons_zero, List.set_cons_succ, List.length_cons, List.length_nil, Nat.reduceAdd, Nat.reduceLeDiff, Nat.reduceSub, Nat.reduceEqDiff, Nat.zero_add, true_and, and_true, Nat.le_refl, Nat.reduceLT, Nat.zero_le, Bool.not_true, Bool.not_false, reduceCtorEq, and_self, decide_true, decide_false, kGe_ends_of_0_rule, kGe_Rule_init_2_least_most_rise_fall_up_down, fl_Rule_r_parts, pf_Rule_r_parts, fs_Rule_r_parts_0, fs_Rule_r_parts_1, fs_Rule_r_parts_2, fl_Rule_r_bounds, pf_Rule_r_bounds, fs_Rule_r_bounds_1, fs_Rule_r_bounds_2, fl_Rule_r_limits, pf_Rule_r_limits, fs_Rule_r_limits_2, mg_0, dg_0_0, dg_0_1, mg_1, dg_1_0, dg_1_1, dg_1_2, dg_1_3, F_Rule_parts, m_Rule_parts, F_Rule_most, m_Rule_most, F_Rule_least, m_Rule_least]
          · rw [List.nil_append, ← List.map_append]
            simp -dsimp (disch := first | omega | (simp only [List.length_map, List.length_append, List.length_cons, List.length_nil, rng_length, ranT_len]; omega)) only [wO_some, wO_none, wO_if, wO_map, wO_bind, wB_bl, wI_int, wIf_t, wIf_f, wSl_f, wSl_t, wIns_e, wSlf_e, wDic_e, w2_e, wR_nx, wR_rt, wR_bk, wR_ct, wR_ex, wR_bad, sqK_nx, sqK_rt, sqK_bk, sqK_ct, sqK_ex, fnK_nx, fnK_rt, fnK_ex, wE_C, wE_V, wE_L, wE_bin, wE_un, wE_call, wE_it, wE_itA, wE_isa, wE_tst, wE_yes, wE_not, wE_andB, wE_orB, wE_andV, wE_orV, wE_ite, wE_nil, wE_cons, wE_tup, wE_lst, wE_fn, wE_fnF, wE_prop, wE_inst, wE_kw, wE_part, wE_noPart, wE_sl, wE_chain, wE_get2, wE_wget, wE_ps0, wE_ps, wE_disp, wE_om, wE_lc, wE_dr, wO_gN, wO_gTn, wO_gs0, wO_gs, wO_gPut, wS_seq, wS_skip, wS_bk, wS_ct, wS_rtN, wS_no, wS_if, wS_then, wS_asg, wS_par, wS_retV, wS_fld, wS_for, wF_run, setSl_e, blank_e, startT_c, startT_n, startT_0, lpK_nx, lpK_ct, lpK_bk, lpK_rt, lpK_ex, negI_i, notV_b, isT_n, isnT_n, isT_b, isnT_b, ixT_l, ixT_t, sbT_l, sbT_t, sbT_d, atI_0, atI_1, atI_2, atI_3, atI_4, atI_m1, isNon_n, isNon_i, isNon_b, isNon_s, isNon_t, isNon_l, isNon_d, isNon_c, lenF_l, lenF_t, lenF_d, absF_i, intF_i, intF_b, maxF_ii, minF_ii, allF_m, anyF_m, sumF_m, maxF_m, minF_m, sortedF_m, maxF_l2, minF_l2, tupleF_l, tupleF_t, listF_l, listF_t, dictF_d, seqT_l, seqT_t, enF_l, zpF_l, zpF_t, slT_l, slT_t, revF_l, popF_l, putL_i, tyT_l, tyT_d, wgetT_s, tagT_n, tagT_b, tagT_i, tagT_s, tagT_t, tagT_l, tagT_d, keysT_0, keysT_s, keysT_i, eqT_s, neT_s, eqT_sn, eqT_ns, neT_sn, neT_ns, reprF_e, addT_ll, addT_tt, rnF1_i, rnF2_i, apF_l, insF_l, putD_s, putD_i, divmodF_i, intT_yes, intT_mul, intT_mod, intT_div, sizeLine_e, slfW_e, inK_nx, inK_ex, wF_init, wipeL_0, wipeL_c, isaB_1_2_0, isaB_1_2_1, isaB_1_2_2, isaB_1_2_3, isaB_1_2_4, isaB_1_2_5, isaB_1_2_6, isaB_1_0, isaB_1_1, isaB_1_2, isaB_1_3, isaB_1_4, isaB_1_5, isaB_1_6, isaB_3_0, isaB_3_1, isaB_3_2, isaB_3_3, isaB_3_4, isaB_3_5, isaB_3_6, isaB_4_0, isaB_4_1, isaB_4_2, isaB_4_3, isaB_4_4, isaB_4_5, isaB_4_6, isaB_5_0, isaB_5_1, isaB_5_2, isaB_5_3, isaB_5_4, isaB_5_5, isaB_5_6, isaB_6_0, isaB_6_1, isaB_6_2, isaB_6_3, isaB_6_4, isaB_6_5, isaB_6_6, isaB_4_5_0, isaB_4_5_1, isaB_4_5_2, isaB_4_5_3, isaB_4_5_4, isaB_4_5_5, isaB_4_5_6, ranT_len, List.length_map, List.length_append, eqT_i, neT_i, addT_i, List.getElem?_cons_zero, List.getElem?_cons_succ, List.set_cons_zero, List.set_cons_succ, List.length_cons, List.length_nil, Nat.reduceAdd, Nat.reduceLeDiff, Nat.reduceSub, Nat.reduceEqDiff, Nat.zero_add, true_and, and_true, Nat.le_refl, Nat.reduceLT, Nat.zero_le, Bool.not_true, Bool.not_false, reduceCtorEq, and_self, decide_true, decide_false, kGe_ends_of_0_rule, kGe_Rule_init_2_least_most_rise_fall_up_down, fl_Rule_r_parts, pf_Rule_r_parts, fs_Rule_r_parts_0, fs_Rule_r_parts_1, fs_Rule_r_parts_2, fl_Rule_r_bounds, pf_Rule_r_bounds, fs_Rule_r_bounds_1, fs_Rule_r_bounds_2, fl_Rule_r_limits, pf_Rule_r_limits, fs_Rule_r_limits_2, mg_0, dg_0_0, dg_0_1, mg_1, dg_1_0, dg_1_1, dg_1_2, dg_1_3, F_Rule_parts, m_Rule_parts, F_Rule_most, m_Rule_most, F_Rule_least, m_Rule_least, w_for0, Part.t]
            refine ⟨by omega, w_lcR (k * ·) (fun i i0 i1 => ?_) ?_⟩
            · simp -dsimp (disch := first | omega | (simp only [List.length_map, List.length_append, List.length_cons, List.length_nil, rng_length, ranT_len]; omega)) only [wO_some, wO_none, wO_if, wO_map, wO_bind, wB_bl, wI_int, wIf_t, wIf_f, wSl_f, wSl_t, wIns_e, wSlf_e, wDic_e, w2_e, wR_nx, wR_rt, wR_bk, wR_ct, wR_ex, wR_bad, sqK_nx, sqK_rt, sqK_bk, sqK_ct, sqK_ex, fnK_nx, fnK_rt, fnK_ex, wE_C, wE_V, wE_L, wE_bin, wE_un, wE_call, wE_it, wE_itA, wE_isa, wE_tst, wE_yes, wE_not, wE_andB, wE_orB, wE_andV, wE_orV, wE_ite, wE_nil, wE_cons, wE_tup, wE_lst, wE_fn, wE_fnF, wE_prop, wE_inst, wE_kw, wE_part, wE_noPart, wE_sl, wE_chain, wE_get2, wE_wget, wE_ps0, wE_ps, wE_disp, wE_om, wE_lc, wE_dr, wO_gN, wO_gTn, wO_gs0, wO_gs, wO_gPut, wS_seq, wS_skip, wS_bk, wS_ct, wS_rtN, wS_no, wS_if, wS_then, wS_asg, wS_par, wS_retV, wS_fld, wS_for, wF_run, setSl_e, blank_e, startT_c, startT_n, startT_0, lpK_nx, lpK_ct, lpK_bk, lpK_rt, lpK_ex, negI_i, notV_b, isT_n, isnT_n, isT_b, isnT_b, ixT_l, ixT_t, sbT_l, sbT_t, sbT_d, atI_0, atI_1, atI_2, atI_3, atI_4, atI_m1, isNon_n, isNon_i, isNon_b, isNon_s, isNon_t, isNon_l, isNon_d, isNon_c, lenF_l, lenF_t, lenF_d, absF_i, intF_i, intF_b, maxF_ii, minF_ii, allF_m, anyF_m, sumF_m, maxF_m, minF_m, sortedF_m, maxF_l2, minF_l2, tupleF_l, tupleF_t, listF_l, listF_t, dictF_d, seqT_l, seqT_t, enF_l, zpF_l, zpF_t, slT_l, slT_t, revF_l, popF_l, putL_i, tyT_l, tyT_d, wgetT_s, tagT_n, tagT_b, tagT_i, tagT_s, tagT_t, tagT_l, tagT_d, keysT_0, keysT_s, keysT_i, eqT_s, neT_s, eqT_sn, eqT_ns, neT_sn, neT_ns, reprF_e, addT_ll, addT_tt, rnF1_i, rnF2_i, apF_l, insF_l, putD_s, putD_i, divmodF_i, intT_yes, intT_mul, intT_mod, intT_div, sizeLine_e, slfW_e, inK_nx, inK_ex, wF_init, wipeL_0, wipeL_c, isaB_1_2_0, isaB_1_2_1, isaB_1_2_2, isaB_1_2_3, isaB_1_2_4, isaB_1_2_5, isaB_1_2_6, isaB_1_0, isaB_1_1, isaB_1_2, isaB_1_3, isaB_1_4, isaB_1_5, isaB_1_6, isaB_3_0, isaB_3_1, isaB_3_2, isaB_3_3, isaB_3_4, isaB_3_5, isaB_3_6, isaB_4_0, isaB_4_1, isaB_4_2, isaB_4_3, isaB_4_4, isaB_4_5, isaB_4_6, isaB_5_0, isaB_5_1, isaB_5_2, isaB_5_3, isaB_5_4, isaB_5_5, isaB_5_6, isaB_6_0, isaB_6_1, isaB_6_2, isaB_6_3, isaB_6_4, isaB_6_5, isaB_6_6, isaB_4_5_0, isaB_4_5_1, isaB_4_5_2, isaB_4_5_3, isaB_4_5_4, isaB_4_5_5, isaB_4_5_6, ranT_len, List.length_map, List.length_append, eqT_i, neT_i, addT_i, List.getElem?_cons_zero, List.getElem?_cons_succ, List.set_cons_zero, List.set_cons_succ, List.length_cons, List.length_nil, Nat.reduceAdd, Nat.reduceLeDiff, Nat.reduceSub, Nat.reduceEqDiff, Nat.zero_add, true_and, and_true, Nat.le_refl, Nat.reduceLT, Nat.zero_le, Bool.not_true, Bool.not_false, reduceCtorEq, and_self, decide_true, decide_false, kGe_ends_of_0_rule, kGe_Rule_init_2_least_most_rise_fall_up_down, fl_Rule_r_parts, pf_Rule_r_parts, fs_Rule_r_parts_0, fs_Rule_r_parts_1, fs_Rule_r_parts_2, fl_Rule_r_bounds, pf_Rule_r_bounds, fs_Rule_r_bounds_1, fs_Rule_r_bounds_2, fl_Rule_r_limits, pf_Rule_r_limits, fs_Rule_r_limits_2, mg_0, dg_0_0, dg_0_1, mg_1, dg_1_0, dg_1_1, dg_1_2, dg_1_3, F_Rule_parts, m_Rule_parts, F_Rule_most, m_Rule_most, F_Rule_least, m_Rule_least]
            · rw [List.nil_append, ← List.map_append]
              simp -dsimp (disch := first | omega | (simp only [List.length_map, List.length_append, List.length_cons, List.length_nil, rng_length, ranT_len]; omega)) only [wO_some, wO_none, wO_if, wO_map, wO_bind, wB_bl, wI_int, wIf_t, wIf_f, wSl_f, wSl_t, wIns_e, wSlf_e, wDic_e, w2_e, wR_nx, wR_rt, wR_bk, wR_ct, wR_ex, wR_bad, sqK_nx, sqK_rt, sqK_bk, sqK_ct, sqK_ex, fnK_nx, fnK_rt, fnK_ex, wE_C, wE_V, wE_L, wE_bin, wE_un, wE_call, wE_it, wE_itA, wE_isa, wE_tst, wE_yes, wE_not, wE_andB, wE_orB, wE_andV, wE_orV, wE_ite, wE_nil, wE_cons, wE_tup, wE_lst, wE_fn, wE_fnF, wE_prop, wE_inst, wE_kw, wE_part, wE_noPart, wE_sl, wE_chain, wE_get2, wE_wget, wE_ps0, wE_ps, wE_disp, wE_om, wE_lc, wE_dr, wO_gN, wO_gTn, wO_gs0, wO_gs, wO_gPut, wS_seq, wS_skip, wS_bk, wS_ct, wS_rtN, wS_no, wS_if, wS_then, wS_asg, wS_par, wS_retV, wS_fld, wS_for, wF_run, setSl_e, blank_e, startT_c, startT_n, startT_0, lpK_nx, lpK_ct, lpK_bk, lpK_rt, lpK_ex, negI_i, notV_b, isT_n, isnT_n, isT_b, isnT_b, ixT_l, ixT_t, sbT_l, sbT_t, sbT_d, atI_0, atI_1, atI_2, atI_3, atI_4, atI_m1, isNon_n, isNon_i, isNon_b, isNon_s, isNon_t, isNon_l, isNon_d, isNon_c, lenF_l, lenF_t, lenF_d, absF_i, intF_i, intF_b, maxF_ii, minF_ii, allF_m, anyF_m, sumF_m, maxF_m, minF_m, sortedF_m, maxF_l2, minF_l2, tupleF_l, tupleF_t, listF_l, listF_t, dictF_d, seqT_l, seqT_t, enF_l, zpF_l, zpF_t, slT_l, slT_t, revF_l, popF_l, putL_i, tyT_l, tyT_d, wgetT_s, tagT_n, tagT_b, tagT_i, tagT_s, tagT_t, tagT_l, tagT_d, keysT_0, keysT_s, keysT_i, eqT_s, neT_s, eqT_sn, eqT_ns, neT_sn, neT_ns, reprF_e, addT_ll, addT_tt, rnF1_i, rnF2_i, apF_l, insF_l, putD_s, putD_i, divmodF_i, intT_yes, intT_mul, intT_mod, intT_div, sizeLine_e, slfW_e, inK_nx, inK_ex, wF_init, wipeL_0, wipeL_c, isaB_1_2_0, isaB_1_2_1, isaB_1_2_2, isaB_1_2_3, isaB_1_2_4, isaB_1_2_5, isaB_1_2_6, isaB_1_0, isaB_1_1, isaB_1_2, isaB_1_3, isaB_1_4, isaB_1_5, isaB_1_6, isaB_3_0, isaB_3_1, isaB_3_2, isaB_3_3, isaB_3_4, isaB_3_5, isaB_3_6, isaB_4_0, isaB_4_1, isaB_4_2, isaB_4_3, isaB_4_4, isaB_4_5, isaB_4_6, isaB_5_0, isaB_5_1, isaB_5_2, isaB_5_3, isaB_5_4, isaB_5_5, isaB_5_6, isaB_6_0, isaB_6_1, isaB_6_2, isaB_6_3, isaB_6_4, isaB_6_5, isaB_6_6, isaB_4_5_0, isaB_4_5_1, isaB_4_5_2, isaB_4_5_3, isaB_4_5_4, isaB_4_5_5, isaB_4_5_6, ranT_len, List.length_map, List.length_append, eqT_i, neT_i, addT_i, List.getElem?_cons_zero, List.getElem?_cons_succ, List.set_cons_zero, List.set_cons_succ, List.length_cons, List.length_nil, Nat.reduceAdd, Nat.reduceLeDiff, Nat.reduceSub, Nat.reduceEqDiff, Nat.zero_add, true_and, and_true, Nat.le_refl, Nat.reduceLT, Nat.zero_le, Bool.not_true, Bool.not_false, reduceCtorEq, and_self, decide_true, decide_false, kGe_ends_of_0_rule, kGe_Rule_init_2_least_most_rise_fall_up_down, fl_Rule_r_parts, pf_Rule_r_parts, fs_Rule_r_parts_0, fs_Rule_r_parts_1, fs_Rule_r_parts_2, fl_Rule_r_bounds, pf_Rule_r_bounds, fs_Rule_r_bounds_1, fs_Rule_r_bounds_2, fl_Rule_r_limits, pf_Rule_r_limits, fs_Rule_r_limits_2, mg_0, dg_0_0, dg_0_1, mg_1, dg_1_0, dg_1_1, dg_1_2, dg_1_3, F_Rule_parts, m_Rule_parts, F_Rule_most, m_Rule_most, F_Rule_least, m_Rule_least]
              refine ⟨qs, acc ++ (Part.aim k a b).ends l m, _, _, rfl, fun p hp => hq p (List.mem_cons_of_mem _ hp), by simp only [Part.ends, List.map_append, List.append_assoc]; rfl, ?_⟩
              rw [← h, List.flatMap_cons, List.append_assoc]
  · rintro ρ ⟨qs, acc, x, y, e, hq, rfl, h⟩
    cases qs with
    | cons _ _ => cases e
    | nil =>
      rw [List.flatMap_nil, List.append_nil] at h
      subst h
      have hlen := ends_len (ps := ps) l0 m1
      simp -dsimp (disch := first | omega | (simp only [List.length_map, List.length_append, List.length_cons, List.length_nil, rng_length, ranT_len]; omega)) only [wO_some, wO_none, wO_if, wO_map, wO_bind, wB_bl, wI_int, wIf_t, wIf_f, wSl_f, wSl_t, wIns_e, wSlf_e, wDic_e, w2_e, wR_nx, wR_rt, wR_bk, wR_ct, wR_ex, wR_bad, sqK_nx, sqK_rt, sqK_bk, sqK_ct, sqK_ex, fnK_nx, fnK_rt, fnK_ex, wE_C, wE_V, wE_L, wE_bin, wE_un, wE_call, wE_it, wE_itA, wE_isa, wE_tst, wE_yes, wE_not, wE_andB, wE_orB, wE_andV, wE_orV, wE_ite, wE_nil, wE_cons, wE_tup, wE_lst, wE_fn, wE_fnF, wE_prop, wE_inst, wE_kw, wE_part, wE_noPart, wE_sl, wE_chain, wE_get2, wE_wget, wE_ps0, wE_ps, wE_disp, wE_om, wE_lc, wE_dr, wO_gN, wO_gTn, wO_gs0, wO_gs, wO_gPut, wS_seq, wS_skip, wS_bk, wS_ct, wS_rtN, wS_no, wS_if, wS_then, wS_asg, wS_par, wS_retV, wS_fld, wS_for, wF_run, setSl_e, blank_e, startT_c, startT_n, startT_0, lpK_nx, lpK_ct, lpK_bk, lpK_rt, lpK_ex, negI_i, notV_b, isT_n, isnT_n, isT_b, isnT_b, ixT_l, ixT_t, sbT_l, sbT_t, sbT_d, atI_0, atI_1, atI_2, atI_3, atI_4, atI_m1, isNon_n, isNon_i, isNon_b, isNon_s, isNon_t, isNon_l, isNon_d, isNon_c, lenF_l, lenF_t, lenF_d, absF_i, intF_i, intF_b, maxF_ii, minF_ii, allF_m, anyF_m, sumF_m, maxF_m, minF_m, sortedF_m, maxF_l2, minF_l2, tupleF_l, tupleF_t, listF_l, listF_t, dictF_d, seqT_l, seqT_t, enF_l, zpF_l, zpF_t, slT_l, slT_t, revF_l, popF_l, putL_i, tyT_l, tyT_d, wgetT_s, tagT_n, tagT_b, tagT_i, tagT_s, tagT_t, tagT_l, tagT_d, keysT_0, keysT_s, keysT_i, eqT_s, neT_s, eqT_sn, eqT_ns, neT_sn, neT_ns, reprF_e, addT_ll, addT_tt, rnF1_i, rnF2_i, apF_l, insF_l, putD_s, putD_i, divmodF_i, intT_yes, intT_mul, intT_mod, intT_div, sizeLine_e, slfW_e, inK_nx, inK_ex, wF_init, wipeL_0, wipeL_c, isaB_1_2_0, isaB_1_2_1, isaB_1_2_2, isaB_1_2_3, isaB_1_2_4, isaB_1_2_5, isaB_1_2_6, isaB_1_0, isaB_1_1, isaB_1_2, isaB_1_3, isaB_1_4, isaB_1_5, isaB_1_6, isaB_3_0, isaB_3_1, isaB_3_2, isaB_3_3, isaB_3_4, isaB_3_5, isaB_3_6, isaB_4_0, isaB_4_1, isaB_4_2, isaB_4_3, isaB_4_4, isaB_4_5, isaB_4_6, isaB_5_0, isaB_5_1, isaB_5_2, isaB_5_3, isaB_5_4, isaB_5_5, isaB_5_6, isaB_6_0, isaB_6_1, isaB_6_2, isaB_6_3, isaB_6_4, isaB_6_5, isaB_6_6, isaB_4_5_0, isaB_4_5_1, isaB_4_5_2, isaB_4_5_3, isaB_4_5_4, isaB_4_5_5, isaB_4_5_6, ranT_len, List.length_map, List.length_append, eqT_i, neT_i, addT_i, List.getElem?_cons_zero, List.getElem?_cons_succ, List.set_cons_zero, List.set_cons_succ, List.length_cons, List.length_nil, Nat.reduceAdd, Nat.reduceLeDiff, Nat.reduceSub, Nat.reduceEqDiff, Nat.zero_add, true_and, and_true, Nat.le_refl, Nat.reduceLT, Nat.zero_le, Bool.not_true, Bool.not_false, reduceCtorEq, and_self, decide_true, decide_false, kGe_ends_of_0_rule, kGe_Rule_init_2_least_most_rise_fall_up_down, fl_Rule_r_parts, pf_Rule_r_parts, fs_Rule_r_parts_0, fs_Rule_r_parts_1, fs_Rule_r_parts_2, fl_Rule_r_bounds, pf_Rule_r_bounds, fs_Rule_r_bounds_1, fs_Rule_r_bounds_2, fl_Rule_r_limits, pf_Rule_r_limits, fs_Rule_r_limits_2, mg_0, dg_0_0, dg_0_1, mg_1, dg_1_0, dg_1_1, dg_1_2, dg_1_3, F_Rule_parts, m_Rule_parts, F_Rule_most, m_Rule_most, F_Rule_least, m_Rule_least, sortSetF_ok]
end MPG
end

section
set_option Elab.async false
set_option linter.all false
set_option maxRecDepth 100000
namespace MPG
open PySem PySem.Spec L2 MP
variable {d : DS} {l m u n : Int} {r f : T}
def Part.mid : Part → List Int
  | .aim k _ _ => [k]
  | _ => []
theorem mem_times {k a b x : Int} : x ∈ (rng a b).map (k * ·) ↔ ∃ s, a ≤ s ∧ s < b ∧ x = k * s := by
  rw [List.mem_map]
  exact ⟨fun ⟨s, h, e⟩ => ⟨s, (mem_rng.mp h).1, (mem_rng.mp h).2, e.symm⟩, fun ⟨s, h1, h2, e⟩ => ⟨s, mem_rng.mpr ⟨h1, h2⟩, e.symm⟩⟩
theorem mem_ends {p : Part} {x : Int} : x ∈ p.ends l m ↔ (∃ k ∈ p.marks, ∃ s, l ≤ s ∧ s < m + 1 ∧ x = k * s) ∨ (∃ k ∈ p.mid, ∃ s, l ≤ s ∧ s < m ∧ x = k * s) := by
  cases p with
  | over k s => simp only [Part.ends, Part.marks, Part.mid, mem_times, List.mem_singleton, exists_eq_left, List.not_mem_nil, false_and, exists_false, or_false]
  | under k s => simp only [Part.ends, Part.marks, Part.mid, mem_times, List.mem_singleton, exists_eq_left, List.not_mem_nil, false_and, exists_false, or_false]
  | aim k a b => simp only [Part.ends, Part.marks, Part.mid, List.mem_append, mem_times, List.mem_cons, List.not_mem_nil, or_false, exists_eq_or_imp, exists_eq_left]
theorem turn_ends {ks ks' L : List Int} {i : Int} (hi : l ≤ i) {A : Int → Prop} (h : ∀ x, x ∈ ks ↔ A x ∨ ∃ k ∈ L, ∃ s, l ≤ s ∧ s < i ∧ x = k * s) (h2 : ∀ x, x ∈ ks' ↔ x ∈ ks ∨ ∃ k ∈ L, x = k * i) (x : Int) : x ∈ ks' ↔ A x ∨ ∃ k ∈ L, ∃ s, l ≤ s ∧ s < i + 1 ∧ x = k * s := by
  rw [h2, h]
  constructor
  · rintro ((h | ⟨k, hk, s, s0, s1, e⟩) | ⟨k, hk, e⟩)
    · exact .inl h
    · exact .inr ⟨k, hk, s, s0, by omega, e⟩
    · exact .inr ⟨k, hk, i, hi, by omega, e⟩
  · rintro (h | ⟨k, hk, s, s0, s1, e⟩)
    · exact .inl (.inl h)
    · by_cases c : s = i
      · subst c
        exact .inr ⟨k, hk, e⟩
      · exact .inl (.inr ⟨k, hk, s, s0, by omega, e⟩)
theorem due_law {ps : List Part} (hp : ∀ p ∈ ps, p.ok) (hl : ps.length ≤ 4) (l0 : 1 ≤ l) (l1 : l ≤ m) (m1 : m ≤ 8) :
    F_law_due d [.dic (dC (.int l) (.int m) r f (.lst (ps.map Part.t)) (.int u) (.int n))] = .ok true (.lst ((sortU (ps.flatMap (Part.ends l m))).map T.int)) d := by
  apply wF_is
  unfold F_law_due m_law_due
  generalize hD : T.dic (dC (.int l) (.int m) r f (.lst (ps.map Part.t)) (.int u) (.int n)) = D
  have c1 : dgT D (.str "least") = some (.int l) := by rw [← hD]; rfl
  have c2 : dgT D (.str "most") = some (.int m) := by rw [← hD]; rfl
  have c5 : dgT D (.str "parts") = some (.lst (ps.map Part.t)) := by rw [← hD]; rfl
  clear hD
  have hlen := ends_len (ps := ps) l0 m1
  have room : ∀ ks : List Int, ks.Nodup → (∀ x ∈ ks, x ∈ ps.flatMap (Part.ends l m)) → ks.length ≤ 96 := fun ks h1 h2 => by
    have := nodup_le h1 h2
    omega
  have e0 : (T.dic []) = .dic (kd []) := rfl
  rw [e0]
  simp -dsimp (disch := first | omega | (simp only [List.length_map, List.length_append, List.length_cons, List.length_nil, rng_length, ranT_len, kd_length]; omega)) only [wO_some, wO_none, wO_if, wO_map, wO_bind, wB_bl, wI_int, wIf_t, wIf_f, wSl_f, wSl_t, wIns_e, wSlf_e, wDic_e, w2_e, wR_nx, wR_rt, wR_bk, wR_ct, wR_ex, wR_bad, sqK_nx, sqK_rt, sqK_bk, sqK_ct, sqK_ex, fnK_nx, fnK_rt, fnK_ex, wE_C, wE_V, wE_L, wE_bin, wE_un, wE_call, wE_it, wE_itA, wE_isa, wE_tst, wE_yes, wE_not, wE_andB, wE_orB, wE_andV, wE_orV, wE_ite, wE_nil, wE_cons, wE_tup, wE_lst, wE_fn, wE_fnF, wE_prop, wE_inst, wE_kw, wE_part, wE_noPart, wE_sl, wE_chain, wE_get2, wE_wget, wE_ps0, wE_ps, wE_disp, wE_om, wE_lc, wE_dr, wO_gN, wO_gTn, wO_gs0, wO_gs, wO_gPut, wS_seq, wS_skip, wS_bk, wS_ct, wS_rtN, wS_no, wS_if, wS_then, wS_asg, wS_par, wS_retV, wS_fld, wS_for, wF_run, setSl_e, blank_e, startT_c, startT_n, startT_0, lpK_nx, lpK_ct, lpK_bk, lpK_rt, lpK_ex, negI_i, notV_b, isT_n, isnT_n, isT_b, isnT_b, ixT_l, ixT_t, sbT_l, sbT_t, sbT_d, atI_0, atI_1, atI_2, atI_3, atI_4, atI_m1, isNon_n, isNon_i, isNon_b, isNon_s, isNon_t, isNon_l, isNon_d, isNon_c, lenF_l, lenF_t, lenF_d, absF_i, intF_i, intF_b, maxF_ii, minF_ii, allF_m, anyF_m, sumF_m, maxF_m, minF_m, sortedF_m, maxF_l2, minF_l2, tupleF_l, tupleF_t, listF_l, listF_t, dictF_d, seqT_l, seqT_t, enF_l, zpF_l, zpF_t, slT_l, slT_t, revF_l, popF_l, putL_i, tyT_l, tyT_d, wgetT_s, tagT_n, tagT_b, tagT_i, tagT_s, tagT_t, tagT_l, tagT_d, keysT_0, keysT_s, keysT_i, eqT_s, neT_s, eqT_sn, eqT_ns, neT_sn, neT_ns, reprF_e, addT_ll, addT_tt, rnF1_i, rnF2_i, apF_l, insF_l, putD_s, putD_i, divmodF_i, intT_yes, intT_mul, intT_mod, intT_div, sizeLine_e, slfW_e, inK_nx, inK_ex, wF_init, wipeL_0, wipeL_c, isaB_1_2_0, isaB_1_2_1, isaB_1_2_2, isaB_1_2_3, isaB_1_2_4, isaB_1_2_5, isaB_1_2_6, isaB_1_0, isaB_1_1, isaB_1_2, isaB_1_3, isaB_1_4, isaB_1_5, isaB_1_6, isaB_3_0, isaB_3_1, isaB_3_2, isaB_3_3, isaB_3_4, isaB_3_5, isaB_3_6, isaB_4_0, isaB_4_1, isaB_4_2, isaB_4_3, isaB_4_4, isaB_4_5, isaB_4_6, isaB_5_0, isaB_5_1, isaB_5_2, isaB_5_3, isaB_5_4, isaB_5_5, isaB_5_6, isaB_6_0, isaB_6_1, isaB_6_2, isaB_6_3, isaB_6_4, isaB_6_5, isaB_6_6, isaB_4_5_0, isaB_4_5_1, isaB_4_5_2, isaB_4_5_3, isaB_4_5_4, isaB_4_5_5, isaB_4_5_6, ranT_len, List.length_map, List.length_append, eqT_i, neT_i, addT_i, List.getElem?_cons_zero, List.getElem?_cons_succ, List.set_cons_zero, List.set_cons_succ, List.length_cons, List.length_nil, Nat.reduceAdd, Nat.reduceLeDiff, Nat.reduceSub, Nat.reduceEqDiff, Nat.zero_add, true_and, and_true, Nat.le_refl, Nat.reduceLT, Nat.zero_le, Bool.not_true, Bool.not_false, reduceCtorEq, and_self, decide_true, decide_false, kGe_ends_of_0_rule, kGe_Rule_init_2_least_most_rise_fall_up_down, fl_Rule_r_parts, pf_Rule_r_parts, fs_Rule_r_parts_0, fs_Rule_r_parts_1, fs_Rule_r_parts_2, fl_Rule_r_bounds, pf_Rule_r_bounds, fs_Rule_r_bounds_1, fs_Rule_r_bounds_2, fl_Rule_r_limits, pf_Rule_r_limits, fs_Rule_r_limits_2, mg_0, dg_0_0, dg_0_1, mg_1, dg_1_0, dg_1_1, dg_1_2, dg_1_3, F_Rule_parts, m_Rule_parts, F_Rule_most, m_Rule_most, F_Rule_least, m_Rule_least, c5]
  refine w_for (fun ts ρ => ∃ (qs : List Part) (ks : List Int) (x3 x4 x5 : Option (Bool × T)) (x2 : Option (Bool × T)), ts = qs.map Part.t ∧ (∀ p ∈ qs, p.ok) ∧ ρ = ⟨[some (false, D), some (true, .dic (kd ks)), x2, x3, x4, x5], d⟩ ∧ ks.Nodup ∧ ∀ x, (x ∈ ks ∨ x ∈ qs.flatMap (Part.ends l m)) ↔ x ∈ ps.flatMap (Part.ends l m)) ?_ ?_ ?_
  · exact ⟨ps, [], none, none, none, none, rfl, hp, rfl, List.nodup_nil, fun x => by simp⟩
  · rintro t r' ρ ⟨qs, ks, x3, x4, x5, x2, e, hq, rfl, nd, hk⟩
    cases qs with
    | nil => cases e
    | cons p qs =>
      cases e
      have hpo := hq _ (List.mem_cons_self ..)
      have hin : ∀ x, x ∈ p.ends l m → x ∈ ps.flatMap (Part.ends l m) := fun x h => (hk x).mp (.inr (by rw [List.flatMap_cons]; exact List.mem_append_left _ h))
      have hin0 : ∀ x, x ∈ ks → x ∈ ps.flatMap (Part.ends l m) := fun x h => (hk x).mp (.inl h)
      simp -dsimp (disch := first | omega | (simp only [List.length_map, List.length_append, List.length_cons, List.length_nil, rng_length, ranT_len, kd_length]; omega)) only [wO_some, wO_none, wO_if, wO_map, wO_bind, wB_bl, wI_int, wIf_t, wIf_f, wSl_f, wSl_t, wIns_e, wSlf_e, wDic_e, w2_e, wR_nx, wR_rt, wR_bk, wR_ct, wR_ex, wR_bad, sqK_nx, sqK_rt, sqK_bk, sqK_ct, sqK_ex, fnK_nx, fnK_rt, fnK_ex, wE_C, wE_V, wE_L, wE_bin, wE_un, wE_call, wE_it, wE_itA, wE_isa, wE_tst, wE_yes, wE_not, wE_andB, wE_orB, wE_andV, wE_orV, wE_ite, wE_nil, wE_cons, wE_tup, wE_lst, wE_fn, wE_fnF, wE_prop, wE_inst, wE_kw, wE_part, wE_noPart, wE_sl, wE_chain, wE_get2, wE_wget, wE_ps0, wE_ps, wE_disp, wE_om, wE_lc, wE_dr, wO_gN, wO_gTn, wO_gs0, wO_gs, wO_gPut, wS_seq, wS_skip, wS_bk, wS_ct, wS_rtN, wS_no, wS_if, wS_then, wS_asg, wS_par, wS_retV, wS_fld, wS_for, wF_run, setSl_e, blank_e, startT_c, startT_n, startT_0, lpK_nx, lpK_ct, lpK_bk, lpK_rt, lpK_ex, negI_i, notV_b, isT_n, isnT_n, isT_b, isnT_b, ixT_l, ixT_t, sbT_l, sbT_t, sbT_d, atI_0, atI_1, atI_2, atI_3, atI_4, atI_m1, isNon_n, isNon_i, isNon_b, isNon_s, isNon_t, isNon_l, isNon_d, isNon_c, lenF_l, lenF_t, lenF_d, absF_i, intF_i, intF_b, maxF_ii, minF_ii, allF_m, anyF_m, sumF_m, maxF_m, minF_m, sortedF_m, maxF_l2, minF_l2, tupleF_l, tupleF_t, listF_l, listF_t, dictF_d, seqT_l, seqT_t, enF_l, zpF_l, zpF_t, slT_l, slT_t, revF_l, popF_l, putL_i, tyT_l, tyT_d, wgetT_s, tagT_n, tagT_b, tagT_i, tagT_s, tagT_t, tagT_l, tagT_d, keysT_0, keysT_s, keysT_i, eqT_s, neT_s, eqT_sn, eqT_ns, neT_sn, neT_ns, reprF_e, addT_ll, addT_tt, rnF1_i, rnF2_i, apF_l, insF_l, putD_s, putD_i, divmodF_i, intT_yes, intT_mul, intT_mod, intT_div, sizeLine_e, slfW_e, inK_nx, inK_ex, wF_init, wipeL_0, wipeL_c, isaB_1_2_0, isaB_1_2_1, isaB_1_2_2, isaB_1_2_3, isaB_1_2_4, isaB_1_2_5, isaB_1_2_6, isaB_1_0, isaB_1_1, isaB_1_2, isaB_1_3, isaB_1_4, isaB_1_5, isaB_1_6, isaB_3_0, isaB_3_1, isaB_3_2, isaB_3_3, isaB_3_4, isaB_3_5, isaB_3_6, isaB_4_0, isaB_4_1, isaB_4_2, isaB_4_3, isaB_4_4, isaB_4_5, isaB_4_6, isaB_5_0, isaB_5_1, isaB_5_2, isaB_5_3, isaB_5_4, isaB_5_5, isaB_5_6, isaB_6_0, isaB_6_1, isaB_6_2, isaB_6_3, isaB_6_4, isaB_6_5, isaB_6_6, isaB_4_5_0, isaB_4_5_1, isaB_4_5_2, isaB_4_5_3, isaB_4_5_4, isaB_4_5_5, isaB_4_5_6, ranT_len, List.length_map, List.length_append, eqT_i, neT_i, addT_i, List.getElem?_cons_zero, List.getElem?_cons_succ, List.set_cons_zero, List.set_cons_succ, List.length_cons, List.length_nil, Nat.reduceAdd, Nat.reduceLeDiff, Nat.reduceSub, Nat.reduceEqDiff, Nat.zero_add, true_and, and_true, Nat.le_refl, Nat.reduceLT, Nat.zero_le, Bool.not_true, Bool.not_false, reduceCtorEq, and_self, decide_true, decide_false, kGe_ends_of_0_rule, kGe_Rule_init_2_least_most_rise_fall_up_down, fl_Rule_r_parts, pf_Rule_r_parts, fs_Rule_r_parts_0, fs_Rule_r_parts_1, fs_Rule_r_parts_2, fl_Rule_r_bounds, pf_Rule_r_bounds, fs_Rule_r_bounds_1, fs_Rule_r_bounds_2, fl_Rule_r_limits, pf_Rule_r_limits, fs_Rule_r_limits_2, mg_0, dg_0_0, dg_0_1, mg_1, dg_1_0, dg_1_1, dg_1_2, dg_1_3, F_Rule_parts, m_Rule_parts, F_Rule_most, m_Rule_most, F_Rule_least, m_Rule_least, c1, c2]
      -- the first loop over the numbers of servers
      refine w_forR (fun i ρ => ∃ (ks' : List Int) (x3 x4 x5 : Option (Bool × T)), ρ = ⟨[some (false, D), some (true, .dic (kd ks')), some (false, p.t), x3, x4, x5], d⟩ ∧ ks'.Nodup ∧ ∀ x, x ∈ ks' ↔ x ∈ ks ∨ ∃ k ∈ p.marks, ∃ s, l ≤ s ∧ s < i ∧ x = k * s) (by omega) ?_ ?_ ?_
      · exact ⟨ks, x3, x4, x5, rfl, nd, fun x => ⟨.inl, fun h => h.elim id fun ⟨_, _, s, s0, s1, _⟩ => by omega⟩⟩
      · rintro i ρ i0 i1 ⟨ks', x3, x4, x5, rfl, nd', hk'⟩
        have hr := room ks' nd' fun x h => by
          rcases (hk' x).mp h with h | ⟨k, h1, s, s0, s1, e⟩
          · exact hin0 x h
          · exact hin x (mem_ends.mpr (.inl ⟨k, h1, s, s0, by omega, e⟩))
        cases p with
        | over k s =>
          obtain ⟨k0, k1, _⟩ := hpo
          simp -dsimp (disch := first | omega | (simp only [List.length_map, List.length_append, List.length_cons, List.length_nil, rng_length, ranT_len, kd_length]; omega)) only [wO_some, wO_none, wO_if, wO_map, wO_bind, wB_bl, wI_int, wIf_t, wIf_f, wSl_f, wSl_t, wIns_e, wSlf_e, wDic_e, w2_e, wR_nx, wR_rt, wR_bk, wR_ct, wR_ex, wR_bad, sqK_nx, sqK_rt, sqK_bk, sqK_ct, sqK_ex, fnK_nx, fnK_rt, fnK_ex, wE_C, wE_V, wE_L, wE_bin, wE_un, wE_call, wE_it, wE_itA, wE_isa, wE_tst, wE_yes, wE_not, wE_andB, wE_orB, wE_andV, wE_orV, wE_ite, wE_nil, wE_cons, wE_tup, wE_lst, wE_fn, wE_fnF, wE_prop, wE_inst, wE_kw, wE_part, wE_noPart, wE_sl, wE_chain, wE_get2, wE_wget, wE_ps0, wE_ps, wE_disp, wE_om, wE_lc, wE_dr, wO_gN, wO_gTn, wO_gs0, wO_gs, wO_gPut, wS_seq, wS_skip, wS_bk, wS_ct, wS_rtN, wS_no, wS_if, wS_then, wS_asg, wS_par, wS_retV, wS_fld, wS_for, wF_run, setSl_e, blank_e, startT_c, startT_n, startT_0, lpK_nx, lpK_ct, lpK_bk, lpK_rt, lpK_ex, negI_i, notV_b, isT_n, isnT_n, isT_b, isnT_b, ixT_l, ixT_t, sbT_l, sbT_t, sbT_d, atI_0, atI_1, atI_2, atI_3, atI_4, atI_m1, isNon_n, isNon_i, isNon_b, isNon_s, isNon_t, isNon_l, isNon_d, isNon_c, lenF_l, lenF_t, lenF_d, absF_i, intF_i, intF_b, maxF_ii, minF_ii, allF_m, anyF_m, sumF_m, maxF_m, minF_m, sortedF_m, maxF_l2, minF_l2, tupleF_l, tupleF_t, listF_l, listF_t, dictF_d, seqT_l, seqT_t, enF_l, zpF_l, zpF_t, slT_l, slT_t, revF_l, popF_l, putL_i, tyT_l, tyT_d, wgetT_s, tagT_n, tagT_b, tagT_i, tagT_s, tagT_t, tagT_l, tagT_d, keysT_0, keysT_s, keysT_i, eqT_s, neT_s, eqT_sn, eqT_ns, neT_sn, neT_ns, reprF_e, addT_ll, addT_tt, rnF1_i, rnF2_i, apF_l, insF_l, putD_s, putD_i, divmodF_i, intT_yes, intT_mul, intT_mod, intT_div, sizeLine_e, slfW_e, inK_nx, inK_ex, wF_init, wipeL_0, wipeL_c, isaB_1_2_0, isaB_1_2_1, isaB_1_2_2, isaB_1_2_3, isaB_1_2_4, isaB_1_2_5, isaB_1_2_6, isaB_1_0, isaB_1_1, isaB_1_2, isaB_1_3, isaB_1_4, isaB_1_5, isaB_1_6, isaB_3_0, isaB_3_1, isaB_3_2, isaB_3_3, isaB_3_4, isaB_3_5, isaB_3_6, isaB_4_0, isaB_4_1, isaB_4_2, isaB_4_3, isaB_4_4, isaB_4_5, isaB_4_6, isaB_5_0, isaB_5_1, isaB_5_2, isaB_5_3, isaB_5_4, isaB_5_5, isaB_5_6, isaB_6_0, isaB_6_1, isaB_6_2, isaB_6_3, isaB_6_4, isaB_6_5, isaB_6_6, isaB_4_5_0, isaB_4_5_1, isaB_4_5_2, isaB_4_5_3, isaB_4_5_4, isaB_4_5_5, isaB_4_5_6, ranT_len, List.length_map, List.length_append, eqT_i, neT_i, addT_i, List.getElem?_cons_zero, List.getElem?_cons_succ, List.set_cons_zero, List.set_cons_succ, List.length_cons, List.length_nil, Nat.reduceAdd, Nat.reduceLeDiff, Nat.reduceSub, Nat.reduceEqDiff, Nat.zero_add, true_and, and_true, Nat.le_refl, Nat.reduceLT, Nat.zero_le, Bool.not_true, Bool.not_false, reduceCtorEq, and_self, decide_true, decide_false, kGe_ends_of_0_rule, kGe_Rule_init_2_least_most_rise_fall_up_down, fl_Rule_r_parts, pf_Rule_r_parts, fs_Rule_r_parts_0, fs_Rule_r_parts_1, fs_Rule_r_parts_2, fl_Rule_r_bounds, pf_Rule_r_bounds, fs_Rule_r_bounds_1, fs_Rule_r_bounds_2, fl_Rule_r_limits, pf_Rule_r_limits, fs_Rule_r_limits_2, mg_0, dg_0_0, dg_0_1, mg_1, dg_1_0, dg_1_1, dg_1_2, dg_1_3, F_Rule_parts, m_Rule_parts, F_Rule_most, m_Rule_most, F_Rule_least, m_Rule_least, Part.t, se_oa, cutT_3_1, w_forC, w_for0, putT_kd]
          exact ⟨insK ks' (k * i), _, _, _, rfl, nodup_insK nd', turn_ends i0 hk' fun x => by rw [mem_insK]; simp [Part.marks]⟩
        | under k s =>
          obtain ⟨k0, k1, _⟩ := hpo
          simp -dsimp (disch := first | omega | (simp only [List.length_map, List.length_append, List.length_cons, List.length_nil, rng_length, ranT_len, kd_length]; omega)) only [wO_some, wO_none, wO_if, wO_map, wO_bind, wB_bl, wI_int, wIf_t, wIf_f, wSl_f, wSl_t, wIns_e, wSlf_e, wDic_e, w2_e, wR_nx, wR_rt, wR_bk, wR_ct, wR_ex, wR_bad, sqK_nx, sqK_rt, sqK_bk, sqK_ct, sqK_ex, fnK_nx, fnK_rt, fnK_ex, wE_C, wE_V, wE_L, wE_bin, wE_un, wE_call, wE_it, wE_itA, wE_isa, wE_tst, wE_yes, wE_not, wE_andB, wE_orB, wE_andV, wE_orV, wE_ite, wE_nil, wE_cons, wE_tup, wE_lst, wE_fn, wE_fnF, wE_prop, wE_inst, wE_kw, wE_part, wE_noPart, wE_sl, wE_chain, wE_get2, wE_wget, wE_ps0, wE_ps, wE_disp, wE_om, wE_lc, wE_dr, wO_gN, wO_gTn, wO_gs0, wO_gs, wO_gPut, wS_seq, wS_skip, wS_bk, wS_ct, wS_rtN, wS_no, wS_if, wS_then, wS_asg, wS_par, wS_retV, wS_fld, wS_for, wF_run, setSl_e, blank_e, startT_c, startT_n, startT_0, lpK_nx, lpK_ct, lpK_bk, lpK_rt, lpK_ex, negI_i, notV_b, isT_n, isnT_n, isT_b, isnT_b, ixT_l, ixT_t, sbT_l, sbT_t, sbT_d, atI_0, atI_1, atI_2, atI_3, atI_4, atI_m1, isNon_n, isNon_i, isNon_b, isNon_s, isNon_t, isNon_l, isNon_d, isNon_c, lenF_l, lenF_t, lenF_d, absF_i, intF_i, intF_b, maxF_ii, minF_ii, allF_m, anyF_m, sumF_m, maxF_m, minF_m, sortedF_m, maxF_l2, minF_l2, tupleF_l, tupleF_t, listF_l, listF_t, dictF_d, seqT_l, seqT_t, enF_l, zpF_l, zpF_t, slT_l, slT_t, revF_l, popF_l, putL_i, tyT_l, tyT_d, wgetT_s, tagT_n, tagT_b, tagT_i, tagT_s, tagT_t, tagT_l, tagT_d, keysT_0, keysT_s, keysT_i, eqT_s, neT_s, eqT_sn, eqT_ns, neT_sn, neT_ns, reprF_e, addT_ll, addT_tt, rnF1_i, rnF2_i, apF_l, insF_l, putD_s, putD_i, divmodF_i, intT_yes, intT_mul, intT_mod, intT_div, sizeLine_e, slfW_e, inK_nx, inK_ex, wF_init, wipeL_0, wipeL_c, isaB_1_2_0, isaB_1_2_1, isaB_1_2_2, isaB_1_2_3, isaB_1_2_4, isaB_1_2_5, isaB_1_2_6, isaB_1_0, isaB_1_1, isaB_1_2, isaB_1_3, isaB_1_4, isaB_1_5, isaB_1_6, isaB_3_0, isaB_3_1, isaB_3_2, isaB_3_3, isaB_3_4, isaB_3_5, isaB_3_6, isaB_4_0, isaB_4_1, isaB_4_2, isaB_4_3, isaB_4_4, isaB_4_5, isaB_4_6, isaB_5_0, isaB_5_1, isaB_5_2, isaB_5_3, isaB_5_4, isaB_5_5, isaB_5_6, isaB_6_0, isaB_6_1, isaB_6_2, isaB_6_3, isaB_6_4, isaB_6_5, isaB_6_6, isaB_4_5_0, isaB_4_5_1, isaB_4_5_2, isaB_4_5_3, isaB_4_5_4, isaB_4_5_5, isaB_4_5_6, ranT_len, List.length_map, List.length_append, eqT_i, neT_i, addT_i, List.getElem?_cons_zero, List.getElem?_cons_succ, List.set_cons_zero, List.set_cons_succ, List.length_cons, List.length_nil, Nat.reduceAdd, Nat.reduceLeDiff, Nat.reduceSub, Nat.reduceEqDiff, Nat.zero_add, true_and, and_true, Nat.le_refl, Nat.reduceLT, Nat.zero_le, Bool.not_true, Bool.not_false, reduceCtorEq, and_self, decide_true, decide_false, kGe_ends_of_0_rule, kGe_Rule_init_2_least_most_rise_fall_up_down, fl_Rule_r_parts, pf_Rule_r_parts, fs_Rule_r_parts_0, fs_Rule_r_parts_1, fs_Rule_r_parts_2, fl_Rule_r_bounds, pf_Rule_r_bounds, fs_Rule_r_bounds_1, fs_Rule_r_bounds_2, fl_Rule_r_limits, pf_Rule_r_limits, fs_Rule_r_limits_2, mg_0, dg_0_0, dg_0_1, mg_1, dg_1_0, dg_1_1, dg_1_2, dg_1_3, F_Rule_parts, m_Rule_parts, F_Rule_most, m_Rule_most, F_Rule_least, m_Rule_least, Part.t, se_ua, cutT_3_1, w_forC, w_for0, putT_kd]
          exact ⟨insK ks' (k * i), _, _, _, rfl, nodup_insK nd', turn_ends i0 hk' fun x => by rw [mem_insK]; simp [Part.marks]⟩
        | aim k a b =>
          obtain ⟨k0, k1, k2, k3⟩ := hpo
          have hr2 : (insK ks' (a * i)).length ≤ 97 := by
            unfold insK
            split
            · omega
            · rw [List.length_append, List.length_singleton]; omega
          simp -dsimp (disch := first | omega | (simp only [List.length_map, List.length_append, List.length_cons, List.length_nil, rng_length, ranT_len, kd_length]; omega)) only [wO_some, wO_none, wO_if, wO_map, wO_bind, wB_bl, wI_int, wIf_t, wIf_f, wSl_f, wSl_t, wIns_e, wSlf_e, wDic_e, w2_e, wR_nx, wR_rt, wR_bk, wR_ct, wR_ex, wR_bad, sqK_nx, sqK_rt, sqK_bk, sqK_ct, sqK_ex, fnK_nx, fnK_rt, fnK_ex, wE_C, wE_V, wE_L, wE_bin, wE_un, wE_call, wE_it, wE_itA, wE_isa, wE_tst, wE_yes, wE_not, wE_andB, wE_orB, wE_andV, wE_orV, wE_ite, wE_nil, wE_cons, wE_tup, wE_lst, wE_fn, wE_fnF, wE_prop, wE_inst, wE_kw, wE_part, wE_noPart, wE_sl, wE_chain, wE_get2, wE_wget, wE_ps0, wE_ps, wE_disp, wE_om, wE_lc, wE_dr, wO_gN, wO_gTn, wO_gs0, wO_gs, wO_gPut, wS_seq, wS_skip, wS_bk, wS_ct, wS_rtN, wS_no, wS_if, wS_then, wS_asg, wS_par, wS_retV, wS_fld, wS_for, wF_run, setSl_e, blank_e, startT_c, startT_n, startT_0, lpK_nx, lpK_ct, lpK_bk, lpK_rt, lpK_ex, negI_i, notV_b, isT_n, isnT_n, isT_b, isnT_b, ixT_l, ixT_t, sbT_l, sbT_t, sbT_d, atI_0, atI_1, atI_2, atI_3, atI_4, atI_m1, isNon_n, isNon_i, isNon_b, isNon_s, isNon_t, isNon_l, isNon_d, isNon_c, lenF_l, lenF_t, lenF_d, absF_i, intF_i, intF_b, maxF_ii, minF_ii, allF_m, anyF_m, sumF_m, maxF_m, minF_m, sortedF_m, maxF_l2, minF_l2, tupleF_l, tupleF_t, listF_l, listF_t, dictF_d, seqT_l, seqT_t, enF_l, zpF_l, zpF_t, slT_l, slT_t, revF_l, popF_l, putL_i, tyT_l, tyT_d, wgetT_s, tagT_n, tagT_b, tagT_i, tagT_s, tagT_t, tagT_l, tagT_d, keysT_0, keysT_s, keysT_i, eqT_s, neT_s, eqT_sn, eqT_ns, neT_sn, neT_ns, reprF_e, addT_ll, addT_tt, rnF1_i, rnF2_i, apF_l, insF_l, putD_s, putD_i, divmodF_i, intT_yes, intT_mul, intT_mod, intT_div, sizeLine_e, slfW_e, inK_nx, inK_ex, wF_init, wipeL_0, wipeL_c, isaB_1_2_0, isaB_1_2_1, isaB_1_2_2, isaB_1_2_3, isaB_1_2_4, isaB_1_2_5, isaB_1_2_6, isaB_1_0, isaB_1_1, isaB_1_2, isaB_1_3, isaB_1_4, isaB_1_5, isaB_1_6, isaB_3_0, isaB_3_1, isaB_3_2, isaB_3_3, isaB_3_4, isaB_3_5, isaB_3_6, isaB_4_0, isaB_4_1, isaB_4_2, isaB_4_3, isaB_4_4, isaB_4_5, isaB_4_6, isaB_5_0, isaB_5_1, isaB_5_2, isaB_5_3, isaB_5_4, isaB_5_5, isaB_5_6, isaB_6_0, isaB_6_1, isaB_6_2, isaB_6_3, isaB_6_4, isaB_6_5, isaB_6_6, isaB_4_5_0, isaB_4_5_1, isaB_4_5_2, isaB_4_5_3, isaB_4_5_4, isaB_4_5_5, isaB_4_5_6, ranT_len, List.length_map, List.length_append, eqT_i, neT_i, addT_i, List.getElem?_cons_zero, List.getElem?_cons_succ, List.set_cons_zero, List.set_cons_succ, List.length_cons, List.length_nil, Nat.reduceAdd, Nat.reduceLeDiff, Nat.reduceSub, Nat.reduceEqDiff, Nat.zero_add, true_and, and_true, Nat.le_refl, Nat.reduceLT, Nat.zero_le, Bool.not_true, Bool.not_false, reduceCtorEq, and_self, decide_true, decide_false, kGe_ends_of_0_rule, kGe_Rule_init_2_least_most_rise_fall_up_down, fl_Rule_r_parts, pf_Rule_r_parts, fs_Rule_r_parts_0, fs_Rule_r_parts_1, fs_Rule_r_parts_2, fl_Rule_r_bounds, pf_Rule_r_bounds, fs_Rule_r_bounds_1, fs_Rule_r_bounds_2, fl_Rule_r_limits, pf_Rule_r_limits, fs_Rule_r_limits_2, mg_0, dg_0_0, dg_0_1, mg_1, dg_1_0, dg_1_1, dg_1_2, dg_1_3, F_Rule_parts, m_Rule_parts, F_Rule_most, m_Rule_most, F_Rule_least, m_Rule_least, Part.t, cutT_4_2, w_forC, w_for0, putT_kd]
          exact ⟨insK (insK ks' (a * i)) (b * i), _, _, _, rfl, nodup_insK (nodup_insK nd'), turn_ends i0 hk' fun x => by rw [mem_insK, mem_insK]; simp [Part.marks, or_assoc]⟩
      · rintro ρ ⟨ks', x3, x4, x5, rfl, nd', hk'⟩
        simp -dsimp (disch := first | omega | (simp only [List.length_map, List.length_append, List.length_cons, List.length_nil, rng_length, ranT_len, kd_length]; omega)) only [wO_some, wO_none, wO_if, wO_map, wO_bind, wB_bl, wI_int, wIf_t, wIf_f, wSl_f, wSl_t, wIns_e, wSlf_e, wDic_e, w2_e, wR_nx, wR_rt, wR_bk, wR_ct, wR_ex, wR_bad, sqK_nx, sqK_rt, sqK_bk, sqK_ct, sqK_ex, fnK_nx, fnK_rt, fnK_ex, wE_C, wE_V, wE_L, wE_bin, wE_un, wE_call, wE_it, wE_itA, wE_isa, wE_tst, wE_yes, wE_not, wE_andB, wE_orB, wE_andV, wE_orV, wE_ite, wE_nil, wE_cons, wE_tup, wE_lst, wE_fn, wE_fnF, wE_prop, wE_inst, wE_kw, wE_part, wE_noPart, wE_sl, wE_chain, wE_get2, wE_wget, wE_ps0, wE_ps, wE_disp, wE_om, wE_lc, wE_dr, wO_gN, wO_gTn, wO_gs0, wO_gs, wO_gPut, wS_seq, wS_skip, wS_bk, wS_ct, wS_rtN, wS_no, wS_if, wS_then, wS_asg, wS_par, wS_retV, wS_fld, wS_for, wF_run, setSl_e, blank_e, startT_c, startT_n, startT_0, lpK_nx, lpK_ct, lpK_bk, lpK_rt, lpK_ex, negI_i, notV_b, isT_n, isnT_n, isT_b, isnT_b, ixT_l, ixT_t, sbT_l, sbT_t, sbT_d, atI_0, atI_1, atI_2, atI_3, atI_4, atI_m1, isNon_n, isNon_i, isNon_b, isNon_s, isNon_t, isNon_l, isNon_d, isNon_c, lenF_l, lenF_t, lenF_d, absF_i, intF_i, intF_b, maxF_ii, minF_ii, allF_m, anyF_m, sumF_m, maxF_m, minF_m, sortedF_m, maxF_l2, minF_l2, tupleF_l, tupleF_t, listF_l, listF_t, dictF_d, seqT_l, seqT_t, enF_l, zpF_l, zpF_t, slT_l, slT_t, revF_l, popF_l, putL_i, tyT_l, tyT_d, wgetT_s, tagT_n, tagT_b, tagT_i, tagT_s, tagT_t, tagT_l, tagT_d, keysT_0, keysT_s, keysT_i, eqT_s, neT_s, eqT_sn, eqT_ns, neT_sn, neT_ns, reprF_e, addT_ll, addT_tt, rnF1_i, rnF2_i, apF_l, insF_l, putD_s, putD_i, divmodF_i, intT_yes, intT_mul, intT_mod, intT_div, sizeLine_e, slfW_e, inK_nx, inK_ex, wF_init, wipeL_0, wipeL_c, isaB_1_2_0, isaB_1_2_1, isaB_1_2_2, isaB_1_2_3, isaB_1_2_4, isaB_1_2_5, isaB_1_2_6, isaB_1_0, isaB_1_1, isaB_1_2, isaB_1_3, isaB_1_4, isaB_1_5, isaB_1_6, isaB_3_0, isaB_3_1, isaB_3_2, isaB_3_3, isaB_3_4, isaB_3_5, isaB_3_6, isaB_4_0, isaB_4_1, isaB_4_2, isaB_4_3, isaB_4_4, isaB_4_5, isaB_4_6, isaB_5_0, isaB_5_1, isaB_5_2, isaB_5_3, isaB_5_4, isaB_5_5, isaB_5_6, isaB_6_0, isaB_6_1, isaB_6_2, isaB_6_3, isaB_6_4, isaB_6_5, isaB_6_6, isaB_4_5_0, isaB_4_5_1, isaB_4_5_2, isaB_4_5_3, isaB_4_5_4, isaB_4_5_5, isaB_4_5_6, ranT_len, List.length_map, List.length_append, eqT_i, neT_i, addT_i, List.getElem?_cons_zero, List.getElem?_cons_succ, List.set_cons_zero, List.set_cons_succ, List.length_cons, List.length_nil, Nat.reduceAdd, Nat.reduceLeDiff, Nat.reduceSub, Nat.reduceEqDiff, Nat.zero_add, true_and, and_true, Nat.le_refl, Nat.reduceLT, Nat.zero_le, Bool.not_true, Bool.not_false, reduceCtorEq, and_self, decide_true, decide_false, kGe_ends_of_0_rule, kGe_Rule_init_2_least_most_rise_fall_up_down, fl_Rule_r_parts, pf_Rule_r_parts, fs_Rule_r_parts_0, fs_Rule_r_parts_1, fs_Rule_r_parts_2, fl_Rule_r_bounds, pf_Rule_r_bounds, fs_Rule_r_bounds_1, fs_Rule_r_bounds_2, fl_Rule_r_limits, pf_Rule_r_limits, fs_Rule_r_limits_2, mg_0, dg_0_0, dg_0_1, mg_1, dg_1_0, dg_1_1, dg_1_2, dg_1_3, F_Rule_parts, m_Rule_parts, F_Rule_most, m_Rule_most, F_Rule_least, m_Rule_least, c1, c2]
        refine w_forR (fun i ρ => ∃ (ks2 : List Int) (x3 x4 x5 : Option (Bool × T)), ρ = ⟨[some (false, D), some (true, .dic (kd ks2)), some (false, p.t), x3, x4, x5], d⟩ ∧ ks2.Nodup ∧ ∀ x, x ∈ ks2 ↔ x ∈ ks' ∨ ∃ k ∈ p.mid, ∃ s, l ≤ s ∧ s < i ∧ x = k * s) (by omega) ?_ ?_ ?_
        · exact ⟨ks', x3, x4, x5, rfl, nd', fun x => ⟨.inl, fun h => h.elim id fun ⟨_, _, s, s0, s1, _⟩ => by omega⟩⟩
        · rintro i ρ i0 i1 ⟨ks2, x3, x4, x5, rfl, nd2, hk2⟩
          have hr := room ks2 nd2 fun x h => by
            rcases (hk2 x).mp h with h | ⟨k, h1, s, s0, s1, e⟩
            · rcases (hk' x).mp h with h | ⟨k, h1, s, s0, s1, e⟩
              · exact hin0 x h
              · exact hin x (mem_ends.mpr (.inl ⟨k, h1, s, s0, by omega, e⟩))
            · exact hin x (mem_ends.mpr (.inr ⟨k, h1, s, s0, by omega, e⟩))
          cases p with
          | over k s =>
            simp -dsimp (disch := first | omega | (simp only [List.length_map, List.length_append, List.length_cons, List.length_nil, rng_length, ranT_len, kd_length]; omega)) only [wO_some, wO_none, wO_if, wO_map, wO_bind, wB_bl, wI_int, wIf_t, wIf_f, wSl_f, wSl_t, wIns_e, wSlf_e, wDic_e, w2_e, wR_nx, wR_rt, wR_bk, wR_ct, wR_ex, wR_bad, sqK_nx, sqK_rt, sqK_bk, sqK_ct, sqK_ex, fnK_nx, fnK_rt, fnK_ex, wE_C, wE_V, wE_L, wE_bin, wE_un, wE_call, wE_it, wE_itA, wE_isa, wE_tst, wE_yes, wE_not, wE_andB, wE_orB, wE_andV, wE_orV, wE_ite, wE_nil, wE_cons, wE_tup, wE_lst, wE_fn, wE_fnF, wE_prop, wE_inst, wE_kw, wE_part, wE_noPart, wE_sl, wE_chain, wE_get2, wE_wget, wE_ps0, wE_ps, wE_disp, wE_om, wE_lc, wE_dr, wO_gN, wO_gTn, wO_gs0, wO_gs, wO_gPut, wS_seq, wS_skip, wS_bk, wS_ct, wS_rtN, wS_no, wS_if, wS_then, wS_asg, wS_par, wS_retV, wS_fld, wS_for, wF_run, setSl_e, blank_e, startT_c, startT_n, startT_0, lpK_nx, lpK_ct, lpK_bk, lpK_rt, lpK_ex, negI_i, notV_b, isT_n, isnT_n, isT_b, isnT_b, ixT_l, ixT_t, sbT_l, sbT_t, sbT_d, atI_0, atI_1, atI_2, atI_3, atI_4, atI_m1, isNon_n, isNon_i, isNon_b, isNon_s, isNon_t, isNon_l, isNon_d, isNon_c, lenF_l, lenF_t, lenF_d, absF_i, intF_i, intF_b, maxF_ii, minF_ii, allF_m, anyF_m, sumF_m, maxF_m, minF_m, sortedF_m, maxF_l2, minF_l2, tupleF_l, tupleF_t, listF_l, listF_t, dictF_d, seqT_l, seqT_t, enF_l, zpF_l, zpF_t, slT_l, slT_t, revF_l, popF_l, putL_i, tyT_l, tyT_d, wgetT_s, tagT_n, tagT_b, tagT_i, tagT_s, tagT_t, tagT_l, tagT_d, keysT_0, keysT_s, keysT_i, eqT_s, neT_s, eqT_sn, eqT_ns, neT_sn, neT_ns, reprF_e, addT_ll, addT_tt, rnF1_i, rnF2_i, apF_l, insF_l, putD_s, putD_i, divmodF_i, intT_yes, intT_mul, intT_mod, intT_div, sizeLine_e, slfW_e, inK_nx, inK_ex, wF_init, wipeL_0, wipeL_c, isaB_1_2_0, isaB_1_2_1, isaB_1_2_2, isaB_1_2_3, isaB_1_2_4, isaB_1_2_5, isaB_1_2_6, isaB_1_0, isaB_1_1, isaB_1_2, isaB_1_3, isaB_1_4, isaB_1_5, isaB_1_6, isaB_3_0, isaB_3_1, isaB_3_2, isaB_3_3, isaB_3_4, isaB_3_5, isaB_3_6, isaB_4_0, isaB_4_1, isaB_4_2, isaB_4_3, isaB_4_4, isaB_4_5, isaB_4_6, isaB_5_0, isaB_5_1, isaB_5_2, isaB_5_3, isaB_5_4, isaB_5_5, isaB_5_6, isaB_6_0, isaB_6_1, isaB_6_2, isaB_6_3, isaB_6_4, isaB_6_5, isaB_6_6, isaB_4_5_0, isaB_4_5_1, isaB_4_5_2, isaB_4_5_3, isaB_4_5_4, isaB_4_5_5, isaB_4_5_6, ranT_len, List.length_map, List.length_append, eqT_i, neT_i, addT_i, List.getElem?_cons_zero, List.getElem?_cons_succ, List.set_cons_zero, List.set_cons_succ, List.length_cons, List.length_nil, Nat.reduceAdd, Nat.reduceLeDiff, Nat.reduceSub, Nat.reduceEqDiff, Nat.zero_add, true_and, and_true, Nat.le_refl, Nat.reduceLT, Nat.zero_le, Bool.not_true, Bool.not_false, reduceCtorEq, and_self, decide_true, decide_false, kGe_ends_of_0_rule, kGe_Rule_init_2_least_most_rise_fall_up_down, fl_Rule_r_parts, pf_Rule_r_parts, fs_Rule_r_parts_0, fs_Rule_r_parts_1, fs_Rule_r_parts_2, fl_Rule_r_bounds, pf_Rule_r_bounds, fs_Rule_r_bounds_1, fs_Rule_r_bounds_2, fl_Rule_r_limits, pf_Rule_r_limits, fs_Rule_r_limits_2, mg_0, dg_0_0, dg_0_1, mg_1, dg_1_0, dg_1_1, dg_1_2, dg_1_3, F_Rule_parts, m_Rule_parts, F_Rule_most, m_Rule_most, F_Rule_least, m_Rule_least, Part.t, se_oa]
            exact ⟨ks2, _, _, _, rfl, nd2, turn_ends i0 hk2 fun x => by simp [Part.mid]⟩
          | under k s =>
            simp -dsimp (disch := first | omega | (simp only [List.length_map, List.length_append, List.length_cons, List.length_nil, rng_length, ranT_len, kd_length]; omega)) only [wO_some, wO_none, wO_if, wO_map, wO_bind, wB_bl, wI_int, wIf_t, wIf_f, wSl_f, wSl_t, wIns_e, wSlf_e, wDic_e, w2_e, wR_nx, wR_rt, wR_bk, wR_ct, wR_ex, wR_bad, sqK_nx, sqK_rt, sqK_bk, sqK_ct, sqK_ex, fnK_nx, fnK_rt, fnK_ex, wE_C, wE_V, wE_L, wE_bin, wE_un, wE_call, wE_it, wE_itA, wE_isa, wE_tst, wE_yes, wE_not, wE_andB, wE_orB, wE_andV, wE_orV, wE_ite, wE_nil, wE_cons, wE_tup, wE_lst, wE_fn, wE_fnF, wE_prop, wE_inst, wE_kw, wE_part, wE_noPart, wE_sl, wE_chain, wE_get2, wE_wget, wE_ps0, wE_ps, wE_disp, wE_om, wE_lc, wE_dr, wO_gN, wO_gTn, wO_gs0, wO_gs, wO_gPut, wS_seq, wS_skip, wS_bk, wS_ct, wS_rtN, wS_no, wS_if, wS_then, wS_asg, wS_par, wS_retV, wS_fld, wS_for, wF_run, setSl_e, blank_e, startT_c, startT_n, startT_0, lpK_nx, lpK_ct, lpK_bk, lpK_rt, lpK_ex, negI_i, notV_b, isT_n, isnT_n, isT_b, isnT_b, ixT_l, ixT_t, sbT_l, sbT_t, sbT_d, atI_0, atI_1, atI_2, atI_3, atI_4, atI_m1, isNon_n, isNon_i, isNon_b, isNon_s, isNon_t, isNon_l, isNon_d, isNon_c, lenF_l, lenF_t, lenF_d, absF_i, intF_i, intF_b, maxF_ii, minF_ii, allF_m, anyF_m, sumF_m, maxF_m, minF_m, sortedF_m, maxF_l2, minF_l2, tupleF_l, tupleF_t, listF_l, listF_t, dictF_d, seqT_l, seqT_t, enF_l, zpF_l, zpF_t, slT_l, slT_t, revF_l, popF_l, putL_i, tyT_l, tyT_d, wgetT_s, tagT_n, tagT_b, tagT_i, tagT_s, tagT_t, tagT_l, tagT_d, keysT_0, keysT_s, keysT_i, eqT_s, neT_s, eqT_sn, eqT_ns, neT_sn, neT_ns, reprF_e, addT_ll, addT_tt, rnF1_i, rnF2_i, apF_l, insF_l, putD_s, putD_i, divmodF_i, intT_yes, intT_mul, intT_mod, intT_div, sizeLine_e, slfW_e, inK_nx, inK_ex, wF_init, wipeL_0, wipeL_c, isaB_1_2_0, isaB_1_2_1, isaB_1_2_2, isaB_1_2_3, isaB_1_2_4, isaB_1_2_5, isaB_1_2_6, isaB_1_0, isaB_1_1, isaB_1_2, isaB_1_3, isaB_1_4, isaB_1_5, isaB_1_6, isaB_3_0, isaB_3_1, isaB_3_2, isaB_3_3, isaB_3_4, isaB_3_5, isaB_3_6, isaB_4_0, isaB_4_1, isaB_4_2, isaB_4_3, isaB_4_4, isaB_4_5, isaB_4_6, isaB_5_0, isaB_5_1, isaB_5_2, isaB_5_3, isaB_5_4, isaB_5_5, isaB_5_6, isaB_6_0, isaB_6_1, isaB_6_2, isaB_6_3, isaB_6_4, isaB_6_5, isaB_6_6, isaB_4_5_0, isaB_4_5_1, isaB_4_5_2, isaB_4_5_3, isaB_4_5_4, isaB_4_5_5, isaB_4_5_6, ranT_len, List.length_map, List.length_append, eqT_i, neT_i, addT_i, List.getElem?_cons_zero, List.getElem?_cons_succ, List.set_cons_zero, List.set_cons_succ, List.length_cons, List.length_nil, Nat.reduceAdd, Nat.reduceLeDiff, Nat.reduceSub, Nat.reduceEqDiff, Nat.zero_add, true_and, and_true, Nat.le_refl, Nat.reduceLT, Nat.zero_le, Bool.not_true, Bool.not_false, reduceCtorEq, and_self, decide_true, decide_false, kGe_ends_of_0_rule, kGe_Rule_init_2_least_most_rise_fall_up_down, fl_Rule_r_parts, pf_Rule_r_parts, fs_Rule_r_parts_0, fs_Rule_r_parts_1, fs_Rule_r_parts_2, fl_Rule_r_bounds, pf_Rule_r_bounds, fs_Rule_r_bounds_1, fs_Rule_r_bounds_2, fl_Rule_r_limits, pf_Rule_r_limits, fs_Rule_r_limits_2, mg_0, dg_0_0, dg_0_1, mg_1, dg_1_0, dg_1_1, dg_1_2, dg_1_3, F_Rule_parts, m_Rule_parts, F_Rule_most, m_Rule_most, F_Rule_least, m_Rule_least, Part.t, se_ua]
            exact ⟨ks2, _, _, _, rfl, nd2, turn_ends i0 hk2 fun x => by simp [Part.mid]⟩
          | aim k a b =>
            obtain ⟨k0, k1, k2, k3⟩ := hpo
            simp -dsimp (disch := first | omega | (simp only [List.length_map, List.length_append, List.length_cons, List.length_nil, rng_length, ranT_len, kd_length]; omega)) only [wO_some, wO_none, wO_if, wO_map, wO_bind, wB_bl, wI_int, wIf_t, wIf_f, wSl_f, wSl_t, wIns_e, wSlf_e, wDic_e, w2_e, wR_nx, wR_rt, wR_bk, wR_ct, wR_ex, wR_bad, sqK_nx, sqK_rt, sqK_bk, sqK_ct, sqK_ex, fnK_nx, fnK_rt, fnK_ex, wE_C, wE_V, wE_L, wE_bin, wE_un, wE_call, wE_it, wE_itA, wE_isa, wE_tst, wE_yes, wE_not, wE_andB, wE_orB, wE_andV, wE_orV, wE_ite, wE_nil, wE_cons, wE_tup, wE_lst, wE_fn, wE_fnF, wE_prop, wE_inst, wE_kw, wE_part, wE_noPart, wE_sl, wE_chain, wE_get2, wE_wget, wE_ps0, wE_ps, wE_disp, wE_om, wE_lc, wE_dr, wO_gN, wO_gTn, wO_gs0, wO_gs, wO_gPut, wS_seq, wS_skip, wS_bk, wS_ct, wS_rtN, wS_no, wS_if, wS_then, wS_asg, wS_par, wS_retV, wS_fld, wS_for, wF_run, setSl_e, blank_e, startT_c, startT_n, startT_0, lpK_nx, lpK_ct, lpK_bk, lpK_rt, lpK_ex, negI_i, notV_b, isT_n, isnT_n, isT_b, isnT_b, ixT_l, ixT_t, sbT_l, sbT_t, sbT_d, atI_0, atI_1, atI_2, atI_3, atI_4, atI_m1, isNon_n, isNon_i, isNon_b, isNon_s, isNon_t, isNon_l, isNon_d, isNon_c, lenF_l, lenF_t, lenF_d, absF_i, intF_i, intF_b, maxF_ii, minF_ii, allF_m, anyF_m, sumF_m, maxF_m, minF_m, sortedF_m, maxF_l2, minF_l2, tupleF_l, tupleF_t, listF_l, listF_t, dictF_d, seqT_l, seqT_t, enF_l, zpF_l, zpF_t, slT_l, slT_t, revF_l, popF_l, putL_i, tyT_l, tyT_d, wgetT_s, tagT_n, tagT_b, tagT_i, tagT_s, tagT_t, tagT_l, tagT_d, keysT_0, keysT_s, keysT_i, eqT_s, neT_s, eqT_sn, eqT_ns, neT_sn, neT_ns, reprF_e, addT_ll, addT_tt, rnF1_i, rnF2_i, apF_l, insF_l, putD_s, putD_i, divmodF_i, intT_yes, intT_mul, intT_mod, intT_div, sizeLine_e, slfW_e, inK_nx, inK_ex, wF_init, wipeL_0, wipeL_c, isaB_1_2_0, isaB_1_2_1, isaB_1_2_2, isaB_1_2_3, isaB_1_2_4, isaB_1_2_5, isaB_1_2_6, isaB_1_0, isaB_1_1, isaB_1_2, isaB_1_3, isaB_1_4, isaB_1_5, isaB_1_6, isaB_3_0, isaB_3_1, isaB_3_2, isaB_3_3, isaB_3_4, isaB_3_5, isaB_3_6, isaB_4_0, isaB_4_1, isaB_4_2, isaB_4_3, isaB_4_4, isaB_4_5, isaB_4_6, isaB_5_0, isaB_5_1, isaB_5_2, isaB_5_3, isaB_5_4, isaB_5_5, isaB_5_6, isaB_6_0, isaB_6_1, isaB_6_2, isaB_6_3, isaB_6_4, isaB_6_5, isaB_6_6, isaB_4_5_0, isaB_4_5_1, isaB_4_5_2, isaB_4_5_3, isaB_4_5_4, isaB_4_5_5, isaB_4_5_6, ranT_len, List.length_map, List.length_append, eqT_i, neT_i, addT_i, List.getElem?_cons_zero, List.getElem?_cons_succ, List.set_cons_zero, List.set_cons_succ, List.length_cons, List.length_nil, Nat.reduceAdd, Nat.reduceLeDiff, Nat.reduceSub, Nat.reduceEqDiff, Nat.zero_add, true_and, and_true, Nat.le_refl, Nat.reduceLT, Nat.zero_le, Bool.not_true, Bool.not_false, reduceCtorEq, and_self, decide_true, decide_false, kGe_ends_of_0_rule, kGe_Rule_init_2_least_most_rise_fall_up_down, fl_Rule_r_parts, pf_Rule_r_parts, fs_Rule_r_parts_0, fs_Rule_r_parts_1, fs_Rule_r_parts_2, fl_Rule_r_bounds, pf_Rule_r_bounds, fs_Rule_r_bounds_1, fs_Rule_r_bounds_2, fl_Rule_r_limits, pf_Rule_r_limits, fs_Rule_r_limits_2, mg_0, dg_0_0, dg_0_1, mg_1, dg_1_0, dg_1_1, dg_1_2, dg_1_3, F_Rule_parts, m_Rule_parts, F_Rule_most, m_Rule_most, F_Rule_least, m_Rule_least, Part.t, putT_kd]
            exact ⟨insK ks2 (k * i), _, _, _, rfl, nodup_insK nd2, turn_ends i0 hk2 fun x => by rw [mem_insK]; simp [Part.mid]⟩
        · rintro ρ ⟨ks2, x3, x4, x5, rfl, nd2, hk2⟩
          simp -dsimp (disch := first | omega | (simp only [List.length_map, List.length_append, List.length_cons, List.length_nil, rng_length, ranT_len, kd_length]; omega)) only [wO_some, wO_none, wO_if, wO_map, wO_bind, wB_bl, wI_int, wIf_t, wIf_f, wSl_f, wSl_t, wIns_e, wSlf_e, wDic_e, w2_e, wR_nx, wR_rt, wR_bk, wR_ct, wR_ex, wR_bad, sqK_nx, sqK_rt, sqK_bk, sqK_ct, sqK_ex, fnK_nx, fnK_rt, fnK_ex, wE_C, wE_V, wE_L, wE_bin, wE_un, wE_call, wE_it, wE_itA, wE_isa, wE_tst, wE_yes, wE_not, wE_andB, wE_orB, wE_andV, wE_orV, wE_ite, wE_nil, wE_cons, wE_tup, wE_lst, wE_fn, wE_fnF, wE_prop, wE_inst, wE_kw, wE_part, wE_noPart, wE_sl, wE_chain, wE_get2, wE_wget, wE_ps0, wE_ps, wE_disp, wE_om, wE_lc, wE_dr, wO_gN, wO_gTn, wO_gs0, wO_gs, wO_gPut, wS_seq, wS_skip, wS_bk, wS_ct, wS_rtN, wS_no, wS_if, wS_then, wS_asg, wS_par, wS_retV, wS_fld, wS_for, wF_run, setSl_e, blank_e, startT_c, startT_n, startT_0, lpK_nx, lpK_ct, lpK_bk, lpK_rt, lpK_ex, negI_i, notV_b, isT_n, isnT_n, isT_b, isnT_b, ixT_l, ixT_t, sbT_l, sbT_t, sbT_d, atI_0, atI_1, atI_2, atI_3, atI_4, atI_m1, isNon_n, isNon_i, isNon_b, isNon_s, isNon_t, isNon_l, isNon_d, isNon_c, lenF_l, lenF_t, lenF_d, absF_i, intF_i, intF_b, maxF_ii, minF_ii, allF_m, anyF_m, sumF_m, maxF_m, minF_m, sortedF_m, maxF_l2, minF_l2, tupleF_l, tupleF_t, listF_l, listF_t, dictF_d, seqT_l, seqT_t, enF_l, zpF_l, zpF_t, slT_l, slT_t, revF_l, popF_l, putL_i, tyT_l, tyT_d, wgetT_s, tagT_n, tagT_b, tagT_i, tagT_s, tagT_t, tagT_l, tagT_d, keysT_0, keysT_s, keysT_i, eqT_s, neT_s, eqT_sn, eqT_ns, neT_sn, neT_ns, reprF_e, addT_ll, addT_tt, rnF1_i, rnF2_i, apF_l, insF_l, putD_s, putD_i, divmodF_i, intT_yes, intT_mul, intT_mod, intT_div, sizeLine_e, slfW_e, inK_nx, inK_ex, wF_init, wipeL_0, wipeL_c, isaB_1_2_0, isaB_1_2_1, isaB_1_2_2, isaB_1_2_3, isaB_1_2_4, isaB_1_2_5, isaB_1_2_6, isaB_1_0, isaB_1_1, isaB_1_2, isaB_1_3, isaB_1_4, isaB_1_5, isaB_1_6, isaB_3_0, isaB_3_1, isaB_3_2, isaB_3_3, isaB_3_4, isaB_3_5, isaB_3_6, isaB_4_0, isaB_4_1, isaB_4_2, isaB_4_3, isaB_4_4, isaB_4_5, isaB_4_6, isaB_5_0, isaB_5_1, isaB_5_2, isaB_5_3, isaB_5_4, isaB_5_5, isaB_5_6, isaB_6_0, isaB_6_1, isaB_6_2, isaB_6_3, isaB_6_4, isaB_6_5, isaB_6_6, isaB_4_5_0, isaB_4_5_1, isaB_4_5_2, isaB_4_5_3, isaB_4_5_4, isaB_4_5_5, isaB_4_5_6, ranT_len, List.length_map, List.length_append, eqT_i, neT_i, addT_i, List.getElem?_cons_zero, List.getElem?_cons_succ, List.set_cons_zero, List.set_cons_succ, List.length_cons, List.length_nil, Nat.reduceAdd, Nat.reduceLeDiff, Nat.reduceSub, Nat.reduceEqDiff, Nat.zero_add, true_and, and_true, Nat.le_refl, Nat.reduceLT, Nat.zero_le, Bool.not_true, Bool.not_false, reduceCtorEq, and_self, decide_true, decide_false, kGe_ends_of_0_rule, kGe_Rule_init_2_least_most_rise_fall_up_down, fl_Rule_r_parts, pf_Rule_r_parts, fs_Rule_r_parts_0, fs_Rule_r_parts_1, fs_Rule_r_parts_2, fl_Rule_r_bounds, pf_Rule_r_bounds, fs_Rule_r_bounds_1, fs_Rule_r_bounds_2, fl_Rule_r_limits, pf_Rule_r_limits, fs_Rule_r_limits_2, mg_0, dg_0_0, dg_0_1, mg_1, dg_1_0, dg_1_1, dg_1_2, dg_1_3, F_Rule_parts, m_Rule_parts, F_Rule_most, m_Rule_most, F_Rule_least, m_Rule_least]
          refine ⟨qs, ks2, _, _, _, _, rfl, fun p hp => hq p (List.mem_cons_of_mem _ hp), rfl, nd2, fun x => ?_⟩
          rw [← hk x, List.flatMap_cons, List.mem_append, mem_ends, hk2, hk', or_assoc, or_assoc, or_assoc]
  · rintro ρ ⟨qs, ks, x3, x4, x5, x2, e, hq, rfl, nd, hk⟩
    cases qs with
    | cons _ _ => cases e
    | nil =>
      have hk : ∀ x, x ∈ ks ↔ x ∈ ps.flatMap (Part.ends l m) := fun x => by rw [← hk x, List.flatMap_nil]; simp
      have hr := room ks nd fun x h => (hk x).mp h
      simp -dsimp (disch := first | omega | (simp only [List.length_map, List.length_append, List.length_cons, List.length_nil, rng_length, ranT_len, kd_length]; omega)) only [wO_some, wO_none, wO_if, wO_map, wO_bind, wB_bl, wI_int, wIf_t, wIf_f, wSl_f, wSl_t, wIns_e, wSlf_e, wDic_e, w2_e, wR_nx, wR_rt, wR_bk, wR_ct, wR_ex, wR_bad, sqK_nx, sqK_rt, sqK_bk, sqK_ct, sqK_ex, fnK_nx, fnK_rt, fnK_ex, wE_C, wE_V, wE_L, wE_bin, wE_un, wE_call, wE_it, wE_itA, wE_isa, wE_tst, wE_yes, wE_not, wE_andB, wE_orB, wE_andV, wE_orV, wE_ite, wE_nil, wE_cons, wE_tup, wE_lst, wE_fn, wE_fnF, wE_prop, wE_inst, wE_kw, wE_part, wE_noPart, wE_sl, wE_chain, wE_get2, wE_wget, wE_ps0, wE_ps, wE_disp, wE_om, wE_lc, wE_dr, wO_gN, wO_gTn, wO_gs0, wO_gs, wO_gPut, wS_seq, wS_skip, wS_bk, wS_ct, wS_rtN, wS_no, wS_if, wS_then, wS_asg, wS_par, wS_retV, wS_fld, wS_for, wF_run, setSl_e, blank_e, startT_c, startT_n, startT_0, lpK_nx, lpK_ct, lpK_bk, lpK_rt, lpK_ex, negI_i, notV_b, isT_n, isnT_n, isT_b, isnT_b, ixT_l, ixT_t, sbT_l, sbT_t, sbT_d, atI_0, atI_1, atI_2, atI_3, atI_4, atI_m1, isNon_n, isNon_i, isNon_b, isNon_s, isNon_t, isNon_l, isNon_d, isNon_c, lenF_l, lenF_t, lenF_d, absF_i, intF_i, intF_b, maxF_ii, minF_ii, allF_m, anyF_m, sumF_m, maxF_m, minF_m, sortedF_m, maxF_l2, minF_l2, tupleF_l, tupleF_t, listF_l, listF_t, dictF_d, seqT_l, seqT_t, enF_l, zpF_l, zpF_t, slT_l, slT_t, revF_l, popF_l, putL_i, tyT_l, tyT_d, wgetT_s, tagT_n, tagT_b, tagT_i, tagT_s, tagT_t, tagT_l, tagT_d, keysT_0, keysT_s, keysT_i, eqT_s, neT_s, eqT_sn, eqT_ns, neT_sn, neT_ns, reprF_e, addT_ll, addT_tt, rnF1_i, rnF2_i, apF_l, insF_l, putD_s, putD_i, divmodF_i, intT_yes, intT_mul, intT_mod, intT_div, sizeLine_e, slfW_e, inK_nx, inK_ex, wF_init, wipeL_0, wipeL_c, isaB_1_2_0, isaB_1_2_1, isaB_1_2_2, isaB_1_2_3, isaB_1_2_4, isaB_1_2_5, isaB_1_2_6, isaB_1_0, isaB_1_1, isaB_1_2, isaB_1_3, isaB_1_4, isaB_1_5, isaB_1_6, isaB_3_0, isaB_3_1, isaB_3_2, isaB_3_3, isaB_3_4, isaB_3_5, isaB_3_6, isaB_4_0, isaB_4_1, isaB_4_2, isaB_4_3, isaB_4_4, isaB_4_5, isaB_4_6, isaB_5_0, isaB_5_1, isaB_5_2, isaB_5_3, isaB_5_4, isaB_5_5, isaB_5_6, isaB_6_0, isaB_6_1, isaB_6_2, isaB_6_3, isaB_6_4, isaB_6_5, isaB_6_6, isaB_4_5_0, isaB_4_5_1, isaB_4_5_2, isaB_4_5_3, isaB_4_5_4, isaB_4_5_5, isaB_4_5_6, ranT_len, List.length_map, List.length_append, eqT_i, neT_i, addT_i, List.getElem?_cons_zero, List.getElem?_cons_succ, List.set_cons_zero, List.set_cons_succ, List.length_cons, List.length_nil, Nat.reduceAdd, Nat.reduceLeDiff, Nat.reduceSub, Nat.reduceEqDiff, Nat.zero_add, true_and, and_true, Nat.le_refl, Nat.reduceLT, Nat.zero_le, Bool.not_true, Bool.not_false, reduceCtorEq, and_self, decide_true, decide_false, kGe_ends_of_0_rule, kGe_Rule_init_2_least_most_rise_fall_up_down, fl_Rule_r_parts, pf_Rule_r_parts, fs_Rule_r_parts_0, fs_Rule_r_parts_1, fs_Rule_r_parts_2, fl_Rule_r_bounds, pf_Rule_r_bounds, fs_Rule_r_bounds_1, fs_Rule_r_bounds_2, fl_Rule_r_limits, pf_Rule_r_limits, fs_Rule_r_limits_2, mg_0, dg_0_0, dg_0_1, mg_1, dg_1_0, dg_1_1, dg_1_2, dg_1_3, F_Rule_parts, m_Rule_parts, F_Rule_most, m_Rule_most, F_Rule_least, m_Rule_least, sortedG_kd, sortI_sortU nd hk]
end MPG
end

section
set_option Elab.async false
set_option linter.all false
set_option maxRecDepth 100000
namespace MPG
open PySem PySem.Spec L2 MP
theorem w_end {s : SM} {ρ : Ev} (h : wS s ρ (fun r => ∃ ρ', r = .rt false (.bl true) ρ')) : ∃ ρ', s ρ = .rt false (.bl true) ρ' := by
  unfold wS at h
  cases e : s ρ <;> (rw [e] at h; first | exact h | exact False.elim h)
theorem ends_bound {l m : Int} {ps : List Part} (hp : ∀ p ∈ ps, p.ok) (l0 : 1 ≤ l) (m1 : m ≤ 8) : ∀ x ∈ sortU (ps.flatMap (Part.ends l m)), x.natAbs < 10 ^ 12 := fun x hx => by
  rw [sortU_mem, List.mem_flatMap] at hx
  obtain ⟨p, hpm, hx⟩ := hx
  have hpo := hp p hpm
  have key : ∀ k s : Int, 1 ≤ k → k ≤ 60 → l ≤ s → s ≤ m → (k * s).natAbs < 10 ^ 12 := fun k s h1 h2 h3 h4 => by
    rw [Int.natAbs_mul]
    have a1 : k.natAbs ≤ 60 := by omega
    have a2 : s.natAbs ≤ 8 := by omega
    have := Nat.mul_le_mul a1 a2
    omega
  rcases mem_ends.mp hx with ⟨k, hk, s, s0, s1, rfl⟩ | ⟨k, hk, s, s0, s1, rfl⟩
  · cases p with
    | over a b => obtain ⟨q1, q2, _⟩ := hpo; simp only [Part.marks, List.mem_singleton] at hk; subst hk; exact key _ _ q1 q2 s0 (by omega)
    | under a b => obtain ⟨q1, q2, _⟩ := hpo; simp only [Part.marks, List.mem_singleton] at hk; subst hk; exact key _ _ q1 q2 s0 (by omega)
    | aim a b c =>
      obtain ⟨q1, q2, q3, q4⟩ := hpo
      simp only [Part.marks, List.mem_cons, List.not_mem_nil, or_false] at hk
      rcases hk with rfl | rfl
      · exact key _ _ q1 (by omega) s0 (by omega)
      · exact key _ _ (by omega) q4 s0 (by omega)
  · cases p with
    | over a b => simp only [Part.mid, List.not_mem_nil] at hk
    | under a b => simp only [Part.mid, List.not_mem_nil] at hk
    | aim a b c =>
      obtain ⟨q1, q2, q3, q4⟩ := hpo
      simp only [Part.mid, List.mem_singleton] at hk
      subst hk
      exact key _ _ (by omega) (by omega) s0 (by omega)
theorem sortU_len {L : List Int} : (sortU L).length ≤ L.length := nodup_le (((sortI_perm _).nodup_iff).mpr (onceI_nodup L)) fun x hx => (sortU_mem L x).mp hx
theorem law_run (ns : List Int) (h : Scr ns) : ∃ ρ, m_law (law0 5 ns) = .rt false (.bl true) ρ := by
  apply w_end
  unfold m_law law0
  have hl := h.len
  simp only [List.replicate]
  simp -dsimp (disch := first | omega | (simp only [List.length_map, List.length_append, List.length_cons, List.length_nil, rng_length, ranT_len, kd_length]; omega)) only [wO_some, wO_none, wO_if, wO_map, wO_bind, wB_bl, wI_int, wIf_t, wIf_f, wSl_f, wSl_t, wIns_e, wSlf_e, wDic_e, w2_e, wR_nx, wR_rt, wR_bk, wR_ct, wR_ex, wR_bad, sqK_nx, sqK_rt, sqK_bk, sqK_ct, sqK_ex, fnK_nx, fnK_rt, fnK_ex, wE_C, wE_V, wE_L, wE_bin, wE_un, wE_call, wE_it, wE_itA, wE_isa, wE_tst, wE_yes, wE_not, wE_andB, wE_orB, wE_andV, wE_orV, wE_ite, wE_nil, wE_cons, wE_tup, wE_lst, wE_fn, wE_fnF, wE_prop, wE_inst, wE_kw, wE_part, wE_noPart, wE_sl, wE_chain, wE_get2, wE_wget, wE_ps0, wE_ps, wE_disp, wE_om, wE_lc, wE_dr, wO_gN, wO_gTn, wO_gs0, wO_gs, wO_gPut, wS_seq, wS_skip, wS_bk, wS_ct, wS_rtN, wS_no, wS_if, wS_then, wS_asg, wS_par, wS_retV, wS_fld, wS_for, wF_run, setSl_e, blank_e, startT_c, startT_n, startT_0, lpK_nx, lpK_ct, lpK_bk, lpK_rt, lpK_ex, negI_i, notV_b, isT_n, isnT_n, isT_b, isnT_b, ixT_l, ixT_t, sbT_l, sbT_t, sbT_d, atI_0, atI_1, atI_2, atI_3, atI_4, atI_m1, isNon_n, isNon_i, isNon_b, isNon_s, isNon_t, isNon_l, isNon_d, isNon_c, lenF_l, lenF_t, lenF_d, absF_i, intF_i, intF_b, maxF_ii, minF_ii, allF_m, anyF_m, sumF_m, maxF_m, minF_m, sortedF_m, maxF_l2, minF_l2, tupleF_l, tupleF_t, listF_l, listF_t, dictF_d, seqT_l, seqT_t, enF_l, zpF_l, zpF_t, slT_l, slT_t, revF_l, popF_l, putL_i, tyT_l, tyT_d, wgetT_s, tagT_n, tagT_b, tagT_i, tagT_s, tagT_t, tagT_l, tagT_d, keysT_0, keysT_s, keysT_i, eqT_s, neT_s, eqT_sn, eqT_ns, neT_sn, neT_ns, reprF_e, addT_ll, addT_tt, rnF1_i, rnF2_i, apF_l, insF_l, putD_s, putD_i, divmodF_i, intT_yes, intT_mul, intT_mod, intT_div, sizeLine_e, slfW_e, inK_nx, inK_ex, wF_init, wipeL_0, wipeL_c, isaB_1_2_0, isaB_1_2_1, isaB_1_2_2, isaB_1_2_3, isaB_1_2_4, isaB_1_2_5, isaB_1_2_6, isaB_1_0, isaB_1_1, isaB_1_2, isaB_1_3, isaB_1_4, isaB_1_5, isaB_1_6, isaB_3_0, isaB_3_1, isaB_3_2, isaB_3_3, isaB_3_4, isaB_3_5, isaB_3_6, isaB_4_0, isaB_4_1, isaB_4_2, isaB_4_3, isaB_4_4, isaB_4_5, isaB_4_6, isaB_5_0, isaB_5_1, isaB_5_2, isaB_5_3, isaB_5_4, isaB_5_5, isaB_5_6, isaB_6_0, isaB_6_1, isaB_6_2, isaB_6_3, isaB_6_4, isaB_6_5, isaB_6_6, isaB_4_5_0, isaB_4_5_1, isaB_4_5_2, isaB_4_5_3, isaB_4_5_4, isaB_4_5_5, isaB_4_5_6, ranT_len, List.length_map, List.length_append, eqT_i, neT_i, addT_i, List.getElem?_cons_zero, List.getElem?_cons_succ, List.set_cons_zero, List.set_cons_succ, List.length_cons, List.length_nil, Nat.reduceAdd, Nat.reduceLeDiff, Nat.reduceSub, Nat.reduceEqDiff, Nat.zero_add, true_and, and_true, Nat.le_refl, Nat.reduceLT, Nat.zero_le, Bool.not_true, Bool.not_false, reduceCtorEq, and_self, decide_true, decide_false, kGe_ends_of_0_rule, kGe_Rule_init_2_least_most_rise_fall_up_down, fl_Rule_r_parts, pf_Rule_r_parts, fs_Rule_r_parts_0, fs_Rule_r_parts_1, fs_Rule_r_parts_2, fl_Rule_r_bounds, pf_Rule_r_bounds, fs_Rule_r_bounds_1, fs_Rule_r_bounds_2, fl_Rule_r_limits, pf_Rule_r_limits, fs_Rule_r_limits_2, mg_0, dg_0_0, dg_0_1, mg_1, dg_1_0, dg_1_1, dg_1_2, dg_1_3, F_Rule_parts, m_Rule_parts, F_Rule_most, m_Rule_most, F_Rule_least, m_Rule_least]
  refine w_forR0 (fun i ρ => ∃ (x2 x3 x4 x5 x6 : Option (Bool × T)) (d : DS), ρ = ⟨[some (false, .lst (ns.map T.int)), some (false, .drw), x2, x3, x4, x5, x6], d⟩ ∧ Dk d (40 * (26 - i.toNat))) (by omega) ?_ ?_ ?_
  · exact ⟨none, none, none, none, none, dr0 ns, rfl, dr0_ok h, by show (0 : Int) + _ ≤ _; omega⟩
  · rintro i ρ i0 i1 ⟨x2, x3, x4, x5, x6, d, rfl, hd⟩
    have hd2 : Dk d (40 * (26 - (i + 1).toNat) + 40) := hd.less (by omega)
    obtain ⟨l, m, r, f, ts, u, n, d1, l0, l1, m1, hr, hf, hg, hln, u0, u1, n0, n1, hd3, e1⟩ := case_law hd2
    obtain ⟨ps, hp, rfl⟩ := gp_parts hg
    rw [List.length_map] at hln
    have e2 := rule_law (d := d1) hg (by rw [List.length_map]; exact hln) l0 l1 m1 hr hf u0 u1 n0 n1
    have e3 := due_law (d := d1) (r := r) (f := f) (u := u) (n := n) hp hln l0 l1 m1
    have e4 := ends_law (d := d1) (r := r) (f := f) (u := u) (n := n) hp hln l0 l1 m1
    have hlen := ends_len (ps := ps) l0 m1
    have hlen2 := sortU_len (L := ps.flatMap (Part.ends l m))
    have hs := shT_ints (ends_bound hp l0 m1) (by omega)
    generalize sortU (ps.flatMap (Part.ends l m)) = E at e3 e4 hlen2 hs
    have eq : neT (.lst (E.map T.int)) (.lst (E.map T.int)) = some (.bl false) := by
      rw [neT_d rfl dat_ints dat_ints, eqB_refl dat_ints]
      rfl
    simp -dsimp (disch := first | omega | (simp only [List.length_map, List.length_append, List.length_cons, List.length_nil, rng_length, ranT_len, kd_length]; omega)) only [wO_some, wO_none, wO_if, wO_map, wO_bind, wB_bl, wI_int, wIf_t, wIf_f, wSl_f, wSl_t, wIns_e, wSlf_e, wDic_e, w2_e, wR_nx, wR_rt, wR_bk, wR_ct, wR_ex, wR_bad, sqK_nx, sqK_rt, sqK_bk, sqK_ct, sqK_ex, fnK_nx, fnK_rt, fnK_ex, wE_C, wE_V, wE_L, wE_bin, wE_un, wE_call, wE_it, wE_itA, wE_isa, wE_tst, wE_yes, wE_not, wE_andB, wE_orB, wE_andV, wE_orV, wE_ite, wE_nil, wE_cons, wE_tup, wE_lst, wE_fn, wE_fnF, wE_prop, wE_inst, wE_kw, wE_part, wE_noPart, wE_sl, wE_chain, wE_get2, wE_wget, wE_ps0, wE_ps, wE_disp, wE_om, wE_lc, wE_dr, wO_gN, wO_gTn, wO_gs0, wO_gs, wO_gPut, wS_seq, wS_skip, wS_bk, wS_ct, wS_rtN, wS_no, wS_if, wS_then, wS_asg, wS_par, wS_retV, wS_fld, wS_for, wF_run, setSl_e, blank_e, startT_c, startT_n, startT_0, lpK_nx, lpK_ct, lpK_bk, lpK_rt, lpK_ex, negI_i, notV_b, isT_n, isnT_n, isT_b, isnT_b, ixT_l, ixT_t, sbT_l, sbT_t, sbT_d, atI_0, atI_1, atI_2, atI_3, atI_4, atI_m1, isNon_n, isNon_i, isNon_b, isNon_s, isNon_t, isNon_l, isNon_d, isNon_c, lenF_l, lenF_t, lenF_d, absF_i, intF_i, intF_b, maxF_ii, minF_ii, allF_m, anyF_m, sumF_m, maxF_m, minF_m, sortedF_m, maxF_l2, minF_l2, tupleF_l, tupleF_t, listF_l, listF_t, dictF_d, seqT_l, seqT_t, enF_l, zpF_l, zpF_t, slT_l, slT_t, revF_l, popF_l, putL_i, tyT_l, tyT_d, wgetT_s, tagT_n, tagT_b, tagT_i, tagT_s, tagT_t, tagT_l, tagT_d, keysT_0, keysT_s, keysT_i, eqT_s, neT_s, eqT_sn, eqT_ns, neT_sn, neT_ns, reprF_e, addT_ll, addT_tt, rnF1_i, rnF2_i, apF_l, insF_l, putD_s, putD_i, divmodF_i, intT_yes, intT_mul, intT_mod, intT_div, sizeLine_e, slfW_e, inK_nx, inK_ex, wF_init, wipeL_0, wipeL_c, isaB_1_2_0, isaB_1_2_1, isaB_1_2_2, isaB_1_2_3, isaB_1_2_4, isaB_1_2_5, isaB_1_2_6, isaB_1_0, isaB_1_1, isaB_1_2, isaB_1_3, isaB_1_4, isaB_1_5, isaB_1_6, isaB_3_0, isaB_3_1, isaB_3_2, isaB_3_3, isaB_3_4, isaB_3_5, isaB_3_6, isaB_4_0, isaB_4_1, isaB_4_2, isaB_4_3, isaB_4_4, isaB_4_5, isaB_4_6, isaB_5_0, isaB_5_1, isaB_5_2, isaB_5_3, isaB_5_4, isaB_5_5, isaB_5_6, isaB_6_0, isaB_6_1, isaB_6_2, isaB_6_3, isaB_6_4, isaB_6_5, isaB_6_6, isaB_4_5_0, isaB_4_5_1, isaB_4_5_2, isaB_4_5_3, isaB_4_5_4, isaB_4_5_5, isaB_4_5_6, ranT_len, List.length_map, List.length_append, eqT_i, neT_i, addT_i, List.getElem?_cons_zero, List.getElem?_cons_succ, List.set_cons_zero, List.set_cons_succ, List.length_cons, List.length_nil, Nat.reduceAdd, Nat.reduceLeDiff, Nat.reduceSub, Nat.reduceEqDiff, Nat.zero_add, true_and, and_true, Nat.le_refl, Nat.reduceLT, Nat.zero_le, Bool.not_true, Bool.not_false, reduceCtorEq, and_self, decide_true, decide_false, kGe_ends_of_0_rule, kGe_Rule_init_2_least_most_rise_fall_up_down, fl_Rule_r_parts, pf_Rule_r_parts, fs_Rule_r_parts_0, fs_Rule_r_parts_1, fs_Rule_r_parts_2, fl_Rule_r_bounds, pf_Rule_r_bounds, fs_Rule_r_bounds_1, fs_Rule_r_bounds_2, fl_Rule_r_limits, pf_Rule_r_limits, fs_Rule_r_limits_2, mg_0, dg_0_0, dg_0_1, mg_1, dg_1_0, dg_1_1, dg_1_2, dg_1_3, F_Rule_parts, m_Rule_parts, F_Rule_most, m_Rule_most, F_Rule_least, m_Rule_least, wF_of e1, wF_of e2, wF_of e3, wF_of e4, hs, eq]
    exact ⟨_, _, _, _, _, d1, rfl, hd3⟩
  · rintro ρ ⟨x2, x3, x4, x5, x6, d, rfl, hd⟩
    simp -dsimp (disch := first | omega | (simp only [List.length_map, List.length_append, List.length_cons, List.length_nil, rng_length, ranT_len, kd_length]; omega)) only [wO_some, wO_none, wO_if, wO_map, wO_bind, wB_bl, wI_int, wIf_t, wIf_f, wSl_f, wSl_t, wIns_e, wSlf_e, wDic_e, w2_e, wR_nx, wR_rt, wR_bk, wR_ct, wR_ex, wR_bad, sqK_nx, sqK_rt, sqK_bk, sqK_ct, sqK_ex, fnK_nx, fnK_rt, fnK_ex, wE_C, wE_V, wE_L, wE_bin, wE_un, wE_call, wE_it, wE_itA, wE_isa, wE_tst, wE_yes, wE_not, wE_andB, wE_orB, wE_andV, wE_orV, wE_ite, wE_nil, wE_cons, wE_tup, wE_lst, wE_fn, wE_fnF, wE_prop, wE_inst, wE_kw, wE_part, wE_noPart, wE_sl, wE_chain, wE_get2, wE_wget, wE_ps0, wE_ps, wE_disp, wE_om, wE_lc, wE_dr, wO_gN, wO_gTn, wO_gs0, wO_gs, wO_gPut, wS_seq, wS_skip, wS_bk, wS_ct, wS_rtN, wS_no, wS_if, wS_then, wS_asg, wS_par, wS_retV, wS_fld, wS_for, wF_run, setSl_e, blank_e, startT_c, startT_n, startT_0, lpK_nx, lpK_ct, lpK_bk, lpK_rt, lpK_ex, negI_i, notV_b, isT_n, isnT_n, isT_b, isnT_b, ixT_l, ixT_t, sbT_l, sbT_t, sbT_d, atI_0, atI_1, atI_2, atI_3, atI_4, atI_m1, isNon_n, isNon_i, isNon_b, isNon_s, isNon_t, isNon_l, isNon_d, isNon_c, lenF_l, lenF_t, lenF_d, absF_i, intF_i, intF_b, maxF_ii, minF_ii, allF_m, anyF_m, sumF_m, maxF_m, minF_m, sortedF_m, maxF_l2, minF_l2, tupleF_l, tupleF_t, listF_l, listF_t, dictF_d, seqT_l, seqT_t, enF_l, zpF_l, zpF_t, slT_l, slT_t, revF_l, popF_l, putL_i, tyT_l, tyT_d, wgetT_s, tagT_n, tagT_b, tagT_i, tagT_s, tagT_t, tagT_l, tagT_d, keysT_0, keysT_s, keysT_i, eqT_s, neT_s, eqT_sn, eqT_ns, neT_sn, neT_ns, reprF_e, addT_ll, addT_tt, rnF1_i, rnF2_i, apF_l, insF_l, putD_s, putD_i, divmodF_i, intT_yes, intT_mul, intT_mod, intT_div, sizeLine_e, slfW_e, inK_nx, inK_ex, wF_init, wipeL_0, wipeL_c, isaB_1_2_0, isaB_1_2_1, isaB_1_2_2, isaB_1_2_3, isaB_1_2_4, isaB_1_2_5, isaB_1_2_6, isaB_1_0, isaB_1_1, isaB_1_2, isaB_1_3, isaB_1_4, isaB_1_5, isaB_1_6, isaB_3_0, isaB_3_1, isaB_3_2, isaB_3_3, isaB_3_4, isaB_3_5, isaB_3_6, isaB_4_0, isaB_4_1, isaB_4_2, isaB_4_3, isaB_4_4, isaB_4_5, isaB_4_6, isaB_5_0, isaB_5_1, isaB_5_2, isaB_5_3, isaB_5_4, isaB_5_5, isaB_5_6, isaB_6_0, isaB_6_1, isaB_6_2, isaB_6_3, isaB_6_4, isaB_6_5, isaB_6_6, isaB_4_5_0, isaB_4_5_1, isaB_4_5_2, isaB_4_5_3, isaB_4_5_4, isaB_4_5_5, isaB_4_5_6, ranT_len, List.length_map, List.length_append, eqT_i, neT_i, addT_i, List.getElem?_cons_zero, List.getElem?_cons_succ, List.set_cons_zero, List.set_cons_succ, List.length_cons, List.length_nil, Nat.reduceAdd, Nat.reduceLeDiff, Nat.reduceSub, Nat.reduceEqDiff, Nat.zero_add, true_and, and_true, Nat.le_refl, Nat.reduceLT, Nat.zero_le, Bool.not_true, Bool.not_false, reduceCtorEq, and_self, decide_true, decide_false, kGe_ends_of_0_rule, kGe_Rule_init_2_least_most_rise_fall_up_down, fl_Rule_r_parts, pf_Rule_r_parts, fs_Rule_r_parts_0, fs_Rule_r_parts_1, fs_Rule_r_parts_2, fl_Rule_r_bounds, pf_Rule_r_bounds, fs_Rule_r_bounds_1, fs_Rule_r_bounds_2, fl_Rule_r_limits, pf_Rule_r_limits, fs_Rule_r_limits_2, mg_0, dg_0_0, dg_0_1, mg_1, dg_1_0, dg_1_1, dg_1_2, dg_1_3, F_Rule_parts, m_Rule_parts, F_Rule_most, m_Rule_most, F_Rule_least, m_Rule_least]
    exact ⟨_, rfl⟩
end MPG
end

section
set_option Elab.async false
set_option linter.all false
set_option maxRecDepth 100000
set_option maxHeartbeats 4000000
namespace MPG
open PySem PySem.Spec L2 MP
/-! the head -/
def kv_tab_SIZES : List (Str × He.Dv) := [("over", .int 3), ("under", .int 3), ("aim", .int 4)]
abbrev dm_law_begin : DefM := ⟨fun K => (He.ga K "_law_begin"), "_law_begin", "_law_begin", defArgs st_law_begin, defBody st_law_begin, defScope st_law_begin, [], []⟩
abbrev dm_Rule_parts : DefM := ⟨fun K => (gtA K "Rule" "parts"), "parts", "Rule.parts", defArgs st_Rule_parts, defBody st_Rule_parts, defScope st_Rule_parts, [], []⟩
abbrev dm_Rule_most : DefM := ⟨fun K => (gtA K "Rule" "most"), "most", "Rule.most", defArgs st_Rule_most, defBody st_Rule_most, defScope st_Rule_most, [], []⟩
abbrev dm_Rule_least : DefM := ⟨fun K => (gtA K "Rule" "least"), "least", "Rule.least", defArgs st_Rule_least, defBody st_Rule_least, defScope st_Rule_least, [], []⟩
abbrev dm_marks_of : DefM := ⟨fun K => (He.ga K "marks_of"), "marks_of", "marks_of", defArgs st_marks_of, defBody st_marks_of, defScope st_marks_of, [], []⟩
abbrev dm_ends_of : DefM := ⟨fun K => (He.ga K "ends_of"), "ends_of", "ends_of", defArgs st_ends_of, defBody st_ends_of, defScope st_ends_of, [], []⟩
abbrev dm_law_due : DefM := ⟨fun K => (He.ga K "_law_due"), "_law_due", "_law_due", defArgs st_law_due, defBody st_law_due, defScope st_law_due, [], []⟩
abbrev dm_is_integer : DefM := ⟨fun K => (He.ga K "is_integer"), "is_integer", "is_integer", defArgs st_is_integer, defBody st_is_integer, defScope st_is_integer, [], []⟩
abbrev dm_is_between : DefM := ⟨fun K => (He.ga K "is_between"), "is_between", "is_between", defArgs st_is_between, defBody st_is_between, defScope st_is_between, [], []⟩
abbrev dm_is_limit : DefM := ⟨fun K => (He.ga K "is_limit"), "is_limit", "is_limit", defArgs st_is_limit, defBody st_is_limit, defScope st_is_limit, [], []⟩
abbrev dm_need_limits : DefM := ⟨fun K => (He.ga K "need_limits"), "need_limits", "need_limits", defArgs st_need_limits, defBody st_need_limits, defScope st_need_limits, [], []⟩
abbrev dm_is_part : DefM := ⟨fun K => (He.ga K "is_part"), "is_part", "is_part", defArgs st_is_part, defBody st_is_part, defScope st_is_part, [], []⟩
abbrev dm_are_parts : DefM := ⟨fun K => (He.ga K "are_parts"), "are_parts", "are_parts", defArgs st_are_parts, defBody st_are_parts, defScope st_are_parts, [], []⟩
abbrev dm_Rule_init : DefM := ⟨fun K => (He.ma K (He.ga K "Rule") "__init__"), "__init__", "Rule.__init__", defArgs st_Rule_init, defBody st_Rule_init, defScope st_Rule_init, [], [("least", .int 1), ("most", .int 8), ("rise", .non), ("fall", .non), ("up", .int 1), ("down", .int 1)]⟩
abbrev dm_law_rule : DefM := ⟨fun K => (He.ga K "_law_rule"), "_law_rule", "_law_rule", defArgs st_law_rule, defBody st_law_rule, defScope st_law_rule, [], []⟩
abbrev dm_law_take : DefM := ⟨fun K => (He.ga K "_law_take"), "_law_take", "_law_take", defArgs st_law_take, defBody st_law_take, defScope st_law_take, [], []⟩
abbrev dm_law_pick : DefM := ⟨fun K => (He.ga K "_law_pick"), "_law_pick", "_law_pick", defArgs st_law_pick, defBody st_law_pick, defScope st_law_pick, [], []⟩
abbrev dm_law_part : DefM := ⟨fun K => (He.ga K "_law_part"), "_law_part", "_law_part", defArgs st_law_part, defBody st_law_part, defScope st_law_part, [], []⟩
abbrev dm_law_case : DefM := ⟨fun K => (He.ga K "_law_case"), "_law_case", "_law_case", defArgs st_law_case, defBody st_law_case, defScope st_law_case, [], []⟩
abbrev dm_law : DefM := ⟨fun K => (He.ga K "law"), "law", "law", defArgs st_law, defBody st_law, defScope st_law, [], []⟩
def faL : List He.Fa := [.glo "law", .glo "_law_begin", .free "abs", .free "list", .free "len", .free "min", .free "range", .free "sorted", .free "set", .cls "Rule", .noat "Rule" "r_parts", .noat "Rule" "r_bounds", .glo "marks_of", .glo "ends_of", .free "repr", .free "isinstance", .glo "_law_due", .noat "Rule" "r_limits", .free "tuple", .free "bool", .free "int", .glo "is_integer", .int "LONGEST_WINDOW" 3, .glo "is_between", .int "MOST_SERVERS" 8, .glo "is_limit", .glo "need_limits", .int "HIGHEST_MARK" 60, .free "all", .glo "SIZES", .free "str", .glo "is_part", .int "MOST_PARTS" 4, .glo "are_parts", .mkr "Rule", .glo "Rule", .glo "_law_rule", .free "divmod", .glo "_law_take", .glo "_law_pick", .glo "_law_part", .glo "_law_case"]
def fmL : List DefM := [dm_law_begin, dm_Rule_parts, dm_Rule_most, dm_Rule_least, dm_marks_of, dm_ends_of, dm_law_due, dm_is_integer, dm_is_between, dm_is_limit, dm_need_limits, dm_is_part, dm_are_parts, dm_Rule_init, dm_law_rule, dm_law_take, dm_law_pick, dm_law_part, dm_law_case, dm_law]
def tsL : List He.Tab := [((fun K => He.ga K "SIZES"), ["over", "under", "aim"])]
def exL (K : PySem.W.Frag) : List Bool := [propB K "Rule" "parts", propB K "Rule" "most", propB K "Rule" "least", He.valsB K (He.ga K "SIZES") kv_tab_SIZES]
theorem fc_of {w0 : World} {K : PySem.W.Frag} {h : Heap} {mg : Str → Option Value} (X : K.In h) (G : h.Ns mainGlobals mg) (c : SaysM faL fmL tsL (fun K => (exL K).all id) w0 K) : Fc w0 K mg where
  g_law := He.glo_ok X G (c.faAt 0 rfl)
  g_law_begin := He.glo_ok X G (c.faAt 1 rfl)
  n_abs := He.free_ok X G (c.faAt 2 rfl)
  n_list := He.free_ok X G (c.faAt 3 rfl)
  n_len := He.free_ok X G (c.faAt 4 rfl)
  n_min := He.free_ok X G (c.faAt 5 rfl)
  n_range := He.free_ok X G (c.faAt 6 rfl)
  n_sorted := He.free_ok X G (c.faAt 7 rfl)
  n_set := He.free_ok X G (c.faAt 8 rfl)
  cls_Rule := He.cls_ok (c.faAt 9 rfl)
  na_Rule_r_parts := He.noat_ok (c.faAt 10 rfl)
  pr_Rule_parts := propB_ok (c.exAt 0 rfl)
  na_Rule_r_bounds := He.noat_ok (c.faAt 11 rfl)
  pr_Rule_most := propB_ok (c.exAt 1 rfl)
  pr_Rule_least := propB_ok (c.exAt 2 rfl)
  g_marks_of := He.glo_ok X G (c.faAt 12 rfl)
  g_ends_of := He.glo_ok X G (c.faAt 13 rfl)
  n_repr := He.free_ok X G (c.faAt 14 rfl)
  n_isinstance := He.free_ok X G (c.faAt 15 rfl)
  g_law_due := He.glo_ok X G (c.faAt 16 rfl)
  na_Rule_r_limits := He.noat_ok (c.faAt 17 rfl)
  n_tuple := He.free_ok X G (c.faAt 18 rfl)
  n_bool := He.free_ok X G (c.faAt 19 rfl)
  n_int := He.free_ok X G (c.faAt 20 rfl)
  g_is_integer := He.glo_ok X G (c.faAt 21 rfl)
  i_LONGEST_WINDOW := He.int_ok X G (c.faAt 22 rfl)
  g_is_between := He.glo_ok X G (c.faAt 23 rfl)
  i_MOST_SERVERS := He.int_ok X G (c.faAt 24 rfl)
  g_is_limit := He.glo_ok X G (c.faAt 25 rfl)
  g_need_limits := He.glo_ok X G (c.faAt 26 rfl)
  i_HIGHEST_MARK := He.int_ok X G (c.faAt 27 rfl)
  n_all := He.free_ok X G (c.faAt 28 rfl)
  tab_SIZES := wtab_of (w := wd K) (kvs := kv_tab_SIZES) (c.tsAt 0 rfl) (c.exAt 3 rfl) (by decide)
  g_SIZES := He.glo_ok X G (c.faAt 29 rfl)
  n_str := He.free_ok X G (c.faAt 30 rfl)
  g_is_part := He.glo_ok X G (c.faAt 31 rfl)
  i_MOST_PARTS := He.int_ok X G (c.faAt 32 rfl)
  g_are_parts := He.glo_ok X G (c.faAt 33 rfl)
  mk_Rule := He.mkr_ok (c.faAt 34 rfl)
  g_Rule := He.glo_ok X G (c.faAt 35 rfl)
  g_law_rule := He.glo_ok X G (c.faAt 36 rfl)
  n_divmod := He.free_ok X G (c.faAt 37 rfl)
  g_law_take := He.glo_ok X G (c.faAt 38 rfl)
  g_law_pick := He.glo_ok X G (c.faAt 39 rfl)
  g_law_part := He.glo_ok X G (c.faAt 40 rfl)
  g_law_case := He.glo_ok X G (c.faAt 41 rfl)
  fd_law_begin := c.fmAt 0 (d := dm_law_begin) rfl
  fd_Rule_parts := c.fmAt 1 (d := dm_Rule_parts) rfl
  fd_Rule_most := c.fmAt 2 (d := dm_Rule_most) rfl
  fd_Rule_least := c.fmAt 3 (d := dm_Rule_least) rfl
  fd_marks_of := c.fmAt 4 (d := dm_marks_of) rfl
  fd_ends_of := c.fmAt 5 (d := dm_ends_of) rfl
  fd_law_due := c.fmAt 6 (d := dm_law_due) rfl
  fd_is_integer := c.fmAt 7 (d := dm_is_integer) rfl
  fd_is_between := c.fmAt 8 (d := dm_is_between) rfl
  fd_is_limit := c.fmAt 9 (d := dm_is_limit) rfl
  fd_need_limits := c.fmAt 10 (d := dm_need_limits) rfl
  fd_is_part := c.fmAt 11 (d := dm_is_part) rfl
  fd_are_parts := c.fmAt 12 (d := dm_are_parts) rfl
  fd_Rule_init := c.fmAt 13 (d := dm_Rule_init) rfl
  fd_law_rule := c.fmAt 14 (d := dm_law_rule) rfl
  fd_law_take := c.fmAt 15 (d := dm_law_take) rfl
  fd_law_pick := c.fmAt 16 (d := dm_law_pick) rfl
  fd_law_part := c.fmAt 17 (d := dm_law_part) rfl
  fd_law_case := c.fmAt 18 (d := dm_law_case) rfl
  fd_law := c.fmAt 19 (d := dm_law) rfl
abbrev R : PySem.W.OpenRow := PySem.W.OpenLaw.row PySem.Challenge.rw_allloads_k20_ends_of_rules
abbrev hk : PySem.W.Hook := hookM 6 faL fmL tsL (fun K => (exL K).all id)
def ob (s : PySem.W.SharedT) : AlM := obsMG 6 faL fmL tsL (fun K => (exL K).all id) (HandSHeadRun.getT s)
theorem ob_eq (s : PySem.W.SharedT) : ob s = hk.obs s.abs := obsMG_eq (HandSHeadRun.getT_eq s)
set_option maxHeartbeats 0 in
theorem run0 (b : Bool) (w : World) : HandSHeadRun.RunEq R (PySem.W.view R.prog [10, 11, 12, 13, 30]) hk ob 4000 ["LoadError", "BadRule", "NoPlace", "is_integer", "marks_of", "ends_of", "SIZES", "is_between", "is_part", "are_parts", "is_limit", "need_limits", "raised", "Rule", "_law_begin", "_law_take", "_law_pick", "_law_part", "_law_case", "_law_rule", "_law_due"] (w.withFollow "special-get-raises" b) := by
  intro os
  cases b <;> kernel_rfl
theorem run (w : World) : HandSHeadRun.RunEq R (PySem.W.view R.prog [10, 11, 12, 13, 30]) hk ob 4000 ["LoadError", "BadRule", "NoPlace", "is_integer", "marks_of", "ends_of", "SIZES", "is_between", "is_part", "are_parts", "is_limit", "need_limits", "raised", "Rule", "_law_begin", "_law_take", "_law_pick", "_law_part", "_law_case", "_law_rule", "_law_due"] w := by
  have := run0 (w.params.followText "special-get-raises") w
  rwa [PySem.World.withFollow_self] at this
end MPG
open PySem PySem.W PySem.Calls PyProof.Rows
set_option maxHeartbeats 0 in
theorem law_holds (hm : ∀ ns, MP.Scr ns → ∃ ρ, MPG.m_law (MP.law0 5 ns) = .rt false (.bl true) ρ) : PySem.Challenge.rw_allloads_k20_ends_of_rules.Holds := by
  w_on; o_law
  refine HandSHeadRun.head_any (r := OpenLaw.row PySem.Challenge.rw_allloads_k20_ends_of_rules) (q := view (OpenLaw.row PySem.Challenge.rw_allloads_k20_ends_of_rules).prog [10, 11, 12, 13, 30]) (H := MPG.hk) (ob := MPG.ob) (M := 4000) (loose := ["LoadError", "BadRule", "NoPlace", "is_integer", "marks_of", "ends_of", "SIZES", "is_between", "is_part", "are_parts", "is_limit", "need_limits", "raised", "Rule", "_law_begin", "_law_take", "_law_pick", "_law_part", "_law_case", "_law_rule", "_law_due"]) (d := HandSHeadRun.topDef (OpenLaw.row PySem.Challenge.rw_allloads_k20_ends_of_rules).prog 30) (kwd := []) MPG.ob_eq
    (by kernel_rfl) (fun s => by kernel_rfl) MPG.run (by kernel_rfl) (by kernel_rfl) (by kernel_rfl) (by rfl) (by first | assumption | decide +kernel) (by decide +kernel) ⟨rfl, rfl, rfl, rfl, rfl, by decide +kernel⟩ ?hw ?hc
  case hw => w_witness2
  case hc =>
    refine MPL.walk_ofG (l := PySem.Challenge.rw_allloads_k20_ends_of_rules) (n := 63) (k := 9) (x := "_law_script") (CX := fun w => L2.CX (PySem.Challenge.rw_allloads_k20_ends_of_rules).prog w) rfl (by decide) (by kernel_rfl) ⟨⟨rfl, by decide, by decide⟩, rfl⟩ ?F ?cx
    case cx => exact MPL.no_cx
    intro w mg fa h Y G hmg0
    obtain ⟨K, KX, c⟩ := Y
    have hmg : mg ("law" : PySem.Str) = some (.ref fa) := by
      have e : (HandSHeadRun.topDef (OpenLaw.row PySem.Challenge.rw_allloads_k20_ends_of_rules).prog 30).name = ("law" : PySem.Str) := by kernel_rfl
      rw [← e]
      exact hmg0
    have C := MPG.fc_of KX G c
    have e := hmg.symm.trans C.g_law
    cases e
    obtain ⟨fd, F⟩ := C.fd_law
    exact ⟨K, fd, MP.spLaw (MPG.wd K), KX, (MPG.ok_law (P := (PySem.Challenge.rw_allloads_k20_ends_of_rules).prog) (base := h) hm C F).2, fun H a ns hl hb hS => ⟨a, ns, rfl, hS, ⟨hl, hb⟩, fun _ => rfl⟩, fun base hB hG => (MPG.ok_law (P := (PySem.Challenge.rw_allloads_k20_ends_of_rules).prog) (base := base) hm C F).1⟩
end

set_option maxRecDepth 100000 in
theorem PySem.Challenge.cw_allloads_k20_ends_of_rules_holds : PySem.Challenge.rw_allloads_k20_ends_of_rules.Holds := by
  exact law_holds MPG.law_run
