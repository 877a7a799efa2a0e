import PyProof.Rows.All
import Wide.All
import OpenK.AllK
import Wide.FinOn
import HandS.ForMost
import HandS.IsInst
import HandS.TupAny
import HandS.Conv
import HandS.Wide
import HandS.SortInts
import HandS.RaiseMore
import PySem.Challenge.RW_everyround_k61_shapes_of_sum_trees
set_option Elab.async false
set_option linter.all false
set_option maxRecDepth 100000
set_option maxHeartbeats 1000000
/-! A layer of my own over HandS: data as trees (D), mutable objects by number (O), programs as plain functions of them. -/
namespace Mo
open PySem L2

/-- data: scalars, tuples and lists by value, mutable objects by their number -/
inductive D where
  | non | bl (b : Bool) | int (i : Int) | str (x : Str) | ty (n : String) | adr (a : Addr) | ref (n : Nat) | tup (l : List D) | lst (l : List D) | kl (l : List D)
mutual
def D.beq : D → D → Bool
  | .non, .non => true
  | .bl a, .bl b => a == b
  | .int i, .int j => decide (i = j)
  | .str x, .str y => decide (x = y)
  | .ty x, .ty y => decide (x = y)
  | .adr x, .adr y => decide (x = y)
  | .ref x, .ref y => decide (x = y)
  | .tup l, .tup m => D.beqs l m
  | .lst l, .lst m => D.beqs l m
  | .kl l, .kl m => D.beqs l m
  | _, _ => false
def D.beqs : List D → List D → Bool
  | [], [] => true
  | x :: l, y :: m => D.beq x y && D.beqs l m
  | _, _ => false
end
mutual
theorem D.beq_eq : ∀ (x y : D), D.beq x y = true → x = y
  | .non, y, h => by cases y <;> simp [D.beq] at h <;> rfl
  | .bl a, y, h => by cases y <;> simp [D.beq] at h; rw [h]
  | .int a, y, h => by cases y <;> simp [D.beq] at h; rw [h]
  | .str a, y, h => by cases y <;> simp [D.beq] at h; rw [h]
  | .ty a, y, h => by cases y <;> simp [D.beq] at h; rw [h]
  | .adr a, y, h => by cases y <;> simp [D.beq] at h; rw [h]
  | .ref a, y, h => by cases y <;> simp [D.beq] at h; rw [h]
  | .tup l, y, h => by
    cases y <;> simp [D.beq] at h
    rw [D.beqs_eq l _ h]
  | .lst l, y, h => by
    cases y <;> simp [D.beq] at h
    rw [D.beqs_eq l _ h]
  | .kl l, y, h => by
    cases y <;> simp [D.beq] at h
    rw [D.beqs_eq l _ h]
theorem D.beqs_eq : ∀ (x y : List D), D.beqs x y = true → x = y
  | [], y, h => by cases y <;> simp [D.beqs] at h; rfl
  | x :: l, y, h => by
    cases y with
    | nil => simp [D.beqs] at h
    | cons y m =>
      simp [D.beqs] at h
      rw [D.beq_eq x y h.1, D.beqs_eq l m h.2]
end
mutual
theorem D.beq_refl : ∀ (x : D), D.beq x x = true
  | .non => rfl
  | .bl a => by simp [D.beq]
  | .int a => by simp [D.beq]
  | .str a => by simp [D.beq]
  | .ty a => by simp [D.beq]
  | .adr a => by simp [D.beq]
  | .ref a => by simp [D.beq]
  | .tup l => by rw [D.beq]; exact D.beqs_refl l
  | .lst l => by rw [D.beq]; exact D.beqs_refl l
  | .kl l => by rw [D.beq]; exact D.beqs_refl l
theorem D.beqs_refl : ∀ (x : List D), D.beqs x x = true
  | [] => rfl
  | x :: l => by rw [D.beqs, D.beq_refl x, D.beqs_refl l]; rfl
end
instance : DecidableEq D := fun x y => if h : D.beq x y = true then isTrue (D.beq_eq x y h) else isFalse fun e => h (e ▸ D.beq_refl x)

/-- a mutable object; gone: no longer one's own -/
inductive O where
  | gone | lst (l : List D) | dct (l : List (Key × D)) | ins (C : Addr) (fs : List (Str × D))
  deriving DecidableEq

/-- the ground: addresses that others hold as mutable, where one's own objects stand, these objects, the abstract heap -/
structure G where
  N : Addr → Prop
  ρ : Nat → Addr
  S : List O
  H : Hp
def G.Live (g : G) (a : Addr) : Prop := ∃ i o, g.S[i]? = some o ∧ o ≠ .gone ∧ g.ρ i = a
def G.Pr (g : G) (a : Addr) : Prop := ¬ g.N a ∧ ¬ g.Live a

def H0 : Hp := fun _ => none
def gT (K : PySem.W.Frag) (g : G) (a : Addr) (vs : List V) : Prop := (Rd g.H a (.tup vs) ∧ g.Pr a) ∨ SqT K H0 a vs
def gL (g : G) (a : Addr) (vs : List V) : Prop := Rd g.H a (.lst vs) ∧ g.Pr a
def gK (K : PySem.W.Frag) (g : G) (a : Addr) (vs : List V) : Prop := gL g a vs ∨ SqL K H0 a vs
theorem not_rd0 {a : Addr} {u : HO} (h : Rd H0 a u) : False := by
  rcases h with h | ⟨o, h⟩ <;> cases h
theorem gT.sq {K : PySem.W.Frag} {g : G} {a : Addr} {vs : List V} (h : gT K g a vs) : SqT K g.H a vs := by
  rcases h with ⟨h, _⟩ | h | h
  · exact .inl h
  · exact (not_rd0 h).elim
  · exact .inr h
theorem gL.sq {K : PySem.W.Frag} {g : G} {a : Addr} {vs : List V} (h : gL g a vs) : SqL K g.H a vs := .inl h.1
theorem gK.sq {K : PySem.W.Frag} {g : G} {a : Addr} {vs : List V} (h : gK K g a vs) : SqL K g.H a vs := by
  rcases h with ⟨h, _⟩ | h | h
  · exact .inl h
  · exact (not_rd0 h).elim
  · exact .inr h

mutual
/-- the data d stands as the value v -/
def RD (K : PySem.W.Frag) (g : G) : D → V → Prop
  | .non, v => v = .non
  | .bl b, v => v = .bl b
  | .int i, v => v = .int i
  | .str x, v => v = .str x
  | .ty n, v => v = .ty n
  | .adr a, v => v = .ref a
  | .ref n, v => n < g.S.length ∧ v = .ref (g.ρ n)
  | .tup l, v => ∃ a vs, v = .ref a ∧ gT K g a vs ∧ RDs K g l vs
  | .lst l, v => ∃ a vs, v = .ref a ∧ gL g a vs ∧ RDs K g l vs
  | .kl l, v => ∃ a vs, v = .ref a ∧ gK K g a vs ∧ RDs K g l vs
def RDs (K : PySem.W.Frag) (g : G) : List D → List V → Prop
  | [], vs => vs = []
  | d :: l, vs => ∃ v r, vs = v :: r ∧ RD K g d v ∧ RDs K g l r
end
/-- pairs with the same first parts -/
def RPs (K : PySem.W.Frag) (g : G) {α : Type} : List (α × D) → List (α × V) → Prop
  | [], vs => vs = []
  | (k, d) :: l, vs => ∃ v r, vs = (k, v) :: r ∧ RD K g d v ∧ RPs K g l r
def RO (K : PySem.W.Frag) (g : G) : O → Addr → Prop
  | .gone, _ => True
  | .lst l, a => ∃ vs, g.H a = some (.lst vs) ∧ RDs K g l vs
  | .dct l, a => ∃ vs, g.H a = some (.dK vs) ∧ RPs K g l vs
  | .ins C l, a => ∃ dx vs, g.H a = some (.ins C dx vs) ∧ RPs K g l vs
structure Rep (K : PySem.W.Frag) (g : G) : Prop where
  nd : ∀ a, g.N a → ∃ o, g.H a = some o
  inj : ∀ i j o u, g.S[i]? = some o → o ≠ .gone → g.S[j]? = some u → u ≠ .gone → g.ρ i = g.ρ j → i = j
  obj : ∀ i o, g.S[i]? = some o → RO K g o (g.ρ i)
/-- a later ground -/
structure Ext (g g' : G) : Prop where
  n : g'.N = g.N
  len : g.S.length ≤ g'.S.length
  ag : ∀ i, i < g.S.length → g'.ρ i = g.ρ i
  kp : ∀ a o, g.H a = some o → ¬ g.Live a → g'.H a = some o ∧ ¬ g'.Live a
theorem Ext.refl (g : G) : Ext g g := ⟨rfl, Nat.le_refl _, fun _ _ => rfl, fun _ _ h l => ⟨h, l⟩⟩
theorem Ext.trans {g g1 g2 : G} (a : Ext g g1) (b : Ext g1 g2) : Ext g g2 :=
  ⟨b.n.trans a.n, Nat.le_trans a.len b.len, fun i h => (b.ag i (Nat.lt_of_lt_of_le h a.len)).trans (a.ag i h), fun x o h l =>
    let ⟨h1, l1⟩ := a.kp x o h l
    b.kp x o h1 l1⟩
theorem Ext.pr {g g' : G} (e : Ext g g') {a : Addr} {o : HO} (h : g.H a = some o) (p : g.Pr a) : g'.H a = some o ∧ g'.Pr a :=
  ⟨(e.kp a o h p.2).1, by rw [G.Pr, e.n]; exact ⟨p.1, (e.kp a o h p.2).2⟩⟩
theorem Ext.rd {g g' : G} (e : Ext g g') {a : Addr} {u : HO} (h : Rd g.H a u) (p : g.Pr a) : Rd g'.H a u ∧ g'.Pr a := by
  rcases h with h | ⟨o, h⟩
  · exact ⟨.inl (e.pr h p).1, (e.pr h p).2⟩
  · exact ⟨.inr ⟨o, (e.pr h p).1⟩, (e.pr h p).2⟩
/-- what data needs of a ground -/
structure Sim0 (g g' : G) : Prop where
  tu : ∀ a vs, Rd g.H a (.tup vs) → g.Pr a → Rd g'.H a (.tup vs) ∧ g'.Pr a
  ls : ∀ a vs, Rd g.H a (.lst vs) → g.Pr a → Rd g'.H a (.lst vs) ∧ g'.Pr a
structure Sim (g g' : G) : Prop extends Sim0 g g' where
  len : g.S.length ≤ g'.S.length
  ag : ∀ i, i < g.S.length → g'.ρ i = g.ρ i
theorem Ext.sim {g g' : G} (e : Ext g g') : Sim g g' := ⟨⟨fun _ _ h p => e.rd h p, fun _ _ h p => e.rd h p⟩, e.len, e.ag⟩
theorem gT.sim {K : PySem.W.Frag} {g g' : G} (e : Sim0 g g') {a : Addr} {vs : List V} (h : gT K g a vs) : gT K g' a vs := by
  rcases h with ⟨h, p⟩ | h
  · exact .inl (e.tu _ _ h p)
  · exact .inr h
theorem gL.sim {g g' : G} (e : Sim0 g g') {a : Addr} {vs : List V} (h : gL g a vs) : gL g' a vs := e.ls _ _ h.1 h.2
theorem gK.sim {K : PySem.W.Frag} {g g' : G} (e : Sim0 g g') {a : Addr} {vs : List V} (h : gK K g a vs) : gK K g' a vs := by
  rcases h with h | h
  · exact .inl (h.sim e)
  · exact .inr h
mutual
theorem RD.sim {K : PySem.W.Frag} {g g' : G} (e : Sim g g') : ∀ {d : D} {v : V}, RD K g d v → RD K g' d v
  | .non, _, h => by rw [RD] at h ⊢; exact h
  | .bl _, _, h => by rw [RD] at h ⊢; exact h
  | .int _, _, h => by rw [RD] at h ⊢; exact h
  | .str _, _, h => by rw [RD] at h ⊢; exact h
  | .ty _, _, h => by rw [RD] at h ⊢; exact h
  | .adr _, _, h => by rw [RD] at h ⊢; exact h
  | .ref n, _, h => by
    rw [RD] at h ⊢
    exact ⟨Nat.lt_of_lt_of_le h.1 e.len, by rw [e.ag n h.1]; exact h.2⟩
  | .tup l, _, h => by
    rw [RD] at h ⊢
    obtain ⟨a, vs, h1, h2, h3⟩ := h
    exact ⟨a, vs, h1, h2.sim e.toSim0, RDs.sim e h3⟩
  | .lst l, _, h => by
    rw [RD] at h ⊢
    obtain ⟨a, vs, h1, h2, h3⟩ := h
    exact ⟨a, vs, h1, h2.sim e.toSim0, RDs.sim e h3⟩
  | .kl l, _, h => by
    rw [RD] at h ⊢
    obtain ⟨a, vs, h1, h2, h3⟩ := h
    exact ⟨a, vs, h1, h2.sim e.toSim0, RDs.sim e h3⟩
theorem RDs.sim {K : PySem.W.Frag} {g g' : G} (e : Sim g g') : ∀ {l : List D} {vs : List V}, RDs K g l vs → RDs K g' l vs
  | [], _, h => by rw [RDs] at h ⊢; exact h
  | d :: l, _, h => by
    rw [RDs] at h ⊢
    obtain ⟨v, r, h1, h2, h3⟩ := h
    exact ⟨v, r, h1, RD.sim e h2, RDs.sim e h3⟩
end
mutual
/-- no number of an object from n on -/
def D.lo (n : Nat) : D → Bool
  | .ref i => decide (i < n)
  | .tup l => D.los n l
  | .lst l => D.los n l
  | .kl l => D.los n l
  | _ => true
def D.los (n : Nat) : List D → Bool
  | [] => true
  | d :: l => D.lo n d && D.los n l
end
mutual
/-- data whose numbers are below n, where the first n objects stand alike -/
theorem RD.under {K : PySem.W.Frag} {g g' : G} (e : Sim0 g g') {n : Nat} (hn : ∀ i, i < n → i < g.S.length → i < g'.S.length ∧ g'.ρ i = g.ρ i) : ∀ {d : D} {v : V}, D.lo n d = true → RD K g d v → RD K g' d v
  | .non, _, _, h => by rw [RD] at h ⊢; exact h
  | .bl _, _, _, h => by rw [RD] at h ⊢; exact h
  | .int _, _, _, h => by rw [RD] at h ⊢; exact h
  | .str _, _, _, h => by rw [RD] at h ⊢; exact h
  | .ty _, _, _, h => by rw [RD] at h ⊢; exact h
  | .adr _, _, _, h => by rw [RD] at h ⊢; exact h
  | .ref i, _, b, h => by
    rw [D.lo] at b
    rw [RD] at h ⊢
    obtain ⟨h1, h2⟩ := hn i (of_decide_eq_true b) h.1
    exact ⟨h1, by rw [h2]; exact h.2⟩
  | .tup l, _, b, h => by
    rw [D.lo] at b
    rw [RD] at h ⊢
    obtain ⟨a, vs, h1, h2, h3⟩ := h
    exact ⟨a, vs, h1, h2.sim e, RDs.under e hn b h3⟩
  | .lst l, _, b, h => by
    rw [D.lo] at b
    rw [RD] at h ⊢
    obtain ⟨a, vs, h1, h2, h3⟩ := h
    exact ⟨a, vs, h1, h2.sim e, RDs.under e hn b h3⟩
  | .kl l, _, b, h => by
    rw [D.lo] at b
    rw [RD] at h ⊢
    obtain ⟨a, vs, h1, h2, h3⟩ := h
    exact ⟨a, vs, h1, h2.sim e, RDs.under e hn b h3⟩
theorem RDs.under {K : PySem.W.Frag} {g g' : G} (e : Sim0 g g') {n : Nat} (hn : ∀ i, i < n → i < g.S.length → i < g'.S.length ∧ g'.ρ i = g.ρ i) : ∀ {l : List D} {vs : List V}, D.los n l = true → RDs K g l vs → RDs K g' l vs
  | [], _, _, h => by rw [RDs] at h ⊢; exact h
  | d :: l, _, b, h => by
    rw [D.los, Bool.and_eq_true] at b
    rw [RDs] at h ⊢
    obtain ⟨v, r, h1, h2, h3⟩ := h
    exact ⟨v, r, h1, RD.under e hn b.1 h2, RDs.under e hn b.2 h3⟩
end
theorem RD.mono {K : PySem.W.Frag} {g g' : G} (e : Ext g g') {d : D} {v : V} (h : RD K g d v) : RD K g' d v := h.sim e.sim
theorem RDs.mono {K : PySem.W.Frag} {g g' : G} (e : Ext g g') {l : List D} {vs : List V} (h : RDs K g l vs) : RDs K g' l vs := h.sim e.sim
theorem RPs.sim {K : PySem.W.Frag} {g g' : G} (e : Sim g g') {α : Type} : ∀ {l : List (α × D)} {vs : List (α × V)}, RPs K g l vs → RPs K g' l vs
  | [], _, h => by rw [RPs] at h ⊢; exact h
  | (k, d) :: l, _, h => by
    rw [RPs] at h ⊢
    obtain ⟨v, r, h1, h2, h3⟩ := h
    exact ⟨v, r, h1, h2.sim e, RPs.sim e h3⟩
theorem RPs.mono {K : PySem.W.Frag} {g g' : G} (e : Ext g g') {α : Type} {l : List (α × D)} {vs : List (α × V)} (h : RPs K g l vs) : RPs K g' l vs := h.sim e.sim
/-- no object of the pairs from n on -/
def belowP {α : Type} (n : Nat) (l : List (α × D)) : Bool := l.all fun p => D.lo n p.2
def O.lo (n : Nat) : O → Bool
  | .gone => true
  | .lst l => D.los n l
  | .dct l => belowP n l
  | .ins _ l => belowP n l
theorem RPs.under {K : PySem.W.Frag} {g g' : G} (e : Sim0 g g') {n : Nat} (hn : ∀ i, i < n → i < g.S.length → i < g'.S.length ∧ g'.ρ i = g.ρ i) {α : Type} : ∀ {l : List (α × D)} {vs : List (α × V)}, belowP n l = true → RPs K g l vs → RPs K g' l vs
  | [], _, _, h => by rw [RPs] at h ⊢; exact h
  | (k, d) :: l, _, b, h => by
    rw [belowP, List.all_cons, Bool.and_eq_true] at b
    rw [RPs] at h ⊢
    obtain ⟨v, r, h1, h2, h3⟩ := h
    exact ⟨v, r, h1, h2.under e hn b.1, RPs.under e hn b.2 h3⟩

theorem RDs.length {K : PySem.W.Frag} {g : G} : ∀ {l : List D} {vs : List V}, RDs K g l vs → l.length = vs.length
  | [], _, h => by rw [RDs] at h; subst h; rfl
  | d :: l, _, h => by
    rw [RDs] at h
    obtain ⟨v, r, rfl, _, h3⟩ := h
    rw [List.length_cons, List.length_cons, RDs.length h3]
theorem RDs.get {K : PySem.W.Frag} {g : G} : ∀ {l : List D} {vs : List V} {i : Nat} {d : D}, RDs K g l vs → l[i]? = some d → ∃ v, vs[i]? = some v ∧ RD K g d v
  | [], _, _, _, _, q => by simp at q
  | x :: l, _, 0, d, h, q => by
    rw [RDs] at h
    obtain ⟨v, r, rfl, h2, _⟩ := h
    simp at q; subst q
    exact ⟨v, rfl, h2⟩
  | x :: l, _, i + 1, d, h, q => by
    rw [RDs] at h
    obtain ⟨v, r, rfl, _, h3⟩ := h
    obtain ⟨w, a, b⟩ := RDs.get h3 (i := i) (by simpa using q)
    exact ⟨w, by simpa using a, b⟩
theorem RDs.append {K : PySem.W.Frag} {g : G} : ∀ {l m : List D} {vs us : List V}, RDs K g l vs → RDs K g m us → RDs K g (l ++ m) (vs ++ us)
  | [], _, _, _, h, q => by rw [RDs] at h; subst h; exact q
  | d :: l, m, _, us, h, q => by
    rw [RDs] at h
    obtain ⟨v, r, rfl, h2, h3⟩ := h
    rw [List.cons_append, RDs]
    exact ⟨v, r ++ us, rfl, h2, RDs.append h3 q⟩
theorem RDs.nil {K : PySem.W.Frag} {g : G} : RDs K g [] [] := by rw [RDs]
theorem RDs.cons {K : PySem.W.Frag} {g : G} {d : D} {l : List D} {v : V} {vs : List V} (h : RD K g d v) (t : RDs K g l vs) : RDs K g (d :: l) (v :: vs) := by
  rw [RDs]
  exact ⟨v, vs, rfl, h, t⟩
theorem RDs.set {K : PySem.W.Frag} {g : G} {d : D} {v : V} (r : RD K g d v) : ∀ {l : List D} {vs : List V} (i : Nat), RDs K g l vs → RDs K g (l.set i d) (vs.set i v)
  | [], _, _, h => by rw [RDs] at h; subst h; exact RDs.nil
  | x :: l, _, 0, h => by
    rw [RDs] at h
    obtain ⟨w, u, rfl, _, h3⟩ := h
    exact RDs.cons r h3
  | x :: l, _, i + 1, h => by
    rw [RDs] at h
    obtain ⟨w, u, rfl, h2, h3⟩ := h
    exact RDs.cons h2 (RDs.set r i h3)
theorem RDs.take {K : PySem.W.Frag} {g : G} : ∀ {l : List D} {vs : List V} (n : Nat), RDs K g l vs → RDs K g (l.take n) (vs.take n)
  | _, _, 0, _ => RDs.nil
  | [], _, n + 1, h => by rw [RDs] at h; subst h; exact RDs.nil
  | x :: l, _, n + 1, h => by
    rw [RDs] at h
    obtain ⟨w, u, rfl, h2, h3⟩ := h
    exact RDs.cons h2 (RDs.take n h3)
theorem RDs.drop {K : PySem.W.Frag} {g : G} : ∀ {l : List D} {vs : List V} (n : Nat), RDs K g l vs → RDs K g (l.drop n) (vs.drop n)
  | _, _, 0, h => h
  | [], _, n + 1, h => by rw [RDs] at h; subst h; exact RDs.nil
  | x :: l, _, n + 1, h => by
    rw [RDs] at h
    obtain ⟨w, u, rfl, h2, h3⟩ := h
    exact RDs.drop n h3
theorem RO.sim {K : PySem.W.Frag} {g g' : G} (e : Sim g g') {o : O} {a : Addr} (h : RO K g o a) (k : o ≠ .gone → g'.H a = g.H a) : RO K g' o a := by
  cases o with
  | gone => trivial
  | lst l =>
    obtain ⟨vs, h1, h2⟩ := h
    exact ⟨vs, (k (by intro z; cases z)).trans h1, h2.sim e⟩
  | dct l =>
    obtain ⟨vs, h1, h2⟩ := h
    exact ⟨vs, (k (by intro z; cases z)).trans h1, h2.sim e⟩
  | ins C l =>
    obtain ⟨dx, vs, h1, h2⟩ := h
    exact ⟨dx, vs, (k (by intro z; cases z)).trans h1, h2.sim e⟩
theorem RO.under {K : PySem.W.Frag} {g g' : G} (e : Sim0 g g') {n : Nat} (hn : ∀ i, i < n → i < g.S.length → i < g'.S.length ∧ g'.ρ i = g.ρ i) {o : O} {a : Addr} (b : O.lo n o = true) (h : RO K g o a) (k : o ≠ .gone → g'.H a = g.H a) : RO K g' o a := by
  cases o with
  | gone => trivial
  | lst l =>
    obtain ⟨vs, h1, h2⟩ := h
    exact ⟨vs, (k (by intro z; cases z)).trans h1, h2.under e hn b⟩
  | dct l =>
    obtain ⟨vs, h1, h2⟩ := h
    exact ⟨vs, (k (by intro z; cases z)).trans h1, h2.under e hn b⟩
  | ins C l =>
    obtain ⟨dx, vs, h1, h2⟩ := h
    exact ⟨dx, vs, (k (by intro z; cases z)).trans h1, h2.under e hn b⟩
theorem RO.mono {K : PySem.W.Frag} {g g' : G} (e : Ext g g') {o : O} {a : Addr} (h : RO K g o a) (k : o ≠ .gone → g'.H a = g.H a) : RO K g' o a := by
  cases o with
  | gone => trivial
  | lst l =>
    obtain ⟨vs, h1, h2⟩ := h
    exact ⟨vs, (k (by intro z; cases z)).trans h1, h2.mono e⟩
  | dct l =>
    obtain ⟨vs, h1, h2⟩ := h
    exact ⟨vs, (k (by intro z; cases z)).trans h1, h2.mono e⟩
  | ins C l =>
    obtain ⟨dx, vs, h1, h2⟩ := h
    exact ⟨dx, vs, (k (by intro z; cases z)).trans h1, h2.mono e⟩
/-- where a live object stands, something mutable stands -/
theorem RO.at_ {K : PySem.W.Frag} {g : G} {o : O} {a : Addr} (h : RO K g o a) (n : o ≠ .gone) : ∃ u, g.H a = some u := by
  cases o with
  | gone => exact absurd rfl n
  | lst l => obtain ⟨vs, h1, _⟩ := h; exact ⟨_, h1⟩
  | dct l => obtain ⟨vs, h1, _⟩ := h; exact ⟨_, h1⟩
  | ins C l => obtain ⟨dx, vs, h1, _⟩ := h; exact ⟨_, h1⟩
theorem Rep.fresh {K : PySem.W.Frag} {g : G} (rp : Rep K g) {p : Addr} (h : g.H p = none) : g.Pr p := by
  refine ⟨fun z => ?_, fun ⟨i, o, h1, h2, h3⟩ => ?_⟩
  · obtain ⟨o, q⟩ := rp.nd p z
    rw [h] at q; cases q
  · obtain ⟨u, q⟩ := (rp.obj i o h1).at_ h2
    rw [h3, h] at q; cases q
/-- a new object that nobody will change -/
theorem Ext.newv {g : G} {p : Addr} {u : HO} (h : g.H p = none) : Ext g { g with H := upd g.H p u } :=
  ⟨rfl, Nat.le_refl _, fun _ _ => rfl, fun a o q l => ⟨(show upd g.H p u a = g.H a from upd_ne (ne_of_none q h)).trans q, l⟩⟩
theorem Rep.newv {K : PySem.W.Frag} {g : G} (rp : Rep K g) {p : Addr} {u : HO} (h : g.H p = none) : Rep K { g with H := upd g.H p u } := by
  refine ⟨fun a z => ?_, rp.inj, fun i o q => (rp.obj i o q).mono (Ext.newv h) fun n => ?_⟩
  · obtain ⟨o, e⟩ := rp.nd a z
    exact ⟨o, (show upd g.H p u a = g.H a from upd_ne (ne_of_none e h)).trans e⟩
  · obtain ⟨w, e⟩ := (rp.obj i o q).at_ n
    exact upd_ne (ne_of_none e h)
/-- a new object of one's own -/
abbrev G.add (g : G) (p : Addr) (o : O) (u : HO) : G := { N := g.N, ρ := fun i => if i = g.S.length then p else g.ρ i, S := g.S ++ [o], H := upd g.H p u }
theorem Ext.add {K : PySem.W.Frag} {g : G} (rp : Rep K g) {p : Addr} {o : O} {u : HO} (h : g.H p = none) : Ext g (g.add p o u) := by
  refine ⟨rfl, by simp, fun i hi => if_neg (Nat.ne_of_lt hi), fun a w q l => ⟨(show upd g.H p u a = g.H a from upd_ne (ne_of_none q h)).trans q, ?_⟩⟩
  rintro ⟨i, x, h1, h2, h3⟩
  have h3 : (if i = g.S.length then p else g.ρ i) = a := h3
  have h1 : (g.S ++ [o])[i]? = some x := h1
  by_cases hi : i < g.S.length
  · refine l ⟨i, x, ?_, h2, ?_⟩
    · rw [List.getElem?_append_left hi] at h1; exact h1
    · rw [if_neg (Nat.ne_of_lt hi)] at h3; exact h3
  · have e : i = g.S.length := by
      rcases Nat.lt_or_ge i (g.S.length + 1) with z | z
      · omega
      · rw [List.getElem?_eq_none (by simpa using z)] at h1; cases h1
    rw [if_pos e] at h3
    rw [h3, q] at h; cases h
theorem Rep.add {K : PySem.W.Frag} {g : G} (rp : Rep K g) {p : Addr} {o : O} {u : HO} (h : g.H p = none) (ho : RO K (g.add p o u) o p) : Rep K (g.add p o u) := by
  have hn : ∀ i x, g.S[i]? = some x → x ≠ .gone → g.ρ i ≠ p := fun i x q n z => by
    obtain ⟨w, e⟩ := (rp.obj i x q).at_ n
    rw [z, h] at e; cases e
  have hs : ∀ i x, (g.add p o u).S[i]? = some x → (i < g.S.length ∧ g.S[i]? = some x ∧ (g.add p o u).ρ i = g.ρ i) ∨ (i = g.S.length ∧ x = o ∧ (g.add p o u).ρ i = p) := fun i x q => by
    by_cases hi : i < g.S.length
    · exact .inl ⟨hi, by rw [← List.getElem?_append_left (l₂ := [o]) hi]; exact q, if_neg (Nat.ne_of_lt hi)⟩
    · have e : i = g.S.length := by
        rcases Nat.lt_or_ge i (g.S.length + 1) with z | z
        · omega
        · rw [List.getElem?_eq_none (by simpa using z)] at q; cases q
      refine .inr ⟨e, ?_, if_pos e⟩
      subst e
      have q' : (g.S ++ [o])[g.S.length]? = some x := q
      rw [List.getElem?_append_right (Nat.le_refl _), Nat.sub_self] at q'
      exact (Option.some.inj q').symm
  refine ⟨fun a z => ?_, fun i j x y q1 n1 q2 n2 e => ?_, fun i x q => ?_⟩
  · obtain ⟨w, e⟩ := rp.nd a z
    exact ⟨w, (show upd g.H p u a = g.H a from upd_ne (ne_of_none e h)).trans e⟩
  · rcases hs i x q1 with ⟨l1, s1, r1⟩ | ⟨l1, s1, r1⟩ <;> rcases hs j y q2 with ⟨l2, s2, r2⟩ | ⟨l2, s2, r2⟩
    · rw [r1, r2] at e; exact rp.inj i j x y s1 n1 s2 n2 e
    · rw [r1, r2] at e; exact absurd e (hn i x s1 n1)
    · rw [r1, r2] at e; exact absurd e.symm (hn j y s2 n2)
    · rw [l1, l2]
  · rcases hs i x q with ⟨l1, s1, r1⟩ | ⟨l1, s1, r1⟩
    · rw [r1]
      refine (rp.obj i x s1).mono (Ext.add rp h) fun n => ?_
      obtain ⟨w, e⟩ := (rp.obj i x s1).at_ n
      exact upd_ne (ne_of_none e h)
    · rw [r1, s1]; exact ho
/-- one's own object i changes -/
abbrev G.put (g : G) (i : Nat) (o : O) (u : HO) : G := { g with S := g.S.set i o, H := upd g.H (g.ρ i) u }
theorem live_put {g : G} {i : Nat} {o o' : O} {u : HO} (hi : g.S[i]? = some o) (n : o ≠ .gone) {a : Addr} (h : (g.put i o' u).Live a) : g.Live a := by
  obtain ⟨j, x, h1, h2, h3⟩ := h
  by_cases hj : i = j
  · subst hj; exact ⟨i, o, hi, n, h3⟩
  · have h1' : (g.S.set i o')[j]? = some x := h1
    rw [List.getElem?_set_ne hj] at h1'
    exact ⟨j, x, h1', h2, h3⟩
theorem Ext.put {g : G} {i : Nat} {o o' : O} {u : HO} (hi : g.S[i]? = some o) (n : o ≠ .gone) : Ext g (g.put i o' u) := by
  refine ⟨rfl, by simp, fun _ _ => rfl, fun a w q l => ⟨?_, fun z => l (live_put hi n z)⟩⟩
  exact (show upd g.H (g.ρ i) u a = g.H a from upd_ne fun z => l ⟨i, o, hi, n, z.symm⟩).trans q
theorem Rep.put {K : PySem.W.Frag} {g : G} (rp : Rep K g) {i : Nat} {o o' : O} {u : HO} (hi : g.S[i]? = some o) (n : o ≠ .gone) (ho : RO K (g.put i o' u) o' (g.ρ i)) : Rep K (g.put i o' u) := by
  have hs : ∀ j x, (g.put i o' u).S[j]? = some x → (j = i ∧ x = o') ∨ (j ≠ i ∧ g.S[j]? = some x) := fun j x q => by
    have q' : (g.S.set i o')[j]? = some x := q
    by_cases hj : i = j
    · subst hj
      rw [List.getElem?_set_self (List.getElem?_eq_some_iff.mp hi).1] at q'
      exact .inl ⟨rfl, (Option.some.inj q').symm⟩
    · rw [List.getElem?_set_ne hj] at q'
      exact .inr ⟨fun z => hj z.symm, q'⟩
  have lv : ∀ j x, (g.put i o' u).S[j]? = some x → x ≠ O.gone → ∃ y, g.S[j]? = some y ∧ y ≠ O.gone := fun j x q m => by
    rcases hs j x q with ⟨e, _⟩ | ⟨_, e⟩
    · exact ⟨o, by rw [e]; exact hi, n⟩
    · exact ⟨x, e, m⟩
  refine ⟨fun a z => ?_, fun j k x y q1 n1 q2 n2 e => ?_, fun j x q => ?_⟩
  · obtain ⟨w, e⟩ := rp.nd a z
    by_cases ha : a = g.ρ i
    · exact ⟨u, by rw [ha]; exact upd_same⟩
    · exact ⟨w, (show upd g.H (g.ρ i) u a = g.H a from upd_ne ha).trans e⟩
  · obtain ⟨x', a1, a2⟩ := lv j x q1 n1
    obtain ⟨y', b1, b2⟩ := lv k y q2 n2
    exact rp.inj j k x' y' a1 a2 b1 b2 e
  · rcases hs j x q with ⟨e1, e2⟩ | ⟨e1, e2⟩
    · rw [e1, e2]; exact ho
    · refine (rp.obj j x e2).mono (Ext.put hi n) fun m => ?_
      exact upd_ne fun z => e1 (rp.inj j i x o e2 m hi n z)
/-- one's own object is given away: nobody changes it any more -/
theorem Ext.freeze {g : G} {i : Nat} {o : O} (hi : g.S[i]? = some o) : Ext g { g with S := g.S.set i .gone } := by
  refine ⟨rfl, by simp, fun _ _ => rfl, fun a w q l => ⟨q, ?_⟩⟩
  rintro ⟨j, x, h1, h2, h3⟩
  have h1' : (g.S.set i .gone)[j]? = some x := h1
  by_cases hj : i = j
  · subst hj
    rw [List.getElem?_set_self (List.getElem?_eq_some_iff.mp hi).1] at h1'
    exact h2 (Option.some.inj h1').symm
  · rw [List.getElem?_set_ne hj] at h1'
    exact l ⟨j, x, h1', h2, h3⟩
theorem Rep.freeze {K : PySem.W.Frag} {g : G} (rp : Rep K g) {i : Nat} {o : O} (hi : g.S[i]? = some o) : Rep K { g with S := g.S.set i .gone } := by
  have hs : ∀ (j : Nat) (x : O), (g.S.set i .gone)[j]? = some x → x = .gone ∨ g.S[j]? = some x := fun j x q => by
    by_cases hj : i = j
    · subst hj
      rw [List.getElem?_set_self (List.getElem?_eq_some_iff.mp hi).1] at q
      exact .inl (Option.some.inj q).symm
    · rw [List.getElem?_set_ne hj] at q
      exact .inr q
  refine ⟨rp.nd, fun j k x y q1 n1 q2 n2 e => ?_, fun j x q => ?_⟩
  · rcases hs j x q1 with z | a1
    · exact absurd z n1
    rcases hs k y q2 with z | b1
    · exact absurd z n2
    exact rp.inj j k x y a1 n1 b1 n2 e
  · rcases hs j x q with z | a1
    · subst z; trivial
    · exact (rp.obj j x a1).mono (Ext.freeze hi) fun _ => rfl

/-- the names' values -/
abbrev Env := List (Option D)
def RE (K : PySem.W.Frag) (g : G) (e : Env) (σ : St) : Prop := e.length = σ.length ∧ ∀ (i : Nat) (d : D), e[i]? = some (some d) → ∃ v, σ[i]? = some (some v) ∧ RD K g d v
theorem RE.mono {K : PySem.W.Frag} {g g' : G} {e : Env} {σ : St} (x : Ext g g') (h : RE K g e σ) : RE K g' e σ :=
  ⟨h.1, fun i d q => let ⟨v, a, b⟩ := h.2 i d q; ⟨v, a, b.mono x⟩⟩
theorem RE.sim {K : PySem.W.Frag} {g g' : G} {e : Env} {σ : St} (x : Sim g g') (h : RE K g e σ) : RE K g' e σ :=
  ⟨h.1, fun i d q => let ⟨v, a, b⟩ := h.2 i d q; ⟨v, a, b.sim x⟩⟩
theorem RE.set {K : PySem.W.Frag} {g : G} {e : Env} {σ : St} {i : Nat} {d : D} {v : V} (h : RE K g e σ) (r : RD K g d v) : RE K g (e.set i (some d)) (σ.set i (some v)) := by
  refine ⟨by rw [List.length_set, List.length_set]; exact h.1, fun j x q => ?_⟩
  by_cases hj : i = j
  · subst hj
    have hl : i < e.length := by
      rcases Nat.lt_or_ge i e.length with z | z
      · exact z
      · rw [List.getElem?_eq_none (by rw [List.length_set]; exact z)] at q; cases q
    rw [List.getElem?_set_self hl] at q
    cases q
    exact ⟨v, List.getElem?_set_self (by rw [← h.1]; exact hl), r⟩
  · rw [List.getElem?_set_ne hj] at q ⊢
    exact h.2 j x q
theorem RE.wipe {K : PySem.W.Frag} {g : G} {e : Env} {σ : St} {i : Nat} (h : RE K g e σ) : RE K g (e.set i none) (σ.set i none) := by
  refine ⟨by rw [List.length_set, List.length_set]; exact h.1, fun j x q => ?_⟩
  by_cases hj : i = j
  · subst hj
    have hl : i < e.length := by
      rcases Nat.lt_or_ge i e.length with z | z
      · exact z
      · rw [List.getElem?_eq_none (by rw [List.length_set]; exact z)] at q; cases q
    rw [List.getElem?_set_self hl] at q
    cases q
  · rw [List.getElem?_set_ne hj] at q ⊢
    exact h.2 j x q

/-! ### results -/
/-- an error: its class, its own attributes (none: it has no dict) -/
structure Xc where
  cls : Value
  fs : Option (List (Str × D))
inductive R (α : Type) where
  | ok (a : α) (S : List O)
  | er (x : Xc) (S : List O)
  | bad
def R.bind {α β : Type} (r : R α) (f : α → List O → R β) : R β := match r with
  | .ok a S => f a S
  | .er x S => .er x S
  | .bad => .bad
inductive RS where
  | nx (e : Env) (S : List O) | rt (d : D) (S : List O) | bk (e : Env) (S : List O) | ct (e : Env) (S : List O) | er (x : Xc) (e : Env) (S : List O) | bad
abbrev ME := Env → List O → R D
abbrev MT := Env → List O → R Bool
abbrev MA := Env → List O → R (List D)
abbrev MS := Env → List O → RS
def RX (K : PySem.W.Frag) (g : G) (x : Xc) (cls : Value) (d : Option Addr) : Prop := cls = x.cls ∧ match x.fs, d with
  | none, none => True
  | some fs, some a => ∃ vs, g.H a = some (.xd vs) ∧ g.Pr a ∧ RPs K g fs vs
  | _, _ => False
/-- what is wanted of an error, by the names' values: as HandS.Exc has it -/
abbrev WX' := Value → Option Addr → St → Hp → Prop
def Post {α : Type} (K : PySem.W.Frag) (W : WX') (g : G) (r : R α) (σ : St) (k : α → G → Prop) : Prop := match r with
  | .ok a S' => ∀ g', Ext g g' → g'.S = S' → Rep K g' → k a g'
  | .er x S' => ∀ g' cls d, Ext g g' → g'.S = S' → Rep K g' → RX K g' x cls d → W cls d σ g'.H
  | .bad => False
theorem Post.mono {α : Type} {K : PySem.W.Frag} {W : WX'} {g g1 : G} {r : R α} {σ : St} {k : α → G → Prop} (e : Ext g g1) (h : Post K W g r σ k) : Post K W g1 r σ k := by
  cases r with
  | ok a S => exact fun g' e' => h g' (e.trans e')
  | er x S => exact fun g' c d e' => h g' c d (e.trans e')
  | bad => exact h
theorem Post.imp {α : Type} {K : PySem.W.Frag} {W : WX'} {g : G} {r : R α} {σ : St} {k k' : α → G → Prop} (h : Post K W g r σ k) (f : ∀ a g', Ext g g' → Rep K g' → k a g' → k' a g') : Post K W g r σ k' := by
  cases r with
  | ok a S => exact fun g' e s rp => f a g' e rp (h g' e s rp)
  | er x S => exact h
  | bad => exact h
theorem Post.bind {α β : Type} {K : PySem.W.Frag} {W : WX'} {g : G} {r : R α} {f : α → List O → R β} {σ : St} {k : β → G → Prop} (h : Post K W g (r.bind f) σ k) :
    Post K W g r σ fun a g1 => Ext g g1 ∧ Rep K g1 ∧ Post K W g1 (f a g1.S) σ k := by
  cases r with
  | ok a S =>
    intro g1 e s rp
    subst s
    exact ⟨e, rp, Post.mono e h⟩
  | er x S => exact h
  | bad => exact h
theorem Post.here {α : Type} {K : PySem.W.Frag} {W : WX'} {g : G} {a : α} {σ : St} {k : α → G → Prop} (rp : Rep K g) (h : Post K W g (.ok a g.S) σ k) : k a g := h g (Ext.refl g) rfl rp

/-! ### readings -/
section
variable (K : PySem.W.Frag) (W : WX')
def tE (m : ME) : TE := fun σ H Q => ∃ g e, g.H = H ∧ Rep K g ∧ RE K g e σ ∧ Post K W g (m e g.S) σ fun d g' => ∀ v, RD K g' d v → Q v g'.H
def tT (m : MT) : TT := fun σ H Q => ∃ g e, g.H = H ∧ Rep K g ∧ RE K g e σ ∧ Post K W g (m e g.S) σ fun b g' => Q b g'.H
def tA (m : MA) : TA := fun σ H Q => ∃ g e, g.H = H ∧ Rep K g ∧ RE K g e σ ∧ Post K W g (m e g.S) σ fun l g' => ∀ vs, RDs K g' l vs → Q vs g'.H
/-- behind a statement -/
def PostS (g : G) (r : RS) (D : Ends) : Prop := match r with
  | .nx e S' => ∀ g' σ, Ext g g' → g'.S = S' → Rep K g' → RE K g' e σ → D.nx σ g'.H
  | .bk e S' => ∀ g' σ, Ext g g' → g'.S = S' → Rep K g' → RE K g' e σ → D.bk σ g'.H
  | .ct e S' => ∀ g' σ, Ext g g' → g'.S = S' → Rep K g' → RE K g' e σ → D.ct σ g'.H
  | .rt d S' => ∀ g' v, Ext g g' → g'.S = S' → Rep K g' → RD K g' d v → D.rt v g'.H
  | .er x e S' => ∀ g' σ cls d, Ext g g' → g'.S = S' → Rep K g' → RE K g' e σ → RX K g' x cls d → W cls d σ g'.H
  | .bad => False
def tS (m : MS) : TS := fun D σ H => ∃ g e, g.H = H ∧ Rep K g ∧ RE K g e σ ∧ PostS K W g (m e g.S) D
end
theorem PostS.mono {K : PySem.W.Frag} {W : WX'} {g g1 : G} {r : RS} {D : Ends} (e : Ext g g1) (h : PostS K W g r D) : PostS K W g1 r D := by
  cases r with
  | nx en S => exact fun g' σ e' => h g' σ (e.trans e')
  | bk en S => exact fun g' σ e' => h g' σ (e.trans e')
  | ct en S => exact fun g' σ e' => h g' σ (e.trans e')
  | rt d S => exact fun g' σ e' => h g' σ (e.trans e')
  | er x en S => exact fun g' σ c d e' => h g' σ c d (e.trans e')
  | bad => exact h
theorem tE.of {K : PySem.W.Frag} {W : WX'} {m : ME} {g : G} {e : Env} {σ : St} {Q : VK} (rp : Rep K g) (re : RE K g e σ) (h : Post K W g (m e g.S) σ fun d g' => ∀ v, RD K g' d v → Q v g'.H) : tE K W m σ g.H Q := ⟨g, e, rfl, rp, re, h⟩
/-- the state that an error carries out of an expression -/
theorem PostS.of_er {α : Type} {K : PySem.W.Frag} {W : WX'} {g : G} {r : R α} {σ : St} {e : Env} {D : Ends} {f : α → List O → RS} (re : RE K g e σ)
    (h : PostS K W g (match r with | .ok a S => f a S | .er x S => .er x e S | .bad => .bad) D) :
    Post K W g r σ fun a g1 => Ext g g1 ∧ Rep K g1 ∧ PostS K W g1 (f a g1.S) D := by
  cases r with
  | ok a S =>
    intro g1 e1 s rp
    subst s
    exact ⟨e1, rp, PostS.mono e1 h⟩
  | er x S => exact fun g' c d e1 s rp rx => h g' σ c d e1 s rp (re.mono e1) rx
  | bad => exact h
end Mo

namespace Mo
open PySem L2

/-! ### what implies what -/
section
variable {X : Cx}
theorem PE.imp {e : Expr} {t t' : TE} (h : PE X e t) (f : ∀ σ H Q, t' σ H Q → t σ H Q) : PE X e t' := ⟨fun p s σ H Q I q => h.run p s σ H Q I (f σ H Q q)⟩
theorem PT.imp {e : Expr} {t t' : TT} (h : PT X e t) (f : ∀ σ H Q, t' σ H Q → t σ H Q) : PT X e t' := ⟨fun p s σ H Q I q => h.run p s σ H Q I (f σ H Q q)⟩
theorem PW.imp {e : Expr} {t t' : TT} (h : PW X e t) (f : ∀ σ H Q, t' σ H Q → t σ H Q) : PW X e t' := ⟨fun w p s σ H Q I q => h.run w p s σ H Q I (f σ H Q q)⟩
theorem PA.imp {e : List Expr} {t t' : TA} (h : PA X e t) (f : ∀ σ H Q, t' σ H Q → t σ H Q) : PA X e t' := ⟨fun o p s σ H Q I q => h.run o p s σ H Q I (f σ H Q q)⟩
theorem PS.imp {e : Stmt} {t t' : TS} (h : PS X e t) (f : ∀ D σ H, t' D σ H → t D σ H) : PS X e t' := ⟨fun p s σ H D I q => h.run p s σ H D I (f D σ H q)⟩
theorem PSs.imp {e : List Stmt} {t t' : TS} (h : PSs X e t) (f : ∀ D σ H, t' D σ H → t D σ H) : PSs X e t' := ⟨fun p s σ H D I q => h.run p s σ H D I (f D σ H q)⟩
end
def sz : Nat := 16777216
theorem sz_eq : sz = sizeLine := sizeLine_eq.symm

/-! ### expressions as functions -/
def mC (d : D) : ME := fun _ S => .ok d S
def mVar (i : Nat) : ME := fun e S => match e[i]? with
  | some (some d) => .ok d S
  | _ => .bad
abbrev Op2 := List O → D → D → Option D
abbrev Op1 := List O → D → Option D
def R.ofO (S : List O) : Option D → R D
  | some d => .ok d S
  | none => .bad
def mBin (f : Op2) (ma mb : ME) : ME := fun e S => (ma e S).bind fun a S1 => (mb e S1).bind fun b S2 => R.ofO S2 (f S2 a b)
def mUn (f : Op1) (ma : ME) : ME := fun e S => (ma e S).bind fun a S1 => R.ofO S1 (f S1 a)
def mNil : MA := fun _ S => .ok [] S
def mCons (ma : ME) (mr : MA) : MA := fun e S => (ma e S).bind fun a S1 => (mr e S1).bind fun l S2 => .ok (a :: l) S2
/-- a value as a truth: it is a bool -/
def asB (S : List O) : D → R Bool
  | .bl b => .ok b S
  | _ => .bad
def mTB (m : ME) : MT := fun e S => (m e S).bind fun d S1 => asB S1 d
def mAnd (t u : MT) : MT := fun e S => (t e S).bind fun b S1 => if b then u e S1 else .ok false S1
def mOr (t u : MT) : MT := fun e S => (t e S).bind fun b S1 => if b then .ok true S1 else u e S1
def mNot (t : MT) : MT := fun e S => (t e S).bind fun b S1 => .ok (!b) S1
def mIf (t : MT) (ma mb : ME) : ME := fun e S => (t e S).bind fun b S1 => if b then ma e S1 else mb e S1
def mAndV (ma mb : ME) : ME := fun e S => (ma e S).bind fun d S1 => (asB S1 d).bind fun b S2 => if b then mb e S2 else .ok (.bl false) S2
def mOrV (ma mb : ME) : ME := fun e S => (ma e S).bind fun d S1 => (asB S1 d).bind fun b S2 => if b then .ok (.bl true) S2 else mb e S2
def mNotV (ma : ME) : ME := fun e S => (ma e S).bind fun d S1 => (asB S1 d).bind fun b S2 => .ok (.bl (!b)) S2

/-- an operation of two values, one, many, by the data -/
def rOp (K : PySem.W.Frag) (f : Op2) : R2 := fun x y H Q => ∃ g a b d, g.H = H ∧ Rep K g ∧ RD K g a x ∧ RD K g b y ∧ f g.S a b = some d ∧ ∀ g' v, Ext g g' → g'.S = g.S → Rep K g' → RD K g' d v → Q v g'.H
def rUn (K : PySem.W.Frag) (f : Op1) : V → Hp → VK → Prop := fun x H Q => ∃ g a d, g.H = H ∧ Rep K g ∧ RD K g a x ∧ f g.S a = some d ∧ ∀ g' v, Ext g g' → g'.S = g.S → Rep K g' → RD K g' d v → Q v g'.H

section
variable {K : PySem.W.Frag} {W : WX'} {σ : St} {H : Hp} {Q : VK}
theorem i_C {d : D} {v : V} (r : ∀ g, RD K g d v) (h : tE K W (mC d) σ H Q) : tC v σ H Q := by
  obtain ⟨g, e, rfl, rp, re, p⟩ := h
  exact Post.here rp p v (r g)
theorem i_var {i : Nat} (h : tE K W (mVar i) σ H Q) : tVar i σ H Q := by
  obtain ⟨g, e, rfl, rp, re, p⟩ := h
  unfold mVar at p
  split at p
  · rename_i d q
    obtain ⟨v, a, b⟩ := re.2 i d q
    exact ⟨v, a, Post.here rp p v b⟩
  · exact False.elim p
theorem i_bin {f : Op2} {ma mb : ME} (h : tE K W (mBin f ma mb) σ H Q) : tOp (rOp K f) (tE K W ma) (tE K W mb) σ H Q := by
  obtain ⟨g, e, rfl, rp, re, p⟩ := h
  refine ⟨g, e, rfl, rp, re, (Post.bind p).imp fun a g1 e1 r1 ⟨_, _, p1⟩ v rv => ?_⟩
  refine ⟨g1, e, rfl, r1, re.mono e1, (Post.bind p1).imp fun b g2 e2 r2 ⟨_, _, p2⟩ u ru => ?_⟩
  cases q : f g2.S a b with
  | none => rw [q] at p2; exact False.elim p2
  | some d =>
    rw [q] at p2
    exact ⟨g2, a, b, d, rfl, r2, rv.mono e2, ru, q, fun g' w x s r rw' => p2 g' x s r w rw'⟩
theorem i_un {f : Op1} {ma : ME} (h : tE K W (mUn f ma) σ H Q) : tUn (rUn K f) (tE K W ma) σ H Q := by
  obtain ⟨g, e, rfl, rp, re, p⟩ := h
  refine ⟨g, e, rfl, rp, re, (Post.bind p).imp fun a g1 e1 r1 ⟨_, _, p1⟩ v rv => ?_⟩
  cases q : f g1.S a with
  | none => rw [q] at p1; exact False.elim p1
  | some d =>
    rw [q] at p1
    exact ⟨g1, a, d, rfl, r1, rv, q, fun g' w x s r rw' => p1 g' x s r w rw'⟩
theorem i_nil {Q : List V → Hp → Prop} (h : tA K W mNil σ H Q) : tNil σ H Q := by
  obtain ⟨g, e, rfl, rp, re, p⟩ := h
  exact Post.here rp p [] RDs.nil
theorem i_cons {ma : ME} {mr : MA} {Q : List V → Hp → Prop} (h : tA K W (mCons ma mr) σ H Q) : tCons (tE K W ma) (tA K W mr) σ H Q := by
  obtain ⟨g, e, rfl, rp, re, p⟩ := h
  refine ⟨g, e, rfl, rp, re, (Post.bind p).imp fun a g1 e1 r1 ⟨_, _, p1⟩ v rv => ?_⟩
  refine ⟨g1, e, rfl, r1, re.mono e1, (Post.bind p1).imp fun l g2 e2 r2 ⟨_, _, p2⟩ vs rs => ?_⟩
  exact Post.here r2 p2 (v :: vs) (RDs.cons (rv.mono e2) rs)
theorem asB_post {g : G} {d : D} {σ : St} {k : Bool → G → Prop} (rp : Rep K g) (h : Post K W g (asB g.S d) σ k) {v : V} (r : RD K g d v) : ∃ b, v = .bl b ∧ k b g := by
  cases d with
  | bl b =>
    rw [RD] at r
    exact ⟨b, r, Post.here rp h⟩
  | _ => exact False.elim h
theorem i_tTest {m : ME} {Q : Bool → Hp → Prop} (h : tT K W (mTB m) σ H Q) : tTest (tE K W m) σ H Q := by
  obtain ⟨g, e, rfl, rp, re, p⟩ := h
  refine ⟨g, e, rfl, rp, re, (Post.bind p).imp fun a g1 e1 r1 ⟨_, _, p1⟩ v rv => asB_post r1 p1 rv⟩
theorem i_tB {m : ME} {Q : Bool → Hp → Prop} (h : tT K W (mTB m) σ H Q) : tB (tE K W m) σ H Q := i_tTest h
theorem i_and {t u : MT} {Q : Bool → Hp → Prop} (h : tT K W (mAnd t u) σ H Q) : tAnd (tT K W t) (tT K W u) σ H Q := by
  obtain ⟨g, e, rfl, rp, re, p⟩ := h
  refine ⟨g, e, rfl, rp, re, (Post.bind p).imp fun b g1 e1 r1 ⟨_, _, p1⟩ => ?_⟩
  cases b with
  | true => exact ⟨g1, e, rfl, r1, re.mono e1, p1⟩
  | false => exact Post.here r1 p1
theorem i_or {t u : MT} {Q : Bool → Hp → Prop} (h : tT K W (mOr t u) σ H Q) : tOr (tT K W t) (tT K W u) σ H Q := by
  obtain ⟨g, e, rfl, rp, re, p⟩ := h
  refine ⟨g, e, rfl, rp, re, (Post.bind p).imp fun b g1 e1 r1 ⟨_, _, p1⟩ => ?_⟩
  cases b with
  | false => exact ⟨g1, e, rfl, r1, re.mono e1, p1⟩
  | true => exact Post.here r1 p1
theorem i_not {t : MT} {Q : Bool → Hp → Prop} (h : tT K W (mNot t) σ H Q) : tNot (tT K W t) σ H Q := by
  obtain ⟨g, e, rfl, rp, re, p⟩ := h
  exact ⟨g, e, rfl, rp, re, (Post.bind p).imp fun b g1 e1 r1 ⟨_, _, p1⟩ => Post.here r1 p1⟩
theorem i_if {t : MT} {ma mb : ME} (h : tE K W (mIf t ma mb) σ H Q) : tIf (tT K W t) (tE K W ma) (tE K W mb) σ H Q := by
  obtain ⟨g, e, rfl, rp, re, p⟩ := h
  refine ⟨g, e, rfl, rp, re, (Post.bind p).imp fun b g1 e1 r1 ⟨_, _, p1⟩ => ?_⟩
  cases b with
  | true => exact ⟨g1, e, rfl, r1, re.mono e1, p1⟩
  | false => exact ⟨g1, e, rfl, r1, re.mono e1, p1⟩
theorem i_andV {ma mb : ME} (h : tE K W (mAndV ma mb) σ H Q) : tAndV (tE K W ma) (tE K W mb) σ H Q := by
  obtain ⟨g, e, rfl, rp, re, p⟩ := h
  refine ⟨g, e, rfl, rp, re, (Post.bind p).imp fun a g1 e1 r1 ⟨_, _, p1⟩ v rv => ?_⟩
  obtain ⟨b, hb, _, _, p2⟩ := asB_post r1 (Post.bind p1) rv
  refine ⟨b, hb, ?_⟩
  cases b with
  | true => exact ⟨g1, e, rfl, r1, re.mono e1, p2⟩
  | false => exact Post.here r1 p2 _ (by rw [RD])
theorem i_orV {ma mb : ME} (h : tE K W (mOrV ma mb) σ H Q) : tOrV (tE K W ma) (tE K W mb) σ H Q := by
  obtain ⟨g, e, rfl, rp, re, p⟩ := h
  refine ⟨g, e, rfl, rp, re, (Post.bind p).imp fun a g1 e1 r1 ⟨_, _, p1⟩ v rv => ?_⟩
  obtain ⟨b, hb, _, _, p2⟩ := asB_post r1 (Post.bind p1) rv
  refine ⟨b, hb, ?_⟩
  cases b with
  | false => exact ⟨g1, e, rfl, r1, re.mono e1, p2⟩
  | true => exact Post.here r1 p2 _ (by rw [RD])
theorem i_notV {ma : ME} (h : tE K W (mNotV ma) σ H Q) : tNotV (tE K W ma) σ H Q := by
  obtain ⟨g, e, rfl, rp, re, p⟩ := h
  refine ⟨g, e, rfl, rp, re, (Post.bind p).imp fun a g1 e1 r1 ⟨_, _, p1⟩ v rv => ?_⟩
  obtain ⟨b, hb, _, _, p2⟩ := asB_post r1 (Post.bind p1) rv
  exact ⟨b, hb, Post.here r1 p2 _ (by rw [RD])⟩
end

section
variable {X : Cx} {W : WX'} {a b c : Expr} {ma mb mc : ME} {ta tb tc : MT} {pos : Pos} {rest : List Expr}
theorem pm_var (i : Nat) {x : Str} {pos : Pos} (hN : X.N[i]? = some x := by rfl) (hv : Vis X.env.scope x := by first | exact Or.inl rfl | exact Or.inr (Or.inl rfl) | exact Or.inr (Or.inr rfl)) (hd : (x == ("__debug__" : Str)) = false := by decide)
    (hcd : (x == ("__classdict__" : Str)) = false := by decide) : PE X (.Name x pos) (tE X.K W (mVar i)) := PE.imp (pe_var hN hv hd hcd) fun _ _ _ => i_var
theorem pm_int {i j pos} : PE X (.Constant (.int i) j pos) (tE X.K W (mC (.int i))) := PE.imp pe_int fun _ _ _ => i_C fun g => by rw [RD]
theorem pm_bl {i j pos} : PE X (.Constant (.bool i) j pos) (tE X.K W (mC (.bl i))) := PE.imp pe_bl fun _ _ _ => i_C fun g => by rw [RD]
theorem pm_non {j pos} : PE X (.Constant .none j pos) (tE X.K W (mC .non)) := PE.imp pe_non fun _ _ _ => i_C fun g => by rw [RD]
theorem pm_str {i j pos} : PE X (.Constant (.str i) j pos) (tE X.K W (mC (.str i))) := PE.imp pe_str fun _ _ _ => i_C fun g => by rw [RD]
theorem pm_bltn {x : Str} {n : String} {pos : Pos} (hg : Gl X x) (hm : X.mg x = none) (hv : bootBuiltins x = some (.type n)) (hn : x ≠ "__name__" := by decide) (hd : (x == ("__debug__" : Str)) = false := by decide) : PE X (.Name x pos) (tE X.K W (mC (.ty n))) :=
  PE.imp (pe_bltn (v := .ty n) hg hm hv rfl hn hd) fun _ _ _ => i_C fun g => by rw [RD]
theorem pm_glob {x : Str} {p : Addr} {pos : Pos} (hg : Gl X x) (hm : X.mg x = some (.ref p)) (hd : (x == ("__debug__" : Str)) = false := by decide) : PE X (.Name x pos) (tE X.K W (mC (.adr p))) :=
  PE.imp (pe_glob (v := .ref p) hg hm rfl hd) fun _ _ _ => i_C fun g => by rw [RD]
theorem pm_bin {op : Operator} {f : Op2} (ho : OpR X (binaryOp op) (rOp X.K f)) (ha : PE X a (tE X.K W ma)) (hb : PE X b (tE X.K W mb)) : PE X (.BinOp a op b pos) (tE X.K W (mBin f ma mb)) := PE.imp (pe_op ho ha hb) fun _ _ _ => i_bin
theorem pm_un {op : UnaryOp} {f : Op1} (ho : UnR X (unaryOp op) (rUn X.K f)) (ha : PE X a (tE X.K W ma)) : PE X (.UnaryOp op a pos) (tE X.K W (mUn f ma)) := PE.imp (pe_un ho ha) fun _ _ _ => i_un
theorem pm_cmp {op : CmpOp} {f : Op2} (ho : OpR X (compareOp op) (rOp X.K f)) (ha : PE X a (tE X.K W ma)) (hb : PE X b (tE X.K W mb)) (hm : behindInMarks op b = false := by first | exact nomark _ | rfl | with_unfolding_all rfl) :
    PE X (.Compare a [op] [b] pos) (tE X.K W (mBin f ma mb)) := PE.imp (pe_cmpR ho ha hb hm) fun _ _ _ => i_bin
theorem qm_cmp {op : CmpOp} {f : Op2} (ho : OpR X (compareOp op) (rOp X.K f)) (ha : PE X a (tE X.K W ma)) (hb : PE X b (tE X.K W mb)) (hm : behindInMarks op b = false := by first | exact nomark _ | rfl | with_unfolding_all rfl) :
    PT X (.Compare a [op] [b] pos) (tT X.K W (mTB (mBin f ma mb))) := PT.imp (pt_cmpR ho ha hb hm) fun σ H Q h => by
  obtain ⟨g, e, rfl, rp, re, p⟩ := i_tTest h
  exact i_bin ⟨g, e, rfl, rp, re, p⟩
/-- any expression that gives a bool, as a test -/
theorem qm_val (ha : PE X a (tE X.K W ma)) (he : ∀ whole, isTrue a X.env whole = (do let v ← whole; standAt a.pos; holding [v] (truthy v)) := by intro _; rfl) : PT X a (tT X.K W (mTB ma)) := PT.imp (pt_val ha he) fun _ _ _ => i_tB
theorem qm_and1 (ha : PT X a (tT X.K W ta)) : PW X (.BoolOp .And [a] pos) (tT X.K W ta) := pw_and1 ha
theorem qm_or1 (ha : PT X a (tT X.K W ta)) : PW X (.BoolOp .Or [a] pos) (tT X.K W ta) := pw_or1 ha
theorem qm_and (ha : PT X a (tT X.K W ta)) (hb : PW X (.BoolOp .And (b :: rest) pos) (tT X.K W tb)) : PW X (.BoolOp .And (a :: b :: rest) pos) (tT X.K W (mAnd ta tb)) := PW.imp (pw_and ha hb) fun _ _ _ => i_and
theorem qm_or (ha : PT X a (tT X.K W ta)) (hb : PW X (.BoolOp .Or (b :: rest) pos) (tT X.K W tb)) : PW X (.BoolOp .Or (a :: b :: rest) pos) (tT X.K W (mOr ta tb)) := PW.imp (pw_or ha hb) fun _ _ _ => i_or
theorem qm_not (ha : PT X a (tT X.K W ta)) : PT X (.UnaryOp .Not a pos) (tT X.K W (mNot ta)) := PT.imp (pt_not ha) fun _ _ _ => i_not
theorem pm_if (hc : PT X c (tT X.K W tc)) (ha : PE X a (tE X.K W ma)) (hb : PE X b (tE X.K W mb)) : PE X (.IfExp c a b pos) (tE X.K W (mIf tc ma mb)) := PE.imp (pe_ifExp hc ha hb) fun _ _ _ => i_if
theorem pm_one {op} (h : PE X a (tE X.K W ma)) : PE X (.BoolOp op [a] pos) (tE X.K W ma) := pe_one h
theorem pm_and (ha : PE X a (tE X.K W ma)) (hb : PE X (.BoolOp .And (b :: rest) pos) (tE X.K W mb)) : PE X (.BoolOp .And (a :: b :: rest) pos) (tE X.K W (mAndV ma mb)) := PE.imp (pe_and ha hb) fun _ _ _ => i_andV
theorem pm_or (ha : PE X a (tE X.K W ma)) (hb : PE X (.BoolOp .Or (b :: rest) pos) (tE X.K W mb)) : PE X (.BoolOp .Or (a :: b :: rest) pos) (tE X.K W (mOrV ma mb)) := PE.imp (pe_or ha hb) fun _ _ _ => i_orV
theorem pm_not (ha : PE X a (tE X.K W ma)) : PE X (.UnaryOp .Not a pos) (tE X.K W (mNotV ma)) := PE.imp (pe_not ha) fun _ _ _ => i_notV
theorem am_nil : PA X [] (tA X.K W mNil) := PA.imp pa_nil fun _ _ _ => i_nil
theorem am_cons {mr : MA} {es : List Expr} (ha : PE X a (tE X.K W ma)) (hr : PA X es (tA X.K W mr)) (hs : starEach (a :: es) X.env = (false, eval a X.env) :: starEach es X.env := by rfl) : PA X (a :: es) (tA X.K W (mCons ma mr)) :=
  PA.imp (pa_cons ha hr hs) fun _ _ _ => i_cons
end

/-! ### new sequences -/
def mTup (m : MA) : ME := fun e S => (m e S).bind fun l S1 => if l.length ≤ sz then .ok (.tup l) S1 else .bad
/-- a list that is never changed again -/
def mLst (m : MA) : ME := fun e S => (m e S).bind fun l S1 => if l.length ≤ sz then .ok (.lst l) S1 else .bad
/-- a list that is changed later -/
def mNew (m : MA) : ME := fun e S => (m e S).bind fun l S1 => if l.length ≤ sz then .ok (.ref S1.length) (S1 ++ [.lst l]) else .bad
section
variable {K : PySem.W.Frag} {g : G} {p : Addr}
theorem new_tup (rp : Rep K g) (hp : g.H p = none) {l : List D} {vs : List V} (r : RDs K g l vs) : Ext g { g with H := upd g.H p (.tup vs) } ∧ Rep K { g with H := upd g.H p (.tup vs) } ∧ RD K { g with H := upd g.H p (.tup vs) } (.tup l) (.ref p) := by
  refine ⟨Ext.newv hp, rp.newv hp, ?_⟩
  rw [RD]
  exact ⟨p, vs, rfl, .inl ⟨.inl upd_same, rp.fresh hp⟩, r.mono (Ext.newv hp)⟩
theorem new_lst (rp : Rep K g) (hp : g.H p = none) {l : List D} {vs : List V} (r : RDs K g l vs) : Ext g { g with H := upd g.H p (.lst vs) } ∧ Rep K { g with H := upd g.H p (.lst vs) } ∧ RD K { g with H := upd g.H p (.lst vs) } (.lst l) (.ref p) := by
  refine ⟨Ext.newv hp, rp.newv hp, ?_⟩
  rw [RD]
  exact ⟨p, vs, rfl, ⟨.inl upd_same, rp.fresh hp⟩, r.mono (Ext.newv hp)⟩
theorem new_ref (rp : Rep K g) (hp : g.H p = none) {l : List D} {vs : List V} (r : RDs K g l vs) : Ext g (g.add p (.lst l) (.lst vs)) ∧ Rep K (g.add p (.lst l) (.lst vs)) ∧ RD K (g.add p (.lst l) (.lst vs)) (.ref g.S.length) (.ref p) := by
  refine ⟨Ext.add rp hp, rp.add hp ⟨vs, upd_same, r.mono (Ext.add rp hp)⟩, ?_⟩
  rw [RD]
  exact ⟨by simp, by simp⟩
end
section
variable {K : PySem.W.Frag} {W : WX'} {σ : St} {H : Hp} {Q : VK}
theorem i_tup {m : MA} (h : tE K W (mTup m) σ H Q) : tTup (tA K W m) σ H Q := by
  obtain ⟨g, e, rfl, rp, re, p⟩ := h
  refine ⟨g, e, rfl, rp, re, (Post.bind p).imp fun l g1 e1 r1 ⟨_, _, p1⟩ vs rv => ?_⟩
  by_cases hl : l.length ≤ sz
  · rw [if_pos hl] at p1
    refine ⟨by rw [← rv.length, ← sz_eq]; exact hl, fun q hq => ?_⟩
    obtain ⟨x, y, z⟩ := new_tup r1 hq rv
    exact p1 _ x rfl y _ z
  · rw [if_neg hl] at p1; exact False.elim p1
theorem i_lst {m : MA} (h : tE K W (mLst m) σ H Q) : tLst (tA K W m) σ H Q := by
  obtain ⟨g, e, rfl, rp, re, p⟩ := h
  refine ⟨g, e, rfl, rp, re, (Post.bind p).imp fun l g1 e1 r1 ⟨_, _, p1⟩ vs rv => ?_⟩
  by_cases hl : l.length ≤ sz
  · rw [if_pos hl] at p1
    refine ⟨by rw [← rv.length, ← sz_eq]; exact hl, fun q hq => ?_⟩
    obtain ⟨x, y, z⟩ := new_lst r1 hq rv
    exact p1 _ x rfl y _ z
  · rw [if_neg hl] at p1; exact False.elim p1
theorem i_new {m : MA} (h : tE K W (mNew m) σ H Q) : tLst (tA K W m) σ H Q := by
  obtain ⟨g, e, rfl, rp, re, p⟩ := h
  refine ⟨g, e, rfl, rp, re, (Post.bind p).imp fun l g1 e1 r1 ⟨_, _, p1⟩ vs rv => ?_⟩
  by_cases hl : l.length ≤ sz
  · rw [if_pos hl] at p1
    refine ⟨by rw [← rv.length, ← sz_eq]; exact hl, fun q hq => ?_⟩
    obtain ⟨x, y, z⟩ := new_ref r1 hq rv
    exact p1 _ x rfl y _ z
  · rw [if_neg hl] at p1; exact False.elim p1
end
section
variable {X : Cx} {W : WX'} {es : List Expr} {m : MA} {pos : Pos}
theorem pm_tup {x1} (h : PA X es (tA X.K W m)) : PE X (.Tuple es x1 pos) (tE X.K W (mTup m)) := PE.imp (pe_tup h) fun _ _ _ => i_tup
theorem pm_lst (h : PA X es (tA X.K W m)) : PE X (.List es pos) (tE X.K W (mLst m)) := PE.imp (pe_lst h) fun _ _ _ => i_lst
theorem pm_new (h : PA X es (tA X.K W m)) : PE X (.List es pos) (tE X.K W (mNew m)) := PE.imp (pe_lst h) fun _ _ _ => i_new
end

/-! ### what a sequence holds -/
/-- a list, to be read -/
def seqR (S : List O) : D → Option (List D)
  | .lst l => some l
  | .kl l => some l
  | .ref n => match S[n]? with
    | some (.lst l) => some l
    | _ => none
  | _ => none
/-- a list that the program made -/
def seqP (S : List O) : D → Option (List D)
  | .lst l => some l
  | .ref n => match S[n]? with
    | some (.lst l) => some l
    | _ => none
  | _ => none
section
variable {K : PySem.W.Frag} {g : G}
theorem seqR_at (rp : Rep K g) {d : D} {l : List D} (h : seqR g.S d = some l) {v : V} (r : RD K g d v) : ∃ a vs, v = .ref a ∧ SqL K g.H a vs ∧ RDs K g l vs := by
  cases d with
  | lst m =>
    cases h
    rw [RD] at r
    obtain ⟨a, vs, h1, h2, h3⟩ := r
    exact ⟨a, vs, h1, h2.sq, h3⟩
  | kl m =>
    cases h
    rw [RD] at r
    obtain ⟨a, vs, h1, h2, h3⟩ := r
    exact ⟨a, vs, h1, h2.sq, h3⟩
  | ref n =>
    rw [RD] at r
    unfold seqR at h
    dsimp only at h
    split at h
    · rename_i m q
      cases h
      obtain ⟨vs, h1, h2⟩ := rp.obj n _ q
      exact ⟨_, vs, r.2, .inl (.inl h1), h2⟩
    · cases h
  | _ => cases h
theorem seqP_at (rp : Rep K g) {d : D} {l : List D} (h : seqP g.S d = some l) {v : V} (r : RD K g d v) : ∃ a vs, v = .ref a ∧ Rd g.H a (.lst vs) ∧ RDs K g l vs := by
  cases d with
  | lst m =>
    cases h
    rw [RD] at r
    obtain ⟨a, vs, h1, h2, h3⟩ := r
    exact ⟨a, vs, h1, h2.1, h3⟩
  | ref n =>
    rw [RD] at r
    unfold seqP at h
    dsimp only at h
    split at h
    · rename_i m q
      cases h
      obtain ⟨vs, h1, h2⟩ := rp.obj n _ q
      exact ⟨_, vs, r.2, .inl h1, h2⟩
    · cases h
  | _ => cases h
end
end Mo

namespace Mo
open PySem L2 PyProof.Rows

/-! ### operators -/
/-- x ++ y, by lists -/
def apS (x y : Str) : Str := ⟨⟨x.cps.toList ++ y.cps.toList⟩⟩
theorem apS_eq (x y : Str) : apS x y = x ++ y := by
  show _ = Str.append x y
  unfold apS Str.append
  congr 1
  apply Array.toList_inj.mp
  rw [Array.toList_append]
def gAdd : Op2 := fun S a b => match a, b with
  | .int i, .int j => some (.int (i + j))
  | .int i, .bl k => some (.int (i + b2i k))
  | .str x, .str y => if x.length + y.length ≤ sz then some (.str (apS x y)) else none
  | .tup x, .tup y => if x.length + y.length ≤ sz then some (.tup (x ++ y)) else none
  | a, b => match seqP S a, seqP S b with
    | some x, some y => if x.length + y.length ≤ sz then some (.lst (x ++ y)) else none
    | _, _ => none
def gSub : Op2 := fun _ a b => match a, b with
  | .int i, .int j => some (.int (i - j))
  | _, _ => none
def gMul : Op2 := fun S a b => match a, b with
  | .int i, .int j => if (i.natAbs < 18446744073709551616) ∨ (j.natAbs < 18446744073709551616) then some (.int (i * j)) else none
  | a, .int k => match seqP S a with
    | some x => if x.length * k.toNat ≤ sz ∧ k.natAbs < 9223372036854775808 then some (.lst (List.replicate k.toNat x).flatten) else none
    | none => none
  | _, _ => none
def gDiv : Op2 := fun _ a b => match a, b with
  | .int i, .int j => if 0 < j ∧ j < 1073741824 then some (.int (i / j)) else none
  | _, _ => none
def gMod : Op2 := fun _ a b => match a, b with
  | .int i, .int j => if 0 < j then some (.int (i % j)) else none
  | _, _ => none
def gPow : Op2 := fun _ a b => match a, b with
  | .int i, .int j => if 0 ≤ j ∧ j ≤ 1000000 ∧ i.natAbs < 18446744073709551616 then some (.int (i ^ j.toNat)) else none
  | _, _ => none
def gShl : Op2 := fun _ a b => match a, b with
  | .int i, .int j => if 0 ≤ j ∧ j ≤ 1000000 ∧ i.natAbs < 18446744073709551616 then some (.int (i * 2 ^ j.toNat)) else none
  | _, _ => none
def gNeg : Op1 := fun _ a => match a with
  | .int i => some (.int (-i))
  | _ => none
def gLt : Op2 := fun _ a b => match a, b with
  | .int i, .int j => some (.bl (decide (i < j)))
  | .str x, .str y => some (.bl (decide (x.cps.toList < y.cps.toList)))
  | _, _ => none
def gLe : Op2 := fun _ a b => match a, b with
  | .int i, .int j => some (.bl (decide (i ≤ j)))
  | _, _ => none
def gGt : Op2 := fun _ a b => match a, b with
  | .int i, .int j => some (.bl (decide (j < i)))
  | _, _ => none
def gGe : Op2 := fun _ a b => match a, b with
  | .int i, .int j => some (.bl (decide (j ≤ i)))
  | _, _ => none
mutual
/-- data without objects of one's own -/
def toPy : D → Option PyData
  | .non => some .none
  | .bl b => some (.bool b)
  | .int i => some (.int i)
  | .str x => some (.str x)
  | .tup l => match toPys l with | some m => some (.tuple m) | none => none
  | .lst l => match toPys l with | some m => some (.list m) | none => none
  | .kl l => match toPys l with | some m => some (.list m) | none => none
  | _ => none
def toPys : List D → Option (List PyData)
  | [] => some []
  | d :: l => match toPy d, toPys l with | some x, some m => some (x :: m) | _, _ => none
end
def toPyS (S : List O) (d : D) : Option PyData := match d with
  | .ref n => match S[n]? with
    | some (.lst l) => (match toPys l with | some m => some (.list m) | none => none)
    | _ => none
  | d => toPy d
/-- scalars that == tells apart -/
def scD : D → D → Option Bool
  | .int i, .int j => some (decide (i = j))
  | .str i, .str j => some (decide (i.cps.toList = j.cps.toList))
  | .bl i, .bl j => some (i == j)
  | .non, .non => some true
  | .int _, .str _ => some false
  | .str _, .int _ => some false
  | .non, .int _ => some false
  | .int _, .non => some false
  | .non, .str _ => some false
  | .str _, .non => some false
  | .non, .bl _ => some false
  | .bl _, .non => some false
  | .bl _, .str _ => some false
  | .str _, .bl _ => some false
  | _, _ => none
def eqB (S : List O) (a b : D) : Option Bool := match scD a b with
  | some k => some k
  | none => match toPyS S a, toPyS S b with
    | some p, some q => if SeqAt.shaped p = true ∧ SeqAt.shaped q = true then some (PyData.eqv p q) else none
    | _, _ => none
def gEq : Op2 := fun S a b => (eqB S a b).map .bl
def gNe : Op2 := fun S a b => (eqB S a b).map fun k => .bl (!k)
def gIsN : Op2 := fun _ a b => match b with
  | .non => some (.bl (decide (a = .non)))
  | _ => none
def gNotN : Op2 := fun _ a b => match b with
  | .non => some (.bl (!decide (a = .non)))
  | _ => none
def flatD : D → Bool
  | .non => true | .bl _ => true | .int _ => true | .str _ => true | _ => false
def eqD : D → D → Bool
  | .non, .non => true
  | .bl a, .bl b => a == b
  | .bl a, .int b => (if a then 1 else 0) == b
  | .int a, .bl b => a == (if b then 1 else 0)
  | .int a, .int b => a == b
  | .str a, .str b => a == b
  | _, _ => false
def inD (x : D) (l : List D) : Bool := l.any fun y => eqD y x
def elemB (S : List O) (a b : D) : Option Bool := match b with
  | .str z => match a with
    | .str y => some (!(Builtin.Str.occurrences z y 0 z.length 1).isEmpty)
    | _ => none
  | .tup l => if flatD a = true ∧ l.all flatD = true then some (inD a l) else none
  | b => match seqR S b with
    | some l => if flatD a = true ∧ l.all flatD = true then some (inD a l) else none
    | none => none
def gIn : Op2 := fun S a b => (elemB S a b).map .bl
def gNin : Op2 := fun S a b => (elemB S a b).map fun k => .bl (!k)

section
variable {K : PySem.W.Frag} {g : G}
theorem rd_sc {d : D} {v : V} (h : flatD d = true) (r : RD K g d v) : flatV v = true := by
  cases d <;> first | (cases h; done) | (simp only [RD] at r; subst r; rfl)
theorem dec_strl {x y : Str} : decide (V.str x = V.str y) = decide (x.cps.toList = y.cps.toList) := by
  by_cases h : x = y
  · subst h; rw [decide_eq_true rfl, decide_eq_true rfl]
  · rw [decide_eq_false (fun z => h (by cases z; rfl)), decide_eq_false (fun z => h (by
      cases x with | mk a => cases y with | mk b => cases a with | mk a => cases b with | mk b => simp at z; subst z; rfl))]
theorem scD_ok {a b : D} {k : Bool} (h : scD a b = some k) {x y : V} (ra : RD K g a x) (rb : RD K g b y) : scal x y = true ∧ decide (x = y) = k := by
  cases a <;> cases b <;> first
    | (cases h; done)
    | (simp only [RD] at ra rb; subst ra; subst rb; cases h; refine ⟨rfl, ?_⟩; first | rfl | exact dec_strl | (simp; done) | exact dec_bl)
mutual
theorem toPy_ok : ∀ {d : D} {p : PyData} {v : V}, toPy d = some p → RD K g d v → Dp K g.H v p
  | .non, p, v, h, r => by rw [RD] at r; subst r; cases h; exact .non
  | .bl b, p, v, h, r => by rw [RD] at r; subst r; cases h; exact .bl b
  | .int i, p, v, h, r => by rw [RD] at r; subst r; cases h; exact .int i
  | .str x, p, v, h, r => by rw [RD] at r; subst r; cases h; exact .str x
  | .tup l, p, v, h, r => by
    rw [toPy] at h
    cases q : toPys l with
    | none => rw [q] at h; cases h
    | some m =>
      rw [q] at h; cases h
      rw [RD] at r
      obtain ⟨a, vs, rfl, h2, h3⟩ := r
      exact .tup h2.sq (toPys_ok q h3)
  | .lst l, p, v, h, r => by
    rw [toPy] at h
    cases q : toPys l with
    | none => rw [q] at h; cases h
    | some m =>
      rw [q] at h; cases h
      rw [RD] at r
      obtain ⟨a, vs, rfl, h2, h3⟩ := r
      exact .lst h2.sq (toPys_ok q h3)
  | .kl l, p, v, h, r => by
    rw [toPy] at h
    cases q : toPys l with
    | none => rw [q] at h; cases h
    | some m =>
      rw [q] at h; cases h
      rw [RD] at r
      obtain ⟨a, vs, rfl, h2, h3⟩ := r
      exact .lst h2.sq (toPys_ok q h3)
  | .ty _, p, v, h, r => by cases h
  | .adr _, p, v, h, r => by cases h
  | .ref _, p, v, h, r => by cases h
theorem toPys_ok : ∀ {l : List D} {m : List PyData} {vs : List V}, toPys l = some m → RDs K g l vs → DpAll K g.H vs m
  | [], m, vs, h, r => by rw [RDs] at r; subst r; cases h; exact .nil
  | d :: l, m, vs, h, r => by
    rw [RDs] at r
    obtain ⟨v, us, rfl, h2, h3⟩ := r
    rw [toPys] at h
    cases q1 : toPy d with
    | none => rw [q1] at h; cases h
    | some p =>
      cases q2 : toPys l with
      | none => rw [q1, q2] at h; cases h
      | some ps =>
        rw [q1, q2] at h; cases h
        exact .cons (toPy_ok q1 h2) (toPys_ok q2 h3)
end
theorem toPyS_ok (rp : Rep K g) {d : D} {p : PyData} {v : V} (h : toPyS g.S d = some p) (r : RD K g d v) : Dp K g.H v p := by
  cases d with
  | ref n =>
    rw [RD] at r
    unfold toPyS at h
    dsimp only at h
    split at h
    · rename_i l q
      cases q2 : toPys l with
      | none => rw [q2] at h; cases h
      | some m =>
        rw [q2] at h; cases h
        obtain ⟨vs, h1, h2⟩ := rp.obj n _ q
        rw [r.2]
        exact .lst (.inl (.inl h1)) (toPys_ok q2 h2)
    · cases h
  | _ => exact toPy_ok h r
theorem rds_flat : ∀ {l : List D} {vs : List V}, l.all flatD = true → RDs K g l vs → vs.all flatV = true
  | [], _, _, r => by rw [RDs] at r; subst r; rfl
  | d :: l, _, h, r => by
    rw [RDs] at r
    obtain ⟨v, us, rfl, h2, h3⟩ := r
    rw [List.all_cons, Bool.and_eq_true] at h ⊢
    exact ⟨rd_sc h.1 h2, rds_flat h.2 h3⟩
theorem eqD_ok {a b : D} {x y : V} (ra : RD K g a x) (rb : RD K g b y) (fa : flatD a = true) (fb : flatD b = true) : eqV x y = eqD a b := by
  cases a <;> first | (cases fa; done) | (cases b <;> first | (cases fb; done) | (simp only [RD] at ra rb; subst ra; subst rb; rfl))
theorem inD_ok {a : D} {x : V} (ra : RD K g a x) (fa : flatD a = true) : ∀ {l : List D} {vs : List V}, l.all flatD = true → RDs K g l vs → inV x vs = inD a l
  | [], _, _, r => by rw [RDs] at r; subst r; rfl
  | d :: l, _, h, r => by
    rw [RDs] at r
    obtain ⟨v, us, rfl, h2, h3⟩ := r
    rw [List.all_cons, Bool.and_eq_true] at h
    have ih := inD_ok ra fa h.2 h3
    unfold inV inD at ih ⊢
    rw [List.any_cons, List.any_cons, ih, eqD_ok h2 ra h.1 fa]
end

section
variable {X : Cx}
theorem rd_lst {pins : List (Addr × Obj)} {σ : L2.St} {H : Hp} {s : Shared} {l : Addr} {xs : List V} (I : Inv X pins σ H s) (h : Rd H l (.lst xs)) :
    xs.length ≤ sizeLine ∧ ∃ (its : List Value) (n : Nat), Vals xs its ∧ xs.length = its.length ∧ s.heap.get? l = some { cls := .type "list", data := .seq its.toArray n } := by
  obtain ⟨z, its, n, r, e⟩ := h.ok I.hok
  exact ⟨z, its, n, r, r.length, e⟩
theorem catR : OpR X (binaryOp .Add) (fun x y H Q => ∃ l b xs zs, x = .ref l ∧ y = .ref b ∧ Rd H l (.lst xs) ∧ Rd H b (.lst zs) ∧ xs.length + zs.length ≤ sizeLine ∧ ∀ p, H p = none → Q (.ref p) (upd H p (.lst (xs ++ zs)))) := by
  intro pins s σ H x y v u Q I rx ry h
  obtain ⟨l, b, xs, zs, rfl, rfl, hH, hB, hz, q⟩ := h
  cases rx
  cases ry
  obtain ⟨_, its, n, r, hl, e⟩ := rd_lst I hH
  obtain ⟨_, jts, m, r2, hl2, e2⟩ := rd_lst I hB
  refine PySem.P.add_list e e2 ?_ (by rw [List.size_toArray, List.size_toArray]; omega)
  rw [show its.toArray ++ jts.toArray = (its ++ jts).toArray by simp]
  exact ⟨.ref _, _, I.lnew (t' := s.toks) (r.append r2) (by rw [List.length_append]; omega), rfl, q _ I.fresh⟩
theorem repR : OpR X (binaryOp .Mult) (fun x y H Q => ∃ l k xs, x = .ref l ∧ y = .int k ∧ Rd H l (.lst xs) ∧ -(2 ^ 63) ≤ k ∧ k < 2 ^ 63 ∧ xs.length * k.toNat ≤ sizeLine ∧
    ∀ p, H p = none → Q (.ref p) (upd H p (.lst (List.replicate k.toNat xs).flatten))) := by
  intro pins s σ H x y v u Q I rx ry h
  obtain ⟨l, k, xs, rfl, rfl, hH, h1, h2, hz, q⟩ := h
  cases rx
  obtain ⟨t, rfl⟩ := ry
  obtain ⟨_, its, n, r, hl, e⟩ := rd_lst I hH
  have hlen : its.toArray.size * k.toNat ≤ sizeLine := by rw [List.size_toArray, ← hl]; exact hz
  have big : ¬ its.toArray.size * k.toNat > (2 ^ 63 - 1) / 8 := by
    have : (sizeLine : Nat) ≤ (2 ^ 63 - 1) / 8 := by decide
    omega
  have fits : ¬ (!Builtin.List.listFitsIndex k) = true := by
    rw [fitsIndex_both h1 h2]
    exact Bool.false_ne_true
  have short : ¬ Builtin.List.listTooLong (its.toArray.size * k.toNat) = true := by
    rw [notLongL hlen]
    exact Bool.false_ne_true
  have made : List.foldl (fun x1 x2 => x1 ++ x2) #[] (List.replicate (if its.toArray.isEmpty = true then 0 else k.toNat) its.toArray) = (List.replicate k.toNat its).flatten.toArray := by
    have any : ∀ m : Nat, List.foldl (fun x1 x2 => x1 ++ x2) #[] (List.replicate m its.toArray) = (List.replicate m its).flatten.toArray := fun m => by
      have z := foldl_rep its m []
      rw [List.nil_append] at z
      exact z
    rw [any]
    cases its with
    | nil => simp
    | cons a r' => rw [if_neg (by simp)]
  refine wpAny_binaryOp_repeat_ref (T := "list") (U := "int") (by decide) ⟨_, e, rfl⟩ (fun s' => typeIs_int s' k t) noFill_list_mul F.fills_int_mul F.slot_int_rmul repeat_list F.slot_int_index.lookup
    (call_meets F.slot_int_rmul (typeIs_int s k t) F.entry_int_rmul (F.args_int_rmul_2 _ _) (int___rmul___int_list k t l its.toArray n)
      ⟨e, rfl, ⟨_, e, rfl⟩, call_meets F.slot_list_mul ⟨_, e, rfl⟩ F.entry_list_mul (F.args_list_mul_2 _ _) (AutoListH.list___mul___list_int_3 l its.toArray n k t fits big short) ⟨e, ?_⟩⟩)
  rw [made]
  exact ⟨.ref _, _, I.lnew (t' := s.toks) (r.rep k.toNat) (by rw [PyProof.Rows.lm_len_rep_flat, Nat.mul_comm]; exact hz), rfl, q _ I.fresh⟩
theorem RDs.rep {K : PySem.W.Frag} {g : G} {l : List D} {vs : List V} (r : RDs K g l vs) : ∀ k : Nat, RDs K g (List.replicate k l).flatten (List.replicate k vs).flatten
  | 0 => RDs.nil
  | k + 1 => by
    rw [List.replicate_succ, List.replicate_succ, List.flatten_cons, List.flatten_cons]
    exact r.append (RDs.rep r k)

theorem o_add : OpR X (binaryOp .Add) (rOp X.K gAdd) := by
  intro pins s σ H x y v u Q I rx ry h
  obtain ⟨g, a, b, d, rfl, rp, ra, rb, hf, q⟩ := h
  have lists : (match seqP g.S a, seqP g.S b with
    | some x, some y => if x.length + y.length ≤ sz then some (D.lst (x ++ y)) else none
    | _, _ => none) = some d → wpAny (model X.prog X.w) X.A (binaryOp .Add v u) (EP X pins σ Q) X.xe s := fun hf => by
    cases e1 : seqP g.S a with
    | none => rw [e1] at hf; cases hf
    | some l1 =>
      cases e2 : seqP g.S b with
      | none => rw [e1, e2] at hf; cases hf
      | some l2 =>
        rw [e1, e2] at hf
        dsimp only at hf
        by_cases hz : l1.length + l2.length ≤ sz
        · rw [if_pos hz] at hf
          cases hf
          obtain ⟨p1, vs1, rfl, h1, r1⟩ := seqP_at rp e1 ra
          obtain ⟨p2, vs2, rfl, h2, r2⟩ := seqP_at rp e2 rb
          refine catR pins s σ _ _ _ v u Q I rx ry ⟨p1, p2, vs1, vs2, rfl, rfl, h1, h2, by rw [← r1.length, ← r2.length, ← sz_eq]; exact hz, fun p hp => ?_⟩
          obtain ⟨x1, x2, x3⟩ := new_lst rp hp (r1.append r2)
          exact q _ _ x1 rfl x2 x3
        · rw [if_neg hz] at hf; cases hf
  unfold gAdd at hf
  split at hf
  · cases hf
    simp only [RD] at ra rb; subst ra; subst rb
    exact op_add pins s σ _ _ _ v u Q I rx ry ⟨_, _, rfl, rfl, q g _ (Ext.refl g) rfl rp (by rw [RD])⟩
  · cases hf
    simp only [RD] at ra rb; subst ra; subst rb
    exact op_add_ib pins s σ _ _ _ v u Q I rx ry ⟨_, _, rfl, rfl, q g _ (Ext.refl g) rfl rp (by rw [RD])⟩
  · rename_i x1 y1
    by_cases hz : x1.length + y1.length ≤ sz
    · rw [if_pos hz] at hf
      cases hf
      simp only [RD] at ra rb; subst ra; subst rb
      exact op_add_str pins s σ _ _ _ v u Q I rx ry ⟨_, _, rfl, rfl, by rw [← sz_eq]; exact hz, q g _ (Ext.refl g) rfl rp (by rw [RD, apS_eq])⟩
    · rw [if_neg hz] at hf; cases hf
  · rename_i x1 y1
    by_cases hz : x1.length + y1.length ≤ sz
    · rw [if_pos hz] at hf
      cases hf
      simp only [RD] at ra rb
      obtain ⟨p1, vs1, rfl, h1, r1⟩ := ra
      obtain ⟨p2, vs2, rfl, h2, r2⟩ := rb
      have e1 := r1.length
      have e2 := r2.length
      refine op_catA pins s σ _ _ _ v u Q I rx ry ⟨p1, p2, vs1, vs2, rfl, rfl, h1.sq, h2.sq, by rw [← e1, ← e2, ← sz_eq]; exact hz, fun z => ?_, fun z z' => ?_, fun z z' p hp => ?_⟩
      · subst z
        have : x1 = [] := List.eq_nil_of_length_eq_zero e1
        subst this
        exact q g _ (Ext.refl g) rfl rp (by rw [RD]; exact ⟨p2, vs2, rfl, h2, r2⟩)
      · subst z'
        have : y1 = [] := List.eq_nil_of_length_eq_zero e2
        subst this
        refine q g _ (Ext.refl g) rfl rp ?_
        rw [List.append_nil, RD]
        exact ⟨p1, vs1, rfl, h1, r1⟩
      · obtain ⟨x1, x2, x3⟩ := new_tup rp hp (r1.append r2)
        exact q _ _ x1 rfl x2 x3
    · rw [if_neg hz] at hf; cases hf
  · exact lists hf
/-- an operation of two ints -/
theorem o_ints {f : Value → Value → Sem Value} {op : Op2} {C : Int → Int → Prop} {fn : Int → Int → D} {vn : Int → Int → V} (h : OpR X f (rI C vn)) (rel : ∀ g i j, RD X.K g (fn i j) (vn i j))
    (inv : ∀ S a b d, op S a b = some d → ∃ i j, a = .int i ∧ b = .int j ∧ C i j ∧ d = fn i j) : OpR X f (rOp X.K op) := by
  intro pins s σ H x y v u Q I rx ry hh
  obtain ⟨g, a, b, d, rfl, rp, ra, rb, hf, q⟩ := hh
  obtain ⟨i, j, rfl, rfl, hc, rfl⟩ := inv _ _ _ _ hf
  simp only [RD] at ra rb; subst ra; subst rb
  exact h pins s σ _ _ _ v u Q I rx ry ⟨i, j, rfl, rfl, hc, q g _ (Ext.refl g) rfl rp (rel g i j)⟩
theorem o_ints0 {f : Value → Value → Sem Value} {op : Op2} {fn : Int → Int → D} {vn : Int → Int → V} (h : OpR X f (rI0 vn)) (rel : ∀ g i j, RD X.K g (fn i j) (vn i j))
    (inv : ∀ S a b d, op S a b = some d → ∃ i j, a = .int i ∧ b = .int j ∧ d = fn i j) : OpR X f (rOp X.K op) := by
  intro pins s σ H x y v u Q I rx ry hh
  obtain ⟨g, a, b, d, rfl, rp, ra, rb, hf, q⟩ := hh
  obtain ⟨i, j, rfl, rfl, rfl⟩ := inv _ _ _ _ hf
  simp only [RD] at ra rb; subst ra; subst rb
  exact h pins s σ _ _ _ v u Q I rx ry ⟨i, j, rfl, rfl, q g _ (Ext.refl g) rfl rp (rel g i j)⟩
theorem o_sub : OpR X (binaryOp .Sub) (rOp X.K gSub) := o_ints0 (fn := fun i j => .int (i - j)) op_sub (fun g i j => by rw [RD]) fun S a b d h => by
  unfold gSub at h
  split at h
  · cases h; exact ⟨_, _, rfl, rfl, rfl⟩
  · cases h
theorem o_div : OpR X (binaryOp .FloorDiv) (rOp X.K gDiv) := o_ints (fn := fun i j => .int (i / j)) op_fdiv (fun g i j => by rw [RD]) fun S a b d h => by
  unfold gDiv at h
  split at h
  · split at h
    · cases h; rename_i q; exact ⟨_, _, rfl, rfl, q, rfl⟩
    · cases h
  · cases h
theorem o_mod : OpR X (binaryOp .Mod) (rOp X.K gMod) := o_ints (fn := fun i j => .int (i % j)) op_mod (fun g i j => by rw [RD]) fun S a b d h => by
  unfold gMod at h
  split at h
  · split at h
    · cases h; rename_i q; exact ⟨_, _, rfl, rfl, q, rfl⟩
    · cases h
  · cases h
theorem o_pow : OpR X (binaryOp .Pow) (rOp X.K gPow) := o_ints (fn := fun i j => .int (i ^ j.toNat)) op_pow (fun g i j => by rw [RD]) fun S a b d h => by
  unfold gPow at h
  split at h
  · split at h
    · cases h; rename_i q; exact ⟨_, _, rfl, rfl, ⟨q.1, q.2.1, q.2.2⟩, rfl⟩
    · cases h
  · cases h
theorem o_shl : OpR X (binaryOp .LShift) (rOp X.K gShl) := o_ints (fn := fun i j => .int (i * 2 ^ j.toNat)) op_shl (fun g i j => by rw [RD]) fun S a b d h => by
  unfold gShl at h
  split at h
  · split at h
    · cases h; rename_i q; exact ⟨_, _, rfl, rfl, ⟨q.1, q.2.1, q.2.2⟩, rfl⟩
    · cases h
  · cases h
theorem o_mul : OpR X (binaryOp .Mult) (rOp X.K gMul) := by
  intro pins s σ H x y v u Q I rx ry h
  obtain ⟨g, a, b, d, rfl, rp, ra, rb, hf, q⟩ := h
  unfold gMul at hf
  split at hf
  · split at hf
    · rename_i i j hc
      cases hf
      simp only [RD] at ra rb; subst ra; subst rb
      refine op_mul pins s σ _ _ _ v u Q I rx ry ⟨i, j, rfl, rfl, ?_, q g _ (Ext.refl g) rfl rp (by rw [RD])⟩
      rcases hc with hc | hc
      · exact .inl ⟨by omega, by omega⟩
      · exact .inr ⟨by omega, by omega⟩
    · cases hf
  · rename_i b' k _
    cases e1 : seqP g.S a with
    | none => rw [e1] at hf; cases hf
    | some l =>
      rw [e1] at hf
      dsimp only at hf
      split at hf
      · rename_i hc
        cases hf
        rw [RD] at rb; subst rb
        obtain ⟨p1, vs1, rfl, h1, r1⟩ := seqP_at rp e1 ra
        refine repR pins s σ _ _ _ v u Q I rx ry ⟨p1, k, vs1, rfl, rfl, h1, by omega, by omega, by rw [← r1.length, ← sz_eq]; exact hc.1, fun p hp => ?_⟩
        obtain ⟨x1, x2, x3⟩ := new_lst rp hp (r1.rep k.toNat)
        exact q _ _ x1 rfl x2 x3
      · cases hf
  · cases hf
theorem o_neg : UnR X (unaryOp .USub) (rUn X.K gNeg) := by
  intro pins s σ H x v Q I rx h
  obtain ⟨g, a, d, rfl, rp, ra, hf, q⟩ := h
  unfold gNeg at hf
  split at hf
  · cases hf
    rw [RD] at ra; subst ra
    exact un_neg pins s σ _ _ v Q I rx ⟨_, rfl, q g _ (Ext.refl g) rfl rp (by rw [RD])⟩
  · cases hf
theorem o_lt : OpR X (compareOp .Lt) (rOp X.K gLt) := by
  intro pins s σ H x y v u Q I rx ry h
  obtain ⟨g, a, b, d, rfl, rp, ra, rb, hf, q⟩ := h
  unfold gLt at hf
  split at hf
  · cases hf
    simp only [RD] at ra rb; subst ra; subst rb
    exact op_lt pins s σ _ _ _ v u Q I rx ry ⟨_, _, rfl, rfl, q g _ (Ext.refl g) rfl rp (by rw [RD])⟩
  · cases hf
    simp only [RD] at ra rb; subst ra; subst rb
    exact op_lt_str pins s σ _ _ _ v u Q I rx ry ⟨_, _, rfl, rfl, q g _ (Ext.refl g) rfl rp (by rw [RD])⟩
  · cases hf
theorem o_le : OpR X (compareOp .LtE) (rOp X.K gLe) := o_ints0 (fn := fun i j => .bl (decide (i ≤ j))) op_le (fun g i j => by rw [RD]) fun S a b d h => by
  unfold gLe at h
  split at h
  · cases h; exact ⟨_, _, rfl, rfl, rfl⟩
  · cases h
theorem o_gt : OpR X (compareOp .Gt) (rOp X.K gGt) := o_ints0 (fn := fun i j => .bl (decide (j < i))) op_gt (fun g i j => by rw [RD]) fun S a b d h => by
  unfold gGt at h
  split at h
  · cases h; exact ⟨_, _, rfl, rfl, rfl⟩
  · cases h
theorem o_ge : OpR X (compareOp .GtE) (rOp X.K gGe) := o_ints0 (fn := fun i j => .bl (decide (j ≤ i))) op_ge (fun g i j => by rw [RD]) fun S a b d h => by
  unfold gGe at h
  split at h
  · cases h; exact ⟨_, _, rfl, rfl, rfl⟩
  · cases h
theorem eqB_cases {S : List O} {a b : D} {k : Bool} (h : eqB S a b = some k) : scD a b = some k ∨ ∃ p q, toPyS S a = some p ∧ toPyS S b = some q ∧ SeqAt.shaped p = true ∧ SeqAt.shaped q = true ∧ PyData.eqv p q = k := by
  unfold eqB at h
  cases e : scD a b with
  | some k' => rw [e] at h; cases h; exact .inl rfl
  | none =>
    rw [e] at h
    dsimp only at h
    cases e1 : toPyS S a with
    | none => rw [e1] at h; cases h
    | some p =>
      cases e2 : toPyS S b with
      | none => rw [e1, e2] at h; cases h
      | some q =>
        rw [e1, e2] at h
        dsimp only at h
        by_cases hc : SeqAt.shaped p = true ∧ SeqAt.shaped q = true
        · rw [if_pos hc] at h
          cases h
          exact .inr ⟨p, q, rfl, rfl, hc.1, hc.2, rfl⟩
        · rw [if_neg hc] at h; cases h
theorem o_eq (hu : X.A.units + 64 < cLine) : OpR X (compareOp .Eq) (rOp X.K gEq) := by
  intro pins s σ H x y v u Q I rx ry h
  obtain ⟨g, a, b, d, rfl, rp, ra, rb, hf, q⟩ := h
  unfold gEq at hf
  cases e : eqB g.S a b with
  | none => rw [e] at hf; cases hf
  | some k =>
    rw [e] at hf; cases hf
    have fin : Q (.bl k) g.H := q g _ (Ext.refl g) rfl rp (by rw [RD])
    rcases eqB_cases e with z | ⟨p1, p2, z1, z2, s1, s2, rfl⟩
    · obtain ⟨w1, w2⟩ := scD_ok z ra rb
      exact L2.op_eq pins s σ _ _ _ v u Q I rx ry ⟨w1, by rw [w2]; exact fin⟩
    · exact op_eqD hu pins s σ _ _ _ v u Q I rx ry ⟨p1, p2, toPyS_ok rp z1 ra, toPyS_ok rp z2 rb, s1, s2, fin⟩
theorem o_ne (hu : X.A.units + 64 < cLine) : OpR X (compareOp .NotEq) (rOp X.K gNe) := by
  intro pins s σ H x y v u Q I rx ry h
  obtain ⟨g, a, b, d, rfl, rp, ra, rb, hf, q⟩ := h
  unfold gNe at hf
  cases e : eqB g.S a b with
  | none => rw [e] at hf; cases hf
  | some k =>
    rw [e] at hf; cases hf
    have fin : Q (.bl (!k)) g.H := q g _ (Ext.refl g) rfl rp (by rw [RD])
    rcases eqB_cases e with z | ⟨p1, p2, z1, z2, s1, s2, rfl⟩
    · obtain ⟨w1, w2⟩ := scD_ok z ra rb
      exact L2.op_ne pins s σ _ _ _ v u Q I rx ry ⟨w1, by rw [w2]; exact fin⟩
    · exact op_neD hu pins s σ _ _ _ v u Q I rx ry ⟨p1, p2, toPyS_ok rp z1 ra, toPyS_ok rp z2 rb, s1, s2, fin⟩
theorem rd_non {K : PySem.W.Frag} {g : G} {d : D} {x : V} (r : RD K g d x) : decide (x = .non) = decide (d = .non) := by
  cases d with
  | non => rw [RD] at r; subst r; rfl
  | bl _ => rw [RD] at r; subst r; rfl
  | int _ => rw [RD] at r; subst r; rfl
  | str _ => rw [RD] at r; subst r; rfl
  | ty _ => rw [RD] at r; subst r; rfl
  | adr _ => rw [RD] at r; subst r; rfl
  | ref _ => rw [RD] at r; rw [r.2]; rfl
  | tup _ => rw [RD] at r; obtain ⟨a, vs, rfl, _⟩ := r; rfl
  | lst _ => rw [RD] at r; obtain ⟨a, vs, rfl, _⟩ := r; rfl
  | kl _ => rw [RD] at r; obtain ⟨a, vs, rfl, _⟩ := r; rfl
theorem o_isN : OpR X (compareOp .Is) (rOp X.K gIsN) := by
  intro pins s σ H x y v u Q I rx ry h
  obtain ⟨g, a, b, d, rfl, rp, ra, rb, hf, q⟩ := h
  unfold gIsN at hf
  split at hf
  · cases hf
    rw [RD] at rb; subst rb
    exact op_isN pins s σ _ _ _ v u Q I rx ry ⟨rfl, by rw [rd_non ra]; exact q g _ (Ext.refl g) rfl rp (by rw [RD])⟩
  · cases hf
theorem o_notN : OpR X (compareOp .IsNot) (rOp X.K gNotN) := by
  intro pins s σ H x y v u Q I rx ry h
  obtain ⟨g, a, b, d, rfl, rp, ra, rb, hf, q⟩ := h
  unfold gNotN at hf
  split at hf
  · cases hf
    rw [RD] at rb; subst rb
    exact op_notN pins s σ _ _ _ v u Q I rx ry ⟨rfl, by rw [rd_non ra]; exact q g _ (Ext.refl g) rfl rp (by rw [RD])⟩
  · cases hf
theorem elemB_cases {K : PySem.W.Frag} {g : G} (rp : Rep K g) {a b : D} {k : Bool} {x y : V} (ra : RD K g a x) (rb : RD K g b y) (h : elemB g.S a b = some k) :
    (∃ i j, x = .str i ∧ y = .str j ∧ (!(Builtin.Str.occurrences j i 0 j.length 1).isEmpty) = k) ∨ (∃ p xs, y = .ref p ∧ (SqL K g.H p xs ∨ SqT K g.H p xs) ∧ flatV x = true ∧ xs.all flatV = true ∧ inV x xs = k) := by
  unfold elemB at h
  split at h
  · rename_i z
    split at h
    · cases h
      simp only [RD] at ra rb; subst ra; subst rb
      exact .inl ⟨_, _, rfl, rfl, rfl⟩
    · cases h
  · rename_i l
    by_cases hc : flatD a = true ∧ l.all flatD = true
    · rw [if_pos hc] at h
      cases h
      rw [RD] at rb
      obtain ⟨p, vs, rfl, h1, h2⟩ := rb
      exact .inr ⟨p, vs, rfl, .inr h1.sq, rd_sc hc.1 ra, rds_flat hc.2 h2, inD_ok ra hc.1 hc.2 h2⟩
    · rw [if_neg hc] at h; cases h
  · cases e : seqR g.S b with
    | none => rw [e] at h; cases h
    | some l =>
      rw [e] at h
      dsimp only at h
      by_cases hc : flatD a = true ∧ l.all flatD = true
      · rw [if_pos hc] at h
        cases h
        obtain ⟨p, vs, rfl, h1, h2⟩ := seqR_at rp e rb
        exact .inr ⟨p, vs, rfl, .inl h1, rd_sc hc.1 ra, rds_flat hc.2 h2, inD_ok ra hc.1 hc.2 h2⟩
      · rw [if_neg hc] at h; cases h
theorem o_in : OpR X (compareOp .In) (rOp X.K gIn) := by
  intro pins s σ H x y v u Q I rx ry h
  obtain ⟨g, a, b, d, rfl, rp, ra, rb, hf, q⟩ := h
  unfold gIn at hf
  cases e : elemB g.S a b with
  | none => rw [e] at hf; cases hf
  | some k =>
    rw [e] at hf; cases hf
    have fin : Q (.bl k) g.H := q g _ (Ext.refl g) rfl rp (by rw [RD])
    rcases elemB_cases rp ra rb e with ⟨i, j, rfl, rfl, z⟩ | ⟨p, xs, rfl, z1, z2, z3, z4⟩
    · exact op_in_str pins s σ _ _ _ v u Q I rx ry ⟨i, j, rfl, rfl, by rw [z]; exact fin⟩
    · exact op_in_seq pins s σ _ _ _ v u Q I rx ry ⟨p, xs, rfl, z1, z2, z3, by rw [z4]; exact fin⟩
theorem o_nin : OpR X (compareOp .NotIn) (rOp X.K gNin) := by
  intro pins s σ H x y v u Q I rx ry h
  obtain ⟨g, a, b, d, rfl, rp, ra, rb, hf, q⟩ := h
  unfold gNin at hf
  cases e : elemB g.S a b with
  | none => rw [e] at hf; cases hf
  | some k =>
    rw [e] at hf; cases hf
    have fin : Q (.bl (!k)) g.H := q g _ (Ext.refl g) rfl rp (by rw [RD])
    rcases elemB_cases rp ra rb e with ⟨i, j, rfl, rfl, z⟩ | ⟨p, xs, rfl, z1, z2, z3, z4⟩
    · exact op_notin_str pins s σ _ _ _ v u Q I rx ry ⟨i, j, rfl, rfl, by rw [z]; exact fin⟩
    · exact op_notIn_seq pins s σ _ _ _ v u Q I rx ry ⟨p, xs, rfl, z1, z2, z3, by rw [z4]; exact fin⟩
end
end Mo

namespace Mo
open PySem L2 PyProof.Rows

/-! ### items -/
def gIx : Op2 := fun S a i => match a, i with
  | .tup l, .int i => atI l i
  | .str z, .int i => if z.length ≤ sz then (match atI z.cps.toList i with | some c => some (.str ⟨#[c]⟩) | none => none) else none
  | a, .int i => match seqR S a with
    | some l => atI l i
    | none => none
  | _, _ => none
theorem RDs.atI {K : PySem.W.Frag} {g : G} {l : List D} {vs : List V} {i : Int} {d : D} (r : RDs K g l vs) (h : L2.atI l i = some d) : ∃ v, L2.atI vs i = some v ∧ RD K g d v := by
  unfold L2.atI at h ⊢
  rw [← r.length]
  cases e : ixN l.length i with
  | none => rw [e] at h; cases h
  | some j =>
    rw [e] at h
    exact RDs.get r h
section
variable {X : Cx}
theorem o_ix : IxR X (rOp X.K gIx) := by
  intro e1 e2 pins s σ H x y v u Q I rx ry h hsub
  obtain ⟨g, a, b, d, rfl, rp, ra, rb, hf, q⟩ := h
  unfold gIx at hf
  split at hf
  · rename_i l i
    simp only [RD] at ra rb
    subst rb
    obtain ⟨p, vs, rfl, h1, r1⟩ := ra
    obtain ⟨w, hw, rw'⟩ := r1.atI hf
    exact ix_tup e1 e2 pins s σ _ _ _ v u Q I rx ry ⟨p, vs, i, w, rfl, rfl, h1.sq, hw, q g w (Ext.refl g) rfl rp rw'⟩ hsub
  · rename_i z i
    split at hf
    · rename_i hz
      split at hf
      · rename_i c hc
        cases hf
        simp only [RD] at ra rb
        subst ra; subst rb
        exact ix_str e1 e2 pins s σ _ _ _ v u Q I rx ry ⟨z, i, c, rfl, rfl, by rw [← sz_eq]; exact hz, hc, q g _ (Ext.refl g) rfl rp (by rw [RD])⟩ hsub
      · cases hf
    · cases hf
  · rename_i i _ _
    cases e : seqR g.S a with
    | none => rw [e] at hf; cases hf
    | some l =>
      rw [e] at hf
      dsimp only at hf
      obtain ⟨p, vs, rfl, h1, r1⟩ := seqR_at rp e ra
      obtain ⟨w, hw, rw'⟩ := r1.atI hf
      simp only [RD] at rb
      subst rb
      exact ix_list e1 e2 pins s σ _ _ _ v u Q I rx ry ⟨p, vs, i, w, rfl, rfl, h1, hw, q g w (Ext.refl g) rfl rp rw'⟩ hsub
  · cases hf
theorem pm_ix {W : WX'} {a b : Expr} {ma mb : ME} {pos : Pos} (ha : PE X a (tE X.K W ma)) (hb : PE X b (tE X.K W mb)) (hs : PlainIx b := by first | (intro _ _; rfl)) : PE X (.Subscript a b pos) (tE X.K W (mBin gIx ma mb)) := PE.imp (pe_ix o_ix ha hb hs) fun _ _ _ => i_bin
end

/-! ### slices -/
abbrev MO := Env → List O → R (Option Int)
def moN : MO := fun _ S => .ok none S
def asI (S : List O) : D → R (Option Int)
  | .int i => .ok (some i) S
  | _ => .bad
def moS (m : ME) : MO := fun e S => (m e S).bind fun d S1 => asI S1 d
def tO (K : PySem.W.Frag) (W : WX') (m : MO) : TO := fun σ H Q => ∃ g e, g.H = H ∧ Rep K g ∧ RE K g e σ ∧ Post K W g (m e g.S) σ fun o g' => Q o g'.H
def cutD {α : Type} (xs : List α) (lo hi : Option Int) : List α := (xs.drop (HT.sIx xs.length 0 lo)).take (HT.sIx xs.length xs.length hi - HT.sIx xs.length 0 lo)
def gSl (S : List O) (a : D) (lo hi : Option Int) : Option D := match a with
  | .tup l => some (.tup (cutD l lo hi))
  | .str z => if z.length ≤ sz then some (.str (cutS z lo hi)) else none
  | a => match seqR S a with
    | some l => some (.lst (cutD l lo hi))
    | none => none
def mSl (m : ME) (l h : MO) : ME := fun e S => (m e S).bind fun a S1 => (l e S1).bind fun lo S2 => (h e S2).bind fun hi S3 => R.ofO S3 (gSl S3 a lo hi)
def rSl (K : PySem.W.Frag) (f : List O → D → Option Int → Option Int → Option D) : V → Option Int → Option Int → Hp → VK → Prop := fun x lo hi H Q =>
  ∃ g a d, g.H = H ∧ Rep K g ∧ RD K g a x ∧ f g.S a lo hi = some d ∧ ∀ g' v, Ext g g' → g'.S = g.S → Rep K g' → RD K g' d v → Q v g'.H
theorem RDs.cut {K : PySem.W.Frag} {g : G} {l : List D} {vs : List V} (r : RDs K g l vs) (lo hi : Option Int) : RDs K g (cutD l lo hi) (cutV vs lo hi) := by
  unfold cutD cutV
  rw [← r.length]
  exact (r.drop _).take _
section
variable {X : Cx} {W : WX'}
theorem o_sl : SlR X (rSl X.K gSl) := by
  intro pins s σ H x v vl vu lo hi sl Q I rx hs pl pu h
  obtain ⟨g, a, d, rfl, rp, ra, hf, q⟩ := h
  unfold gSl at hf
  split at hf
  · rename_i l
    cases hf
    have ra' := ra
    rw [RD] at ra
    obtain ⟨p, vs, rfl, h1, r1⟩ := ra
    have e := r1.length
    refine sl_tupA pins s σ _ _ v vl vu lo hi sl Q I rx hs pl pu ⟨p, vs, rfl, h1.sq, fun z => ?_, fun z w hw => ?_⟩
    · refine q g _ (Ext.refl g) rfl rp ?_
      have : cutD l lo hi = l := by
        unfold cutD
        rw [e, z.1, z.2, List.drop_zero, Nat.sub_zero, ← e, List.take_length]
      rw [this]
      exact ra'
    · obtain ⟨x1, x2, x3⟩ := new_tup rp hw (r1.cut lo hi)
      exact q _ _ x1 rfl x2 x3
  · rename_i z
    split at hf
    · rename_i hz
      cases hf
      rw [RD] at ra; subst ra
      exact sl_str pins s σ _ _ v vl vu lo hi sl Q I rx hs pl pu ⟨z, rfl, by rw [← sz_eq]; exact hz, q g _ (Ext.refl g) rfl rp (by rw [RD])⟩
    · cases hf
  · cases e : seqR g.S a with
    | none => rw [e] at hf; cases hf
    | some l =>
      rw [e] at hf
      cases hf
      obtain ⟨p, vs, rfl, h1, r1⟩ := seqR_at rp e ra
      refine sl_list pins s σ _ _ v vl vu lo hi sl Q I rx hs pl pu ⟨p, vs, rfl, h1, fun w hw => ?_⟩
      obtain ⟨x1, x2, x3⟩ := new_lst rp hw (r1.cut lo hi)
      exact q _ _ x1 rfl x2 x3
theorem i_sl {K : PySem.W.Frag} {σ : L2.St} {H : Hp} {Q : VK} {m : ME} {l h : MO} (hh : tE K W (mSl m l h) σ H Q) : tSl (rSl K gSl) (tE K W m) (tO K W l) (tO K W h) σ H Q := by
  obtain ⟨g, e, rfl, rp, re, p⟩ := hh
  refine ⟨g, e, rfl, rp, re, (Post.bind p).imp fun a g1 e1 r1 ⟨_, _, p1⟩ v rv => ?_⟩
  refine ⟨g1, e, rfl, r1, re.mono e1, (Post.bind p1).imp fun lo g2 e2 r2 ⟨_, _, p2⟩ => ?_⟩
  refine ⟨g2, e, rfl, r2, (re.mono e1).mono e2, (Post.bind p2).imp fun hi g3 e3 r3 ⟨_, _, p3⟩ => ?_⟩
  cases q : gSl g3.S a lo hi with
  | none => rw [q] at p3; exact False.elim p3
  | some d =>
    rw [q] at p3
    exact ⟨g3, a, d, rfl, r3, (rv.mono e2).mono e3, q, fun g' w x s r rw' => p3 g' x s r w rw'⟩
theorem po_n : PO X none (tO X.K W moN) := ⟨fun pins s σ H Q I h => by
  obtain ⟨g, e, rfl, rp, re, p⟩ := h
  exact po_none.run pins s σ _ Q I (Post.here rp p)⟩
theorem po_s {e : Expr} {m : ME} (h : PE X e (tE X.K W m)) : PO X (some e) (tO X.K W (moS m)) := ⟨fun pins s σ H Q I hh => by
  obtain ⟨g, en, rfl, rp, re, p⟩ := hh
  refine (po_some h).run pins s σ _ Q I ⟨g, en, rfl, rp, re, (Post.bind p).imp fun d g1 e1 r1 ⟨_, _, p1⟩ v rv => ?_⟩
  cases d with
  | int i =>
    rw [RD] at rv
    exact ⟨i, rv, Post.here r1 p1⟩
  | _ => exact False.elim p1⟩
theorem pm_sl {a : Expr} {lo hi : Option Expr} {m : ME} {l h : MO} {p2 pos : Pos} (ha : PE X a (tE X.K W m)) (hl : PO X lo (tO X.K W l)) (hh : PO X hi (tO X.K W h)) : PE X (.Subscript a (.Slice lo hi none p2) pos) (tE X.K W (mSl m l h)) :=
  PE.imp (pe_slice o_sl ha hl hh) fun _ _ _ => i_sl
end
/-- the items that a slice with a step picks -/
def pickD {α : Type} (xs : List α) (lo hi : Option Int) (c : Int) : List α :=
  (sliceRange (sliceBounds lo hi (some c) xs.length).1 (sliceBounds lo hi (some c) xs.length).2.1 (sliceBounds lo hi (some c) xs.length).2.2).filterMap (xs[·]?)
theorem pick_vals {xs : List V} {its : List Value} (r : Vals xs its) : ∀ ix : List Nat, Vals (ix.filterMap (xs[·]?)) (ix.filterMap (its[·]?))
  | [] => .nil
  | i :: ix => by
    rw [List.filterMap_cons, List.filterMap_cons]
    cases e : xs[i]? with
    | none => rw [r.none_of e]; exact pick_vals r ix
    | some x =>
      obtain ⟨u, hu, ru⟩ := r.get e
      rw [hu]
      exact .cons ru (pick_vals r ix)
theorem pick_rds {K : PySem.W.Frag} {g : G} {l : List D} {vs : List V} (r : RDs K g l vs) : ∀ ix : List Nat, RDs K g (ix.filterMap (l[·]?)) (ix.filterMap (vs[·]?))
  | [] => RDs.nil
  | i :: ix => by
    rw [List.filterMap_cons, List.filterMap_cons]
    cases e : l[i]? with
    | none =>
      have : vs[i]? = none := by
        rw [List.getElem?_eq_none_iff] at e ⊢
        rw [← r.length]; exact e
      rw [this]; exact pick_rds r ix
    | some d =>
      obtain ⟨v, hv, rv⟩ := r.get e
      rw [hv]
      exact RDs.cons rv (pick_rds r ix)
def gSl3 (S : List O) (a : D) (lo hi st : Option Int) : Option D := match st with
  | some c => if c ≠ 0 then (match seqR S a with
    | some l => some (.lst (pickD l lo hi c))
    | none => none) else none
  | none => none
def mSl3 (m : ME) (l h t : MO) : ME := fun e S => (m e S).bind fun a S1 => (l e S1).bind fun lo S2 => (h e S2).bind fun hi S3 => (t e S3).bind fun st S4 => R.ofO S4 (gSl3 S4 a lo hi st)
section
variable {X : Cx} {W : WX'}
theorem pm_sl3 {a st : Expr} {lo hi : Option Expr} {m : ME} {l h t : MO} {p2 pos : Pos} (ha : PE X a (tE X.K W m)) (hl : PO X lo (tO X.K W l)) (hh : PO X hi (tO X.K W h)) (ht : PO X (some st) (tO X.K W t)) :
    PE X (.Subscript a (.Slice lo hi (some st) p2) pos) (tE X.K W (mSl3 m l h t)) := by
  constructor
  rintro pins s σ H Q I ⟨g, e, rfl, rp, re, p⟩
  refine Subscript_ (thn (ha.run pins s σ _ (fun v H1 => tO X.K W l σ H1 fun lo H2 => tO X.K W h σ H2 fun hi H3 => tO X.K W t σ H3 fun st H4 => ∃ g a d, g.H = H4 ∧ Rep X.K g ∧ RD X.K g a v ∧ gSl3 g.S a lo hi st = some d ∧ ∀ g' w, Ext g g' → g'.S = g.S → Rep X.K g' → RD X.K g' d w → Q w g'.H) I
    ⟨g, e, rfl, rp, re, (Post.bind p).imp fun a g1 e1 r1 ⟨_, _, p1⟩ v rv => ?_⟩) fun v s1 ⟨x, H1, I1, r1, q1⟩ => ?_)
  · refine ⟨g1, e, rfl, r1, re.mono e1, (Post.bind p1).imp fun lo g2 e2 r2 ⟨_, _, p2⟩ => ?_⟩
    refine ⟨g2, e, rfl, r2, (re.mono e1).mono e2, (Post.bind p2).imp fun hi g3 e3 r3 ⟨_, _, p3⟩ => ?_⟩
    refine ⟨g3, e, rfl, r3, ((re.mono e1).mono e2).mono e3, (Post.bind p3).imp fun st g4 e4 r4 ⟨_, _, p4⟩ => ?_⟩
    cases q : gSl3 g4.S a lo hi st with
    | none => rw [q] at p4; exact False.elim p4
    | some d =>
      rw [q] at p4
      exact ⟨g4, a, d, rfl, r4, ((rv.mono e2).mono e3).mono e4, q, fun g' w x s r rw' => p4 g' x s r w rw'⟩
  · refine wpAny_Slice (thn (hl.run pins s1 σ H1 _ I1 q1) fun vl s2 ⟨lo', H2, I2, pl, q2⟩ => thn (hh.run pins s2 σ H2 _ I2 q2) fun vu s3 ⟨hi', H3, I3, pu, q3⟩ => thn (ht.run pins s3 σ H3 _ I3 q3) fun vt s4 ⟨st', H4, I4, pt, q4⟩ => ?_)
    obtain ⟨g4, a4, d, rfl, r4, rv, hf, q⟩ := q4
    unfold gSl3 at hf
    cases st' with
    | none => cases hf
    | some c =>
      dsimp only at hf
      by_cases hc : c ≠ 0
      · rw [if_pos hc] at hf
        cases e5 : seqR g4.S a4 with
        | none => rw [e5] at hf; cases hf
        | some ls =>
          rw [e5] at hf
          cases hf
          obtain ⟨b, vs, rfl, h1, h2⟩ := seqR_at r4 e5 rv
          cases r1
          have I5 : Inv X pins σ g4.H { s4 with heap := s4.heap.push { cls := .type "slice", data := .fields #[vl, vu, vt] } } := I4.kept (t' := s4.toks) fun b ob q => Heap.get?_push_of_some _ q
          obtain ⟨its, rr, hpl, hz⟩ := I5.list h1
          have hlen := rr.length
          show wpAny (model X.prog X.w) X.A (subscriptTail a (.Slice lo hi (some st) p2) (.ref b) (.ref s4.heap.objs.size)) (EP X pins σ Q) X.xe { s4 with heap := s4.heap.push { cls := .type "slice", data := .fields #[vl, vu, vt] } }
          refine tail_any (ops := [.ref b, .ref s4.heap.objs.size]) hpl.isList.typeIs (PySem.slot_list_getitem.lookup) ?_ (by with_unfolding_all rfl)
          refine wpAny_getItem_list_slice hpl.isList (Heap.IsSliceOf.new _ vl vu vt) pl pu pt (by intro z; exact hc (Option.some.inj z)) ?_ (by rw [List.size_toArray]; omega)
          have ev : (slicePick its.toArray lo' hi' (some c)) = (pickD its lo' hi' c).toArray := by
            unfold slicePick pickD
            simp only [List.size_toArray, List.getElem?_toArray]
          have vv : Vals (pickD vs lo' hi' c) (pickD its lo' hi' c) := by
            unfold pickD
            rw [← hlen]
            exact pick_vals rr _
          have dd : RDs X.K g4 (pickD ls lo' hi' c) (pickD vs lo' hi' c) := by
            unfold pickD
            rw [← h2.length]
            exact pick_rds h2 _
          have small : (pickD vs lo' hi' c).length ≤ sizeLine := by
            have z : (slicePick its.toArray lo' hi' (some c)).size ≤ its.toArray.size := PySem.slicePick_size_le _ _ _ _
            rw [ev, List.size_toArray, List.size_toArray, ← vv.length] at z
            omega
          rw [ev]
          have fr := I5.hok.fresh (Nat.le_refl _)
          obtain ⟨x1, x2, x3⟩ := new_lst r4 fr dd
          refine ⟨.ref _, _, I5.laid (t' := s4.toks) (o := .lst (pickD vs lo' hi' c)) (fun b ob q => Heap.get?_push_of_some _ q) (Nat.le_refl _) ?_, rfl, q _ _ x1 rfl x2 x3⟩
          exact ⟨small, _, 0, vv, Heap.get?_push_size _ rfl⟩
      · rw [if_neg hc] at hf; cases hf
end
end Mo

namespace Mo
open PySem PySem.Spec L2 PyProof.Rows

/-! ### built-in functions -/
abbrev OpN := List O → List D → Option D
def mCB (f : OpN) (m : MA) : ME := fun e S => (m e S).bind fun l S1 => R.ofO S1 (f S1 l)
def rN (K : PySem.W.Frag) (f : OpN) : List V → Hp → VK → Prop := fun vs H Q => ∃ g ds d, g.H = H ∧ Rep K g ∧ RDs K g ds vs ∧ f g.S ds = some d ∧ ∀ g' v, Ext g g' → g'.S = g.S → Rep K g' → RD K g' d v → Q v g'.H
theorem i_CB {K : PySem.W.Frag} {W : WX'} {σ : L2.St} {H : Hp} {Q : VK} {f : OpN} {m : MA} (h : tE K W (mCB f m) σ H Q) : tCB (rN K f) (tA K W m) σ H Q := by
  obtain ⟨g, e, rfl, rp, re, p⟩ := h
  refine ⟨g, e, rfl, rp, re, (Post.bind p).imp fun l g1 e1 r1 ⟨_, _, p1⟩ vs rv => ?_⟩
  cases q : f g1.S l with
  | none => rw [q] at p1; exact False.elim p1
  | some d =>
    rw [q] at p1
    exact ⟨g1, l, d, rfl, r1, rv, q, fun g' w x s r rw' => p1 g' x s r w rw'⟩
section
variable {X : Cx} {W : WX'} {e : Expr} {es : List Expr} {m : MA} {x : Str} {p pos : Pos} {id T : String} {f : OpN}
theorem pm_cb (hc : CallR X (.builtin id) (rN X.K f)) (hg : Gl X x) (hm : X.mg x = none) (hv : bootBuiltins x = some (.builtin id)) (ha : PA X (e :: es) (tA X.K W m)) (hn : x ≠ "__name__" := by decide) (hdb : (x == ("__debug__" : Str)) = false := by decide)
    (he : starEach (e :: es) X.env = (false, eval e X.env) :: starEach es X.env := by rfl) (hpl : (backTo pos (starEach es X.env)).any (·.1) = false := by rfl) : PE X (.Call (.Name x p) (e :: es) [] pos) (tE X.K W (mCB f m)) :=
  PE.imp (pe_callB hc hg hm hv ha hn hdb he hpl) fun _ _ _ => i_CB
theorem pm_cty (hc : CallR X (.type T) (rN X.K f)) (hg : Gl X x) (hm : X.mg x = none) (hv : bootBuiltins x = some (.type T)) (ha : PA X (e :: es) (tA X.K W m)) (hn : x ≠ "__name__" := by decide) (hdb : (x == ("__debug__" : Str)) = false := by decide)
    (he : starEach (e :: es) X.env = (false, eval e X.env) :: starEach es X.env := by rfl) (hpl : (backTo pos (starEach es X.env)).any (·.1) = false := by rfl) : PE X (.Call (.Name x p) (e :: es) [] pos) (tE X.K W (mCB f m)) :=
  PE.imp (pe_callTy hc hg hm hv ha hn hdb he hpl) fun _ _ _ => i_CB
end

def gLen : OpN := fun S l => match l with
  | [.str z] => if z.length ≤ sz then some (.int z.length) else none
  | [.tup l] => some (.int l.length)
  | [d] => match seqR S d with
    | some l => some (.int l.length)
    | none => none
  | _ => none
def gInt : OpN := fun _ l => match l with
  | [.int i] => some (.int i)
  | [.bl k] => some (.int (if k then 1 else 0))
  | _ => none
def gAbs : OpN := fun _ l => match l with
  | [.int i] => some (.int (if i < 0 then -i else i))
  | _ => none
def gStr : OpN := fun _ l => match l with
  | [.int i] => if i.natAbs.log2 < 1920 then some (.str (toString i)) else none
  | _ => none
def gMax2 : OpN := fun _ l => match l with
  | [.int i, .int j] => some (.int (if j > i then j else i))
  | _ => none
def gMin2 : OpN := fun _ l => match l with
  | [.int i, .int j] => some (.int (if j < i then j else i))
  | _ => none
mutual
/-- a bound on the length of the text, without the text -/
def lenB : PyData → Nat
  | .none => 4
  | .bool _ => 5
  | .int i => (toString i : Str).length
  | .str x => x.cps.toList.foldl (fun n c => n + (Builtin.Str.reprChar (reprQuote x) c).length) 2
  | .tuple xs => lenBs xs + 4
  | .list xs => (PyData.list xs).shown.length
  | .dict kvs => (PyData.dict kvs).shown.length
def lenBs : List PyData → Nat
  | [] => 0
  | x :: xs => (lenB x + 2) + lenBs xs
end
mutual
theorem lenB_ok : ∀ p : PyData, p.shown.length ≤ lenB p
  | .none => by rw [PyData.shown, lenB]; decide +kernel
  | .bool b => by rw [PyData.shown, lenB]; cases b <;> decide +kernel
  | .int i => by rw [PyData.shown, lenB]; exact Nat.le_refl _
  | .str x => by rw [PyData.shown, lenB, ← reprLen_eq, ← Array.foldl_toList]; exact Nat.le_refl _
  | .list xs => by rw [lenB]; exact Nat.le_refl _
  | .dict kvs => by rw [lenB]; exact Nat.le_refl _
  | .tuple xs => by
    rw [PyData.shown, lenB]
    have h := lenBs_ok xs
    have e : (tupleText (PyData.shownAll xs)).length = 1 + (Str.join ", " (PyData.shownAll xs)).length + (if (PyData.shownAll xs).length == 1 then 2 else 1) := by
      unfold tupleText
      rw [strLen_append, strLen_append]
      congr 1
      split <;> rfl
    have j : (Str.join ", " (PyData.shownAll xs)).length ≤ piled (PyData.shownAll xs) := by
      by_cases q : PyData.shownAll xs = []
      · rw [q]; exact Nat.zero_le _
      · have := join_length_add _ q
        omega
    rw [e]
    split <;> omega
theorem lenBs_ok : ∀ xs : List PyData, piled (PyData.shownAll xs) ≤ lenBs xs
  | [] => by rw [PyData.shownAll, lenBs]; exact Nat.le_refl _
  | x :: xs => by
    rw [PyData.shownAll, lenBs, piled_cons]
    have h1 := lenB_ok x
    have h2 := lenBs_ok xs
    omega
end
/-- the text of some data -/
def shownD (S : List O) (d : D) : Option Str := match toPyS S d with
  | some p => if p.showable = true ∧ p.hasDict = false ∧ p.depth ≤ 64 ∧ lenB p ≤ sz then some p.shown else none
  | none => none
def gRepr : OpN := fun S l => match l with
  | [d] => (shownD S d).map .str
  | _ => none
/-- is the data of that built-in type -/
def isiD (S : List O) (d : D) (n : String) : Option Bool := match d with
  | .non => kitB "NoneType" n
  | .bl _ => kitB "bool" n
  | .int _ => kitB "int" n
  | .str _ => kitB "str" n
  | .tup _ => kitB "tuple" n
  | .lst _ => kitB "list" n
  | .kl _ => kitB "list" n
  | .ref i => match S[i]? with
    | some (.lst _) => kitB "list" n
    | some (.dct _) => kitB "dict" n
    | _ => none
  | _ => none
def gIsi : OpN := fun S l => match l with
  | [d, .ty n] => (isiD S d n).map .bl
  | _ => none
def insI (x : Int) : List Int → List Int
  | [] => [x]
  | y :: r => if x ≤ y then x :: y :: r else y :: insI x r
def sortI : List Int → List Int
  | [] => []
  | x :: r => insI x (sortI r)
def leS (x y : Str) : Bool := !ltCps y.cps.toList x.cps.toList
def insS (x : Str) : List Str → List Str
  | [] => [x]
  | y :: r => if leS x y then x :: y :: r else y :: insS x r
def sortS : List Str → List Str
  | [] => []
  | x :: r => insS x (sortS r)
def intsD : List D → Option (List Int)
  | [] => some []
  | .int i :: l => match intsD l with | some m => some (i :: m) | none => none
  | _ => none
def strsD : List D → Option (List Str)
  | [] => some []
  | .str i :: l => match strsD l with | some m => some (i :: m) | none => none
  | _ => none
def gSorted : OpN := fun S l => match l with
  | [d] => match seqR S d with
    | some l => match intsD l with
      | some ns => some (.lst ((sortI ns).map .int))
      | none => match strsD l with
        | some ss => if ss.length < 64 then some (.lst ((sortS ss).map .str)) else none
        | none => none
    | none => none
  | _ => none
def gList : OpN := fun S l => match l with
  | [.tup l] => some (.lst l)
  | [d] => match seqR S d with
    | some l => some (.lst l)
    | none => none
  | _ => none
def gTuple : OpN := fun S l => match l with
  | [.tup l] => some (.tup l)
  | [d] => match seqR S d with
    | some l => some (.tup l)
    | none => none
  | _ => none
def blsD : List D → Option (List Bool)
  | [] => some []
  | .bl i :: l => match blsD l with | some m => some (i :: m) | none => none
  | _ => none
def gAll : OpN := fun S l => match l with
  | [d] => match seqR S d with
    | some l => match blsD l with
      | some bs => some (.bl (bs.all id))
      | none => none
    | none => none
  | _ => none
def gAny : OpN := fun S l => match l with
  | [d] => match seqR S d with
    | some l => match blsD l with
      | some bs => some (.bl (bs.any id))
      | none => none
    | none => none
  | _ => none
def gSum : OpN := fun S l => match l with
  | [d] => match seqR S d with
    | some l => match intsD l with
      | some bs => some (.int bs.sum)
      | none => none
    | none => none
  | _ => none

theorem insI_perm (x : Int) : ∀ l, (insI x l).Perm (x :: l)
  | [] => .refl _
  | y :: r => by
    unfold insI
    split
    · exact .refl _
    · exact ((insI_perm x r).cons y).trans (.swap x y r)
theorem sortI_perm : ∀ l, (sortI l).Perm l
  | [] => .refl _
  | x :: r => (insI_perm x _).trans ((sortI_perm r).cons x)
theorem insI_sorted (x : Int) : ∀ l, l.Pairwise (· ≤ ·) → (insI x l).Pairwise (· ≤ ·)
  | [], _ => by simp [insI]
  | y :: r, h => by
    unfold insI
    rw [List.pairwise_cons] at h
    split
    · rename_i hx
      refine List.pairwise_cons.mpr ⟨fun z hz => ?_, List.pairwise_cons.mpr h⟩
      rcases List.mem_cons.mp hz with rfl | hz
      · exact hx
      · exact Int.le_trans hx (h.1 z hz)
    · rename_i hx
      refine List.pairwise_cons.mpr ⟨fun z hz => ?_, insI_sorted x r h.2⟩
      have := (insI_perm x r).mem_iff.mp hz
      rcases List.mem_cons.mp this with rfl | hz
      · omega
      · exact h.1 z hz
theorem sortI_sorted : ∀ l, (sortI l).Pairwise (· ≤ ·)
  | [] => .nil
  | x :: r => insI_sorted x _ (sortI_sorted r)
theorem sortI_one {a b : List Int} (hp : a.Perm b) (ha : a.Pairwise (· ≤ ·)) : a = sortI b :=
  List.Perm.eq_of_pairwise (le := (· ≤ ·)) (fun x y _ _ h1 h2 => Int.le_antisymm h1 h2) ha (sortI_sorted b) (hp.trans (sortI_perm b).symm)
/-! texts in order -/
theorem ltCps_irr : ∀ l : List Nat, ltCps l l = false
  | [] => by simp [ltCps]
  | x :: r => by simp [ltCps, ltCps_irr r]
theorem ltCps_anti : ∀ a b : List Nat, ltCps a b = false → ltCps b a = false → a = b
  | [], [], _, _ => rfl
  | [], _ :: _, h, _ => by simp [ltCps] at h
  | _ :: _, [], _, h => by simp [ltCps] at h
  | x :: r, y :: t, h1, h2 => by
    simp [ltCps] at h1 h2
    have e : x = y := by omega
    subst e
    rw [ltCps_anti r t (by simpa using h1) (by simpa using h2)]
theorem ltCps_trans : ∀ a b c : List Nat, ltCps b a = false → ltCps c b = false → ltCps c a = false
  | [], _, [], _, _ => by simp [ltCps]
  | [], _, _ :: _, _, _ => by simp [ltCps]
  | _ :: _, [], _, h, _ => by simp [ltCps] at h
  | _ :: _, _ :: _, [], _, h => by simp [ltCps] at h
  | x :: r, y :: t, z :: u, h1, h2 => by
    simp [ltCps] at h1 h2 ⊢
    refine ⟨by omega, fun e => ?_⟩
    have e1 : y = x := by omega
    have e2 : z = y := by omega
    exact ltCps_trans r t u (h1.2 e1) (h2.2 e2)
theorem str_ext {x y : Str} (h : x.cps.toList = y.cps.toList) : x = y := by
  cases x; cases y
  simp at h
  rw [h]
theorem insS_perm (x : Str) : ∀ l, (insS x l).Perm (x :: l)
  | [] => .refl _
  | y :: r => by
    unfold insS
    split
    · exact .refl _
    · exact ((insS_perm x r).cons y).trans (.swap x y r)
theorem sortS_perm : ∀ l, (sortS l).Perm l
  | [] => .refl _
  | x :: r => (insS_perm x _).trans ((sortS_perm r).cons x)
abbrev LeS (x y : Str) : Prop := ltCps y.cps.toList x.cps.toList = false
theorem leS_total (x y : Str) : LeS x y ∨ LeS y x := by
  unfold LeS
  cases h : ltCps y.cps.toList x.cps.toList with
  | false => exact .inl rfl
  | true =>
    cases h2 : ltCps x.cps.toList y.cps.toList with
    | false => exact .inr rfl
    | true =>
      exfalso
      have key : ∀ a b : List Nat, ltCps a b = true → ltCps b a = true → False := by
        intro a
        induction a with
        | nil => intro b _ h; cases b <;> simp [ltCps] at h
        | cons p r ih =>
          intro b h1 h2
          cases b with
          | nil => simp [ltCps] at h1
          | cons q t =>
            simp [ltCps] at h1 h2
            have e : p = q := by omega
            subst e
            exact ih t (by simpa using h1) (by simpa using h2)
      exact key _ _ h h2
theorem insS_sorted (x : Str) : ∀ l, l.Pairwise LeS → (insS x l).Pairwise LeS
  | [], _ => by simp [insS]
  | y :: r, h => by
    unfold insS
    rw [List.pairwise_cons] at h
    split
    · rename_i hx
      have hx : LeS x y := by simpa [leS, LeS] using hx
      refine List.pairwise_cons.mpr ⟨fun z hz => ?_, List.pairwise_cons.mpr h⟩
      rcases List.mem_cons.mp hz with rfl | hz
      · exact hx
      · exact ltCps_trans _ _ _ hx (h.1 z hz)
    · rename_i hx
      have hx : LeS y x := by
        rcases leS_total y x with z | z
        · exact z
        · exact absurd (by simpa [leS, LeS] using z) hx
      refine List.pairwise_cons.mpr ⟨fun z hz => ?_, insS_sorted x r h.2⟩
      have := (insS_perm x r).mem_iff.mp hz
      rcases List.mem_cons.mp this with rfl | hz
      · exact hx
      · exact h.1 z hz
theorem sortS_sorted : ∀ l, (sortS l).Pairwise LeS
  | [] => .nil
  | x :: r => insS_sorted x _ (sortS_sorted r)
theorem rising_pair : ∀ (l : List Str) (p : Str), risingS p l = true → (p :: l).Pairwise LeS
  | [], p, _ => by simp
  | x :: r, p, h => by
    have h' : LeS p x ∧ risingS x r = true := by simpa [risingS, LeS] using h
    have ih := rising_pair r x h'.2
    refine List.pairwise_cons.mpr ⟨fun z hz => ?_, ih⟩
    rcases List.mem_cons.mp hz with rfl | hz
    · exact h'.1
    · exact ltCps_trans _ _ _ h'.1 ((List.pairwise_cons.mp ih).1 z hz)
theorem sortS_one {a b : List Str} (hp : a.Perm b) (ha : sortedS a = true) : a = sortS b := by
  have hs : a.Pairwise LeS := by
    cases a with
    | nil => exact .nil
    | cons x r => exact rising_pair r x ha
  exact List.Perm.eq_of_pairwise (le := LeS) (fun x y _ _ h1 h2 => str_ext (ltCps_anti _ _ h2 h1)) hs (sortS_sorted b) (hp.trans (sortS_perm b).symm)

section
variable {K : PySem.W.Frag} {g : G}
theorem rds_ints : ∀ {l : List D} {ns : List Int} {vs : List V}, intsD l = some ns → RDs K g l vs → vs = ns.map V.int
  | [], ns, vs, h, r => by rw [RDs] at r; subst r; cases h; rfl
  | .int i :: l, ns, vs, h, r => by
    rw [RDs] at r
    obtain ⟨v, us, rfl, h2, h3⟩ := r
    rw [intsD] at h
    cases q : intsD l with
    | none => rw [q] at h; cases h
    | some m =>
      rw [q] at h; cases h
      rw [RD] at h2; subst h2
      rw [List.map_cons, rds_ints q h3]
  | .non :: _, _, _, h, _ => by simp [intsD] at h
  | .bl _ :: _, _, _, h, _ => by simp [intsD] at h
  | .str _ :: _, _, _, h, _ => by simp [intsD] at h
  | .ty _ :: _, _, _, h, _ => by simp [intsD] at h
  | .adr _ :: _, _, _, h, _ => by simp [intsD] at h
  | .ref _ :: _, _, _, h, _ => by simp [intsD] at h
  | .tup _ :: _, _, _, h, _ => by simp [intsD] at h
  | .lst _ :: _, _, _, h, _ => by simp [intsD] at h
  | .kl _ :: _, _, _, h, _ => by simp [intsD] at h
theorem rds_strs : ∀ {l : List D} {ns : List Str} {vs : List V}, strsD l = some ns → RDs K g l vs → vs = ns.map V.str
  | [], ns, vs, h, r => by rw [RDs] at r; subst r; cases h; rfl
  | .str i :: l, ns, vs, h, r => by
    rw [RDs] at r
    obtain ⟨v, us, rfl, h2, h3⟩ := r
    rw [strsD] at h
    cases q : strsD l with
    | none => rw [q] at h; cases h
    | some m =>
      rw [q] at h; cases h
      rw [RD] at h2; subst h2
      rw [List.map_cons, rds_strs q h3]
  | .non :: _, _, _, h, _ => by simp [strsD] at h
  | .bl _ :: _, _, _, h, _ => by simp [strsD] at h
  | .int _ :: _, _, _, h, _ => by simp [strsD] at h
  | .ty _ :: _, _, _, h, _ => by simp [strsD] at h
  | .adr _ :: _, _, _, h, _ => by simp [strsD] at h
  | .ref _ :: _, _, _, h, _ => by simp [strsD] at h
  | .tup _ :: _, _, _, h, _ => by simp [strsD] at h
  | .lst _ :: _, _, _, h, _ => by simp [strsD] at h
  | .kl _ :: _, _, _, h, _ => by simp [strsD] at h
theorem rds_bls : ∀ {l : List D} {ns : List Bool} {vs : List V}, blsD l = some ns → RDs K g l vs → vs = ns.map V.bl
  | [], ns, vs, h, r => by rw [RDs] at r; subst r; cases h; rfl
  | .bl i :: l, ns, vs, h, r => by
    rw [RDs] at r
    obtain ⟨v, us, rfl, h2, h3⟩ := r
    rw [blsD] at h
    cases q : blsD l with
    | none => rw [q] at h; cases h
    | some m =>
      rw [q] at h; cases h
      rw [RD] at h2; subst h2
      rw [List.map_cons, rds_bls q h3]
  | .non :: _, _, _, h, _ => by simp [blsD] at h
  | .str _ :: _, _, _, h, _ => by simp [blsD] at h
  | .int _ :: _, _, _, h, _ => by simp [blsD] at h
  | .ty _ :: _, _, _, h, _ => by simp [blsD] at h
  | .adr _ :: _, _, _, h, _ => by simp [blsD] at h
  | .ref _ :: _, _, _, h, _ => by simp [blsD] at h
  | .tup _ :: _, _, _, h, _ => by simp [blsD] at h
  | .lst _ :: _, _, _, h, _ => by simp [blsD] at h
  | .kl _ :: _, _, _, h, _ => by simp [blsD] at h
theorem rds_of_ints : ∀ ns : List Int, RDs K g (ns.map D.int) (ns.map V.int)
  | [] => RDs.nil
  | n :: r => RDs.cons (by rw [RD]) (rds_of_ints r)
theorem rds_of_strs : ∀ ns : List Str, RDs K g (ns.map D.str) (ns.map V.str)
  | [] => RDs.nil
  | n :: r => RDs.cons (by rw [RD]) (rds_of_strs r)
theorem RDs.one {d : D} {vs : List V} (r : RDs K g [d] vs) : ∃ v, vs = [v] ∧ RD K g d v := by
  rw [RDs] at r
  obtain ⟨v, us, rfl, h2, h3⟩ := r
  rw [RDs] at h3
  subst h3
  exact ⟨v, rfl, h2⟩
theorem RDs.two {d d2 : D} {vs : List V} (r : RDs K g [d, d2] vs) : ∃ v u, vs = [v, u] ∧ RD K g d v ∧ RD K g d2 u := by
  rw [RDs] at r
  obtain ⟨v, us, rfl, h2, h3⟩ := r
  obtain ⟨u, rfl, h4⟩ := h3.one
  exact ⟨v, u, rfl, h2, h4⟩
theorem ty_of {d : D} {n : String} {b : Bool} (rp : Rep K g) (h : isiD g.S d n = some b) {v : V} (r : RD K g d v) : ∃ t, TyX K g.H v (.type t) ∧ kitB t n = some b := by
  have tl : ∀ {a : Addr} {vs : List V}, SqL K g.H a vs → TyX K g.H (.ref a) (.type "list") := fun {a vs} q => by
    rcases q with (q | ⟨o, q⟩) | ⟨o, its, k, q, c, _⟩
    · exact .base (.lst q)
    · exact .base (.frz q)
    · exact .kList q c
  have tt : ∀ {a : Addr} {vs : List V}, SqT K g.H a vs → TyX K g.H (.ref a) (.type "tuple") := fun {a vs} q => by
    rcases q with (q | ⟨o, q⟩) | ⟨o, its, k, q, c, _⟩
    · exact .base (.tup q)
    · exact .fTuple q
    · exact .kTuple q c
  cases d with
  | non => rw [RD] at r; subst r; exact ⟨_, .base .non, h⟩
  | bl k => rw [RD] at r; subst r; exact ⟨_, .base (.bl k), h⟩
  | int k => rw [RD] at r; subst r; exact ⟨_, .base (.int k), h⟩
  | str k => rw [RD] at r; subst r; exact ⟨_, .base (.str k), h⟩
  | tup l =>
    rw [RD] at r
    obtain ⟨a, vs, rfl, h1, _⟩ := r
    exact ⟨_, tt h1.sq, h⟩
  | lst l =>
    rw [RD] at r
    obtain ⟨a, vs, rfl, h1, _⟩ := r
    exact ⟨_, tl h1.sq, h⟩
  | kl l =>
    rw [RD] at r
    obtain ⟨a, vs, rfl, h1, _⟩ := r
    exact ⟨_, tl h1.sq, h⟩
  | ref i =>
    rw [RD] at r
    unfold isiD at h
    dsimp only at h
    split at h
    · rename_i l q
      obtain ⟨vs, h1, _⟩ := rp.obj i _ q
      rw [r.2]
      exact ⟨_, .base (.lst h1), h⟩
    · rename_i l q
      obtain ⟨vs, h1, _⟩ := rp.obj i _ q
      rw [r.2]
      exact ⟨_, .base (.dK h1), h⟩
    · cases h
  | _ => cases h
end

section
variable {X : Cx}
theorem c_len : CallR X (.builtin "len") (rN X.K gLen) := by
  intro pins s σ H xs us Q I r h
  obtain ⟨g, ds, d, rfl, rp, rv, hf, q⟩ := h
  unfold gLen at hf
  split at hf
  · split at hf
    · rename_i z hz
      cases hf
      obtain ⟨v, rfl, h1⟩ := rv.one
      rw [RD] at h1; subst h1
      exact call_len pins s σ _ _ us Q I r ⟨_, _, rfl, ⟨by rw [← sz_eq]; exact hz, rfl⟩, q g _ (Ext.refl g) rfl rp (by rw [RD])⟩
    · cases hf
  · rename_i l
    cases hf
    obtain ⟨v, rfl, h1⟩ := rv.one
    rw [RD] at h1
    obtain ⟨a, vs, rfl, h2, h3⟩ := h1
    exact call_len pins s σ _ _ us Q I r ⟨_, _, rfl, .inr ⟨vs, h2.sq, h3.length⟩, q g _ (Ext.refl g) rfl rp (by rw [RD])⟩
  · rename_i d' _ _
    cases e : seqR g.S d' with
    | none => rw [e] at hf; cases hf
    | some l =>
      rw [e] at hf; cases hf
      obtain ⟨v, rfl, h1⟩ := rv.one
      obtain ⟨a, vs, rfl, h2, h3⟩ := seqR_at rp e h1
      exact call_len pins s σ _ _ us Q I r ⟨_, _, rfl, .inl ⟨vs, h2, h3.length⟩, q g _ (Ext.refl g) rfl rp (by rw [RD])⟩
  · cases hf
theorem c_int : CallR X (.type "int") (rN X.K gInt) := by
  intro pins s σ H xs us Q I r h
  obtain ⟨g, ds, d, rfl, rp, rv, hf, q⟩ := h
  unfold gInt at hf
  split at hf
  · cases hf
    obtain ⟨v, rfl, h1⟩ := rv.one
    rw [RD] at h1; subst h1
    exact call_int1 pins s σ _ _ us Q I r (.inl ⟨_, rfl, q g _ (Ext.refl g) rfl rp (by rw [RD])⟩)
  · cases hf
    obtain ⟨v, rfl, h1⟩ := rv.one
    rw [RD] at h1; subst h1
    exact call_int1 pins s σ _ _ us Q I r (.inr ⟨_, rfl, q g _ (Ext.refl g) rfl rp (by rw [RD])⟩)
  · cases hf
theorem c_abs : CallR X (.builtin "abs") (rN X.K gAbs) := by
  intro pins s σ H xs us Q I r h
  obtain ⟨g, ds, d, rfl, rp, rv, hf, q⟩ := h
  unfold gAbs at hf
  split at hf
  · cases hf
    obtain ⟨v, rfl, h1⟩ := rv.one
    rw [RD] at h1; subst h1
    exact call_abs pins s σ _ _ us Q I r ⟨_, rfl, q g _ (Ext.refl g) rfl rp (by rw [RD])⟩
  · cases hf
theorem c_str : CallR X (.type "str") (rN X.K gStr) := by
  intro pins s σ H xs us Q I r h
  obtain ⟨g, ds, d, rfl, rp, rv, hf, q⟩ := h
  unfold gStr at hf
  split at hf
  · split at hf
    · rename_i hz
      cases hf
      obtain ⟨v, rfl, h1⟩ := rv.one
      rw [RD] at h1; subst h1
      exact call_str_int pins s σ _ _ us Q I r ⟨_, rfl, hz, q g _ (Ext.refl g) rfl rp (by rw [RD])⟩
    · cases hf
  · cases hf
theorem c_max2 (hc : X.calm = true) : CallR X (.builtin "max") (rN X.K gMax2) := by
  intro pins s σ H xs us Q I r h
  obtain ⟨g, ds, d, rfl, rp, rv, hf, q⟩ := h
  unfold gMax2 at hf
  split at hf
  · cases hf
    obtain ⟨v, u, rfl, h1, h2⟩ := rv.two
    rw [RD] at h1 h2; subst h1; subst h2
    exact call_max2 hc pins s σ _ _ us Q I r ⟨_, _, rfl, q g _ (Ext.refl g) rfl rp (by rw [RD])⟩
  · cases hf
theorem c_min2 (hc : X.calm = true) : CallR X (.builtin "min") (rN X.K gMin2) := by
  intro pins s σ H xs us Q I r h
  obtain ⟨g, ds, d, rfl, rp, rv, hf, q⟩ := h
  unfold gMin2 at hf
  split at hf
  · cases hf
    obtain ⟨v, u, rfl, h1, h2⟩ := rv.two
    rw [RD] at h1 h2; subst h1; subst h2
    exact call_min2 hc pins s σ _ _ us Q I r ⟨_, _, rfl, q g _ (Ext.refl g) rfl rp (by rw [RD])⟩
  · cases hf
theorem c_isi : CallR X (.builtin "isinstance") (rN X.K gIsi) := by
  intro pins s σ H xs us Q I r h
  obtain ⟨g, ds, d, rfl, rp, rv, hf, q⟩ := h
  unfold gIsi at hf
  split at hf
  · rename_i d' n
    cases e : isiD g.S d' n with
    | none => rw [e] at hf; cases hf
    | some b =>
      rw [e] at hf; cases hf
      obtain ⟨v, u, rfl, h1, h2⟩ := rv.two
      rw [RD] at h2; subst h2
      obtain ⟨t, ht, hk⟩ := ty_of rp e h1
      exact call_isi pins s σ _ _ us Q I r ⟨_, _, .type t, .type n, b, rfl, .ty n, ht, kit_ty hk, q g _ (Ext.refl g) rfl rp (by rw [RD])⟩
  · cases hf
theorem c_sorted : CallR X (.builtin "sorted") (rN X.K gSorted) := by
  intro pins s σ H xs us Q I r h
  obtain ⟨g, ds, d, rfl, rp, rv, hf, q⟩ := h
  unfold gSorted at hf
  split at hf
  · rename_i d'
    cases e : seqR g.S d' with
    | none => rw [e] at hf; cases hf
    | some l =>
      rw [e] at hf
      dsimp only at hf
      obtain ⟨v, rfl, h1⟩ := rv.one
      obtain ⟨a, vs, rfl, h2, h3⟩ := seqR_at rp e h1
      cases ei : intsD l with
      | some ns =>
        rw [ei] at hf; cases hf
        rw [rds_ints ei h3] at h2
        refine cr_sortedI pins s σ _ _ us Q I r ⟨a, ns, rfl, h2, fun ns' p hp hs hn => ?_⟩
        rw [sortI_one hp hs]
        obtain ⟨x1, x2, x3⟩ := new_lst rp hn (rds_of_ints (K := X.K) (g := g) (sortI ns))
        exact q _ _ x1 rfl x2 x3
      | none =>
        rw [ei] at hf
        dsimp only at hf
        cases es : strsD l with
        | none => rw [es] at hf; cases hf
        | some ss =>
          rw [es] at hf
          dsimp only at hf
          split at hf
          · rename_i hz
            cases hf
            rw [rds_strs es h3] at h2
            refine cr_sortedS pins s σ _ _ us Q I r ⟨a, ss, rfl, h2, hz, fun ns' p hp hs hn => ?_⟩
            rw [sortS_one hp hs]
            obtain ⟨x1, x2, x3⟩ := new_lst rp hn (rds_of_strs (K := X.K) (g := g) (sortS ss))
            exact q _ _ x1 rfl x2 x3
          · cases hf
  · cases hf
theorem c_list : CallR X (.type "list") (rN X.K gList) := by
  intro pins s σ H xs us Q I r h
  obtain ⟨g, ds, d, rfl, rp, rv, hf, q⟩ := h
  unfold gList at hf
  split at hf
  · cases hf
    obtain ⟨v, rfl, h1⟩ := rv.one
    rw [RD] at h1
    obtain ⟨a, vs, rfl, h2, h3⟩ := h1
    refine call_list_of pins s σ _ _ us Q I r ⟨a, vs, rfl, .inr h2.sq, fun p hn => ?_⟩
    obtain ⟨x1, x2, x3⟩ := new_lst rp hn h3
    exact q _ _ x1 rfl x2 x3
  · rename_i d' _
    cases e : seqR g.S d' with
    | none => rw [e] at hf; cases hf
    | some l =>
      rw [e] at hf; cases hf
      obtain ⟨v, rfl, h1⟩ := rv.one
      obtain ⟨a, vs, rfl, h2, h3⟩ := seqR_at rp e h1
      refine call_list_of pins s σ _ _ us Q I r ⟨a, vs, rfl, .inl h2, fun p hn => ?_⟩
      obtain ⟨x1, x2, x3⟩ := new_lst rp hn h3
      exact q _ _ x1 rfl x2 x3
  · cases hf
theorem c_tuple : CallR X (.type "tuple") (rN X.K gTuple) := by
  intro pins s σ H xs us Q I r h
  obtain ⟨g, ds, d, rfl, rp, rv, hf, q⟩ := h
  unfold gTuple at hf
  split at hf
  · cases hf
    obtain ⟨v, rfl, h1⟩ := rv.one
    have h0 := h1
    rw [RD] at h1
    obtain ⟨a, vs, rfl, h2, h3⟩ := h1
    exact call_tuple_of pins s σ _ _ us Q I r ⟨a, vs, rfl, .inr ⟨h2.sq, q g _ (Ext.refl g) rfl rp h0⟩⟩
  · rename_i d' _
    cases e : seqR g.S d' with
    | none => rw [e] at hf; cases hf
    | some l =>
      rw [e] at hf; cases hf
      obtain ⟨v, rfl, h1⟩ := rv.one
      obtain ⟨a, vs, rfl, h2, h3⟩ := seqR_at rp e h1
      refine call_tuple_of pins s σ _ _ us Q I r ⟨a, vs, rfl, .inl ⟨h2, fun p hn => ?_⟩⟩
      obtain ⟨x1, x2, x3⟩ := new_tup rp hn h3
      exact q _ _ x1 rfl x2 x3
  · cases hf
theorem c_all (hc : X.calm = true) : CallR X (.builtin "all") (rN X.K gAll) := by
  intro pins s σ H xs us Q I r h
  obtain ⟨g, ds, d, rfl, rp, rv, hf, q⟩ := h
  unfold gAll at hf
  split at hf
  · rename_i d'
    cases e : seqR g.S d' with
    | none => rw [e] at hf; cases hf
    | some l =>
      rw [e] at hf
      dsimp only at hf
      cases eb : blsD l with
      | none => rw [eb] at hf; cases hf
      | some bs =>
        rw [eb] at hf; cases hf
        obtain ⟨v, rfl, h1⟩ := rv.one
        obtain ⟨a, vs, rfl, h2, h3⟩ := seqR_at rp e h1
        rw [rds_bls eb h3] at h2
        exact cr_all hc pins s σ _ _ us Q I r ⟨a, bs, rfl, h2, q g _ (Ext.refl g) rfl rp (by rw [RD])⟩
  · cases hf
theorem c_any (hc : X.calm = true) : CallR X (.builtin "any") (rN X.K gAny) := by
  intro pins s σ H xs us Q I r h
  obtain ⟨g, ds, d, rfl, rp, rv, hf, q⟩ := h
  unfold gAny at hf
  split at hf
  · rename_i d'
    cases e : seqR g.S d' with
    | none => rw [e] at hf; cases hf
    | some l =>
      rw [e] at hf
      dsimp only at hf
      cases eb : blsD l with
      | none => rw [eb] at hf; cases hf
      | some bs =>
        rw [eb] at hf; cases hf
        obtain ⟨v, rfl, h1⟩ := rv.one
        obtain ⟨a, vs, rfl, h2, h3⟩ := seqR_at rp e h1
        rw [rds_bls eb h3] at h2
        exact cr_any hc pins s σ _ _ us Q I r ⟨a, bs, rfl, h2, q g _ (Ext.refl g) rfl rp (by rw [RD])⟩
  · cases hf
theorem c_sum (hc : X.calm = true) : CallR X (.builtin "sum") (rN X.K gSum) := by
  intro pins s σ H xs us Q I r h
  obtain ⟨g, ds, d, rfl, rp, rv, hf, q⟩ := h
  unfold gSum at hf
  split at hf
  · rename_i d'
    cases e : seqR g.S d' with
    | none => rw [e] at hf; cases hf
    | some l =>
      rw [e] at hf
      dsimp only at hf
      cases eb : intsD l with
      | none => rw [eb] at hf; cases hf
      | some bs =>
        rw [eb] at hf; cases hf
        obtain ⟨v, rfl, h1⟩ := rv.one
        obtain ⟨a, vs, rfl, h2, h3⟩ := seqR_at rp e h1
        rw [rds_ints eb h3] at h2
        exact cr_sum hc pins s σ _ _ us Q I r ⟨a, bs, rfl, h2, q g _ (Ext.refl g) rfl rp (by rw [RD])⟩
  · cases hf
theorem c_repr (hg : X.A.guards = some []) (hu : X.A.units + 100 < cLine) : CallR X (.builtin "repr") (rN X.K gRepr) := by
  intro pins s σ H xs us Q I r h
  obtain ⟨g, ds, d, rfl, rp, rv, hf, q⟩ := h
  unfold gRepr at hf
  split at hf
  · rename_i d'
    cases e : shownD g.S d' with
    | none => rw [e] at hf; cases hf
    | some t =>
      rw [e] at hf; cases hf
      obtain ⟨v, rfl, h1⟩ := rv.one
      obtain ⟨u, rfl, ru⟩ := vals1 r
      unfold shownD at e
      cases ep : toPyS g.S d' with
      | none => rw [ep] at e; cases e
      | some p =>
        rw [ep] at e
        dsimp only at e
        split at e
        · rename_i hc
          cases e
          obtain ⟨hs, hd, hdep, hl⟩ := hc
          have dp := toPyS_ok rp ep h1
          obtain ⟨as, rd⟩ := Dp.reads I p v u dp ru
          have hl' : p.shown.length ≤ sizeLine := by rw [← sz_eq]; exact Nat.le_trans (lenB_ok p) hl
          have fin : ∀ (h' : Heap) (t' : Tok) (tk : Nat), (∀ b o, s.heap.get? b = some o → h'.get? b = some o) → EP X pins σ Q (.str p.shown t') { s with heap := h', toks := tk } :=
            fun h' t' tk k => ⟨.str p.shown, g.H, I.kept k, ⟨_, rfl⟩, q g _ (Ext.refl g) rfl rp (by rw [RD])⟩
          cases rd with
          | none => exact PySem.P.repr_of_none (fin s.heap _ _ fun _ _ z => z)
          | bool b => exact PySem.P.repr_of_bool (fin s.heap _ _ fun _ _ z => z)
          | int i t => exact PySem.P.repr_of_int (by simpa [PyData.showable] using hs) (fin s.heap _ _ fun _ _ z => z)
          | str x t => exact PySem.P.repr_of_str (fin s.heap _ _ fun _ _ z => z) hl'
          | list a1 a2 a3 a4 => exact repr_of_reads' (.list a1 a2 a3 a4) hs (fun z => by rw [hd] at z; cases z) hg (by omega) (fun _ _ z => z) (fun h' u' tk k => fin h' u' tk k) hl'
          | tuple a1 a2 a3 a4 => exact repr_of_reads' (.tuple a1 a2 a3 a4) hs (fun z => by rw [hd] at z; cases z) hg (by omega) (fun _ _ z => z) (fun h' u' tk k => fin h' u' tk k) hl'
          | dict a1 a2 a3 a4 a5 => simp [PyData.hasDict] at hd
        · cases e
  · cases hf
end
end Mo

namespace Mo
open PySem PySem.Spec L2 PyProof.Rows

/-! ### methods of built-in types -/
abbrev OpM := List O → D → List D → Option (D × List O)
def R.ofM : Option (D × List O) → R D
  | some (d, S) => .ok d S
  | none => .bad
def mMt (ty : List O → D → Bool) (f : OpM) (mo : ME) (m : MA) : ME := fun e S => (mo e S).bind fun a S1 => if ty S1 a = true then (m e S1).bind fun l S2 => R.ofM (f S2 a l) else .bad
def rMt (K : PySem.W.Frag) (f : OpM) : V → List V → Hp → VK → Prop := fun x vs H Q => ∃ g a ds d S', g.H = H ∧ Rep K g ∧ RD K g a x ∧ RDs K g ds vs ∧ f g.S a ds = some (d, S') ∧ ∀ g' v, Ext g g' → g'.S = S' → Rep K g' → RD K g' d v → Q v g'.H
def isL (S : List O) (a : D) : Bool := (seqR S a).isSome
def isS (_ : List O) (a : D) : Bool := match a with
  | .str _ => true
  | _ => false
section
variable {X : Cx} {W : WX'} {o e : Expr} {es : List Expr} {mo : ME} {m : MA} {name : Str} {apos cpos : Pos} {T id : String} {f : OpM} {ty : List O → D → Bool}
theorem i_mt {K : PySem.W.Frag} {σ : L2.St} {H : Hp} {Q : VK} (hty : ∀ g a v, Rep K g → RD K g a v → ty g.S a = true → tyV K T v g.H) (h : tE K W (mMt ty f mo m) σ H Q) : tBM K T (rMt K f) (tE K W mo) (tA K W m) σ H Q := by
  obtain ⟨g, e, rfl, rp, re, p⟩ := h
  refine ⟨g, e, rfl, rp, re, (Post.bind p).imp fun a g1 e1 r1 ⟨_, _, p1⟩ v rv => ?_⟩
  by_cases ht : ty g1.S a = true
  · rw [if_pos ht] at p1
    refine ⟨hty g1 a v r1 rv ht, g1, e, rfl, r1, re.mono e1, (Post.bind p1).imp fun l g2 e2 r2 ⟨_, _, p2⟩ vs rvs => ?_⟩
    cases q : f g2.S a l with
    | none => rw [q] at p2; exact False.elim p2
    | some dS =>
      obtain ⟨d, S'⟩ := dS
      rw [q] at p2
      exact ⟨g2, a, l, d, S', rfl, r2, rv.mono e2, rvs, q, fun g' w x s r rw' => p2 g' x s r w rw'⟩
  · rw [if_neg ht] at p1; exact False.elim p1
theorem i_mt0 {K : PySem.W.Frag} {σ : L2.St} {H : Hp} {Q : VK} (hty : ∀ g a v, Rep K g → RD K g a v → ty g.S a = true → tyV K T v g.H) (h : tE K W (mMt ty f mo mNil) σ H Q) : tBM0 K T (rMt K f) (tE K W mo) σ H Q := by
  obtain ⟨g, e, rfl, rp, re, p⟩ := h
  refine ⟨g, e, rfl, rp, re, (Post.bind p).imp fun a g1 e1 r1 ⟨_, _, p1⟩ v rv => ?_⟩
  by_cases ht : ty g1.S a = true
  · rw [if_pos ht] at p1
    refine ⟨hty g1 a v r1 rv ht, ?_⟩
    have p2 : Post K W g1 (R.ofM (f g1.S a [])) σ fun d g' => ∀ v, RD K g' d v → Q v g'.H := p1
    cases q : f g1.S a [] with
    | none => rw [q] at p2; exact False.elim p2
    | some dS =>
      obtain ⟨d, S'⟩ := dS
      rw [q] at p2
      exact ⟨g1, a, [], d, S', rfl, r1, rv, RDs.nil, q, fun g' w x s r rw' => p2 g' x s r w rw'⟩
  · rw [if_neg ht] at p1; exact False.elim p1
theorem pm_mt (pa : PlainAttrs T) (slot : Slot T name id) (hty : typeOf (.builtin id) = pure (.type "method_descriptor")) (hm : MtM X id (rMt X.K f)) (ht : ∀ g a v, Rep X.K g → RD X.K g a v → ty g.S a = true → tyV X.K T v g.H)
    (ho : PE X o (tE X.K W mo)) (ha : PA X (e :: es) (tA X.K W m)) (hbase : attributeBase o name X.env (eval o X.env) = eval o X.env := by rfl)
    (hfew : ((backTo cpos (starEach (e :: es) X.env)).all (fun x => !x.1) && (backToKw cpos (keywordEach [] X.env)).all (fun x => x.1.isSome)
      && decide ((e :: es).length + ([] : List Keyword).length + (if ([] : List Keyword).isEmpty then 0 else 1) < 30)) = true := by rfl)
    (hline : (apos.endLine == cpos.line) = true := by rfl) (hs : starEach (e :: es) X.env = (false, eval e X.env) :: starEach es X.env := by rfl) (hplain : (backTo cpos (starEach es X.env)).any (·.1) = false := by rfl) :
    PE X (.Call (.Attribute o name apos) (e :: es) [] cpos) (tE X.K W (mMt ty f mo m)) := PE.imp (pe_bm pa slot hty hm ho ha hbase hfew hline hs hplain) fun _ _ _ => i_mt ht
theorem pm_mt0 (pa : PlainAttrs T) (slot : Slot T name id) (hty : typeOf (.builtin id) = pure (.type "method_descriptor")) (hm : MtM X id (rMt X.K f)) (ht : ∀ g a v, Rep X.K g → RD X.K g a v → ty g.S a = true → tyV X.K T v g.H)
    (ho : PE X o (tE X.K W mo)) (hbase : attributeBase o name X.env (eval o X.env) = eval o X.env := by rfl) (hline : (apos.endLine == cpos.line) = true := by rfl) :
    PE X (.Call (.Attribute o name apos) [] [] cpos) (tE X.K W (mMt ty f mo mNil)) := PE.imp (pe_bm0 pa slot hty hm ho hbase hline) fun _ _ _ => i_mt0 ht
theorem isL_ok {K : PySem.W.Frag} : ∀ g a v, Rep K g → RD K g a v → isL g.S a = true → tyV K "list" v g.H := fun g a v rp r h => by
  unfold isL at h
  obtain ⟨l, hl⟩ := Option.isSome_iff_exists.mp h
  obtain ⟨p, vs, rfl, h1, _⟩ := seqR_at rp hl r
  exact .inl ⟨rfl, vs, h1⟩
theorem isS_ok {K : PySem.W.Frag} : ∀ g a v, Rep K g → RD K g a v → isS g.S a = true → tyV K "str" v g.H := fun g a v rp r h => by
  cases a <;> first | (cases h; done) | (rw [RD] at r; subst r; rfl)
end
/-- one's own list is written anew -/
theorem put_lst {K : PySem.W.Frag} {g : G} (rp : Rep K g) {n : Nat} {l l' : List D} {vs : List V} (hi : g.S[n]? = some (.lst l)) (r : RDs K g l' vs) :
    Ext g (g.put n (.lst l') (.lst vs)) ∧ Rep K (g.put n (.lst l') (.lst vs)) := by
  have x := Ext.put (o' := .lst l') (u := .lst vs) hi (by intro z; cases z)
  exact ⟨x, rp.put hi (by intro z; cases z) ⟨vs, upd_same, r.mono x⟩⟩
def gAppend : OpM := fun S a l => match a, l with
  | .ref n, [d] => match S[n]? with
    | some (.lst l) => if l.length < sz then some (.non, S.set n (.lst (l ++ [d]))) else none
    | _ => none
  | _, _ => none
def gPop : OpM := fun S a l => match a, l with
  | .ref n, [] => match S[n]? with
    | some (.lst l) => match l[l.length - 1]? with
      | some d => some (d, S.set n (.lst l.dropLast))
      | none => none
    | _ => none
  | _, _ => none
def gJoin : OpM := fun S a l => match a, l with
  | .str z, [.tup l] => match strsD l with
    | some ss => if (ss.map (·.length)).sum + ss.length * z.length ≤ 16777216 then some (.str (Txt.join z ss), S) else none
    | none => none
  | .str z, [d] => match seqR S d with
    | some l => match strsD l with
      | some ss => if (ss.map (·.length)).sum + ss.length * z.length ≤ 16777216 then some (.str (Txt.join z ss), S) else none
      | none => none
    | none => none
  | _, _ => none
section
variable {X : Cx}
theorem RDs.dropLast {K : PySem.W.Frag} {g : G} {l : List D} {vs : List V} (r : RDs K g l vs) : RDs K g l.dropLast vs.dropLast := by
  rw [List.dropLast_eq_take, List.dropLast_eq_take, ← r.length]
  exact r.take _
theorem t_append : MtM X "list.append" (rMt X.K gAppend) := by
  intro pins s σ H x vs v us Q I rx rv h
  obtain ⟨g, a, ds, d, S', rfl, rp, ra, rds, hf, q⟩ := h
  unfold gAppend at hf
  split at hf
  · rename_i n y
    split at hf
    · rename_i l hn
      split at hf
      · rename_i hz
        cases hf
        rw [RD] at ra
        obtain ⟨w, rfl, rw'⟩ := rds.one
        obtain ⟨ws, h1, h2⟩ := rp.obj n _ hn
        obtain ⟨e1, e2⟩ := put_lst rp hn (h2.append (RDs.cons rw' RDs.nil))
        exact mt_append pins s σ _ _ _ v us Q I rx rv ⟨g.ρ n, ws, w, ra.2, rfl, h1, by rw [← h2.length, ← sz_eq]; exact hz, q _ .non e1 rfl e2 (by rw [RD])⟩
      · cases hf
    · cases hf
  · cases hf
theorem t_pop : MtM X "list.pop" (rMt X.K gPop) := by
  intro pins s σ H x vs v us Q I rx rv h
  obtain ⟨g, a, ds, d, S', rfl, rp, ra, rds, hf, q⟩ := h
  unfold gPop at hf
  split at hf
  · rename_i n
    split at hf
    · rename_i l hn
      split at hf
      · rename_i y hy
        cases hf
        rw [RD] at ra
        rw [RDs] at rds; subst rds
        obtain ⟨ws, h1, h2⟩ := rp.obj n _ hn
        obtain ⟨w, hw, rw'⟩ := h2.get hy
        obtain ⟨e1, e2⟩ := put_lst rp hn h2.dropLast
        exact mt_pop pins s σ _ _ _ v us Q I rx rv ⟨g.ρ n, ws, w, ra.2, rfl, h1, by rw [← h2.length]; exact hw, q _ w e1 rfl e2 (rw'.mono e1)⟩
      · cases hf
    · cases hf
  · cases hf
theorem t_join : MtM X "str.join" (rMt X.K gJoin) := by
  intro pins s σ H x vs v us Q I rx rv h
  obtain ⟨g, a, ds, d, S', rfl, rp, ra, rds, hf, q⟩ := h
  unfold gJoin at hf
  split at hf
  · rename_i z l
    cases e : strsD l with
    | none => rw [e] at hf; cases hf
    | some ss =>
      rw [e] at hf
      dsimp only at hf
      split at hf
      · rename_i hz
        cases hf
        rw [RD] at ra; subst ra
        obtain ⟨w, rfl, h1⟩ := rds.one
        rw [RD] at h1
        obtain ⟨b, ws, rfl, h2, h3⟩ := h1
        have h2' := h2.sq
        rw [rds_strs e h3] at h2'
        exact mt_join pins s σ _ _ _ v us Q I rx rv ⟨z, b, ss, rfl, rfl, .inr h2', hz, q g _ (Ext.refl g) rfl rp (by rw [RD])⟩
      · cases hf
  · rename_i z d' _
    cases e0 : seqR g.S d' with
    | none => rw [e0] at hf; cases hf
    | some l =>
      rw [e0] at hf
      dsimp only at hf
      cases e : strsD l with
      | none => rw [e] at hf; cases hf
      | some ss =>
        rw [e] at hf
        dsimp only at hf
        split at hf
        · rename_i hz
          cases hf
          rw [RD] at ra; subst ra
          obtain ⟨w, rfl, h1⟩ := rds.one
          obtain ⟨b, ws, rfl, h2, h3⟩ := seqR_at rp e0 h1
          rw [rds_strs e h3] at h2
          exact mt_join pins s σ _ _ _ v us Q I rx rv ⟨z, b, ss, rfl, rfl, .inl h2, hz, q g _ (Ext.refl g) rfl rp (by rw [RD])⟩
        · cases hf
  · cases hf
end

/-! ### statements -/
def R.st {α : Type} (r : R α) (e : Env) (f : α → List O → RS) : RS := match r with
  | .ok a S => f a S
  | .er x S => .er x e S
  | .bad => .bad
def sNil : MS := fun e S => .nx e S
def sSeq (a b : MS) : MS := fun e S => match a e S with
  | .nx e' S' => b e' S'
  | r => r
def sRet (m : ME) : MS := fun e S => (m e S).st e fun d S1 => .rt d S1
def sRetN : MS := fun _ S => .rt .non S
def sAsg (i : Nat) (m : ME) : MS := fun e S => (m e S).st e fun d S1 => .nx (e.set i (some d)) S1
def sExpr (m : ME) : MS := fun e S => (m e S).st e fun _ S1 => .nx e S1
def sIf (t : MT) (a b : MS) : MS := fun e S => (t e S).st e fun k S1 => if k then a e S1 else b e S1
def sBrk : MS := fun e S => .bk e S
def sCnt : MS := fun e S => .ct e S
def sPar (i j : Nat) (m : MA) : MS := fun e S => (m e S).st e fun l S1 => match l with
  | [a, b] => .nx ((e.set i (some a)).set j (some b)) S1
  | _ => .bad
/-- xs[i] = .. -/
def fSet (S : List O) (a i d : D) : Option (List O) := match a, i with
  | .ref n, .int k => match S[n]? with
    | some (.lst l) => match ixN l.length k with
      | some j => some (S.set n (.lst (l.set j d)))
      | none => none
    | _ => none
  | _, _ => none
theorem fSet_inv {S : List O} {a i d : D} {S4 : List O} (q : fSet S a i d = some S4) : ∃ n k l j, a = .ref n ∧ i = .int k ∧ S[n]? = some (.lst l) ∧ ixN l.length k = some j ∧ S4 = S.set n (.lst (l.set j d)) := by
  unfold fSet at q
  split at q
  · split at q
    · rename_i hn
      split at q
      · rename_i hj
        cases q
        exact ⟨_, _, _, _, rfl, rfl, hn, hj, rfl⟩
      · cases q
    · cases q
  · cases q
def sSet (mv mo mi : ME) : MS := fun e S => (mv e S).st e fun d S1 => (mo e S1).st e fun a S2 => (mi e S2).st e fun i S3 => match fSet S3 a i d with
  | some S4 => .nx e S4
  | none => .bad
section
variable {K : PySem.W.Frag} {W : WX'} {g : G} {σ : L2.St} {H : Hp} {e : Env} {D : Ends}
theorem PostS.of_st {α : Type} {r : R α} {f : α → List O → RS} (re : RE K g e σ) (h : PostS K W g (r.st e f) D) : Post K W g r σ fun a g1 => Ext g g1 ∧ Rep K g1 ∧ PostS K W g1 (f a g1.S) D := PostS.of_er re h
theorem i_seq {a b : MS} (h : tS K W (sSeq a b) D σ H) : tSeq (tS K W a) (tS K W b) D σ H := by
  obtain ⟨g, e, rfl, rp, re, p⟩ := h
  refine ⟨g, e, rfl, rp, re, ?_⟩
  unfold sSeq at p
  cases q : a e g.S with
  | nx e' S' =>
    rw [q] at p
    intro g' σ' x s r re'
    subst s
    exact ⟨g', e', rfl, r, re', PostS.mono x p⟩
  | rt d S' => rw [q] at p; exact p
  | bk e' S' => rw [q] at p; exact p
  | ct e' S' => rw [q] at p; exact p
  | er x' e' S' => rw [q] at p; exact p
  | bad => rw [q] at p; exact p
theorem i_snil (h : tS K W sNil D σ H) : tNext D σ H := by
  obtain ⟨g, e, rfl, rp, re, p⟩ := h
  exact p g σ (Ext.refl g) rfl rp re
theorem i_ret {m : ME} (h : tS K W (sRet m) D σ H) : tRet (tE K W m) D σ H := by
  obtain ⟨g, e, rfl, rp, re, p⟩ := h
  exact ⟨g, e, rfl, rp, re, (PostS.of_st re p).imp fun d g1 e1 r1 ⟨_, _, p1⟩ v rv => p1 g1 v (Ext.refl g1) rfl r1 rv⟩
theorem i_retN (h : tS K W sRetN D σ H) : tRetN D σ H := by
  obtain ⟨g, e, rfl, rp, re, p⟩ := h
  exact p g .non (Ext.refl g) rfl rp (by rw [RD])
theorem i_asg {i : Nat} {m : ME} (h : tS K W (sAsg i m) D σ H) : tAsg (tE K W m) (gName i) D σ H := by
  obtain ⟨g, e, rfl, rp, re, p⟩ := h
  exact ⟨g, e, rfl, rp, re, (PostS.of_st re p).imp fun d g1 e1 r1 ⟨_, _, p1⟩ v rv => p1 g1 _ (Ext.refl g1) rfl r1 ((re.mono e1).set rv)⟩
theorem i_expr {m : ME} (h : tS K W (sExpr m) D σ H) : tDrop (tE K W m) D σ H := by
  obtain ⟨g, e, rfl, rp, re, p⟩ := h
  exact ⟨g, e, rfl, rp, re, (PostS.of_st re p).imp fun d g1 e1 r1 ⟨_, _, p1⟩ v rv => p1 g1 _ (Ext.refl g1) rfl r1 (re.mono e1)⟩
theorem i_ifs {t : MT} {a b : MS} (h : tS K W (sIf t a b) D σ H) : tIfS (tT K W t) (tS K W a) (tS K W b) D σ H := by
  obtain ⟨g, e, rfl, rp, re, p⟩ := h
  refine ⟨g, e, rfl, rp, re, (PostS.of_st re p).imp fun k g1 e1 r1 ⟨_, _, p1⟩ => ?_⟩
  cases k with
  | true => exact ⟨g1, e, rfl, r1, re.mono e1, p1⟩
  | false => exact ⟨g1, e, rfl, r1, re.mono e1, p1⟩
theorem i_brk (h : tS K W sBrk D σ H) : tBreak D σ H := by
  obtain ⟨g, e, rfl, rp, re, p⟩ := h
  exact p g σ (Ext.refl g) rfl rp re
theorem i_cnt (h : tS K W sCnt D σ H) : tCont D σ H := by
  obtain ⟨g, e, rfl, rp, re, p⟩ := h
  exact p g σ (Ext.refl g) rfl rp re
theorem i_par {i j : Nat} {m : MA} (h : tS K W (sPar i j m) D σ H) : tPar i j (tA K W m) D σ H := by
  obtain ⟨g, e, rfl, rp, re, p⟩ := h
  refine ⟨g, e, rfl, rp, re, (PostS.of_st re p).imp fun l g1 e1 r1 ⟨_, _, p1⟩ vs rv => ?_⟩
  split at p1
  · obtain ⟨v, u, rfl, h1, h2⟩ := rv.two
    exact ⟨v, u, rfl, p1 g1 _ (Ext.refl g1) rfl r1 (((re.mono e1).set h1).set h2)⟩
  · exact False.elim p1
theorem i_set {mv mo mi : ME} (h : tS K W (sSet mv mo mi) D σ H) : tAsg (tE K W mv) (L2.gSub (tE K W mo) (tE K W mi) rSetL) D σ H := by
  obtain ⟨g, e, rfl, rp, re, p⟩ := h
  refine ⟨g, e, rfl, rp, re, (PostS.of_st re p).imp fun d g1 e1 r1 ⟨_, _, p1⟩ v rv => ?_⟩
  refine ⟨g1, e, rfl, r1, re.mono e1, (PostS.of_st (re.mono e1) p1).imp fun a g2 e2 r2 ⟨_, _, p2⟩ w rw' => ?_⟩
  refine ⟨g2, e, rfl, r2, (re.mono e1).mono e2, (PostS.of_st ((re.mono e1).mono e2) p2).imp fun i g3 e3 r3 ⟨_, _, p3⟩ u ru => ?_⟩
  cases q : fSet g3.S a i d with
  | none => rw [q] at p3; exact False.elim p3
  | some S4 =>
    rw [q] at p3
    dsimp only at p3
    obtain ⟨n, k, l, j, rfl, rfl, hn, hj, rfl⟩ := fSet_inv q
    have rn := rw'.mono e3
    simp only [RD] at rn ru
    obtain ⟨ws, h1, h2⟩ := r3.obj n _ hn
    have rv3 := (rv.mono e2).mono e3
    obtain ⟨x1, x2⟩ := put_lst r3 hn (RDs.set rv3 j h2)
    exact ⟨g3.ρ n, ws, k, j, rn.2, ru, h1, by rw [← h2.length]; exact hj, p3 _ σ x1 rfl x2 ((((re.mono e1).mono e2).mono e3).mono x1)⟩
end
section
variable {X : Cx} {W : WX'} {st : Stmt} {rest a b : List Stmt} {ma mb : MS} {e c : Expr} {m : ME} {t : MT} {pos : Pos}
theorem sm_nil : PSs X [] (tS X.K W sNil) := PSs.imp pss_nil fun _ _ _ => i_snil
theorem sm_cons (h1 : PS X st (tS X.K W ma)) (h2 : PSs X rest (tS X.K W mb)) : PSs X (st :: rest) (tS X.K W (sSeq ma mb)) := PSs.imp (pss_cons h1 h2) fun _ _ _ => i_seq
theorem sm_one (h1 : PS X st (tS X.K W ma)) : PSs X [st] (tS X.K W ma) := pss_one h1
theorem sm_ret (h : PE X e (tE X.K W m)) : PS X (.Return (some e) pos) (tS X.K W (sRet m)) := PS.imp (ps_ret h) fun _ _ _ => i_ret
theorem sm_retN : PS X (.Return none pos) (tS X.K W sRetN) := PS.imp ps_retN fun _ _ _ => i_retN
theorem sm_set {i : Nat} {x : Str} {pos' : Pos} (hN : X.N.Nodup) (hi : X.N[i]? = some x) (hx : Loc X.env.scope x) (he : PE X e (tE X.K W m)) (hs : swapsWith e (some (.Name x pos')) pos.line X.env = pure false := by rfl) (hf : X.fn x = true ∨ X.env.scope.names.lookup x = some .local := by first | exact .inl rfl | exact .inr rfl | assumption) :
    PS X (.Assign [.Name x pos'] e pos) (tS X.K W (sAsg i m)) := PS.imp (ps_set hN hi hx he hs hf) fun _ _ _ => i_asg
theorem sm_expr (h : PE X e (tE X.K W m)) (hs : swapsWith e none pos.line X.env = pure false := by rfl) : PS X (.Expr e pos) (tS X.K W (sExpr m)) := PS.imp (ps_expr h hs) fun _ _ _ => i_expr
theorem sm_if (hc : PT X c (tT X.K W t)) (ha : PSs X a (tS X.K W ma)) (hb : PSs X b (tS X.K W mb)) : PS X (.If c a b pos) (tS X.K W (sIf t ma mb)) := PS.imp (ps_if hc ha hb) fun _ _ _ => i_ifs
theorem sm_pass : PS X (.Pass pos) (tS X.K W sNil) := PS.imp ps_pass fun _ _ _ => i_snil
theorem sm_brk : PS X (.Break pos) (tS X.K W sBrk) := PS.imp ps_break fun _ _ _ => i_brk
theorem sm_cnt : PS X (.Continue pos) (tS X.K W sCnt) := PS.imp ps_continue fun _ _ _ => i_cnt
theorem sm_par {i j : Nat} {x y : Str} {a b : Expr} {mm : MA} {px py pt : Pos} {kt k2 pt2} (hc : X.calm = true) (hN : X.N.Nodup) (hi : X.N[i]? = some x) (hj : X.N[j]? = some y) (hij : i ≠ j)
    (hx : X.env.scope.names.lookup x = some .local) (hy : X.env.scope.names.lookup y = some .local) (ha : PA X [a, b] (tA X.K W mm))
    (hw : swappedStores [.Tuple [.Name x px, .Name y py] kt pt] (.Tuple [a, b] k2 pt2) X.env = pure (some [x, y]))
    (hs : swapsWithSole [.Tuple [.Name x px, .Name y py] kt pt] (.Tuple [a, b] k2 pt2) pos.line X.env = pure false := by rfl) :
    PS X (.Assign [.Tuple [.Name x px, .Name y py] kt pt] (.Tuple [a, b] k2 pt2) pos) (tS X.K W (sPar i j mm)) := PS.imp (ps_par hc hN hi hj hij hx hy ha hw hs) fun _ _ _ => i_par
theorem sm_item {o i : Expr} {mo mi : ME} {ipos : Pos} (he : PE X e (tE X.K W m)) (ho : PE X o (tE X.K W mo)) (hi : PE X i (tE X.K W mi)) (ha : ∀ v, assign (.Subscript o i ipos) X.env v = (do
      let ov ← holding [v] (eval o X.env)
      let iv ← holding [v, ov] (eval i X.env)
      standAt ipos
      holding [v, ov, iv] (setItem ov iv v)
      release [v, ov, iv] []) := by intro _; rfl) (hs : swapsWithSole [.Subscript o i ipos] e pos.line X.env = pure false := by rfl) (hw : swappedStores [.Subscript o i ipos] e X.env = pure none := by rfl)
    (h1 : (assignEach [.Subscript o i ipos] X.env).map (·.2) = [assign (.Subscript o i ipos) X.env] := by rfl) : PS X (.Assign [.Subscript o i ipos] e pos) (tS X.K W (sSet m mo mi)) :=
  PS.imp (ps_asg he (pg_sub ho hi set_list ha) hs hw h1) fun _ _ _ => i_set
end

/-! ### targets -/
structure Tg where
  f : D → Env → Option Env
  sl : List Nat
def tgN (i : Nat) : Tg := ⟨fun d e => some (e.set i (some d)), [i]⟩
structure Tgs where
  f : List D → Env → Option Env
  sl : List Nat
def tgsN : Tgs := ⟨fun l e => match l with | [] => some e | _ => none, []⟩
def tgsC (t : Tg) (u : Tgs) : Tgs := ⟨fun l e => match l with
  | d :: r => match t.f d e with
    | some e' => u.f r e'
    | none => none
  | [] => none, t.sl ++ u.sl⟩
def tgT (n : Nat) (u : Tgs) : Tg := ⟨fun d e => match d with
  | .tup l => if l.length = n then u.f l e else none
  | _ => none, u.sl⟩
def Off (sl : List Nat) (σ σ' : L2.St) : Prop := σ'.length = σ.length ∧ ∀ j : Nat, j ∉ sl → σ'[j]? = σ[j]?
def tG (K : PySem.W.Frag) (t : Tg) : TG := fun v σ H Q => ∃ g e d e', g.H = H ∧ Rep K g ∧ RE K g e σ ∧ RD K g d v ∧ t.f d e = some e' ∧ ∀ σ', RE K g e' σ' → Off t.sl σ σ' → Q σ' H
def tGs (K : PySem.W.Frag) (t : Tgs) : TGs := fun vs σ H Q => ∃ g e l e', g.H = H ∧ Rep K g ∧ RE K g e σ ∧ RDs K g l vs ∧ t.f l e = some e' ∧ ∀ σ', RE K g e' σ' → Off t.sl σ σ' → Q σ' H
section
variable {X : Cx} {pos : Pos}
theorem PG.imp {tg : Expr} {t t' : TG} (h : PG X tg t) (f : ∀ v σ H Q, t' v σ H Q → t v σ H Q) : PG X tg t' := ⟨fun p s σ H v u Q I r q => h.run p s σ H v u Q I r (f v σ H Q q)⟩
theorem PGs.imp {tg : List Expr} {t t' : TGs} (h : PGs X tg t) (f : ∀ v σ H Q, t' v σ H Q → t v σ H Q) : PGs X tg t' := ⟨fun p s σ H v u Q I r q => h.run p s σ H v u Q I r (f v σ H Q q)⟩
theorem gm_name {i : Nat} {x : Str} (hN : X.N.Nodup) (hi : X.N[i]? = some x) (hx : Loc X.env.scope x) (hf : X.fn x = true ∨ X.env.scope.names.lookup x = some .local := by first | exact .inl rfl | exact .inr rfl | assumption) : PG X (.Name x pos) (tG X.K (tgN i)) :=
  PG.imp (pg_name hN hi hx hf) fun v σ H Q ⟨g, e, d, e', h1, rp, re, rd, hf, q⟩ => by
    cases hf
    exact q _ (re.set rd) ⟨by rw [List.length_set], fun j hj => List.getElem?_set_ne (fun z => hj (by simp [tgN, z]))⟩
theorem gms_nil : PGs X [] (tGs X.K tgsN) := PGs.imp pgs_nil fun v σ H Q ⟨g, e, l, e', h1, rp, re, rd, hf, q⟩ => by
  cases l with
  | nil =>
    cases hf
    rw [RDs] at rd
    exact ⟨rd, q σ re ⟨rfl, fun _ _ => rfl⟩⟩
  | cons _ _ => cases hf
theorem gms_cons {e : Expr} {es : List Expr} {t : Tg} {u : Tgs} (h1 : PG X e (tG X.K t)) (h2 : PGs X es (tGs X.K u))
    (hs : (assignEach (e :: es) X.env).map (·.2) = assign e X.env :: (assignEach es X.env).map (·.2) := by rfl) : PGs X (e :: es) (tGs X.K (tgsC t u)) := PGs.imp (pgs_cons h1 h2 hs) fun v σ H Q ⟨g, e, l, e', hH, rp, re, rd, hf, q⟩ => by
  cases l with
  | nil => cases hf
  | cons d r =>
    rw [RDs] at rd
    obtain ⟨v1, vr, rfl, rd1, rd2⟩ := rd
    unfold tgsC at hf
    dsimp only at hf
    cases q1 : t.f d e with
    | none => rw [q1] at hf; cases hf
    | some e1 =>
      rw [q1] at hf
      refine ⟨v1, vr, rfl, g, e, d, e1, hH, rp, re, rd1, q1, fun σ1 re1 o1 => ?_⟩
      refine ⟨g, e1, r, e', hH, rp, re1, rd2, hf, fun σ2 re2 o2 => q σ2 re2 ⟨o2.1.trans o1.1, fun j hj => ?_⟩⟩
      have hj' : j ∉ t.sl ∧ j ∉ u.sl := by simpa [tgsC] using hj
      exact (o2.2 j hj'.2).trans (o1.2 j hj'.1)
theorem gm_tup {es : List Expr} {k : Nat} {t : Tgs} {n : Nat} (hc : X.calm = true) (h : PGs X es (tGs X.K t))
    (hn : (assignEach es X.env).length = n := by rfl) (hst : (assignEach es X.env).findIdx? (·.1) = none := by rfl) : PG X (.Tuple es k pos) (tG X.K (tgT n t)) := PG.imp (pg_tup hc h hn hst) fun v σ H Q ⟨g, e, d, e', hH, rp, re, rd, hf, q⟩ => by
  cases d with
  | tup l =>
    unfold tgT at hf
    dsimp only at hf
    split at hf
    · rename_i hl
      rw [RD] at rd
      obtain ⟨a, vs, rfl, h1, h2⟩ := rd
      refine ⟨a, vs, rfl, by rw [← hH]; exact h1.sq, by rw [← h2.length]; exact hl, g, e, l, e', hH, rp, re, h2, hf, q⟩
    · cases hf
  | _ => cases hf
/-- a, b = e -/
def sUnp (t : Tg) (m : ME) : MS := fun e S => (m e S).st e fun d S1 => match t.f d e with
  | some e' => .nx e' S1
  | none => .bad
theorem sm_unp {W : WX'} {tg e : Expr} {m : ME} {t : Tg} (he : PE X e (tE X.K W m)) (hg : PG X tg (tG X.K t)) (hs : swapsWithSole [tg] e pos.line X.env = pure false := by rfl) (hw : swappedStores [tg] e X.env = pure none := by rfl)
    (h1 : (assignEach [tg] X.env).map (·.2) = [assign tg X.env] := by rfl) : PS X (.Assign [tg] e pos) (tS X.K W (sUnp t m)) := PS.imp (ps_asg he hg hs hw h1) fun D σ H ⟨g, e, hH, rp, re, p⟩ => by
  subst hH
  refine ⟨g, e, rfl, rp, re, (PostS.of_st re p).imp fun d g1 e1 r1 ⟨_, _, p1⟩ v rv => ?_⟩
  cases q : t.f d e with
  | none => rw [q] at p1; exact False.elim p1
  | some e' =>
    rw [q] at p1
    exact ⟨g1, e, d, e', rfl, r1, re.mono e1, rv, q, fun σ' re' _ => p1 g1 σ' (Ext.refl g1) rfl r1 re'⟩
end
end Mo

namespace Mo
open PySem PySem.Spec L2 PyProof.Rows

theorem Sim.refl (g : G) : Sim g g := (Ext.refl g).sim
theorem Sim.trans {g g1 g2 : G} (a : Sim g g1) (b : Sim g1 g2) : Sim g g2 :=
  ⟨⟨fun x vs h p => let ⟨h1, p1⟩ := a.tu x vs h p; b.tu x vs h1 p1, fun x vs h p => let ⟨h1, p1⟩ := a.ls x vs h p; b.ls x vs h1 p1⟩, Nat.le_trans a.len b.len, fun i h => (b.ag i (Nat.lt_of_lt_of_le h a.len)).trans (a.ag i h)⟩

/-! ### what a loop walks -/
abbrev MI := Env → List O → R (List D × (List O → Bool))
def Jok (K : PySem.W.Frag) (g : G) (J : It) (l : List D) (chk : List O → Bool) : Prop := ∀ g', Sim g g' → Rep K g' → chk g'.S = true → ∀ i, (l.length ≤ i → J.stop i g'.H) ∧ ∀ d, l[i]? = some d → J.go i g'.H ∧
  ∀ x H', J.yld i g'.H x H' → ∃ g2, Ext g' g2 ∧ g2.S = g'.S ∧ g2.H = H' ∧ Rep K g2 ∧ RD K g2 d x
def tI (K : PySem.W.Frag) (W : WX') (m : MI) : TI := fun σ H R' => ∃ g e, g.H = H ∧ Rep K g ∧ RE K g e σ ∧ Post K W g (m e g.S) σ fun lc g' => ∀ J, Jok K g' J lc.1 lc.2 → R' J g'.H
def anyS : List O → Bool := fun _ => true
def srcD (S : List O) (d : D) : Option (List D × (List O → Bool)) := match d with
  | .tup l => some (l, anyS)
  | .lst l => some (l, anyS)
  | .kl l => some (l, anyS)
  | .ref n => match S[n]? with
    | some (.lst l) => some (l, fun S' => decide (S'[n]? = some (.lst l)))
    | _ => none
  | _ => none
def miSeq (m : ME) : MI := fun e S => (m e S).bind fun d S1 => match srcD S1 d with
  | some r => .ok r S1
  | none => .bad
/-- a range's items -/
def rangeD (a c : Int) (n : Nat) : List D := (List.range n).map fun i => .int (a + (i : Nat) * c)
def rangeA1 (l : List D) : Option (List D) := match l with
  | [.int b] => if b.natAbs < 4611686018427387904 then some (rangeD 0 1 b.toNat) else none
  | _ => none
def rangeA2 (l : List D) : Option (List D) := match l with
  | [.int a, .int b] => if a.natAbs < 4611686018427387904 ∧ b.natAbs < 4611686018427387904 then some (rangeD a 1 (b - a).toNat) else none
  | _ => none
def rangeA3 (l : List D) : Option (List D) := match l with
  | [.int a, .int b, .int c] => if c ≠ 0 ∧ c.natAbs < 1073741824 ∧ Builtin.Range.small a b c = true ∧ 0 ≤ Builtin.Range.rangeSize a b c then some (rangeD a c (Builtin.Range.rangeSize a b c).toNat) else none
  | _ => none
def miRange (f : List D → Option (List D)) (m : MA) : MI := fun e S => (m e S).bind fun l S1 => match f l with
  | some r => .ok (r, anyS) S1
  | none => .bad
section
variable {K : PySem.W.Frag} {g : G}
theorem jok_list {a : Addr} {vs : List V} {l : List D} {chk : List O → Bool} (h : ∀ g', Sim g g' → Rep K g' → chk g'.S = true → ∃ vs, SqL K g'.H a vs ∧ RDs K g' l vs) : Jok K g (Itl K a) l chk := fun g' s rp c i => by
  obtain ⟨vs, h1, h2⟩ := h g' s rp c
  refine ⟨fun hi => ⟨vs, h1, by rw [← h2.length]; exact hi⟩, fun d hd => ?_⟩
  obtain ⟨v, hv, rv⟩ := h2.get hd
  refine ⟨⟨vs, v, h1, hv⟩, fun x H' y => ?_⟩
  obtain ⟨rfl, y⟩ := y
  have e : some x = some v := (y vs h1).symm.trans hv
  cases e
  exact ⟨g', Ext.refl g', rfl, rfl, rp, rv⟩
theorem jok_tup {a : Addr} {l : List D} {chk : List O → Bool} (h : ∀ g', Sim g g' → Rep K g' → chk g'.S = true → ∃ vs, SqT K g'.H a vs ∧ RDs K g' l vs) : Jok K g (Itt K a) l chk := fun g' s rp c i => by
  obtain ⟨vs, h1, h2⟩ := h g' s rp c
  refine ⟨fun hi => ⟨vs, h1, by rw [← h2.length]; exact hi⟩, fun d hd => ?_⟩
  obtain ⟨v, hv, rv⟩ := h2.get hd
  refine ⟨⟨vs, v, h1, hv⟩, fun x H' y => ?_⟩
  obtain ⟨rfl, y⟩ := y
  have e : some x = some v := (y vs h1).symm.trans hv
  cases e
  exact ⟨g', Ext.refl g', rfl, rfl, rp, rv⟩
theorem range_get {a c : Int} {n i : Nat} {d : D} (h : (rangeD a c n)[i]? = some d) : i < n ∧ d = .int (a + (i : Nat) * c) := by
  unfold rangeD at h
  rw [List.getElem?_map] at h
  cases e : (List.range n)[i]? with
  | none => rw [e] at h; cases h
  | some j =>
    rw [e] at h
    have hi : i < n := by
      have := (List.getElem?_eq_some_iff.mp e).1
      rwa [List.length_range] at this
    rw [List.getElem?_range hi] at e
    cases e
    cases h
    exact ⟨hi, rfl⟩
theorem range_len (a c : Int) (n : Nat) : (rangeD a c n).length = n := by
  unfold rangeD
  rw [List.length_map, List.length_range]
theorem jok_range {lo : Int} {n : Nat} : Jok K g (Itr lo n) (rangeD lo 1 n) anyS := fun g' s rp c i => by
  refine ⟨fun hi => by rw [range_len] at hi; exact hi, fun d hd => ?_⟩
  obtain ⟨h1, rfl⟩ := range_get hd
  refine ⟨h1, fun x H' y => ?_⟩
  obtain ⟨rfl, rfl⟩ := y
  exact ⟨g', Ext.refl g', rfl, rfl, rp, by rw [RD, Int.mul_one]⟩
theorem jok_rangeC {lo c : Int} {n : Nat} : Jok K g (Itc lo c n) (rangeD lo c n) anyS := fun g' s rp ch i => by
  refine ⟨fun hi => by rw [range_len] at hi; exact hi, fun d hd => ?_⟩
  obtain ⟨h1, rfl⟩ := range_get hd
  refine ⟨h1, fun x H' y => ?_⟩
  obtain ⟨rfl, rfl⟩ := y
  exact ⟨g', Ext.refl g', rfl, rfl, rp, by rw [RD]⟩
end
section
variable {X : Cx} {tg : Expr} {W : WX'}
theorem PI.imp {tg e : Expr} {t t' : TI} (h : PI X tg e t) (f : ∀ σ H Q, t' σ H Q → t σ H Q) : PI X tg e t' := ⟨fun p s σ H Q I q => h.run p s σ H Q I (f σ H Q q)⟩
/-- a list or a tuple, walked -/
theorem pi_seq {e : Expr} {te : TE} (he : PE X e te) : PI X tg e (fun σ H R' => te σ H fun x H1 => ∃ a, x = .ref a ∧ ((∃ xs, SqL X.K H1 a xs ∧ R' (Itl X.K a) H1) ∨ (∃ xs, SqT X.K H1 a xs ∧ R' (Itt X.K a) H1))) := by
  constructor
  intro pins s σ H R' I h
  refine thn (he.run pins s σ H _ I h) fun v s1 ⟨x, H1, I1, r1, a, ex, q1⟩ => ?_
  subst ex
  cases r1
  have own : FpOk X pins H1 s1.heap.objs.size := I1.fpOk (Nat.le_refl _) (I1.hok.fresh (Nat.le_refl _))
  rcases q1 with ⟨xs, hq, q⟩ | ⟨xs, hq, q⟩
  · obtain ⟨its, rv, p, hz⟩ := I1.list hq
    refine wpAny_pyIter_list p.isList ⟨s1.heap.objs.size, [s1.heap.objs.size], _, _, H1, rfl, I1.kept (t' := s1.toks) fun b o e => Heap.get?_push_of_some _ e, turn_list a _, ⟨_, Heap.get?_push_size _ rfl, rfl, rfl⟩, fun b hb => ?_, q⟩
    rw [show b = s1.heap.objs.size by simpa using hb]
    exact own
  · obtain ⟨its, rv, p, hz⟩ := I1.tuple hq
    refine wpAny_pyIter_tuple (show s1.heap.IsTuple a its.toArray from p) ⟨s1.heap.objs.size, [s1.heap.objs.size], _, _, H1, rfl, I1.kept (t' := s1.toks) fun b o e => Heap.get?_push_of_some _ e, turn_tuple a _, ⟨_, Heap.get?_push_size _ rfl, rfl, rfl⟩, fun b hb => ?_, q⟩
    rw [show b = s1.heap.objs.size by simpa using hb]
    exact own
theorem im_seq {e : Expr} {m : ME} (he : PE X e (tE X.K W m)) : PI X tg e (tI X.K W (miSeq m)) := PI.imp (pi_seq he) fun σ H R' ⟨g, e, hH, rp, re, p⟩ => by
  subst hH
  refine ⟨g, e, rfl, rp, re, (Post.bind p).imp fun d g1 e1 r1 ⟨_, _, p1⟩ v rv => ?_⟩
  cases d with
  | tup l =>
    have p1' : Post X.K W g1 (.ok (l, anyS) g1.S) σ _ := p1
    rw [RD] at rv
    obtain ⟨a, vs, rfl, h1, h2⟩ := rv
    exact ⟨a, rfl, .inr ⟨vs, h1.sq, Post.here r1 p1' _ (jok_tup fun g' s _ _ => ⟨vs, (h1.sim s.toSim0).sq, h2.sim s⟩)⟩⟩
  | lst l =>
    have p1' : Post X.K W g1 (.ok (l, anyS) g1.S) σ _ := p1
    rw [RD] at rv
    obtain ⟨a, vs, rfl, h1, h2⟩ := rv
    exact ⟨a, rfl, .inl ⟨vs, h1.sq, Post.here r1 p1' _ (jok_list (vs := vs) fun g' s _ _ => ⟨vs, (h1.sim s.toSim0).sq, h2.sim s⟩)⟩⟩
  | kl l =>
    have p1' : Post X.K W g1 (.ok (l, anyS) g1.S) σ _ := p1
    rw [RD] at rv
    obtain ⟨a, vs, rfl, h1, h2⟩ := rv
    exact ⟨a, rfl, .inl ⟨vs, h1.sq, Post.here r1 p1' _ (jok_list (vs := vs) fun g' s _ _ => ⟨vs, (h1.sim s.toSim0).sq, h2.sim s⟩)⟩⟩
  | ref n =>
    rw [RD] at rv
    cases q : g1.S[n]? with
    | none => simp only [srcD, q] at p1; exact False.elim p1
    | some o =>
      cases o with
      | lst l =>
        simp only [srcD, q] at p1
        obtain ⟨vs, h1, h2⟩ := r1.obj n _ q
        refine ⟨g1.ρ n, rv.2, .inl ⟨vs, .inl (.inl h1), Post.here r1 p1 _ (jok_list (vs := vs) fun g' s rp' c => ?_)⟩⟩
        have c' := of_decide_eq_true c
        obtain ⟨ws, k1, k2⟩ := rp'.obj n _ c'
        rw [s.ag n rv.1] at k1
        exact ⟨ws, .inl (.inl k1), k2⟩
      | _ => simp only [srcD, q] at p1; exact False.elim p1
  | _ => exact False.elim p1
theorem i_range {K : PySem.W.Frag} {σ : L2.St} {H : Hp} {R' : It → Hp → Prop} {f : List D → Option (List D)} {m : MA} {k : List V → Hp → Prop} (h : tI K W (miRange f m) σ H R')
    (hk : ∀ g l vs r, Rep K g → RDs K g l vs → f l = some r → (∀ J, Jok K g J r anyS → R' J g.H) → k vs g.H) : tA K W m σ H k := by
  obtain ⟨g, e, hH, rp, re, p⟩ := h
  subst hH
  refine ⟨g, e, rfl, rp, re, (Post.bind p).imp fun l g1 e1 r1 ⟨_, _, p1⟩ vs rv => ?_⟩
  cases q : f l with
  | none => rw [q] at p1; exact False.elim p1
  | some r =>
    rw [q] at p1
    exact hk g1 l vs r r1 rv q (Post.here r1 p1)
theorem im_range1 {a : Expr} {m : MA} {p pos : Pos} (hg : Gl X "range") (hm : X.mg "range" = none) (ha : PA X [a] (tA X.K W m)) (hs : starEach [a] X.env = [(false, eval a X.env)] := by rfl) : PI X tg (.Call (.Name "range" p) [a] [] pos) (tI X.K W (miRange rangeA1 m)) :=
  PI.imp (pi_range1 hg hm ha hs) fun σ H R' h => i_range h fun g l vs r rp rv q hR => by
  unfold rangeA1 at q
  split at q
  · split at q
    · rename_i b hc
      cases q
      obtain ⟨v, rfl, h1⟩ := rv.one
      rw [RD] at h1; subst h1
      exact ⟨b, rfl, by omega, by omega, hR _ jok_range⟩
    · cases q
  · cases q
theorem im_range2 {a b : Expr} {m : MA} {p pos : Pos} (hg : Gl X "range") (hm : X.mg "range" = none) (ha : PA X [a, b] (tA X.K W m)) (hs : starEach [a, b] X.env = [(false, eval a X.env), (false, eval b X.env)] := by rfl) (hs2 : starEach [b] X.env = [(false, eval b X.env)] := by rfl) :
    PI X tg (.Call (.Name "range" p) [a, b] [] pos) (tI X.K W (miRange rangeA2 m)) :=
  PI.imp (pi_range2 hg hm ha hs hs2) fun σ H R' h => i_range h fun g l vs r rp rv q hR => by
  unfold rangeA2 at q
  split at q
  · split at q
    · rename_i i j hc
      cases q
      obtain ⟨v, u, rfl, h1, h2⟩ := rv.two
      simp only [RD] at h1 h2; subst h1; subst h2
      exact ⟨i, j, rfl, by omega, hR _ jok_range⟩
    · cases q
  · cases q
theorem im_range3 {a b c : Expr} {m : MA} {p pos : Pos} (hg : Gl X "range") (hm : X.mg "range" = none) (ha : PA X [a, b, c] (tA X.K W m)) (hs : starEach [a, b, c] X.env = (false, eval a X.env) :: starEach [b, c] X.env := by rfl) (hpl : (backTo pos (starEach [b, c] X.env)).any (·.1) = false := by rfl) :
    PI X tg (.Call (.Name "range" p) [a, b, c] [] pos) (tI X.K W (miRange rangeA3 m)) :=
  PI.imp (pi_range3 hg hm ha hs hpl) fun σ H R' h => i_range h fun g l vs r rp rv q hR => by
  unfold rangeA3 at q
  split at q
  · split at q
    · rename_i i j k hc
      cases q
      rw [RDs] at rv
      obtain ⟨v, vs', rfl, h1, h2⟩ := rv
      obtain ⟨u, w, rfl, h3, h4⟩ := h2.two
      simp only [RD] at h1 h3 h4; subst h1; subst h3; subst h4
      exact ⟨i, j, k, _, rfl, ⟨hc.1, hc.2.1, hc.2.2.1, by omega⟩, hR _ jok_rangeC⟩
    · cases q
  · cases q
end

/-! ### for -/
/-- a loop's turns -/
def loopL (chk : List O → Bool) (t : Tg) (b : MS) : List D → MS
  | [], e, S => if chk S = true then .nx e S else .bad
  | d :: l, e, S => if chk S = true then (match t.f d e with
    | some e' => (match b e' S with
      | .nx e1 S1 => loopL chk t b l e1 S1
      | .ct e1 S1 => loopL chk t b l e1 S1
      | .bk e1 S1 => .nx e1 S1
      | r => r)
    | none => .bad) else .bad
def sFor (m : MI) (t : Tg) (b : MS) : MS := fun e S => (m e S).st e fun lc S1 => loopL lc.2 t b lc.1 e S1
/-- while, at most n turns -/
def loopW (t : MT) (b : MS) : Nat → MS
  | 0, _, _ => .bad
  | n + 1, e, S => (t e S).st e fun k S1 => if k then (match b e S1 with
    | .nx e1 S2 => loopW t b n e1 S2
    | .ct e1 S2 => loopW t b n e1 S2
    | .bk e1 S2 => .nx e1 S2
    | r => r) else .nx e S1
section
variable {K : PySem.W.Frag} {W : WX'} {σ : L2.St} {H : Hp} {D : Ends}
theorem i_for {m : MI} {t : Tg} {b : MS} (h : tS K W (sFor m t b) D σ H) : tFor (tI K W m) (tG K t) (tS K W b) D σ H := by
  obtain ⟨g, e, hH, rp, re, p⟩ := h
  subst hH
  refine ⟨g, e, rfl, rp, re, (PostS.of_st re p).imp fun lc g1 e1 r1 ⟨_, _, p1⟩ J hJ => ?_⟩
  obtain ⟨l, chk⟩ := lc
  let At : Nat → L2.St → Hp → Prop := fun i σ H => i ≤ l.length ∧ ∃ g' e, g'.H = H ∧ Sim g1 g' ∧ Rep K g' ∧ RE K g' e σ ∧ PostS K W g' (loopL chk t b (l.drop i) e g'.S) D
  refine ⟨fun i m σ H => m = l.length - i ∧ At i σ H, ⟨l.length, by simp, Nat.zero_le _, g1, e, rfl, Sim.refl g1, r1, re.mono e1, p1⟩, ?_⟩
  rintro i m σ H ⟨rfl, hi, g', e', rfl, s', rp', re', p'⟩
  by_cases hlt : i < l.length
  · obtain ⟨d, hd⟩ : ∃ d, l[i]? = some d := ⟨l[i], by simp [hlt]⟩
    have hdrop : l.drop i = d :: l.drop (i + 1) := by
      rw [List.drop_eq_getElem_cons hlt]
      congr 1
      exact Option.some.inj ((List.getElem?_eq_getElem hlt).symm.trans hd)
    rw [hdrop, loopL] at p'
    by_cases hc : chk g'.S = true
    · rw [if_pos hc] at p'
      obtain ⟨go, yl⟩ := (hJ g' s' rp' hc i).2 d hd
      refine .inr ⟨go, fun σ H => At (i + 1) σ H, fun σ2 H2 h2 => ⟨l.length - (i + 1), by omega, rfl, h2⟩, fun x H' y => ?_⟩
      obtain ⟨g2, x2, s2, rfl, rp2, rd2⟩ := yl x H' y
      cases q : t.f d e' with
      | none => rw [q] at p'; exact False.elim p'
      | some e2 =>
        rw [q] at p'
        dsimp only at p'
        refine ⟨g2, e', d, e2, rfl, rp2, re'.mono x2, rd2, q, fun σ2 re2 _ => ⟨g2, e2, rfl, rp2, re2, ?_⟩⟩
        rw [s2]
        cases qb : b e2 g'.S with
        | nx e3 S3 =>
          rw [qb] at p'
          exact fun g3 σ3 x3 hs rp3 re3 => ⟨hlt, g3, e3, rfl, (s'.trans x2.sim).trans x3.sim, rp3, re3, by rw [hs]; exact PostS.mono (x2.trans x3) p'⟩
        | ct e3 S3 =>
          rw [qb] at p'
          exact fun g3 σ3 x3 hs rp3 re3 => ⟨hlt, g3, e3, rfl, (s'.trans x2.sim).trans x3.sim, rp3, re3, by rw [hs]; exact PostS.mono (x2.trans x3) p'⟩
        | bk e3 S3 =>
          rw [qb] at p'
          exact fun g3 σ3 x3 hs rp3 re3 => p' g3 σ3 (x2.trans x3) hs rp3 re3
        | rt d3 S3 =>
          rw [qb] at p'
          exact fun g3 v3 x3 hs rp3 rd3 => p' g3 v3 (x2.trans x3) hs rp3 rd3
        | er x3 e3 S3 =>
          rw [qb] at p'
          exact fun g3 σ3 c d3 x3 hs rp3 re3 rx3 => p' g3 σ3 c d3 (x2.trans x3) hs rp3 re3 rx3
        | bad => rw [qb] at p'; exact False.elim p'
    · rw [if_neg hc] at p'; exact False.elim p'
  · have hl : l.drop i = [] := List.drop_eq_nil_of_le (by omega)
    rw [hl, loopL] at p'
    by_cases hc : chk g'.S = true
    · rw [if_pos hc] at p'
      exact .inl ⟨(hJ g' s' rp' hc i).1 (Nat.le_of_not_lt hlt), p' g' _ (Ext.refl g') rfl rp' re'⟩
    · rw [if_neg hc] at p'; exact False.elim p'
theorem i_while {t : MT} {b : MS} {n : Nat} (h : tS K W (loopW t b n) D σ H) : tWhile (tT K W t) (tS K W b) D σ H := by
  obtain ⟨g, e, hH, rp, re, p⟩ := h
  subst hH
  refine ⟨fun m σ H => ∃ g' e, g'.H = H ∧ Rep K g' ∧ RE K g' e σ ∧ PostS K W g' (loopW t b m e g'.S) D, ⟨n, g, e, rfl, rp, re, p⟩, ?_⟩
  rintro m σ H ⟨g', e', rfl, rp', re', p'⟩
  cases m with
  | zero => exact False.elim p'
  | succ m =>
    rw [loopW] at p'
    refine ⟨g', e', rfl, rp', re', (PostS.of_st re' p').imp fun k g1 e1 r1 ⟨_, _, p1⟩ => ?_⟩
    cases k with
    | false => exact p1 g1 _ (Ext.refl g1) rfl r1 (re'.mono e1)
    | true =>
      rw [if_pos rfl] at p1
      refine ⟨_, fun σ2 H2 h2 => ⟨m, Nat.lt_succ_self m, h2⟩, g1, e', rfl, r1, re'.mono e1, ?_⟩
      cases qb : b e' g1.S with
      | nx e3 S3 =>
        rw [qb] at p1
        exact fun g3 σ3 x3 hs rp3 re3 => ⟨g3, e3, rfl, rp3, re3, by rw [hs]; exact PostS.mono x3 p1⟩
      | ct e3 S3 =>
        rw [qb] at p1
        exact fun g3 σ3 x3 hs rp3 re3 => ⟨g3, e3, rfl, rp3, re3, by rw [hs]; exact PostS.mono x3 p1⟩
      | bk e3 S3 => rw [qb] at p1; exact p1
      | rt d3 S3 => rw [qb] at p1; exact p1
      | er x3 e3 S3 => rw [qb] at p1; exact p1
      | bad => rw [qb] at p1; exact False.elim p1
end
section
variable {X : Cx} {W : WX'} {tg iter c : Expr} {body : List Stmt} {m : MI} {t : Tg} {b : MS} {mt : MT} {pos : Pos}
theorem sm_for (hp : PassesOwn (model X.prog X.w) X.A X.env X.xe) (hc : X.calm = true) (hi : PI X tg iter (tI X.K W m)) (hg : PG X tg (tG X.K t)) (hb : PSs X body (tS X.K W b))
    (hs : ∀ x, foldedSetIterable iter X.env x = pure x := by intro _; rfl) : PS X (.For tg iter body [] pos) (tS X.K W (sFor m t b)) := PS.imp (ps_for hp hc hi hg hb hs) fun _ _ _ => i_for
theorem sm_while (n : Nat) (hp : PassesOwn (model X.prog X.w) X.A X.env X.xe) (hc : PT X c (tT X.K W mt)) (hb : PSs X body (tS X.K W b)) : PS X (.While c body [] pos) (tS X.K W (loopW mt b n)) := PS.imp (ps_while hp hc hb) fun _ _ _ => i_while
end
end Mo

namespace Mo
open PySem PySem.Spec L2 PyProof.Rows

/-! ### comprehensions -/
def wipeE (e : Env) : List Nat → Env
  | [] => e
  | v :: vs => (wipeE e vs).set v none
def mYes : MT := fun _ S => .ok true S
/-- an error cannot leave here -/
def R.nb {α : Type} (r : R α) : R α := match r with
  | .ok a S => .ok a S
  | _ => .bad
abbrev WF : WX' := fun _ _ _ _ => False
def compL (chk : List O → Bool) (t : Tg) (tt : MT) (te : ME) (e : Env) : List D → List D → List O → R (List D)
  | acc, [], S => if chk S = true then .ok acc S else .bad
  | acc, d :: l, S => if chk S = true then (match t.f d e with
    | some e' => (tt e' S).nb.bind fun k S1 => if k then (te e' S1).nb.bind fun y S2 => (if acc.length < sz then compL chk t tt te e (acc ++ [y]) l S2 else .bad) else compL chk t tt te e acc l S1
    | none => .bad) else .bad
def mComp (m : MI) (t : Tg) (tt : MT) (te : ME) (vs : List Nat) : ME := fun e S => (m e S).bind fun lc S1 => (compL lc.2 t tt te (wipeE e vs) [] lc.1 S1).bind fun acc S2 => .ok (.lst acc) S2
/-- .. as a list that is changed later -/
def mCompN (m : MI) (t : Tg) (tt : MT) (te : ME) (vs : List Nat) : ME := fun e S => (m e S).bind fun lc S1 => (compL lc.2 t tt te (wipeE e vs) [] lc.1 S1).bind fun acc S2 => .ok (.ref S2.length) (S2 ++ [.lst acc])
theorem RE.wipes {K : PySem.W.Frag} {g : G} {e : Env} {σ : L2.St} (h : RE K g e σ) : ∀ vs, RE K g (wipeE e vs) (L2.wipe σ vs)
  | [] => h
  | v :: vs => (RE.wipes h vs).wipe
theorem wipe_get {σ : L2.St} {j : Nat} : ∀ {vs : List Nat}, j ∉ vs → (wipe σ vs)[j]? = σ[j]?
  | [], _ => rfl
  | v :: vs, h => by
    have h' : ¬ j = v ∧ j ∉ vs := by simpa using h
    unfold wipe
    rw [List.getElem?_set_ne (fun z => h'.1 z.symm), wipe_get h'.2]
theorem wipe_in {σ : L2.St} {j : Nat} : ∀ {vs : List Nat}, j ∈ vs → j < σ.length → (wipe σ vs)[j]? = some none
  | v :: vs, h, hl => by
    unfold wipe
    by_cases e : v = j
    · subst e
      exact List.getElem?_set_self (by rw [wipe_length]; exact hl)
    · rw [List.getElem?_set_ne e]
      rcases List.mem_cons.mp h with z | z
      · exact absurd z.symm e
      · exact wipe_in z hl
theorem wipe_same {σ σ' : L2.St} {sl vs : List Nat} (o : Off sl (wipe σ vs) σ') (hs : ∀ j ∈ sl, j ∈ vs) : wipe σ' vs = wipe σ vs := by
  have hl : σ'.length = σ.length := by rw [o.1, wipe_length]
  refine List.ext_getElem? fun j => ?_
  by_cases hj : j ∈ vs
  · by_cases hlt : j < σ.length
    · rw [wipe_in hj hlt, wipe_in hj (by omega)]
    · rw [List.getElem?_eq_none (by rw [wipe_length]; omega), List.getElem?_eq_none (by rw [wipe_length]; omega)]
  · rw [wipe_get hj, o.2 j fun z => hj (hs j z)]
/-- a list under way, kept from everybody -/
abbrev G.guard (g : G) (p : Addr) (u : HO) : G := { g with N := fun a => g.N a ∨ a = p, H := upd g.H p u }
section
variable {K : PySem.W.Frag} {g : G} {p : Addr} {u : HO}
theorem rd_upd {H : Hp} {a p : Addr} {u o : HO} (h : Rd H a u) (ne : a ≠ p) : Rd (upd H p o) a u := by
  rcases h with h | ⟨x, h⟩
  · exact .inl ((upd_ne ne).trans h)
  · exact .inr ⟨x, (upd_ne ne).trans h⟩
theorem rd_some {H : Hp} {a : Addr} {u : HO} (h : Rd H a u) : ∃ o, H a = some o := by
  rcases h with h | ⟨x, h⟩ <;> exact ⟨_, h⟩
theorem Sim.guard (hp : g.H p = none) : Sim g (g.guard p u) := by
  have key : ∀ (a : Addr) (w : HO), Rd g.H a w → g.Pr a → Rd (g.guard p u).H a w ∧ (g.guard p u).Pr a := fun a w h q => by
    have ne : a ≠ p := by
      obtain ⟨o, ho⟩ := rd_some h
      exact ne_of_none ho hp
    exact ⟨rd_upd h ne, fun z => z.elim q.1 ne, q.2⟩
  exact ⟨⟨fun a vs h q => key a _ h q, fun a vs h q => key a _ h q⟩, Nat.le_refl _, fun _ _ => rfl⟩
theorem Rep.guard (rp : Rep K g) (hp : g.H p = none) : Rep K (g.guard p u) := by
  refine ⟨fun a z => ?_, rp.inj, fun i o q => (rp.obj i o q).sim (Sim.guard hp) fun n => ?_⟩
  · rcases z with z | z
    · obtain ⟨o, e⟩ := rp.nd a z
      exact ⟨o, (show upd g.H p u a = g.H a from upd_ne (ne_of_none e hp)).trans e⟩
    · subst z; exact ⟨u, upd_same⟩
  · obtain ⟨w, e⟩ := (rp.obj i o q).at_ n
    exact upd_ne (ne_of_none e hp)
/-- the list under way grows -/
abbrev G.grow (g : G) (p : Addr) (u : HO) : G := { g with H := upd g.H p u }
theorem Sim.grow (hN : g.N p) : Sim g (g.grow p u) := by
  have key : ∀ (a : Addr) (w : HO), Rd g.H a w → g.Pr a → Rd (g.grow p u).H a w ∧ (g.grow p u).Pr a := fun a w h q => by
    have ne : a ≠ p := fun z => q.1 (z ▸ hN)
    exact ⟨rd_upd h ne, q⟩
  exact ⟨⟨fun a vs h q => key a _ h q, fun a vs h q => key a _ h q⟩, Nat.le_refl _, fun _ _ => rfl⟩
theorem Rep.grow (rp : Rep K g) (hN : g.N p) (nl : ¬ g.Live p) : Rep K (g.grow p u) := by
  refine ⟨fun a z => ?_, rp.inj, fun i o q => (rp.obj i o q).sim (Sim.grow hN) fun n => ?_⟩
  · by_cases h : a = p
    · subst h; exact ⟨u, upd_same⟩
    · obtain ⟨o, e⟩ := rp.nd a z
      exact ⟨o, (show upd g.H p u a = g.H a from upd_ne h).trans e⟩
  · exact upd_ne fun z => nl ⟨i, o, q, n, z⟩
/-- .. and is let go -/
theorem Sim.free (N : Addr → Prop) (h : ∀ a, N a → g.N a) : Sim g { g with N := N } :=
  ⟨⟨fun a vs r q => ⟨r, fun z => q.1 (h a z), q.2⟩, fun a vs r q => ⟨r, fun z => q.1 (h a z), q.2⟩⟩, Nat.le_refl _, fun _ _ => rfl⟩
theorem Rep.free (rp : Rep K g) (N : Addr → Prop) (h : ∀ a, N a → g.N a) : Rep K { g with N := N } :=
  ⟨fun a z => rp.nd a (h a z), rp.inj, fun i o q => (rp.obj i o q).sim (Sim.free N h) fun _ => rfl⟩
end
section
variable {K : PySem.W.Frag} {W : WX'} {σ : L2.St} {H : Hp} {Q : VK}
theorem i_comp {m : MI} {t : Tg} {tt : MT} {te : ME} {vs : List Nat} (hsl : ∀ j ∈ t.sl, j ∈ vs) (h : tE K W (mComp m t tt te vs) σ H Q) : tLc (tI K W m) (tG K t) (tT K WF tt) (tE K WF te) vs σ H Q := by
  obtain ⟨g, e, hH, rp, re, p⟩ := h
  subst hH
  refine ⟨g, e, rfl, rp, re, (Post.bind p).imp fun lc g1 e1 r1 ⟨_, _, p1⟩ J hJ => ?_⟩
  obtain ⟨l, chk⟩ := lc
  have p1 : Post K W g1 ((compL chk t tt te (wipeE e vs) [] l g1.S).bind fun acc S2 => .ok (.lst acc) S2) σ fun d g' => ∀ v, RD K g' d v → Q v g'.H := p1
  intro Dl hD
  let At : Nat → Hp → Prop := fun i H => i ≤ l.length ∧ ∃ g' acc vs', g'.H = H ∧ Sim g1 g' ∧ Rep K g' ∧ g'.H Dl = some (.lst vs') ∧ RDs K g' acc vs' ∧ (∀ a, g'.N a ↔ (g1.N a ∨ a = Dl)) ∧ ¬ g'.Live Dl ∧
    (∀ a o, g1.H a = some o → ¬ g1.Live a → g'.H a = some o ∧ ¬ g'.Live a) ∧ compL chk t tt te (wipeE e vs) [] l g1.S = compL chk t tt te (wipeE e vs) acc (l.drop i) g'.S
  have rew : RE K g1 (wipeE e vs) (L2.wipe σ vs) := (re.mono e1).wipes vs
  refine ⟨fun i m H => m = l.length - i ∧ At i H, ⟨l.length, by simp, Nat.zero_le _, g1.guard Dl (.lst []), [], [], rfl, Sim.guard hD, r1.guard hD, upd_same, RDs.nil, fun _ => Iff.rfl, (r1.fresh hD).2, fun a o ho nl => ⟨?_, nl⟩, rfl⟩, ?_⟩
  · exact (show upd g1.H Dl (.lst []) a = g1.H a from upd_ne (ne_of_none ho hD)).trans ho
  rintro i m H ⟨rfl, hi, g', acc, vs', rfl, s', rp', hDl, racc, hN, nlive, keep, hR⟩
  have hND : g'.N Dl := (hN Dl).mpr (.inr rfl)
  by_cases hlt : i < l.length
  · obtain ⟨d, hd⟩ : ∃ d, l[i]? = some d := ⟨l[i], by simp [hlt]⟩
    have hdrop : l.drop i = d :: l.drop (i + 1) := by
      rw [List.drop_eq_getElem_cons hlt]
      congr 1
      exact Option.some.inj ((List.getElem?_eq_getElem hlt).symm.trans hd)
    rw [hdrop, compL] at hR
    have nobad : compL chk t tt te (wipeE e vs) [] l g1.S ≠ .bad := fun z => by rw [z] at p1; exact p1
    by_cases hc : chk g'.S = true
    · rw [if_pos hc] at hR
      obtain ⟨go, yl⟩ := (hJ g' s' rp' hc i).2 d hd
      refine .inr ⟨go, fun H => At (i + 1) H, fun H2 h2 => ⟨l.length - (i + 1), by omega, rfl, h2⟩, fun x H' y => ?_⟩
      obtain ⟨g2, x2, s2, rfl, rp2, rd2⟩ := yl x H' y
      cases q : t.f d (wipeE e vs) with
      | none => rw [q] at hR; exact absurd hR nobad
      | some e2 =>
        rw [q] at hR
        dsimp only at hR
        refine ⟨g2, wipeE e vs, d, e2, rfl, rp2, rew.sim (s'.trans x2.sim), rd2, q, fun σ2 re2 off => ⟨wipe_same off hsl, g2, e2, rfl, rp2, re2, ?_⟩⟩
        rw [s2]
        cases qt : tt e2 g'.S with
        | er x3 S3 => rw [qt] at hR; exact absurd hR nobad
        | bad => rw [qt] at hR; exact absurd hR nobad
        | ok k S3 =>
          rw [qt] at hR
          have hR : compL chk t tt te (wipeE e vs) [] l g1.S = if k then (te e2 S3).nb.bind fun y S2 => (if acc.length < sz then compL chk t tt te (wipeE e vs) (acc ++ [y]) (l.drop (i + 1)) S2 else .bad) else compL chk t tt te (wipeE e vs) acc (l.drop (i + 1)) S3 := hR
          intro g3 x3 hs3 rp3
          have x23 := x2.trans x3
          have keep3 : ∀ a o, g1.H a = some o → ¬ g1.Live a → g3.H a = some o ∧ ¬ g3.Live a := fun a o ho nl =>
            let ⟨k1, k2⟩ := keep a o ho nl
            x23.kp a o k1 k2
          have dl3 := x23.kp Dl _ hDl nlive
          have hN3 : ∀ a, g3.N a ↔ (g1.N a ∨ a = Dl) := fun a => by rw [x23.n]; exact hN a
          cases k with
          | false => exact ⟨hlt, g3, acc, vs', rfl, s'.trans x23.sim, rp3, dl3.1, racc.sim x23.sim, hN3, dl3.2, keep3, by rw [hs3]; exact hR⟩
          | true =>
            rw [if_pos rfl] at hR
            refine ⟨g3, e2, rfl, rp3, re2.mono x3, ?_⟩
            rw [hs3]
            cases qe : te e2 S3 with
            | er x4 S4 => rw [qe] at hR; exact absurd hR nobad
            | bad => rw [qe] at hR; exact absurd hR nobad
            | ok y S4 =>
              rw [qe] at hR
              have hR : compL chk t tt te (wipeE e vs) [] l g1.S = (if acc.length < sz then compL chk t tt te (wipeE e vs) (acc ++ [y]) (l.drop (i + 1)) S4 else .bad) := hR
              by_cases hz : acc.length < sz
              · rw [if_pos hz] at hR
                intro g4 x4 hs4 rp4 v4 rv4
                have x24 := x23.trans x4
                have dl4 := x24.kp Dl _ hDl nlive
                have hN4 : ∀ a, g4.N a ↔ (g1.N a ∨ a = Dl) := fun a => by rw [x24.n]; exact hN a
                have hND4 : g4.N Dl := (hN4 Dl).mpr (.inr rfl)
                refine ⟨vs', dl4.1, by rw [← racc.length, ← sz_eq]; exact hz, hlt, g4.grow Dl (.lst (vs' ++ [v4])), acc ++ [y], vs' ++ [v4], rfl, (s'.trans x24.sim).trans (Sim.grow hND4), rp4.grow hND4 dl4.2, upd_same,
                  ((racc.sim x24.sim).append (RDs.cons rv4 RDs.nil)).sim (Sim.grow hND4), hN4, dl4.2, fun a o ho nl => ?_, by rw [show (g4.grow Dl (.lst (vs' ++ [v4]))).S = S4 from hs4]; exact hR⟩
                obtain ⟨k1, k2⟩ := keep a o ho nl
                obtain ⟨k3, k4⟩ := x24.kp a o k1 k2
                exact ⟨(show upd g4.H Dl (.lst (vs' ++ [v4])) a = g4.H a from upd_ne (ne_of_none ho hD)).trans k3, k4⟩
              · rw [if_neg hz] at hR; exact absurd hR nobad
    · rw [if_neg hc] at hR; exact absurd hR nobad
  · have hl : l.drop i = [] := List.drop_eq_nil_of_le (Nat.le_of_not_lt hlt)
    rw [hl, compL] at hR
    have nobad : compL chk t tt te (wipeE e vs) [] l g1.S ≠ .bad := fun z => by rw [z] at p1; exact p1
    by_cases hc : chk g'.S = true
    · rw [if_pos hc] at hR
      refine .inl ⟨(hJ g' s' rp' hc i).1 (Nat.le_of_not_lt hlt), ?_⟩
      rw [hR] at p1
      have hsub : ∀ a, g1.N a → g'.N a := fun a z => (hN a).mpr (.inl z)
      refine p1 { g' with N := g1.N } ⟨rfl, s'.len, s'.ag, keep⟩ rfl (rp'.free _ hsub) (.ref Dl) ?_
      rw [RD]
      refine ⟨Dl, vs', rfl, ⟨.inl hDl, fun z => ?_, nlive⟩, racc.sim (Sim.free _ hsub)⟩
      obtain ⟨o, ho⟩ := r1.nd Dl z
      rw [hD] at ho; cases ho
    · rw [if_neg hc] at hR; exact absurd hR nobad
theorem i_compN {m : MI} {t : Tg} {tt : MT} {te : ME} {vs : List Nat} (hsl : ∀ j ∈ t.sl, j ∈ vs) (h : tE K W (mCompN m t tt te vs) σ H Q) : tLc (tI K W m) (tG K t) (tT K WF tt) (tE K WF te) vs σ H Q := by
  obtain ⟨g, e, hH, rp, re, p⟩ := h
  subst hH
  refine ⟨g, e, rfl, rp, re, (Post.bind p).imp fun lc g1 e1 r1 ⟨_, _, p1⟩ J hJ => ?_⟩
  obtain ⟨l, chk⟩ := lc
  have p1 : Post K W g1 ((compL chk t tt te (wipeE e vs) [] l g1.S).bind fun acc S2 => .ok (.ref S2.length) (S2 ++ [.lst acc])) σ fun d g' => ∀ v, RD K g' d v → Q v g'.H := p1
  intro Dl hD
  let At : Nat → Hp → Prop := fun i H => i ≤ l.length ∧ ∃ g' acc vs', g'.H = H ∧ Sim g1 g' ∧ Rep K g' ∧ g'.H Dl = some (.lst vs') ∧ RDs K g' acc vs' ∧ (∀ a, g'.N a ↔ (g1.N a ∨ a = Dl)) ∧ ¬ g'.Live Dl ∧
    (∀ a o, g1.H a = some o → ¬ g1.Live a → g'.H a = some o ∧ ¬ g'.Live a) ∧ compL chk t tt te (wipeE e vs) [] l g1.S = compL chk t tt te (wipeE e vs) acc (l.drop i) g'.S
  have rew : RE K g1 (wipeE e vs) (L2.wipe σ vs) := (re.mono e1).wipes vs
  refine ⟨fun i m H => m = l.length - i ∧ At i H, ⟨l.length, by simp, Nat.zero_le _, g1.guard Dl (.lst []), [], [], rfl, Sim.guard hD, r1.guard hD, upd_same, RDs.nil, fun _ => Iff.rfl, (r1.fresh hD).2, fun a o ho nl => ⟨?_, nl⟩, rfl⟩, ?_⟩
  · exact (show upd g1.H Dl (.lst []) a = g1.H a from upd_ne (ne_of_none ho hD)).trans ho
  rintro i m H ⟨rfl, hi, g', acc, vs', rfl, s', rp', hDl, racc, hN, nlive, keep, hR⟩
  have hND : g'.N Dl := (hN Dl).mpr (.inr rfl)
  by_cases hlt : i < l.length
  · obtain ⟨d, hd⟩ : ∃ d, l[i]? = some d := ⟨l[i], by simp [hlt]⟩
    have hdrop : l.drop i = d :: l.drop (i + 1) := by
      rw [List.drop_eq_getElem_cons hlt]
      congr 1
      exact Option.some.inj ((List.getElem?_eq_getElem hlt).symm.trans hd)
    rw [hdrop, compL] at hR
    have nobad : compL chk t tt te (wipeE e vs) [] l g1.S ≠ .bad := fun z => by rw [z] at p1; exact p1
    by_cases hc : chk g'.S = true
    · rw [if_pos hc] at hR
      obtain ⟨go, yl⟩ := (hJ g' s' rp' hc i).2 d hd
      refine .inr ⟨go, fun H => At (i + 1) H, fun H2 h2 => ⟨l.length - (i + 1), by omega, rfl, h2⟩, fun x H' y => ?_⟩
      obtain ⟨g2, x2, s2, rfl, rp2, rd2⟩ := yl x H' y
      cases q : t.f d (wipeE e vs) with
      | none => rw [q] at hR; exact absurd hR nobad
      | some e2 =>
        rw [q] at hR
        dsimp only at hR
        refine ⟨g2, wipeE e vs, d, e2, rfl, rp2, rew.sim (s'.trans x2.sim), rd2, q, fun σ2 re2 off => ⟨wipe_same off hsl, g2, e2, rfl, rp2, re2, ?_⟩⟩
        rw [s2]
        cases qt : tt e2 g'.S with
        | er x3 S3 => rw [qt] at hR; exact absurd hR nobad
        | bad => rw [qt] at hR; exact absurd hR nobad
        | ok k S3 =>
          rw [qt] at hR
          have hR : compL chk t tt te (wipeE e vs) [] l g1.S = if k then (te e2 S3).nb.bind fun y S2 => (if acc.length < sz then compL chk t tt te (wipeE e vs) (acc ++ [y]) (l.drop (i + 1)) S2 else .bad) else compL chk t tt te (wipeE e vs) acc (l.drop (i + 1)) S3 := hR
          intro g3 x3 hs3 rp3
          have x23 := x2.trans x3
          have keep3 : ∀ a o, g1.H a = some o → ¬ g1.Live a → g3.H a = some o ∧ ¬ g3.Live a := fun a o ho nl =>
            let ⟨k1, k2⟩ := keep a o ho nl
            x23.kp a o k1 k2
          have dl3 := x23.kp Dl _ hDl nlive
          have hN3 : ∀ a, g3.N a ↔ (g1.N a ∨ a = Dl) := fun a => by rw [x23.n]; exact hN a
          cases k with
          | false => exact ⟨hlt, g3, acc, vs', rfl, s'.trans x23.sim, rp3, dl3.1, racc.sim x23.sim, hN3, dl3.2, keep3, by rw [hs3]; exact hR⟩
          | true =>
            rw [if_pos rfl] at hR
            refine ⟨g3, e2, rfl, rp3, re2.mono x3, ?_⟩
            rw [hs3]
            cases qe : te e2 S3 with
            | er x4 S4 => rw [qe] at hR; exact absurd hR nobad
            | bad => rw [qe] at hR; exact absurd hR nobad
            | ok y S4 =>
              rw [qe] at hR
              have hR : compL chk t tt te (wipeE e vs) [] l g1.S = (if acc.length < sz then compL chk t tt te (wipeE e vs) (acc ++ [y]) (l.drop (i + 1)) S4 else .bad) := hR
              by_cases hz : acc.length < sz
              · rw [if_pos hz] at hR
                intro g4 x4 hs4 rp4 v4 rv4
                have x24 := x23.trans x4
                have dl4 := x24.kp Dl _ hDl nlive
                have hN4 : ∀ a, g4.N a ↔ (g1.N a ∨ a = Dl) := fun a => by rw [x24.n]; exact hN a
                have hND4 : g4.N Dl := (hN4 Dl).mpr (.inr rfl)
                refine ⟨vs', dl4.1, by rw [← racc.length, ← sz_eq]; exact hz, hlt, g4.grow Dl (.lst (vs' ++ [v4])), acc ++ [y], vs' ++ [v4], rfl, (s'.trans x24.sim).trans (Sim.grow hND4), rp4.grow hND4 dl4.2, upd_same,
                  ((racc.sim x24.sim).append (RDs.cons rv4 RDs.nil)).sim (Sim.grow hND4), hN4, dl4.2, fun a o ho nl => ?_, by rw [show (g4.grow Dl (.lst (vs' ++ [v4]))).S = S4 from hs4]; exact hR⟩
                obtain ⟨k1, k2⟩ := keep a o ho nl
                obtain ⟨k3, k4⟩ := x24.kp a o k1 k2
                exact ⟨(show upd g4.H Dl (.lst (vs' ++ [v4])) a = g4.H a from upd_ne (ne_of_none ho hD)).trans k3, k4⟩
              · rw [if_neg hz] at hR; exact absurd hR nobad
    · rw [if_neg hc] at hR; exact absurd hR nobad
  · have hl : l.drop i = [] := List.drop_eq_nil_of_le (Nat.le_of_not_lt hlt)
    rw [hl, compL] at hR
    have nobad : compL chk t tt te (wipeE e vs) [] l g1.S ≠ .bad := fun z => by rw [z] at p1; exact p1
    by_cases hc : chk g'.S = true
    · rw [if_pos hc] at hR
      refine .inl ⟨(hJ g' s' rp' hc i).1 (Nat.le_of_not_lt hlt), ?_⟩
      rw [hR] at p1
      have hsub : ∀ a, g1.N a → g'.N a := fun a z => (hN a).mpr (.inl z)
      let g2 : G := { N := g1.N, ρ := fun i => if i = g'.S.length then Dl else g'.ρ i, S := g'.S ++ [.lst acc], H := g'.H }
      have live2 : ∀ a, g2.Live a → g'.Live a ∨ a = Dl := fun a ⟨i, o, q, n, e⟩ => by
        have q' : (g'.S ++ [O.lst acc])[i]? = some o := q
        have e' : (if i = g'.S.length then Dl else g'.ρ i) = a := e
        by_cases hi : i < g'.S.length
        · rw [List.getElem?_append_left hi] at q'
          rw [if_neg (Nat.ne_of_lt hi)] at e'
          exact .inl ⟨i, o, q', n, e'⟩
        · have e2 : i = g'.S.length := by
            rcases Nat.lt_or_ge i (g'.S.length + 1) with z | z
            · omega
            · rw [List.getElem?_eq_none (by simpa using z)] at q'; cases q'
          rw [if_pos e2] at e'
          exact .inr e'.symm
      have pr2 : ∀ a, g'.Pr a → g2.Pr a := fun a q => ⟨fun z => q.1 (hsub a z), fun z => (live2 a z).elim q.2 fun e => q.1 ((hN a).mpr (.inr e))⟩
      have s2 : Sim g' g2 := ⟨⟨fun a vs r q => ⟨r, pr2 a q⟩, fun a vs r q => ⟨r, pr2 a q⟩⟩, by show _ ≤ (g'.S ++ [O.lst acc]).length; simp, fun i hi => if_neg (Nat.ne_of_lt hi)⟩
      have at2 : ∀ i o, g2.S[i]? = some o → (i < g'.S.length ∧ g'.S[i]? = some o ∧ g2.ρ i = g'.ρ i) ∨ (i = g'.S.length ∧ o = .lst acc ∧ g2.ρ i = Dl) := fun i o q => by
        have q' : (g'.S ++ [O.lst acc])[i]? = some o := q
        by_cases hi : i < g'.S.length
        · rw [List.getElem?_append_left hi] at q'
          exact .inl ⟨hi, q', if_neg (Nat.ne_of_lt hi)⟩
        · have e2 : i = g'.S.length := by
            rcases Nat.lt_or_ge i (g'.S.length + 1) with z | z
            · omega
            · rw [List.getElem?_eq_none (by simpa using z)] at q'; cases q'
          subst e2
          rw [List.getElem?_append_right (Nat.le_refl _), Nat.sub_self] at q'
          exact .inr ⟨rfl, (Option.some.inj q').symm, if_pos rfl⟩
      have hne : ∀ i o, g'.S[i]? = some o → o ≠ .gone → g'.ρ i ≠ Dl := fun i o q n e => nlive ⟨i, o, q, n, e⟩
      refine p1 g2 ⟨rfl, Nat.le_trans s'.len s2.len, fun i hi => ?_, fun a o ho nl => ?_⟩ rfl ⟨fun a z => rp'.nd a (hsub a z), fun i j o u q1 n1 q2 n2 e => ?_, fun i o q => ?_⟩ (.ref Dl) ?_
      · rw [s2.ag i (Nat.lt_of_lt_of_le hi s'.len)]; exact s'.ag i hi
      · obtain ⟨k1, k2⟩ := keep a o ho nl
        exact ⟨k1, fun z => (live2 a z).elim k2 fun e => by rw [e, hD] at ho; cases ho⟩
      · rcases at2 i o q1 with ⟨a1, a2, a3⟩ | ⟨a1, a2, a3⟩ <;> rcases at2 j u q2 with ⟨b1, b2, b3⟩ | ⟨b1, b2, b3⟩
        · rw [a3, b3] at e; exact rp'.inj i j o u a2 n1 b2 n2 e
        · rw [a3, b3] at e; exact absurd e (hne i o a2 n1)
        · rw [a3, b3] at e; exact absurd e.symm (hne j u b2 n2)
        · rw [a1, b1]
      · rcases at2 i o q with ⟨a1, a2, a3⟩ | ⟨a1, a2, a3⟩
        · rw [a3]; exact (rp'.obj i o a2).sim s2 fun _ => rfl
        · rw [a3, a2]; exact ⟨vs', hDl, racc.sim s2⟩
      · rw [RD]
        exact ⟨by show g'.S.length < (g'.S ++ [O.lst acc]).length; simp, by rw [show g2.ρ g'.S.length = Dl from if_pos rfl]⟩
    · rw [if_neg hc] at hR; exact absurd hR nobad
end
section
variable {X : Cx} {W : WX'} {m : MI} {t : Tg} {tt : MT} {te : ME}
theorem PTs.imp {X : Cx} {ifs : List Expr} {t t' : TT} (h : PTs X ifs t) (f : ∀ σ H Q, t' σ H Q → t σ H Q) : PTs X ifs t' := ⟨fun p s σ H Q I q => h.run p s σ H Q I (f σ H Q q)⟩
theorem qms_nil : PTs X [] (tT X.K WF mYes) := PTs.imp pts_nil fun σ H Q ⟨g, e, hH, rp, re, p⟩ => by
  subst hH
  exact Post.here rp p
theorem qms_one {c : Expr} (h : PT X c (tT X.K WF tt)) : PTs X [c] (tT X.K WF tt) := pts_one h
theorem pm_comp {elt tg iter : Expr} {ifs : List Expr} {scope : Scope} {own : List (Str × Nat)} {pos : Pos} (hc : X.calm = true) (hN : X.N.Nodup) (hi : PI X tg iter (tI X.K W m)) (ok : BlkOk X.N X.env.scope scope own)
    (hg : ∀ (s : Shared) (H : Hp) (C : Addr) (cl : List (Str × Addr)) (fp : List Addr), PG (X.blk s H scope (compEnvC scope cl C X.env) fp) tg (tG X.K t)) (ht : ∀ (s : Shared) (H : Hp) (C : Addr) (cl : List (Str × Addr)) (fp : List Addr), PTs (X.blk s H scope (compEnvC scope cl C X.env) fp) ifs (tT X.K WF tt))
    (he : ∀ (s : Shared) (H : Hp) (C : Addr) (cl : List (Str × Addr)) (fp : List Addr), PE (X.blk s H scope (compEnvC scope cl C X.env) fp) elt (tE X.K WF te)) (hsl : ∀ j ∈ t.sl, j ∈ own.map (·.2) := by decide) (hs : ∀ x, foldedSetIterable iter X.env x = pure x := by intro _; rfl) :
    PE X (.ListComp elt [⟨tg, iter, ifs, 0⟩] scope pos) (tE X.K W (mComp m t tt te (own.map (·.2)))) := PE.imp (pe_lc hc hN hi ok hg ht he hs) fun _ _ _ => i_comp hsl
theorem sm_comp {i : Nat} {y : Str} {py : Pos} {elt tg iter : Expr} {ifs : List Expr} {scope : Scope} {own : List (Str × Nat)} {pos spos : Pos} (hc : X.calm = true) (hN : X.N.Nodup) (hy : X.N[i]? = some y) (hyl : X.env.scope.names.lookup y = some .local)
    (hsw : swapsWith (.ListComp elt [⟨tg, iter, ifs, 0⟩] scope pos) (some (.Name y py)) spos.line X.env = pure true) (hi : PI X tg iter (tI X.K W m)) (ok : BlkOk X.N X.env.scope scope own)
    (hg : ∀ (s : Shared) (H : Hp) (C : Addr) (cl : List (Str × Addr)) (fp : List Addr), PG (X.blk s H scope (compEnvC scope cl C X.env) fp) tg (tG X.K t)) (ht : ∀ (s : Shared) (H : Hp) (C : Addr) (cl : List (Str × Addr)) (fp : List Addr), PTs (X.blk s H scope (compEnvC scope cl C X.env) fp) ifs (tT X.K WF tt))
    (he : ∀ (s : Shared) (H : Hp) (C : Addr) (cl : List (Str × Addr)) (fp : List Addr), PE (X.blk s H scope (compEnvC scope cl C X.env) fp) elt (tE X.K WF te)) (hsl : ∀ j ∈ t.sl, j ∈ own.map (·.2) := by decide) (hs : ∀ x, foldedSetIterable iter X.env x = pure x := by intro _; rfl) :
    PS X (.Assign [.Name y py] (.ListComp elt [⟨tg, iter, ifs, 0⟩] scope pos) spos) (tS X.K W (sAsg i (mComp m t tt te (own.map (·.2))))) := PS.imp (ps_setLc hc hN hy hyl hsw hi ok hg ht he hs) fun D σ H ⟨g, e, hH, rp, re, p⟩ => by
  subst hH
  exact i_comp hsl ⟨g, e, rfl, rp, re, (PostS.of_st re p).imp fun d g1 e1 r1 ⟨_, _, p1⟩ v rv => p1 g1 _ (Ext.refl g1) rfl r1 ((re.mono e1).set rv)⟩
theorem pm_compN {elt tg iter : Expr} {ifs : List Expr} {scope : Scope} {own : List (Str × Nat)} {pos : Pos} (hc : X.calm = true) (hN : X.N.Nodup) (hi : PI X tg iter (tI X.K W m)) (ok : BlkOk X.N X.env.scope scope own)
    (hg : ∀ (s : Shared) (H : Hp) (C : Addr) (cl : List (Str × Addr)) (fp : List Addr), PG (X.blk s H scope (compEnvC scope cl C X.env) fp) tg (tG X.K t)) (ht : ∀ (s : Shared) (H : Hp) (C : Addr) (cl : List (Str × Addr)) (fp : List Addr), PTs (X.blk s H scope (compEnvC scope cl C X.env) fp) ifs (tT X.K WF tt))
    (he : ∀ (s : Shared) (H : Hp) (C : Addr) (cl : List (Str × Addr)) (fp : List Addr), PE (X.blk s H scope (compEnvC scope cl C X.env) fp) elt (tE X.K WF te)) (hsl : ∀ j ∈ t.sl, j ∈ own.map (·.2) := by decide) (hs : ∀ x, foldedSetIterable iter X.env x = pure x := by intro _; rfl) :
    PE X (.ListComp elt [⟨tg, iter, ifs, 0⟩] scope pos) (tE X.K W (mCompN m t tt te (own.map (·.2)))) := PE.imp (pe_lc hc hN hi ok hg ht he hs) fun _ _ _ => i_compN hsl
theorem sm_compN {i : Nat} {y : Str} {py : Pos} {elt tg iter : Expr} {ifs : List Expr} {scope : Scope} {own : List (Str × Nat)} {pos spos : Pos} (hc : X.calm = true) (hN : X.N.Nodup) (hy : X.N[i]? = some y) (hyl : X.env.scope.names.lookup y = some .local)
    (hsw : swapsWith (.ListComp elt [⟨tg, iter, ifs, 0⟩] scope pos) (some (.Name y py)) spos.line X.env = pure true) (hi : PI X tg iter (tI X.K W m)) (ok : BlkOk X.N X.env.scope scope own)
    (hg : ∀ (s : Shared) (H : Hp) (C : Addr) (cl : List (Str × Addr)) (fp : List Addr), PG (X.blk s H scope (compEnvC scope cl C X.env) fp) tg (tG X.K t)) (ht : ∀ (s : Shared) (H : Hp) (C : Addr) (cl : List (Str × Addr)) (fp : List Addr), PTs (X.blk s H scope (compEnvC scope cl C X.env) fp) ifs (tT X.K WF tt))
    (he : ∀ (s : Shared) (H : Hp) (C : Addr) (cl : List (Str × Addr)) (fp : List Addr), PE (X.blk s H scope (compEnvC scope cl C X.env) fp) elt (tE X.K WF te)) (hsl : ∀ j ∈ t.sl, j ∈ own.map (·.2) := by decide) (hs : ∀ x, foldedSetIterable iter X.env x = pure x := by intro _; rfl) :
    PS X (.Assign [.Name y py] (.ListComp elt [⟨tg, iter, ifs, 0⟩] scope pos) spos) (tS X.K W (sAsg i (mCompN m t tt te (own.map (·.2))))) := PS.imp (ps_setLc hc hN hy hyl hsw hi ok hg ht he hs) fun D σ H ⟨g, e, hH, rp, re, p⟩ => by
  subst hH
  exact i_compN hsl ⟨g, e, rfl, rp, re, (PostS.of_st re p).imp fun d g1 e1 r1 ⟨_, _, p1⟩ v rv => p1 g1 _ (Ext.refl g1) rfl r1 ((re.mono e1).set rv)⟩
end
end Mo

namespace Mo
open PySem PySem.Spec L2 PyProof.Rows

/-! ### functions: their promise, their body, their call -/
structure RoomG (k : Nat) (A : Around) : Prop where
  r : Room k A
  g : A.guards = some []
theorem RoomG.mono {j k : Nat} {A : Around} (h : RoomG k A) (le : j ≤ k) : RoomG j A := ⟨h.r.mono le, h.g⟩
theorem RoomG.deeper {k : Nat} {A : Around} (h : RoomG (k + 1) A) (env : PySem.Env) : RoomG k (A.deeper env) := ⟨h.r.deeper env, h.g⟩
theorem RoomG.u64 {k : Nat} {A : Around} (h : RoomG k A) : A.units + 64 < cLine := h.r.units
theorem RoomG.u100 {k : Nat} {A : Around} (h : RoomG k A) : A.units + 100 < cLine := by have := h.r.un; omega
structure FnG (P : Program) (w : World) (K : PySem.W.Frag) (mg : Str → Option Value) (base : Heap) (CX : CXT) (k : Nat) (f : Addr) (fd : FuncData) (ps : List Str) (sp : Sp) : Prop where
  len : ∀ vs H Q E, sp vs H Q E → vs.length = ps.length
  run : ∀ (A : Around) (outer : List PySem.Env) (s : Shared) (H : Hp) (args : Args) (us : List Value) (vs : List V) (Q : VK) (E : XK), RoomG k A → Env0 P w K mg base A outer s H → BindsTo s fd args (ps.zip us) → Vals vs us → sp vs H Q E →
    codeAny (model P w) A (.call (.ref f) args) (CR CX outer P w H s Q E) s
theorem FnG.mono {P : Program} {w : World} {K : PySem.W.Frag} {mg : Str → Option Value} {base : Heap} {CX : CXT} {j k : Nat} {f : Addr} {fd : FuncData} {ps : List Str} {sp : Sp} (F : FnG P w K mg base CX j f fd ps sp) (h : j ≤ k) : FnG P w K mg base CX k f fd ps sp :=
  ⟨F.len, fun A outer s H args us vs Q E hr => F.run A outer s H args us vs Q E (hr.mono h)⟩

/-- what is left of the objects behind a function: its own ones go, where nothing else names them -/
def trimS (ok : Bool) (S S' : List O) : List O := if (ok && ((S'.take S.length).zip S).all fun p => p.1 == p.2 || O.lo S.length p.1) = true then S'.take S.length else S'
def Xc.lo (n : Nat) (x : Xc) : Bool := match x.fs with
  | none => true
  | some l => belowP n l
/-- a body as a function of its arguments; n: how many names -/
def fnM (np n : Nat) (b : MS) : List D → List O → R D := fun ds S => if ds.length = np then (match b (ds.map some ++ List.replicate (n - ds.length) none) S with
  | .rt d S' => .ok d (trimS (D.lo S.length d) S S')
  | .nx _ S' => .ok .non (trimS true S S')
  | .er x _ S' => .er x (trimS (x.lo S.length) S S')
  | _ => .bad) else .bad
theorem fnM_len {np n : Nat} {b : MS} {ds : List D} {S : List O} (h : fnM np n b ds S ≠ .bad) : ds.length = np := by
  unfold fnM at h
  by_cases e : ds.length = np
  · exact e
  · rw [if_neg e] at h; exact absurd rfl h
abbrev ofX (E : XK) : WX' := fun cls d _ H => E cls d H
def spM (K : PySem.W.Frag) (n : Nat) (f : List D → List O → R D) : Sp := fun vs H Q E => vs.length = n ∧ ∃ g ds, g.H = H ∧ Rep K g ∧ RDs K g ds vs ∧ Post K (ofX E) g (f ds g.S) [] fun d g' => ∀ v, RD K g' d v → Q v g'.H

mutual
theorem RD.lo_of {K : PySem.W.Frag} {g : G} : ∀ {d : D} {v : V}, RD K g d v → D.lo g.S.length d = true
  | .non, _, _ => by simp [D.lo]
  | .bl _, _, _ => by simp [D.lo]
  | .int _, _, _ => by simp [D.lo]
  | .str _, _, _ => by simp [D.lo]
  | .ty _, _, _ => by simp [D.lo]
  | .adr _, _, _ => by simp [D.lo]
  | .ref i, _, h => by
    rw [RD] at h
    rw [D.lo]
    exact decide_eq_true h.1
  | .tup l, _, h => by
    rw [RD] at h
    obtain ⟨a, vs, _, _, h3⟩ := h
    rw [D.lo]
    exact RDs.lo_of h3
  | .lst l, _, h => by
    rw [RD] at h
    obtain ⟨a, vs, _, _, h3⟩ := h
    rw [D.lo]
    exact RDs.lo_of h3
  | .kl l, _, h => by
    rw [RD] at h
    obtain ⟨a, vs, _, _, h3⟩ := h
    rw [D.lo]
    exact RDs.lo_of h3
theorem RDs.lo_of {K : PySem.W.Frag} {g : G} : ∀ {l : List D} {vs : List V}, RDs K g l vs → D.los g.S.length l = true
  | [], _, _ => by simp [D.los]
  | d :: l, _, h => by
    rw [RDs] at h
    obtain ⟨v, r, _, h2, h3⟩ := h
    rw [D.los, RD.lo_of h2, RDs.lo_of h3]
    rfl
end
theorem RPs.lo_of {K : PySem.W.Frag} {g : G} {α : Type} : ∀ {l : List (α × D)} {vs : List (α × V)}, RPs K g l vs → belowP g.S.length l = true
  | [], _, _ => rfl
  | (k, d) :: l, _, h => by
    rw [RPs] at h
    obtain ⟨v, r, _, h2, h3⟩ := h
    rw [belowP, List.all_cons, Bool.and_eq_true]
    exact ⟨h2.lo_of, RPs.lo_of h3⟩
theorem RO.lo_of {K : PySem.W.Frag} {g : G} {o : O} {a : Addr} (h : RO K g o a) : O.lo g.S.length o = true := by
  cases o with
  | gone => rfl
  | lst l => obtain ⟨vs, _, h2⟩ := h; exact h2.lo_of
  | dct l => obtain ⟨vs, _, h2⟩ := h; exact h2.lo_of
  | ins C l => obtain ⟨dx, vs, _, h2⟩ := h; exact h2.lo_of
/-- behind a call with its own objects gone -/
theorem trim_ok {K : PySem.W.Frag} {g g' : G} (rp : Rep K g) (x : Ext g g') (rp' : Rep K g') (b : Bool) :
    ∃ g2, g2.H = g'.H ∧ g2.S = trimS b g.S g'.S ∧ Ext g g2 ∧ Rep K g2 ∧ (∀ d v, (b = true → D.lo g.S.length d = true) → RD K g' d v → RD K g2 d v) ∧
      (∀ {α : Type} (l : List (α × D)) (vs : List (α × V)), (b = true → belowP g.S.length l = true) → RPs K g' l vs → RPs K g2 l vs) ∧ ∀ a, g'.Pr a → g2.Pr a := by
  unfold trimS
  by_cases hc : (b && ((g'.S.take g.S.length).zip g.S).all fun p => p.1 == p.2 || O.lo g.S.length p.1) = true
  · rw [if_pos hc]
    rw [Bool.and_eq_true] at hc
    have hlen : (g'.S.take g.S.length).length = g.S.length := by rw [List.length_take]; exact Nat.min_eq_left x.len
    have get : ∀ i o, (g'.S.take g.S.length)[i]? = some o → i < g.S.length ∧ g'.S[i]? = some o := fun i o q => by
      have hi : i < g.S.length := by rw [← hlen]; exact (List.getElem?_eq_some_iff.mp q).1
      rw [List.getElem?_take_of_lt hi] at q
      exact ⟨hi, q⟩
    have lows : ∀ i o, (g'.S.take g.S.length)[i]? = some o → O.lo g.S.length o = true := fun i o q => by
      obtain ⟨hi, _⟩ := get i o q
      obtain ⟨o0, h0⟩ : ∃ o0, g.S[i]? = some o0 := ⟨g.S[i], by simp [hi]⟩
      have hm : (o, o0) ∈ (g'.S.take g.S.length).zip g.S := by
        refine List.mem_of_getElem? (i := i) ?_
        rw [List.getElem?_zip_eq_some]
        exact ⟨q, h0⟩
      have := List.all_eq_true.mp hc.2 _ hm
      rw [Bool.or_eq_true] at this
      rcases this with z | z
      · have e : o = o0 := by simpa using z
        rw [e]
        exact (rp.obj i o0 h0).lo_of
      · exact z
    let g2 : G := { g' with S := g'.S.take g.S.length }
    have live : ∀ a, g2.Live a → g'.Live a := fun a ⟨i, o, q, n, e⟩ => ⟨i, o, (get i o q).2, n, e⟩
    have pr : ∀ a, g'.Pr a → g2.Pr a := fun a h => ⟨h.1, fun z => h.2 (live a z)⟩
    have s0 : Sim0 g' g2 := ⟨fun a vs r q => ⟨r, pr a q⟩, fun a vs r q => ⟨r, pr a q⟩⟩
    have un : ∀ i, i < g.S.length → i < g'.S.length → i < g2.S.length ∧ g2.ρ i = g'.ρ i := fun i hi _ => ⟨by rw [show g2.S.length = g.S.length from hlen]; exact hi, rfl⟩
    refine ⟨g2, rfl, rfl, ⟨x.n, Nat.le_of_eq hlen.symm, x.ag, fun a o h l => ⟨(x.kp a o h l).1, fun z => (x.kp a o h l).2 (live a z)⟩⟩, ⟨rp'.nd, fun i j o u q1 n1 q2 n2 e => rp'.inj i j o u (get i o q1).2 n1 (get j u q2).2 n2 e, fun i o q => (rp'.obj i o (get i o q).2).under s0 un (lows i o q) fun _ => rfl⟩, fun d v hd r => r.under s0 un (hd hc.1), fun l vs hl r => r.under s0 un (hl hc.1), pr⟩
  · rw [if_neg hc]
    exact ⟨g', rfl, rfl, x, rp', fun _ _ _ r => r, fun _ _ _ r => r, fun _ h => h⟩
theorem RDs.all_get {K : PySem.W.Frag} {g : G} {l : List D} {vs : List V} (r : RDs K g l vs) (n : Nat) : RE K g (l.map some ++ List.replicate (n - l.length) none) (vs.map some ++ List.replicate (n - vs.length) none) := by
  refine ⟨by simp [r.length], fun i d q => ?_⟩
  by_cases hi : i < l.length
  · rw [List.getElem?_append_left (by simpa using hi), List.getElem?_map] at q
    cases e : l[i]? with
    | none => rw [e] at q; cases q
    | some d' =>
      rw [e] at q
      cases q
      obtain ⟨v, hv, rv⟩ := r.get e
      refine ⟨v, ?_, rv⟩
      rw [List.getElem?_append_left (by rw [List.length_map, ← r.length]; exact hi), List.getElem?_map, hv]
      rfl
  · rw [List.getElem?_append_right (by simpa using hi), List.getElem?_replicate] at q
    split at q <;> cases q

/-- from a function's promise to its body's reading -/
theorem body_of {K : PySem.W.Frag} {n np : Nat} {b : MS} {vs : List V} {H : Hp} {Q : VK} {E : XK} {N : List Str} (hn : N.length = n) (h : spM K np (fnM np n b) vs H Q E) :
    tS K (ofX E) b { nx := fun _ H' => Q .non H', rt := Q } (L2.start N vs) H := by
  obtain ⟨hl, g, ds, rfl, rp, rds, p⟩ := h
  refine ⟨g, _, rfl, rp, by unfold L2.start; rw [hn]; exact rds.all_get n, ?_⟩
  unfold fnM at p
  rw [if_pos (rds.length.trans hl)] at p
  cases q : b (ds.map some ++ List.replicate (n - ds.length) none) g.S with
  | rt d S' =>
    rw [q] at p
    intro g' v x s rp' rd
    obtain ⟨g2, e1, e2, e3, e4, e5, _⟩ := trim_ok rp x rp' (D.lo g.S.length d)
    rw [← e1]
    exact p g2 e3 (by rw [e2, s]) e4 v (e5 d v (fun z => z) rd)
  | nx e' S' =>
    rw [q] at p
    intro g' σ' x s rp' _
    obtain ⟨g2, e1, e2, e3, e4, e5, _⟩ := trim_ok rp x rp' true
    show Q .non g'.H
    rw [← e1]
    exact p g2 e3 (by rw [e2, s]) e4 .non (by rw [RD])
  | er x' e' S' =>
    rw [q] at p
    intro g' σ' cls da x s rp' _ rx
    obtain ⟨g2, e1, e2, e3, e4, e5, e6, e7⟩ := trim_ok rp x rp' (x'.lo g.S.length)
    show E cls da g'.H
    rw [← e1]
    refine p g2 cls da e3 (by rw [e2, s]) e4 ⟨rx.1, ?_⟩
    have r2 := rx.2
    cases h1 : x'.fs with
    | none =>
      rw [h1] at r2
      cases da with
      | none => trivial
      | some a => exact r2
    | some fs =>
      rw [h1] at r2
      cases da with
      | none => exact r2
      | some a =>
        obtain ⟨ws, k1, k2, k3⟩ := r2
        exact ⟨ws, by rw [e1]; exact k1, e7 a k2, e6 fs ws (fun z => by simpa [Xc.lo, h1] using z) k3⟩
  | bk e' S' => rw [q] at p; exact False.elim p
  | ct e' S' => rw [q] at p; exact False.elim p
  | bad => rw [q] at p; exact False.elim p

section
variable {P : Program} {w : World} {K : PySem.W.Frag} {mg : Str → Option Value} {base : Heap} {CX : CXT}
/-- a def, by its body -/
theorem Fun.okG {x qual : Str} {st : Stmt} {f : Addr} {fd : FuncData} {N ps : List Str} {k : Nat} {sp : Sp} (F : Fun K x qual st f fd) (S : FnScope N ps (defScope st)) (len : ∀ vs H Q E, sp vs H Q E → vs.length = ps.length)
    (hbody : ∀ (cdv : Value) (A : Around) (outer : List PySem.Env) (s : Shared) (H : Hp) (vs : List V) (Q : VK) (E : XK), RoomG k (A.deeper (envOfC qual (defScope st) s.heap.objs.size f cdv)) → sp vs H Q E →
      ∃ t, PSs (cxOf CX P w K mg base N qual (defScope st) f cdv A outer s H E) (defBody st) t ∧ t { nx := fun _ H' => Q .non H', rt := Q } (L2.start N vs) H) : FnG P w K mg base CX (k + 1) f fd ps sp := by
  obtain ⟨oc, od, kV, doc, pm, an, cdv, ct, osl, rfl, lk, hcd⟩ := F.ex
  refine ⟨len, fun A outer s H args us vs Q E hr e0 hb r hsp => ?_⟩
  have hl := len _ _ _ _ hsp
  have KX : K.In s.heap := e0.mod.kin.keeps fun b o e => (e0.bs b o e).1
  have lim : s.heap.NoLimit := e0.mod.nolimit.keeps fun b o e => (e0.bs b o e).1
  have kinds : ∀ y ∈ ps.zip us, (defScope st).names.lookup y.1 = some .local ∨ ((defScope st).names.lookup y.1 = some .cell ∧ ((cellsFrom (s.heap.objs.size + 1) (defScope st).names []).lookup y.1).isSome = true) := fun y hy => by
    rcases S.par y.1 (List.of_mem_zip (a := y.1) (b := y.2) hy).1 with q | q
    · exact .inl q
    · exact .inr ⟨q, PySem.W.cellsFrom_some _ _ _ (.inl q)⟩
  refine codeAny_call_function hr.r.depth (KX _ _ lk) rfl S.co S.gen rfl (PySem.W.codeRec_of KX hcd) (hb _ _ _ _ ?_)
  refine wpAny_newFunctionEnv_cells S.kind kinds fun env he s1 x => ?_
  subst he
  refine ⟨lim.keeps x.toInCall.keep, codeAny_func ?_⟩
  obtain ⟨t, ht, hq⟩ := hbody cdv A outer s H vs Q E (hr.deeper _) hsp
  have I : L2.Inv (cxOf CX P w K mg base N qual (defScope st) f cdv A outer s H E) [] (L2.start N vs) H s1 := inv_start S hr.r.hd e0 hl r x
  refine wpAny_mono (ht.run [] s1 (L2.start N vs) H _ I hq) (fun fl s' hs => ?_) fun e s' hs => hs
  cases fl with
  | ret u =>
    obtain ⟨v, σ', H', J, rv, q⟩ := hs
    exact ⟨v, H', J.os, J.bare, J.base, J.hok, rv, q⟩
  | next =>
    obtain ⟨σ', H', J, q⟩ := hs
    exact ⟨.non, H', J.os, J.bare, J.base, J.hok, rfl, q⟩
  | brk =>
    obtain ⟨_, _, _, q⟩ := hs
    exact False.elim q
  | cont =>
    obtain ⟨_, _, _, q⟩ := hs
    exact False.elim q
/-- a def that raises nothing, by its body's function -/
theorem fn_m {x qual : Str} {st : Stmt} {f : Addr} {fd : FuncData} {N ps : List Str} {k n np : Nat} {b : MS} (F : Fun K x qual st f fd) (S : FnScope N ps (defScope st)) (hn : N.length = n) (hp : ps.length = np)
    (body : ∀ (cdv : Value) (A : Around) (outer : List PySem.Env) (s : Shared) (H : Hp) (E : XK), RoomG k (A.deeper (envOfC qual (defScope st) s.heap.objs.size f cdv)) →
      PSs (cxOf CX0 P w K mg base N qual (defScope st) f cdv A outer s H E).nox (defBody st) (tS K WF b)) :
    FnG P w K mg base CX0 (k + 1) f fd ps fun vs H Q _ => spM K np (fnM np n b) vs H Q E0 :=
  Fun.okG F S (fun vs H Q E h => by rw [hp]; exact h.1) fun cdv A outer s H vs Q E hr h => ⟨_, (body cdv A outer s H E hr).nox, body_of hn h⟩
end

/-! ### calls -/
def mCall (f : List D → List O → R D) (m : MA) : ME := fun e S => (m e S).bind fun l S1 => f l S1
/-- .. of a function that sees no object of ours -/
def pureR (r : R D) (S : List O) : R D := match r with
  | .ok d _ => if D.lo 0 d = true then .ok d S else .bad
  | .er x _ => if x.lo 0 = true then .er x S else .bad
  | .bad => .bad
def mCallP (f : List D → List O → R D) (m : MA) : ME := fun e S => (m e S).bind fun l S1 => if D.los 0 l = true then pureR (f l []) S1 else .bad
section
variable {X : Cx} {CX : CXT} {k : Nat} {f : Addr} {fd : FuncData} {ps : List Str} {sp : Sp} {W : WX'} {x : Str} {p pos : Pos} {e : Expr} {es : List Expr} {t : TA} {m : MA} {ff : List D → List O → R D} {n : Nat}
theorem run_g {pins : List (Addr × Obj)} {σ : L2.St} {H : Hp} {s : Shared} {Q : VK} {E : XK} {args : Args} {us : List Value} {vs : List V} (F : FnG X.prog X.w X.K X.mg X.base CX k f fd ps sp) (hr : RoomG k X.A) (hb : us.length = ps.length → BindsTo s fd args (ps.zip us))
    (hx : ∀ e s', CX X.stack H s E e s' → X.xe e s') (I : L2.Inv X pins σ H s) (r : Vals vs us) (h : sp vs H Q E) : codeAny (model X.prog X.w) X.A (.call (.ref f) args) (fun r s' => match r with
      | .ok (.ret u) => EP X pins σ Q u s'
      | .ok _ => False
      | .error e => X.xe e s') s := by
  have hl : us.length = ps.length := by rw [← r.length]; exact F.len _ _ _ _ h
  refine codeAny_mono (F.run X.A X.stack s H args us vs Q E hr I.env0 (hb hl) r h) fun r s' hq => ?_
  cases r with
  | error e => exact hx e s' hq
  | ok fl =>
    cases fl with
    | ret u => exact I.after hq
    | next => exact hq
    | brk => exact hq
    | cont => exact hq
/-- the call of a def by name -/
def tCallG (sp : Sp) (W : WX') (t : TA) : TE := fun σ H Q => t σ H fun vs H1 => sp vs H1 Q fun cls d H' => W cls d σ H'
abbrev PassG (CX : CXT) (X : Cx) (W : WX') : Prop := ∀ (pins : List (Addr × Obj)) (σ : L2.St) (H : Hp) (s : Shared) (e : Value) (s' : Shared), L2.Inv X pins σ H s → CX X.stack H s (fun cls d H' => W cls d σ H') e s' → X.xe e s'
theorem passG0 : PassG CX0 X W := fun _ _ _ _ _ _ _ h => h.elim
theorem pe_callG (F : FnG X.prog X.w X.K X.mg X.base CX k f fd ps sp) (hr : RoomG k X.A) (hg : Gl X x) (hm : X.mg x = some (.ref f)) (hk : PySem.W.keepIn X.K (.ref f) = true) (hb : Binds X.K fd ps []) (hx : PassG CX X W)
    (ha : PA X (e :: es) t) (hdb : (x == ("__debug__" : Str)) = false := by decide) (he : starEach (e :: es) X.env = (false, eval e X.env) :: starEach es X.env := by rfl) (hpl : (backTo pos (starEach es X.env)).any (·.1) = false := by rfl) :
    PE X (.Call (.Name x p) (e :: es) [] pos) (tCallG sp W t) := by
  constructor
  intro pins s σ H Q I h
  refine wpAny_Call_Name_kw (ld_glob I hg hm ?_ hdb)
  refine PySem.W.callWith_K (h₀ := X.base) I.ok.mod.kin hk (thn (ha.run pos pins s σ H _ I h) fun us s1 ⟨vs, H1, I1, r, q⟩ => ⟨I1.kIn, ?_⟩) he hpl
  refine wpAny_call (codeAny_mono (run_g F hr (fun hl => by have := hb s1 us I1.kIn (by simpa using hl); simpa using this) (fun e s' hc => hx pins σ H1 s1 e s' I1 hc) I1 r q) fun r s' hq => ?_)
  cases r with
  | error e => exact hq
  | ok fl => cases fl <;> exact hq
theorem pe_callG0 (F : FnG X.prog X.w X.K X.mg X.base CX k f fd ps sp) (hr : RoomG k X.A) (hg : Gl X x) (hm : X.mg x = some (.ref f)) (hk : PySem.W.keepIn X.K (.ref f) = true) (hb : Binds X.K fd ps []) (hx : PassG CX X W)
    (hdb : (x == ("__debug__" : Str)) = false := by decide) : PE X (.Call (.Name x p) [] [] pos) (tCallG sp W tNil) := by
  constructor
  intro pins s σ H Q I h
  refine wpAny_Call_Name_kw (ld_glob I hg hm ?_ hdb)
  refine PySem.W.callWith_K0 I.kIn hk (wpAny_call (codeAny_mono (run_g F hr (us := []) (fun hl => by have := hb s [] I.kIn (by simpa using hl); simpa using this) (fun e s' hc => hx pins σ H s e s' I hc) I .nil h) fun r s' hq => ?_))
  cases r with
  | error e => exact hq
  | ok fl => cases fl <;> exact hq
theorem i_call {K : PySem.W.Frag} {σ : L2.St} {H : Hp} {Q : VK} {np nn : Nat} {b : MS} {sp : Sp} (hsp : ∀ vs H Q, spM K np (fnM np nn b) vs H Q (fun cls d H' => W cls d σ H') → sp vs H Q fun cls d H' => W cls d σ H') (h : tE K W (mCall (fnM np nn b) m) σ H Q) : tCallG sp W (tA K W m) σ H Q := by
  obtain ⟨g, e, hH, rp, re, p⟩ := h
  subst hH
  refine ⟨g, e, rfl, rp, re, (Post.bind p).imp fun l g1 e1 r1 ⟨_, _, p1⟩ vs rv => hsp _ _ _ ?_⟩
  refine ⟨?_, g1, l, rfl, r1, rv, ?_⟩
  · rw [← rv.length]
    exact fnM_len (S := g1.S) fun z => by rw [z] at p1; exact p1
  · cases q : fnM np nn b l g1.S with
    | ok d S => rw [q] at p1; exact p1
    | er x S => rw [q] at p1; exact p1
    | bad => rw [q] at p1; exact p1
/-- the ground of a callee that sees no object of ours -/
abbrev G.bare (g : G) : G := { N := fun a => g.N a ∨ g.Live a, ρ := g.ρ, S := [], H := g.H }
theorem not_live_nil {g : G} (h : g.S = []) {a : Addr} : ¬ g.Live a := fun ⟨i, o, q, _, _⟩ => by rw [h] at q; simp at q
theorem sim_bare (g : G) : Sim0 g g.bare := ⟨fun a vs r q => ⟨r, fun z => z.elim q.1 q.2, not_live_nil rfl⟩, fun a vs r q => ⟨r, fun z => z.elim q.1 q.2, not_live_nil rfl⟩⟩
theorem Rep.bare {K : PySem.W.Frag} {g : G} (rp : Rep K g) : Rep K g.bare := by
  refine ⟨fun a z => ?_, fun i j o u q => by simp at q, fun i o q => by simp at q⟩
  rcases z with z | ⟨i, o, q, n, e⟩
  · exact rp.nd a z
  · obtain ⟨u, h⟩ := (rp.obj i o q).at_ n
    exact ⟨u, by rw [← e]; exact h⟩
theorem back_bare {K : PySem.W.Frag} {g g' : G} (rp : Rep K g) (x : Ext g.bare g') (rp' : Rep K g') : Ext g { g with H := g'.H } ∧ Rep K { g with H := g'.H } ∧ Sim0 g' { g with H := g'.H } := by
  have e1 : Ext g { g with H := g'.H } := ⟨rfl, Nat.le_refl _, fun _ _ => rfl, fun a o h l => ⟨(x.kp a o h (not_live_nil rfl)).1, l⟩⟩
  have hN : ∀ a, g'.N a ↔ (g.N a ∨ g.Live a) := fun a => by rw [x.n]
  refine ⟨e1, ⟨fun a z => rp'.nd a ((hN a).mpr (.inl z)), rp.inj, fun i o q => (rp.obj i o q).mono e1 fun n => ?_⟩, ?_⟩
  · obtain ⟨u, h⟩ := (rp.obj i o q).at_ n
    exact (x.kp _ u h (not_live_nil rfl)).1.trans h.symm
  · exact ⟨fun a vs r q => ⟨r, fun z => q.1 ((hN a).mpr (.inl z)), fun z => q.1 ((hN a).mpr (.inr z))⟩, fun a vs r q => ⟨r, fun z => q.1 ((hN a).mpr (.inl z)), fun z => q.1 ((hN a).mpr (.inr z))⟩⟩
theorem i_callP {K : PySem.W.Frag} {σ : L2.St} {H : Hp} {Q : VK} {np nn : Nat} {b : MS} {sp : Sp} (hsp : ∀ vs H Q, spM K np (fnM np nn b) vs H Q (fun cls d H' => W cls d σ H') → sp vs H Q fun cls d H' => W cls d σ H') (h : tE K W (mCallP (fnM np nn b) m) σ H Q) : tCallG sp W (tA K W m) σ H Q := by
  obtain ⟨g, e, hH, rp, re, p⟩ := h
  subst hH
  refine ⟨g, e, rfl, rp, re, (Post.bind p).imp fun l g1 e1 r1 ⟨_, _, p1⟩ vs rv => hsp _ _ _ ?_⟩
  by_cases hlo : D.los 0 l = true
  · rw [if_pos hlo] at p1
    refine ⟨?_, g1.bare, l, rfl, r1.bare, rv.under (sim_bare g1) (fun i hi => absurd hi (Nat.not_lt_zero i)) hlo, ?_⟩
    · rw [← rv.length]
      exact fnM_len (S := []) fun z => by rw [z] at p1; exact p1
    · show Post K (ofX _) g1.bare (fnM np nn b l []) [] _
      cases q : fnM np nn b l [] with
      | ok d S =>
        rw [q] at p1
        have p1 : Post K W g1 (if D.lo 0 d = true then .ok d g1.S else .bad) σ fun d g' => ∀ v, RD K g' d v → Q v g'.H := p1
        by_cases hd : D.lo 0 d = true
        · rw [if_pos hd] at p1
          intro g' x s rp' v rdv
          obtain ⟨y1, y2, y3⟩ := back_bare r1 x rp'
          exact p1 _ y1 rfl y2 v (rdv.under y3 (fun i hi => absurd hi (Nat.not_lt_zero i)) hd)
        · rw [if_neg hd] at p1; exact False.elim p1
      | er xx S =>
        rw [q] at p1
        have p1 : Post K W g1 (if xx.lo 0 = true then .er xx g1.S else .bad) σ fun d g' => ∀ v, RD K g' d v → Q v g'.H := p1
        by_cases hd : xx.lo 0 = true
        · rw [if_pos hd] at p1
          intro g' cls da x s rp' rx
          obtain ⟨y1, y2, y3⟩ := back_bare r1 x rp'
          refine p1 { g1 with H := g'.H } cls da y1 rfl y2 ⟨rx.1, ?_⟩
          have r2 := rx.2
          cases h1 : xx.fs with
          | none =>
            rw [h1] at r2
            cases da with
            | none => trivial
            | some a => exact r2
          | some fs =>
            rw [h1] at r2
            cases da with
            | none => exact r2
            | some a =>
              obtain ⟨ws, k1, k2, k3⟩ := r2
              have hN : ∀ a, g'.N a ↔ (g1.N a ∨ g1.Live a) := fun a => by rw [x.n]
              exact ⟨ws, k1, ⟨fun z => k2.1 ((hN a).mpr (.inl z)), fun z => k2.1 ((hN a).mpr (.inr z))⟩, k3.under y3 (fun i hi => absurd hi (Nat.not_lt_zero i)) (by simpa [Xc.lo, h1] using hd)⟩
        · rw [if_neg hd] at p1; exact False.elim p1
      | bad => rw [q] at p1; exact False.elim p1
  · rw [if_neg hlo] at p1; exact False.elim p1
/-- a function that raises nothing -/
def nbF (f : List D → List O → R D) : List D → List O → R D := fun l S => (f l S).nb
theorem nb_post {α : Type} {K : PySem.W.Frag} {W W2 : WX'} {g : G} {r : R α} {σ σ2 : L2.St} {k : α → G → Prop} (h : Post K W g r.nb σ k) : Post K W2 g r σ2 k := by
  cases r with
  | ok a S => exact h
  | er x S => exact False.elim h
  | bad => exact False.elim h
theorem i_callN {K : PySem.W.Frag} {σ : L2.St} {H : Hp} {Q : VK} {np nn : Nat} {b : MS} (h : tE K W (mCall (nbF (fnM np nn b)) m) σ H Q) : tCallG (fun vs H Q _ => spM K np (fnM np nn b) vs H Q E0) W (tA K W m) σ H Q := by
  obtain ⟨g, e, hH, rp, re, p⟩ := h
  subst hH
  refine ⟨g, e, rfl, rp, re, (Post.bind p).imp fun l g1 e1 r1 ⟨_, _, p1⟩ vs rv => ⟨?_, g1, l, rfl, r1, rv, nb_post p1⟩⟩
  rw [← rv.length]
  exact fnM_len (S := g1.S) fun z => by rw [nbF, z] at p1; exact p1
theorem i_callPN {K : PySem.W.Frag} {σ : L2.St} {H : Hp} {Q : VK} {np nn : Nat} {b : MS} (h : tE K W (mCallP (nbF (fnM np nn b)) m) σ H Q) : tCallG (fun vs H Q _ => spM K np (fnM np nn b) vs H Q E0) W (tA K W m) σ H Q := by
  obtain ⟨g, e, hH, rp, re, p⟩ := h
  subst hH
  refine ⟨g, e, rfl, rp, re, (Post.bind p).imp fun l g1 e1 r1 ⟨_, _, p1⟩ vs rv => ?_⟩
  by_cases hlo : D.los 0 l = true
  · rw [if_pos hlo] at p1
    refine ⟨?_, g1.bare, l, rfl, r1.bare, rv.under (sim_bare g1) (fun i hi => absurd hi (Nat.not_lt_zero i)) hlo, ?_⟩
    · rw [← rv.length]
      exact fnM_len (S := []) fun z => by rw [nbF, z] at p1; exact p1
    · show Post K (ofX _) g1.bare (fnM np nn b l []) [] _
      cases q : fnM np nn b l [] with
      | ok d S =>
        rw [nbF, q] at p1
        have p1 : Post K W g1 (if D.lo 0 d = true then .ok d g1.S else .bad) σ fun d g' => ∀ v, RD K g' d v → Q v g'.H := p1
        by_cases hd : D.lo 0 d = true
        · rw [if_pos hd] at p1
          intro g' x s rp' v rdv
          obtain ⟨y1, y2, y3⟩ := back_bare r1 x rp'
          exact p1 _ y1 rfl y2 v (rdv.under y3 (fun i hi => absurd hi (Nat.not_lt_zero i)) hd)
        · rw [if_neg hd] at p1; exact False.elim p1
      | er xx S => rw [nbF, q] at p1; exact False.elim p1
      | bad => rw [nbF, q] at p1; exact False.elim p1
  · rw [if_neg hlo] at p1; exact False.elim p1
/-- f(e, ..), f a def that raises nothing -/
theorem pm_call {np nn : Nat} {b : MS} (F : FnG X.prog X.w X.K X.mg X.base CX0 k f fd ps fun vs H Q _ => spM X.K np (fnM np nn b) vs H Q E0) (hr : RoomG k X.A) (hg : Gl X x) (hm : X.mg x = some (.ref f)) (hk : PySem.W.keepIn X.K (.ref f) = true) (hb : Binds X.K fd ps [])
    (ha : PA X (e :: es) (tA X.K W m)) (hdb : (x == ("__debug__" : Str)) = false := by decide) (he : starEach (e :: es) X.env = (false, eval e X.env) :: starEach es X.env := by rfl) (hpl : (backTo pos (starEach es X.env)).any (·.1) = false := by rfl) :
    PE X (.Call (.Name x p) (e :: es) [] pos) (tE X.K W (mCall (nbF (fnM np nn b)) m)) := PE.imp (pe_callG F hr hg hm hk hb passG0 ha hdb he hpl) fun σ H Q h => i_callN h
theorem pm_callP {np nn : Nat} {b : MS} (F : FnG X.prog X.w X.K X.mg X.base CX0 k f fd ps fun vs H Q _ => spM X.K np (fnM np nn b) vs H Q E0) (hr : RoomG k X.A) (hg : Gl X x) (hm : X.mg x = some (.ref f)) (hk : PySem.W.keepIn X.K (.ref f) = true) (hb : Binds X.K fd ps [])
    (ha : PA X (e :: es) (tA X.K W m)) (hdb : (x == ("__debug__" : Str)) = false := by decide) (he : starEach (e :: es) X.env = (false, eval e X.env) :: starEach es X.env := by rfl) (hpl : (backTo pos (starEach es X.env)).any (·.1) = false := by rfl) :
    PE X (.Call (.Name x p) (e :: es) [] pos) (tE X.K W (mCallP (nbF (fnM np nn b)) m)) := PE.imp (pe_callG F hr hg hm hk hb passG0 ha hdb he hpl) fun σ H Q h => i_callPN h
end
end Mo

namespace Mo
open PySem PySem.Spec L2 PyProof.Rows

/-! ### calls by names -/
def permL {α : Type} (ix : List Nat) (l : List α) : List α := ix.filterMap (l[·]?)
def KBindsG (K : PySem.W.Frag) (fd : FuncData) (ps ks : List Str) (nu : Nat) (ix : List Nat) : Prop :=
  ∀ (s : Shared) (us ws : List Value), K.In s.heap → us.length = nu → ws.length = ks.length → BindsTo s fd ⟨us, ks.zip ws⟩ (ps.zip (permL ix (us ++ ws)))
def mCallK (nu nk : Nat) (ix : List Nat) (f : List D → List O → R D) (m mk : MA) : ME := fun e S => (m e S).bind fun l S1 => (mk e S1).bind fun l2 S2 => if l.length = nu ∧ l2.length = nk then f (permL ix (l ++ l2)) S2 else .bad
def mCallKP (nu nk : Nat) (ix : List Nat) (f : List D → List O → R D) (m mk : MA) : ME := fun e S => (m e S).bind fun l S1 => (mk e S1).bind fun l2 S2 => if l.length = nu ∧ l2.length = nk ∧ D.los 0 (permL ix (l ++ l2)) = true then pureR (f (permL ix (l ++ l2)) []) S2 else .bad
def tCallKG (sp : Sp) (nu nk : Nat) (ix : List Nat) (W : WX') (t tk : TA) : TE := fun σ H Q => t σ H fun vs H1 => tk σ H1 fun zs H2 => vs.length = nu ∧ zs.length = nk ∧ sp (permL ix (vs ++ zs)) H2 Q fun cls d H' => W cls d σ H'
structure KAt (X : Cx) (kws : List Keyword) (ks : List Str) : Prop where
  names : ∀ pos, (backToKw pos (keywordEach kws X.env)).filterMap (·.1) = ks
  all : ∀ pos, (backToKw pos (keywordEach kws X.env)).all (·.1.isSome) = true
  none : ∀ pos, (backToKw pos (keywordEach kws X.env)).any (·.1.isNone) = false
section
variable {X : Cx} {CX : CXT} {k : Nat} {f : Addr} {fd : FuncData} {ps ks : List Str} {sp : Sp} {W : WX'} {x : Str} {p pos : Pos} {e : Expr} {es : List Expr} {kws : List Keyword} {t tk : TA} {m mk : MA} {nu nk : Nat} {ix : List Nat}
theorem PK.imp {X : Cx} {kws : List Keyword} {t t' : TA} (h : PK X kws t) (f : ∀ σ H Q, t' σ H Q → t σ H Q) : PK X kws t' := ⟨fun o p s σ H Q I q => h.run o p s σ H Q I (f σ H Q q)⟩
theorem km_nil : PK X [] (tA X.K W mNil) := PK.imp pk_nil fun _ _ _ => i_nil
theorem km_cons {nm : Option Str} {kpos : Pos} {ma : ME} {mr : MA} (ha : PE X e (tE X.K W ma)) (hr : PK X kws (tA X.K W mr)) : PK X (⟨nm, e, kpos⟩ :: kws) (tA X.K W (mCons ma mr)) := PK.imp (pk_cons ha hr) fun _ _ _ => i_cons
theorem pe_callKG0 (F : FnG X.prog X.w X.K X.mg X.base CX k f fd ps sp) (hr : RoomG k X.A) (hg : Gl X x) (hm : X.mg x = some (.ref f)) (hk : PySem.W.keepIn X.K (.ref f) = true) (hb : KBindsG X.K fd ps ks 0 ix) (hx : PassG CX X W) (hnk : ks.length = nk)
    (hkw : PK X kws tk) (ka : KAt X kws ks) (hdb : (x == ("__debug__" : Str)) = false := by decide) : PE X (.Call (.Name x p) [] kws pos) (tCallKG sp 0 nk ix W tNil tk) := by
  constructor
  intro pins s σ H Q I h
  refine wpAny_Call_Name_kw (ld_glob I hg hm ?_ hdb)
  refine PySem.W.callWith_KW0 (h₀ := X.base) I.ok.mod.kin hk (ka.all pos) ?_ (by
    show (([] : List (Bool × Sem Value)).any (·.1) || _) = false
    rw [ka.none pos] <;> rfl)
  refine thn (hkw.run pos pins s σ H _ I h) fun ws s2 ⟨zs, H2, I2, rz, h1, h2, q2⟩ => ⟨I2.kIn, ?_⟩
  rw [ka.names pos]
  have hz : ws.length = ks.length := by rw [← rz.length, h2, hnk]
  refine wpAny_call (codeAny_mono (run_g F hr (args := ⟨[], ks.zip ws⟩) (us := permL ix ([] ++ ws)) (fun _ => hb s2 [] ws I2.kIn rfl hz) (fun e s' hc => hx pins σ H2 s2 e s' I2 hc) I2 (pick_vals (xs := [] ++ zs) (its := [] ++ ws) rz ix) q2) fun r s' hq => ?_)
  cases r with
  | error e => exact hq
  | ok fl => cases fl <;> exact hq
theorem pe_callKG (F : FnG X.prog X.w X.K X.mg X.base CX k f fd ps sp) (hr : RoomG k X.A) (hg : Gl X x) (hm : X.mg x = some (.ref f)) (hk : PySem.W.keepIn X.K (.ref f) = true) (hb : KBindsG X.K fd ps ks nu ix) (hx : PassG CX X W) (hnk : ks.length = nk)
    (ha : PA X (e :: es) t) (hkw : PK X kws tk) (ka : KAt X kws ks) (hdb : (x == ("__debug__" : Str)) = false := by decide) (he : starEach (e :: es) X.env = (false, eval e X.env) :: starEach es X.env := by rfl)
    (hpl : (backTo pos (starEach (e :: es) X.env)).any (·.1) = false := by rfl) : PE X (.Call (.Name x p) (e :: es) kws pos) (tCallKG sp nu nk ix W t tk) := by
  constructor
  intro pins s σ H Q I h
  refine wpAny_Call_Name_kw (ld_glob I hg hm ?_ hdb)
  refine PySem.W.callWith_KW (h₀ := X.base) I.ok.mod.kin hk (ka.all pos) (thn (ha.run pos pins s σ H _ I h) fun us s1 ⟨vs, H1, I1, r, q⟩ => ?_) (by rw [hpl, ka.none pos] <;> rfl) he
  refine thn (hkw.run pos pins s1 σ H1 _ I1 q) fun ws s2 ⟨zs, H2, I2, rz, h1, h2, q2⟩ => ⟨I2.kIn, ?_⟩
  rw [ka.names pos]
  have hz : ws.length = ks.length := by rw [← rz.length, h2, hnk]
  refine wpAny_call (codeAny_mono (run_g F hr (args := ⟨us, ks.zip ws⟩) (us := permL ix (us ++ ws)) (fun _ => hb s2 us ws I2.kIn (by rw [← r.length]; exact h1) hz) (fun e s' hc => hx pins σ H2 s2 e s' I2 hc) I2 (pick_vals (r.append rz) ix) q2) fun r s' hq => ?_)
  cases r with
  | error e => exact hq
  | ok fl => cases fl <;> exact hq
theorem i_callK {K : PySem.W.Frag} {σ : L2.St} {H : Hp} {Q : VK} {np nn : Nat} {b : MS} (h : tE K W (mCallK nu nk ix (nbF (fnM np nn b)) m mk) σ H Q) : tCallKG (fun vs H Q _ => spM K np (fnM np nn b) vs H Q E0) nu nk ix W (tA K W m) (tA K W mk) σ H Q := by
  obtain ⟨g, e, hH, rp, re, p⟩ := h
  subst hH
  refine ⟨g, e, rfl, rp, re, (Post.bind p).imp fun l g1 e1 r1 ⟨_, _, p1⟩ vs rv => ?_⟩
  refine ⟨g1, e, rfl, r1, re.mono e1, (Post.bind p1).imp fun l2 g2 e2 r2 ⟨_, _, p2⟩ zs rz => ?_⟩
  by_cases hc : l.length = nu ∧ l2.length = nk
  · rw [if_pos hc] at p2
    have ra := pick_rds ((rv.mono e2).append rz) ix
    refine ⟨by rw [← rv.length]; exact hc.1, by rw [← rz.length]; exact hc.2, ?_, g2, permL ix (l ++ l2), rfl, r2, ra, nb_post p2⟩
    rw [show (permL ix (vs ++ zs)).length = (permL ix (l ++ l2)).length from ra.length.symm]
    exact fnM_len (S := g2.S) fun z => by rw [nbF, z] at p2; exact p2
  · rw [if_neg hc] at p2; exact False.elim p2
theorem i_callKP {K : PySem.W.Frag} {σ : L2.St} {H : Hp} {Q : VK} {np nn : Nat} {b : MS} (h : tE K W (mCallKP nu nk ix (nbF (fnM np nn b)) m mk) σ H Q) : tCallKG (fun vs H Q _ => spM K np (fnM np nn b) vs H Q E0) nu nk ix W (tA K W m) (tA K W mk) σ H Q := by
  obtain ⟨g, e, hH, rp, re, p⟩ := h
  subst hH
  refine ⟨g, e, rfl, rp, re, (Post.bind p).imp fun l g1 e1 r1 ⟨_, _, p1⟩ vs rv => ?_⟩
  refine ⟨g1, e, rfl, r1, re.mono e1, (Post.bind p1).imp fun l2 g2 e2 r2 ⟨_, _, p2⟩ zs rz => ?_⟩
  by_cases hc : l.length = nu ∧ l2.length = nk ∧ D.los 0 (permL ix (l ++ l2)) = true
  · rw [if_pos hc] at p2
    have ra : RDs K g2 (permL ix (l ++ l2)) (permL ix (vs ++ zs)) := pick_rds ((rv.mono e2).append rz) ix
    refine ⟨by rw [← rv.length]; exact hc.1, by rw [← rz.length]; exact hc.2.1, ?_, g2.bare, permL ix (l ++ l2), rfl, r2.bare, ra.under (sim_bare g2) (fun i hi => absurd hi (Nat.not_lt_zero i)) hc.2.2, ?_⟩
    · rw [show (permL ix (vs ++ zs)).length = (permL ix (l ++ l2)).length from ra.length.symm]
      exact fnM_len (S := []) fun z => by rw [nbF, z] at p2; exact p2
    · show Post K (ofX _) g2.bare (fnM np nn b (permL ix (l ++ l2)) []) [] _
      cases q : fnM np nn b (permL ix (l ++ l2)) [] with
      | ok d S =>
        rw [nbF, q] at p2
        have p2 : Post K W g2 (if D.lo 0 d = true then .ok d g2.S else .bad) σ fun d g' => ∀ v, RD K g' d v → Q v g'.H := p2
        by_cases hd : D.lo 0 d = true
        · rw [if_pos hd] at p2
          intro g' x s rp' v rdv
          obtain ⟨y1, y2, y3⟩ := back_bare r2 x rp'
          exact p2 _ y1 rfl y2 v (rdv.under y3 (fun i hi => absurd hi (Nat.not_lt_zero i)) hd)
        · rw [if_neg hd] at p2; exact False.elim p2
      | er xx S => rw [nbF, q] at p2; exact False.elim p2
      | bad => rw [nbF, q] at p2; exact False.elim p2
  · rw [if_neg hc] at p2; exact False.elim p2
theorem pm_callK0 {np nn : Nat} {b : MS} (F : FnG X.prog X.w X.K X.mg X.base CX0 k f fd ps fun vs H Q _ => spM X.K np (fnM np nn b) vs H Q E0) (hr : RoomG k X.A) (hg : Gl X x) (hm : X.mg x = some (.ref f)) (hk : PySem.W.keepIn X.K (.ref f) = true) (hb : KBindsG X.K fd ps ks 0 ix) (hnk : ks.length = nk)
    (hkw : PK X kws (tA X.K W mk)) (ka : KAt X kws ks) (hdb : (x == ("__debug__" : Str)) = false := by decide) : PE X (.Call (.Name x p) [] kws pos) (tE X.K W (mCallK 0 nk ix (nbF (fnM np nn b)) mNil mk)) :=
  PE.imp (pe_callKG0 (W := W) F hr hg hm hk hb passG0 hnk hkw ka hdb) fun σ H Q h => i_nil (i_callK h)
theorem pm_callKP0 {np nn : Nat} {b : MS} (F : FnG X.prog X.w X.K X.mg X.base CX0 k f fd ps fun vs H Q _ => spM X.K np (fnM np nn b) vs H Q E0) (hr : RoomG k X.A) (hg : Gl X x) (hm : X.mg x = some (.ref f)) (hk : PySem.W.keepIn X.K (.ref f) = true) (hb : KBindsG X.K fd ps ks 0 ix) (hnk : ks.length = nk)
    (hkw : PK X kws (tA X.K W mk)) (ka : KAt X kws ks) (hdb : (x == ("__debug__" : Str)) = false := by decide) : PE X (.Call (.Name x p) [] kws pos) (tE X.K W (mCallKP 0 nk ix (nbF (fnM np nn b)) mNil mk)) :=
  PE.imp (pe_callKG0 (W := W) F hr hg hm hk hb passG0 hnk hkw ka hdb) fun σ H Q h => i_nil (i_callKP h)
theorem pm_callK {np nn : Nat} {b : MS} (F : FnG X.prog X.w X.K X.mg X.base CX0 k f fd ps fun vs H Q _ => spM X.K np (fnM np nn b) vs H Q E0) (hr : RoomG k X.A) (hg : Gl X x) (hm : X.mg x = some (.ref f)) (hk : PySem.W.keepIn X.K (.ref f) = true) (hb : KBindsG X.K fd ps ks nu ix) (hnk : ks.length = nk)
    (ha : PA X (e :: es) (tA X.K W m)) (hkw : PK X kws (tA X.K W mk)) (ka : KAt X kws ks) (hdb : (x == ("__debug__" : Str)) = false := by decide) (he : starEach (e :: es) X.env = (false, eval e X.env) :: starEach es X.env := by rfl)
    (hpl : (backTo pos (starEach (e :: es) X.env)).any (·.1) = false := by rfl) : PE X (.Call (.Name x p) (e :: es) kws pos) (tE X.K W (mCallK nu nk ix (nbF (fnM np nn b)) m mk)) :=
  PE.imp (pe_callKG (W := W) F hr hg hm hk hb passG0 hnk ha hkw ka hdb he hpl) fun σ H Q h => i_callK h
theorem pm_callKP {np nn : Nat} {b : MS} (F : FnG X.prog X.w X.K X.mg X.base CX0 k f fd ps fun vs H Q _ => spM X.K np (fnM np nn b) vs H Q E0) (hr : RoomG k X.A) (hg : Gl X x) (hm : X.mg x = some (.ref f)) (hk : PySem.W.keepIn X.K (.ref f) = true) (hb : KBindsG X.K fd ps ks nu ix) (hnk : ks.length = nk)
    (ha : PA X (e :: es) (tA X.K W m)) (hkw : PK X kws (tA X.K W mk)) (ka : KAt X kws ks) (hdb : (x == ("__debug__" : Str)) = false := by decide) (he : starEach (e :: es) X.env = (false, eval e X.env) :: starEach es X.env := by rfl)
    (hpl : (backTo pos (starEach (e :: es) X.env)).any (·.1) = false := by rfl) : PE X (.Call (.Name x p) (e :: es) kws pos) (tE X.K W (mCallKP nu nk ix (nbF (fnM np nn b)) m mk)) :=
  PE.imp (pe_callKG (W := W) F hr hg hm hk hb passG0 hnk ha hkw ka hdb he hpl) fun σ H Q h => i_callKP h
end

/-! ### list(range(..)) -/
def mListR (f : List D → Option (List D)) (m : MA) : ME := fun e S => (m e S).bind fun l S1 => match f l with
  | some r => if r.length ≤ sz then .ok (.lst r) S1 else .bad
  | none => .bad
def mListRN (f : List D → Option (List D)) (m : MA) : ME := fun e S => (m e S).bind fun l S1 => match f l with
  | some r => if r.length ≤ sz then .ok (.ref S1.length) (S1 ++ [.lst r]) else .bad
  | none => .bad
/-- list(..) of a list or a tuple, changed later -/
def mListN (m : ME) : ME := fun e S => (m e S).bind fun d S1 => match gList S1 [d] with
  | some (.lst r) => .ok (.ref S1.length) (S1 ++ [.lst r])
  | _ => .bad
theorem range_rds {K : PySem.W.Frag} {g : G} (a c : Int) (n : Nat) : RDs K g (rangeD a c n) ((List.range n).map fun i => V.int (a + (i : Nat) * c)) := by
  unfold rangeD
  generalize List.range n = l
  induction l with
  | nil => exact RDs.nil
  | cons i r ih => exact RDs.cons (by rw [RD]) ih
/-- a range object, made for the call at hand -/
def PRgC (X : Cx) (e : Expr) (t : L2.St → Hp → (Int → Int → Int → Hp → Prop) → Prop) : Prop :=
  ∀ (pins : List (Addr × Obj)) (s : Shared) (σ : L2.St) (H : Hp) (Q : Int → Int → Int → Hp → Prop), L2.Inv X pins σ H s → t σ H Q →
    wpAny (model X.prog X.w) X.A (eval e X.env) (fun x s' => ∃ r a b c t u v H', x = .ref r ∧ IsRange s'.heap r a b c t u v ∧ L2.Inv X pins σ H' s' ∧ Q a b c H') X.xe s
section
variable {X : Cx} {W : WX'} {ta : TA} {p pos : Pos}
theorem prgC_1 {a : Expr} (hg : Gl X "range") (hm : X.mg "range" = none) (ha : PA X [a] ta) (hs : starEach [a] X.env = [(false, eval a X.env)] := by rfl) : PRgC X (.Call (.Name "range" p) [a] [] pos) fun σ H Q => ta σ H fun vs H1 => ∃ b : Int, vs = [.int b] ∧ Q 0 b 1 H1 := by
  intro pins s σ H Q I h
  refine Call_ (ld_blt I hg hm boot_range (PyProof.Rows.callWith_type1 (thn (ha.run pos pins s σ H _ I h) fun us s1 ⟨vs, H1, I1, r1, b, e, q⟩ => ?_) hs rfl))
  subst e
  obtain ⟨u, rfl, t, rfl⟩ := vals1 r1
  exact call_range_1 ⟨_, 0, b, 1, _, _, _, H1, rfl, IsRange.new _ _ _ _ _ _ _, I1.kept fun b u e => Heap.get?_push_of_some _ e, q⟩
theorem prgC_2 {a b : Expr} (hg : Gl X "range") (hm : X.mg "range" = none) (ha : PA X [a, b] ta) (hs : starEach [a, b] X.env = [(false, eval a X.env), (false, eval b X.env)] := by rfl) (hs2 : starEach [b] X.env = [(false, eval b X.env)] := by rfl) :
    PRgC X (.Call (.Name "range" p) [a, b] [] pos) fun σ H Q => ta σ H fun vs H1 => ∃ i j : Int, vs = [.int i, .int j] ∧ Q i j 1 H1 := by
  intro pins s σ H Q I h
  refine Call_ (ld_blt I hg hm boot_range (PyProof.Rows.callWith_type1 (thn (ha.run pos pins s σ H _ I h) fun us s1 ⟨vs, H1, I1, r1, i, j, e, q⟩ => ?_) (by rw [hs, hs2]) (by rw [hs2]; rfl)))
  subst e
  obtain ⟨u, w', rfl, ⟨t, rfl⟩, ⟨t', rfl⟩⟩ := vals2 r1
  exact call_range_2 ⟨_, i, j, 1, _, _, _, H1, rfl, IsRange.new _ _ _ _ _ _ _, I1.kept fun b u e => Heap.get?_push_of_some _ e, q⟩
theorem prgC_3 {a b c : Expr} (hg : Gl X "range") (hm : X.mg "range" = none) (ha : PA X [a, b, c] ta) (hs : starEach [a, b, c] X.env = (false, eval a X.env) :: starEach [b, c] X.env := by rfl) (hpl : (backTo pos (starEach [b, c] X.env)).any (·.1) = false := by rfl) :
    PRgC X (.Call (.Name "range" p) [a, b, c] [] pos) fun σ H Q => ta σ H fun vs H1 => ∃ i j k : Int, vs = [.int i, .int j, .int k] ∧ k ≠ 0 ∧ k.natAbs < 1073741824 ∧ Q i j k H1 := by
  intro pins s σ H Q I h
  refine Call_ (ld_blt I hg hm boot_range (PyProof.Rows.callWith_type1 (thn (ha.run pos pins s σ H _ I h) fun us s1 ⟨vs, H1, I1, r1, i, j, k, e, c0, c1, q⟩ => ?_) hs hpl))
  subst e
  cases r1 with
  | cons r rr =>
    obtain ⟨u, w', rfl, ⟨t', rfl⟩, ⟨t'', rfl⟩⟩ := vals2 rr
    obtain ⟨t, rfl⟩ := r
    exact call_range_3 c0 ⟨_, i, j, k, _, _, _, H1, rfl, IsRange.new _ _ _ _ _ _ _, I1.kept (t' := s1.toks) fun b u e => Heap.get?_push_of_some _ e, q⟩ (.inl (PyProof.noPylong_small c1))
theorem vals_rgC {a c : Int} {n : Nat} {acc : Array Value} (h : ItemsOf (fun i v => ∃ t, v = .int (a + i * c) t) acc n) : Vals ((List.range n).map fun i => V.int (a + (i : Nat) * c)) acc.toList := by
  have e : acc.toList.length = n := by rw [Array.length_toList]; exact h.1
  rw [← e]
  refine vals_of_get acc.toList _ fun j u hj => ?_
  obtain ⟨t, rfl⟩ := h.2 j u (by rw [← hj, Array.getElem?_toList])
  exact ⟨t, rfl⟩
theorem pe_listRgC {e : Expr} {te : L2.St → Hp → (Int → Int → Int → Hp → Prop) → Prop} (hc : X.calm = true) (hg : Gl X "list") (hm : X.mg "list" = none) (he : PRgC X e te) (na : starEach [e] X.env = (false, eval e X.env) :: starEach [] X.env := by rfl) :
    PE X (.Call (.Name "list" p) [e] [] pos) fun σ H Q => te σ H fun a b c H1 => ∃ n : Nat, Builtin.Range.small a b c = true ∧ Builtin.Range.rangeSize a b c = n ∧ n ≤ 16777216 ∧ ∀ q, H1 q = none → Q (.ref q) (upd H1 q (.lst ((List.range n).map fun i => V.int (a + (i : Nat) * c)))) := by
  constructor
  intro pins s σ H Q I h
  refine Call_ (ld_blt I hg hm boot_list (PyProof.Rows.callWith_type1 (args_cons (thn (he pins s σ H _ I h) fun x s1 ⟨r, a, b, c, t, u, v, H1, ex, hr, I1, n, b1, b2, b3, q⟩ => args_nil ?_) na) na))
  subst ex
  refine call_list_range (n := n) (I1.ok.hd hc) hr b1 b2 b3 fun h' tk acc c' hk e' hi => ?_
  refine ⟨.ref s1.heap.objs.size, _, I1.laid hk (Nat.le_refl _) (show ObjOk X.prog X.w _ _ _ (.lst ((List.range n).map fun i => V.int (a + (i : Nat) * c))) from ⟨?_, acc.toList, c', vals_rgC hi, ?_⟩), rfl, q _ (I1.hok.fresh (Nat.le_refl _))⟩
  · rw [List.length_map, List.length_range, sizeLine_eq]; exact b3
  · rw [Array.toArray_toList]; exact e'
theorem range1_fact (b : Int) (h : b.natAbs < 4611686018427387904) : Builtin.Range.small 0 b 1 = true ∧ Builtin.Range.rangeSize 0 b 1 = b.toNat := by
  refine ⟨small_one (by omega) (by omega) (by omega) (by omega), ?_⟩
  rw [rangeSize_nat, Int.sub_zero]
theorem range2_fact (a b : Int) (h : a.natAbs < 4611686018427387904) (h2 : b.natAbs < 4611686018427387904) : Builtin.Range.small a b 1 = true ∧ Builtin.Range.rangeSize a b 1 = (b - a).toNat :=
  ⟨small_one (by omega) (by omega) (by omega) (by omega), rangeSize_nat a b⟩
/-- what a list of a range asks, by the data -/
theorem i_listR {K : PySem.W.Frag} {σ : L2.St} {H : Hp} {Q : VK} {f : List D → Option (List D)} {m : MA} {k : List V → Hp → Prop} (h : tE K W (mListR f m) σ H Q)
    (hk : ∀ g l vs r, Rep K g → RDs K g l vs → f l = some r → r.length ≤ sz → (∀ us q, RDs K g r us → g.H q = none → Q (.ref q) (upd g.H q (.lst us))) → k vs g.H) : tA K W m σ H k := by
  obtain ⟨g, e, hH, rp, re, p⟩ := h
  subst hH
  refine ⟨g, e, rfl, rp, re, (Post.bind p).imp fun l g1 e1 r1 ⟨_, _, p1⟩ vs rv => ?_⟩
  cases q : f l with
  | none => rw [q] at p1; exact False.elim p1
  | some r =>
    rw [q] at p1
    dsimp only at p1
    by_cases hz : r.length ≤ sz
    · rw [if_pos hz] at p1
      refine hk g1 l vs r r1 rv q hz fun us a ru ha => ?_
      obtain ⟨x1, x2, x3⟩ := new_lst r1 ha ru
      exact p1 _ x1 rfl x2 _ x3
    · rw [if_neg hz] at p1; exact False.elim p1
theorem i_listRN {K : PySem.W.Frag} {σ : L2.St} {H : Hp} {Q : VK} {f : List D → Option (List D)} {m : MA} {k : List V → Hp → Prop} (h : tE K W (mListRN f m) σ H Q)
    (hk : ∀ g l vs r, Rep K g → RDs K g l vs → f l = some r → r.length ≤ sz → (∀ us q, RDs K g r us → g.H q = none → Q (.ref q) (upd g.H q (.lst us))) → k vs g.H) : tA K W m σ H k := by
  obtain ⟨g, e, hH, rp, re, p⟩ := h
  subst hH
  refine ⟨g, e, rfl, rp, re, (Post.bind p).imp fun l g1 e1 r1 ⟨_, _, p1⟩ vs rv => ?_⟩
  cases q : f l with
  | none => rw [q] at p1; exact False.elim p1
  | some r =>
    rw [q] at p1
    dsimp only at p1
    by_cases hz : r.length ≤ sz
    · rw [if_pos hz] at p1
      refine hk g1 l vs r r1 rv q hz fun us a ru ha => ?_
      obtain ⟨x1, x2, x3⟩ := new_ref r1 ha ru
      exact p1 _ x1 rfl x2 _ x3
    · rw [if_neg hz] at p1; exact False.elim p1
theorem rangeA1_inv {K : PySem.W.Frag} {g : G} {l r : List D} {vs : List V} (rv : RDs K g l vs) (q : rangeA1 l = some r) : ∃ b : Int, vs = [.int b] ∧ b.natAbs < 4611686018427387904 ∧ r = rangeD 0 1 b.toNat := by
  unfold rangeA1 at q
  split at q
  · split at q
    · rename_i b hc
      cases q
      obtain ⟨v, rfl, h1⟩ := rv.one
      rw [RD] at h1; subst h1
      exact ⟨b, rfl, hc, rfl⟩
    · cases q
  · cases q
theorem rangeA2_inv {K : PySem.W.Frag} {g : G} {l r : List D} {vs : List V} (rv : RDs K g l vs) (q : rangeA2 l = some r) : ∃ a b : Int, vs = [.int a, .int b] ∧ a.natAbs < 4611686018427387904 ∧ b.natAbs < 4611686018427387904 ∧ r = rangeD a 1 (b - a).toNat := by
  unfold rangeA2 at q
  split at q
  · split at q
    · rename_i i j hc
      cases q
      obtain ⟨v, u, rfl, h1, h2⟩ := rv.two
      simp only [RD] at h1 h2; subst h1; subst h2
      exact ⟨i, j, rfl, hc.1, hc.2, rfl⟩
    · cases q
  · cases q
theorem rangeA3_inv {K : PySem.W.Frag} {g : G} {l r : List D} {vs : List V} (rv : RDs K g l vs) (q : rangeA3 l = some r) : ∃ a b c : Int, vs = [.int a, .int b, .int c] ∧ c ≠ 0 ∧ c.natAbs < 1073741824 ∧ Builtin.Range.small a b c = true ∧ 0 ≤ Builtin.Range.rangeSize a b c ∧ r = rangeD a c (Builtin.Range.rangeSize a b c).toNat := by
  unfold rangeA3 at q
  split at q
  · split at q
    · rename_i i j k hc
      cases q
      rw [RDs] at rv
      obtain ⟨v, vs', rfl, h1, h2⟩ := rv
      obtain ⟨u, w, rfl, h3, h4⟩ := h2.two
      simp only [RD] at h1 h3 h4; subst h1; subst h3; subst h4
      exact ⟨i, j, k, rfl, hc.1, hc.2.1, hc.2.2.1, hc.2.2.2, rfl⟩
    · cases q
  · cases q
theorem sz16 {n : Nat} (h : n ≤ sz) : n ≤ 16777216 := h
section
variable {a b c e0 : Expr} {m : MA} {p2 pos2 : Pos}
theorem pm_listR1 (hc : X.calm = true) (hl : Gl X "list") (hlm : X.mg "list" = none) (hg : Gl X "range") (hm : X.mg "range" = none) (ha : PA X [a] (tA X.K W m)) (hs : starEach [a] X.env = [(false, eval a X.env)] := by rfl)
    (na : starEach [.Call (.Name "range" p2) [a] [] pos2] X.env = (false, eval (.Call (.Name "range" p2) [a] [] pos2) X.env) :: starEach [] X.env := by rfl) : PE X (.Call (.Name "list" p) [.Call (.Name "range" p2) [a] [] pos2] [] pos) (tE X.K W (mListR rangeA1 m)) :=
  PE.imp (pe_listRgC hc hl hlm (prgC_1 hg hm ha hs) na) fun σ H Q h => i_listR h fun g l vs r rp rv q hz k => by
    obtain ⟨b, rfl, h1, rfl⟩ := rangeA1_inv rv q
    obtain ⟨f1, f2⟩ := range1_fact b h1
    rw [range_len] at hz
    exact ⟨b, rfl, b.toNat, f1, f2, sz16 hz, fun q hq => k _ q (range_rds 0 1 _) hq⟩
theorem pm_listRN1 (hc : X.calm = true) (hl : Gl X "list") (hlm : X.mg "list" = none) (hg : Gl X "range") (hm : X.mg "range" = none) (ha : PA X [a] (tA X.K W m)) (hs : starEach [a] X.env = [(false, eval a X.env)] := by rfl)
    (na : starEach [.Call (.Name "range" p2) [a] [] pos2] X.env = (false, eval (.Call (.Name "range" p2) [a] [] pos2) X.env) :: starEach [] X.env := by rfl) : PE X (.Call (.Name "list" p) [.Call (.Name "range" p2) [a] [] pos2] [] pos) (tE X.K W (mListRN rangeA1 m)) :=
  PE.imp (pe_listRgC hc hl hlm (prgC_1 hg hm ha hs) na) fun σ H Q h => i_listRN h fun g l vs r rp rv q hz k => by
    obtain ⟨b, rfl, h1, rfl⟩ := rangeA1_inv rv q
    obtain ⟨f1, f2⟩ := range1_fact b h1
    rw [range_len] at hz
    exact ⟨b, rfl, b.toNat, f1, f2, sz16 hz, fun q hq => k _ q (range_rds 0 1 _) hq⟩
theorem pm_listR2 (hc : X.calm = true) (hl : Gl X "list") (hlm : X.mg "list" = none) (hg : Gl X "range") (hm : X.mg "range" = none) (ha : PA X [a, b] (tA X.K W m)) (hs : starEach [a, b] X.env = [(false, eval a X.env), (false, eval b X.env)] := by rfl) (hs2 : starEach [b] X.env = [(false, eval b X.env)] := by rfl)
    (na : starEach [.Call (.Name "range" p2) [a, b] [] pos2] X.env = (false, eval (.Call (.Name "range" p2) [a, b] [] pos2) X.env) :: starEach [] X.env := by rfl) : PE X (.Call (.Name "list" p) [.Call (.Name "range" p2) [a, b] [] pos2] [] pos) (tE X.K W (mListR rangeA2 m)) :=
  PE.imp (pe_listRgC hc hl hlm (prgC_2 hg hm ha hs hs2) na) fun σ H Q h => i_listR h fun g l vs r rp rv q hz k => by
    obtain ⟨i, j, rfl, h1, h2, rfl⟩ := rangeA2_inv rv q
    obtain ⟨f1, f2⟩ := range2_fact i j h1 h2
    rw [range_len] at hz
    exact ⟨i, j, rfl, (j - i).toNat, f1, f2, sz16 hz, fun q hq => k _ q (range_rds i 1 _) hq⟩
theorem pm_listR3 (hc : X.calm = true) (hl : Gl X "list") (hlm : X.mg "list" = none) (hg : Gl X "range") (hm : X.mg "range" = none) (ha : PA X [a, b, c] (tA X.K W m)) (hs : starEach [a, b, c] X.env = (false, eval a X.env) :: starEach [b, c] X.env := by rfl) (hpl : (backTo pos2 (starEach [b, c] X.env)).any (·.1) = false := by rfl)
    (na : starEach [.Call (.Name "range" p2) [a, b, c] [] pos2] X.env = (false, eval (.Call (.Name "range" p2) [a, b, c] [] pos2) X.env) :: starEach [] X.env := by rfl) : PE X (.Call (.Name "list" p) [.Call (.Name "range" p2) [a, b, c] [] pos2] [] pos) (tE X.K W (mListR rangeA3 m)) :=
  PE.imp (pe_listRgC hc hl hlm (prgC_3 hg hm ha hs hpl) na) fun σ H Q h => i_listR h fun g l vs r rp rv q hz k => by
    obtain ⟨i, j, c, rfl, h1, h2, h3, h4, rfl⟩ := rangeA3_inv rv q
    rw [range_len] at hz
    exact ⟨i, j, c, rfl, h1, h2, _, h3, by omega, sz16 hz, fun q hq => k _ q (range_rds i c _) hq⟩
end
end

/-! ### the law's end -/
/-- the law's call, from its promise -/
theorem law_callG {P : Program} {w : World} {K : PySem.W.Frag} {mg mb : Str → Option Value} {CX : CXT} {k : Nat} {fa a : Addr} {fd : FuncData} {x : Str} {sp : Sp} {s₁ : Shared} {vs : List Value} {ns : List Int}
    (KX : K.In s₁.heap) (hns : s₁.heap.Ns mainGlobals mg) (hb : s₁.heap.Ns builtinsNs mb) (hbb : ∀ x : Str, x ≠ "__name__" → mb x = bootBuiltins x) (hlim : s₁.heap.NoLimit) (hg : s₁.gens = #[])
    (ha : s₁.heap.get? a = some { cls := .type "list", data := .seq vs.toArray }) (hi : IntsAre vs ns) (hl : ns.length ≤ sizeLine) (hr : RoomG k callerA)
    (F : ∀ base : Heap, K.In base → base.Ns mainGlobals mg → FnG P w K mg base CX k fa fd [x] sp) (hbind : ∀ (s : Shared) (u : Value), BindsTo s fd ⟨[u], []⟩ [(x, u)])
    (hsp : ∀ H : Hp, Only H → SqL K H a (ns.map V.int) → sp [.ref a] H (fun v _ => v = .bl true) fun _ _ _ => False)
    (hCX : ∀ H e s', CX [] H s₁ (fun _ _ _ => False) e s' → False) :
    codeAny (model P w) callerA (.call (.ref fa) ⟨[.ref a], []⟩) (fun r s' => r = .ok (.ret (.bool true)) ∧ OldK s₁.heap s'.heap ∧ s'.os = s₁.os ∧ AllBare s'.gens) s₁ := by
  have rv := vals_ints hi
  have lenV := hi.length
  -- nothing is tracked but the script, where it isn't one of the module's own objects
  have go : ∀ H : Hp, Only H → SqL K H a (ns.map V.int) → HOk P w H s₁.heap → (∀ b, H b ≠ none → b = a) → (H a ≠ none → K.lookup a = none) →
      codeAny (model P w) callerA (.call (.ref fa) ⟨[.ref a], []⟩) (fun r s' => r = .ok (.ret (.bool true)) ∧ OldK s₁.heap s'.heap ∧ s'.os = s₁.os ∧ AllBare s'.gens) s₁ := by
    intro H hO hS hok hA hK
    have untracked : ∀ {b : Addr} {o : Obj} {es : Array DictEntry} {ep : Nat}, s₁.heap.get? b = some o → o.data = .dict es ep → H b = none := fun {b o es ep} e d => by
      cases q : H b with
      | none => rfl
      | some u =>
        exfalso
        have e' : b = a := hA b (by rw [q]; simp)
        rw [e', ha] at e
        cases e
        cases d
    have nsOf : ∀ {b : Addr} {m : Str → Option Value}, s₁.heap.Ns b m → (hidT s₁.heap H).Ns b m := fun {b m} ⟨o, es, ep, e, d, r⟩ => ⟨o, es, ep, hidT_get e (untracked e d), d, r⟩
    have hKb : K.In (hidT s₁.heap H) := fun b o e => hidT_get (KX b o e) (by
      cases q : H b with
      | none => rfl
      | some u =>
        exfalso
        have e' : b = a := hA b (by rw [q]; simp)
        have z := hK (by rw [← e', q]; simp)
        rw [← e', e] at z
        cases z)
    have hM : Mod K mg (hidT s₁.heap H) := ⟨hKb, nsOf hns, ⟨mb, nsOf hb, hbb⟩, let ⟨mc, h1, h2⟩ := hlim; ⟨mc, nsOf h1, h2⟩⟩
    have none_in : ∀ b : Addr, b ∉ frs ([] : List PySem.Env) := fun b z => absurd (show b ∈ ([] : List Addr) from z) (by simp)
    have e0 : Env0 P w K mg (hidT s₁.heap H) callerA [] s₁ H := ⟨rfl, hM, fun b o e => of_hidT e, Nat.le_of_eq (hidT_size _ _), trivial, fun b z => absurd z (none_in b), hok, .of_eq hg⟩
    refine codeAny_mono ((F _ hKb (nsOf hns)).run callerA [] s₁ H ⟨[.ref a], []⟩ [.ref a] [.ref a] _ _ hr e0 (hbind s₁ (.ref a)) (.cons rfl .nil) (hsp H hO hS)) fun r s' h => ?_
    cases r with
    | error e => exact (hCX H e s' h).elim
    | ok fl =>
      cases fl with
      | ret u =>
        obtain ⟨v, H', os, bare, un, hok', r', q⟩ := h
        have q' : v = .bl true := q
        subst q'
        obtain rfl : u = Value.bool true := r'
        refine ⟨rfl, OldK.of_keep fun b o e => ?_, os, bare⟩
        cases q : H b with
        | none => exact un.keep b o e q (none_in b) (by simp)
        | some u =>
          rcases hO b with z | ⟨ob, xs, z⟩
          · rw [q] at z; cases z
          · obtain ⟨e1, _⟩ := hok b _ z
            obtain ⟨e2, _⟩ := hok' b _ (un.frzs b ob _ z)
            rw [e] at e1; cases e1
            exact e2
      | next => exact False.elim h
      | brk => exact False.elim h
      | cont => exact False.elim h
  cases hk : K.lookup a with
  | some o =>
    have e := KX a o hk
    rw [ha] at e
    cases e
    exact go (fun _ => none) (fun _ => .inl rfl) (.inr ⟨_, vs.toArray, _, hk, rfl, rfl, rfl, by rw [List.size_toArray, lenV]; exact hl, by simpa using rv⟩) (fun b u z => by cases z) (fun b z => absurd rfl z) fun z => absurd rfl z
  | none =>
    let own : Hp := fun b => if b = a then some (.frz { cls := .type "list", data := .seq vs.toArray } (.lst (ns.map V.int))) else none
    have at1 : own a = some (.frz { cls := .type "list", data := .seq vs.toArray } (.lst (ns.map V.int))) := if_pos rfl
    have off1 : ∀ b, b ≠ a → own b = none := fun b h => if_neg h
    refine go own (fun b => ?_) (.inl (.inr ⟨_, at1⟩)) (fun b u z => ?_) (fun b z => ?_) fun _ => hk
    · by_cases h : b = a
      · subst h; exact .inr ⟨_, _, at1⟩
      · exact .inl (off1 b h)
    · by_cases h : b = a
      · subst h
        rw [at1] at z
        cases z
        exact ⟨ha, by rw [List.length_map]; exact hl, vs, _, rv, ha⟩
      · rw [off1 b h] at z; cases z
    · by_cases h : b = a
      · exact h
      · exact absurd (off1 b h) z
theorem walk_G {l : PySem.W.OpenLaw} {k np nn : Nat} {q : Program} {loose : List Str} {XP : (Str → Option Value) → Heap → Prop} {YP : World → Heap → Prop} {d : DefRec} {K : Params → PySem.W.Frag} {x : Str}
    (hn : l.most = some 63) (hdf : d.params.defaults = []) (hr : Room k callerA) (hY : ∀ (w : World) (h : Heap), YP w h → (K w.params).In h)
    (F : ∀ (w : World) (mg : Str → Option Value) (fa : Addr) (h : Heap), (K w.params).In h → h.Ns mainGlobals mg → mg d.name = some (.ref fa) →
      ∃ fd : FuncData, (∀ (s : Shared) (u : Value), BindsTo s fd ⟨[u], []⟩ [(x, u)]) ∧ ∃ b : MS, (∀ ns : List Int, ns.length ≤ 63 → ∃ S, fnM np nn b [.kl (ns.map D.int)] [] = .ok (.bl true) S) ∧
        ∀ base : Heap, (K w.params).In base → base.Ns mainGlobals mg → FnG l.prog w (K w.params) mg base CX0 k fa fd [x] fun vs H Q _ => spM (K w.params) np (fnM np nn b) vs H Q E0) :
    PySem.W.WalkO q loose XP YP l.row.toRowW d [] (fun f vs => PySem.call f vs) := by
  refine Att.attach_call hn hdf fun w s₀ s₁ mg mb fa o pm cd doc a vs ns G Y ho hd hcd hmg hobj hints hlen hg => ?_
  have KX := hY w _ Y
  obtain ⟨fd, hb, b, hlaw, hF⟩ := F w mg fa _ KX G.T.g hmg
  refine law_callG KX G.T.g G.T.b G.T.builtins G.T.nolimit hg hobj hints (Nat.le_trans hlen (by decide)) ⟨hr, rfl⟩ hF hb (fun H hO hS => ?_) fun H e s' h => h
  obtain ⟨S', hS'⟩ := hlaw ns hlen
  have hnp := fnM_len (ds := [.kl (ns.map D.int)]) (S := []) fun z => by rw [hS'] at z; cases z
  refine ⟨hnp, { N := fun _ => False, ρ := fun _ => 0, S := [], H := H }, [.kl (ns.map D.int)], rfl, ⟨fun _ z => z.elim, fun i j o u q => by simp at q, fun i o q => by simp at q⟩, RDs.cons ?_ RDs.nil, ?_⟩
  · rw [RD]
    refine ⟨a, ns.map V.int, rfl, ?_, rds_of_ints ns⟩
    rcases hS with h | h
    · exact .inl ⟨h, fun z => z, not_live_nil rfl⟩
    · exact .inr (.inr h)
  · show Post _ _ _ (fnM np nn b [.kl (ns.map D.int)] []) [] _
    rw [hS']
    intro g' _ _ _ v rv
    rw [RD] at rv
    exact rv
end Mo

namespace Mo
open PySem PySem.Spec L2 PyProof.Rows

/-! ### another mirror of the same text -/
theorem tE_ref {K : PySem.W.Frag} {W : WX'} {m m' : ME} {σ : L2.St} {H : Hp} {Q : VK} (h : ∀ e S, m' e S ≠ .bad → m e S = m' e S) (q : tE K W m' σ H Q) : tE K W m σ H Q := by
  obtain ⟨g, e, hH, rp, re, p⟩ := q
  refine ⟨g, e, hH, rp, re, ?_⟩
  rw [h e g.S fun z => by rw [z] at p; exact p]
  exact p
theorem tT_ref {K : PySem.W.Frag} {W : WX'} {m m' : MT} {σ : L2.St} {H : Hp} {Q : Bool → Hp → Prop} (h : ∀ e S, m' e S ≠ .bad → m e S = m' e S) (q : tT K W m' σ H Q) : tT K W m σ H Q := by
  obtain ⟨g, e, hH, rp, re, p⟩ := q
  refine ⟨g, e, hH, rp, re, ?_⟩
  rw [h e g.S fun z => by rw [z] at p; exact p]
  exact p
/-- repr(a) == repr(b), without the texts where the data are alike -/
def okRepr (S : List O) (d : D) : Bool := match toPyS S d with
  | some p => p.showable && !p.hasDict && decide (p.depth ≤ 64) && decide (lenB p ≤ sz)
  | none => false
def offS : D → Bool
  | .ref _ => false
  | _ => true
def mReprEq (f : Op2) (ma mb : ME) : ME := fun e S => (ma e S).bind fun a S1 => if okRepr S1 a = true then (mb e S1).bind fun b S2 =>
  if offS a = true ∧ a = b then R.ofO S2 (f S2 (.int 0) (.int 0)) else R.ofO S2 ((gRepr S1 [a]).bind fun x => (gRepr S2 [b]).bind fun y => f S2 x y) else .bad
theorem okRepr_at {S : List O} {d : D} (h : okRepr S d = true) : ∃ x, gRepr S [d] = some (.str x) ∧ ∀ S', offS d = true → gRepr S' [d] = some (.str x) := by
  unfold okRepr at h
  cases e : toPyS S d with
  | none => rw [e] at h; cases h
  | some p =>
    rw [e] at h
    simp only [Bool.and_eq_true, decide_eq_true_eq, Bool.not_eq_true'] at h
    obtain ⟨⟨⟨h1, h2⟩, h3⟩, h4⟩ := h
    have key : ∀ S', toPyS S' d = some p → gRepr S' [d] = some (.str p.shown) := fun S' e' => by
      show (shownD S' d).map D.str = _
      unfold shownD
      rw [e']
      show (if _ then _ else _ : Option Str).map D.str = _
      rw [if_pos ⟨h1, h2, h3, h4⟩]
      rfl
    refine ⟨p.shown, key S e, fun S' ho => key S' ?_⟩
    cases d <;> first | (cases ho; done) | exact e
theorem reprEq_ref {f : Op2} {ma mb : ME} (hf : ∀ S x, f S (.str x) (.str x) = f S (.int 0) (.int 0)) (e : Env) (S : List O) (h : mReprEq f ma mb e S ≠ .bad) : mBin f (mCB gRepr (mCons ma mNil)) (mCB gRepr (mCons mb mNil)) e S = mReprEq f ma mb e S := by
  unfold mReprEq at h ⊢
  unfold mBin mCB mCons mNil
  cases ha : ma e S with
  | er x S1 => rfl
  | bad => rfl
  | ok a S1 =>
    rw [ha] at h
    simp only [R.bind] at h ⊢
    by_cases ho : okRepr S1 a = true
    · rw [if_pos ho] at h ⊢
      obtain ⟨x, h1, h2⟩ := okRepr_at ho
      rw [h1]
      simp only [R.ofO]
      cases hb : mb e S1 with
      | er x S1 => rfl
      | bad => rfl
      | ok b S2 =>
        simp only []
        by_cases hc : offS a = true ∧ a = b
        · rw [if_pos hc, ← hc.2, h2 S2 hc.1]
          simp only []
          rw [hf]
        · rw [if_neg hc]
          simp only [Option.bind]
          cases hy : gRepr S2 [b] <;> rfl
    · rw [if_neg ho] at h
      exact absurd rfl h
section
variable {X : Cx} {W : WX'} {a b : Expr} {ma mb : ME} {pos : Pos}
theorem pm_reprEq (h : PE X a (tE X.K W (mBin gEq (mCB gRepr (mCons ma mNil)) (mCB gRepr (mCons mb mNil))))) : PE X a (tE X.K W (mReprEq gEq ma mb)) := PE.imp h fun σ H Q => tE_ref (reprEq_ref fun S x => by unfold gEq eqB scD; simp)
theorem qm_reprEq (h : PT X a (tT X.K W (mTB (mBin gEq (mCB gRepr (mCons ma mNil)) (mCB gRepr (mCons mb mNil)))))) : PT X a (tT X.K W (mTB (mReprEq gEq ma mb))) := PT.imp h fun σ H Q => tT_ref fun e S hh => by
  unfold mTB at hh ⊢
  rw [reprEq_ref (fun S x => by unfold gEq eqB scD; simp) e S fun z => hh (by rw [z]; rfl)]
theorem qm_reprNe (h : PT X a (tT X.K W (mTB (mBin gNe (mCB gRepr (mCons ma mNil)) (mCB gRepr (mCons mb mNil)))))) : PT X a (tT X.K W (mTB (mReprEq gNe ma mb))) := PT.imp h fun σ H Q => tT_ref fun e S hh => by
  unfold mTB at hh ⊢
  rw [reprEq_ref (fun S x => by unfold gNe eqB scD; simp) e S fun z => hh (by rw [z]; rfl)]
end

/-! ### running a mirror: one rule for each combinator -/
section
variable {e e1 e2 : Env} {S S1 S2 S3 S4 : List O} {a b d i : D} {ma mb mc m mo mi mv : ME} {mr : MA} {r : RS} {t u : MT} {k : Bool} {l : List D} {n : Nat}
theorem v_C : mC d e S = .ok d S := rfl
theorem v_var (h : e[n]? = some (some d)) : mVar n e S = .ok d S := by unfold mVar; rw [h]
theorem v_bin {f : Op2} (h1 : ma e S = .ok a S1) (h2 : mb e S1 = .ok b S2) (h3 : f S2 a b = some d) : mBin f ma mb e S = .ok d S2 := by
  unfold mBin; rw [h1]; show (mb e S1).bind _ = _; rw [h2]; show R.ofO S2 (f S2 a b) = _; rw [h3]; rfl
theorem v_un {f : Op1} (h1 : ma e S = .ok a S1) (h3 : f S1 a = some d) : mUn f ma e S = .ok d S1 := by
  unfold mUn; rw [h1]; show R.ofO S1 (f S1 a) = _; rw [h3]; rfl
theorem v_nil : mNil e S = .ok [] S := rfl
theorem v_cons (h1 : ma e S = .ok a S1) (h2 : mr e S1 = .ok l S2) : mCons ma mr e S = .ok (a :: l) S2 := by
  unfold mCons; rw [h1]; show (mr e S1).bind _ = _; rw [h2]; rfl
theorem v_cb {f : OpN} (h1 : mr e S = .ok l S1) (h2 : f S1 l = some d) : mCB f mr e S = .ok d S1 := by
  unfold mCB; rw [h1]; show R.ofO S1 (f S1 l) = _; rw [h2]; rfl
theorem v_tup (h1 : mr e S = .ok l S1) (h2 : l.length ≤ sz) : mTup mr e S = .ok (.tup l) S1 := by
  unfold mTup; rw [h1]; show (if _ then _ else _) = _; rw [if_pos h2]
theorem v_lst (h1 : mr e S = .ok l S1) (h2 : l.length ≤ sz) : mLst mr e S = .ok (.lst l) S1 := by
  unfold mLst; rw [h1]; show (if _ then _ else _) = _; rw [if_pos h2]
theorem v_new (h1 : mr e S = .ok l S1) (h2 : l.length ≤ sz) : mNew mr e S = .ok (.ref S1.length) (S1 ++ [.lst l]) := by
  unfold mNew; rw [h1]; show (if _ then _ else _) = _; rw [if_pos h2]
theorem v_call {f : List D → List O → R D} (h1 : mr e S = .ok l S1) {x : R D} (h2 : f l S1 = x) : mCall f mr e S = x := by
  unfold mCall; rw [h1]; exact h2
theorem v_tb (h1 : m e S = .ok (.bl k) S1) : mTB m e S = .ok k S1 := by unfold mTB; rw [h1]; rfl
theorem v_and (h1 : t e S = .ok k S1) {x : R Bool} (h2 : (if k then u e S1 else .ok false S1) = x) : mAnd t u e S = x := by unfold mAnd; rw [h1]; exact h2
theorem v_or (h1 : t e S = .ok k S1) {x : R Bool} (h2 : (if k then .ok true S1 else u e S1) = x) : mOr t u e S = x := by unfold mOr; rw [h1]; exact h2
theorem v_not (h1 : t e S = .ok k S1) : mNot t e S = .ok (!k) S1 := by unfold mNot; rw [h1]; rfl
theorem v_if (h1 : t e S = .ok k S1) {x : R D} (h2 : (if k then ma e S1 else mb e S1) = x) : mIf t ma mb e S = x := by unfold mIf; rw [h1]; exact h2
theorem w_seq {x y : MS} (h1 : x e S = .nx e1 S1) (h2 : y e1 S1 = r) : sSeq x y e S = r := by unfold sSeq; rw [h1]; exact h2
theorem w_seqR {x y : MS} (h1 : x e S = .rt d S1) : sSeq x y e S = .rt d S1 := by unfold sSeq; rw [h1]
theorem w_asg (h1 : m e S = .ok d S1) : sAsg n m e S = .nx (e.set n (some d)) S1 := by unfold sAsg; rw [h1]; rfl
theorem w_expr (h1 : m e S = .ok d S1) : sExpr m e S = .nx e S1 := by unfold sExpr; rw [h1]; rfl
theorem w_ret (h1 : m e S = .ok d S1) : sRet m e S = .rt d S1 := by unfold sRet; rw [h1]; rfl
theorem w_if {x y : MS} (h1 : t e S = .ok k S1) (h2 : (if k then x e S1 else y e S1) = r) : sIf t x y e S = r := by unfold sIf; rw [h1]; exact h2
theorem w_set (h1 : mv e S = .ok d S1) (h2 : mo e S1 = .ok a S2) (h3 : mi e S2 = .ok i S3) (h4 : fSet S3 a i d = some S4) : sSet mv mo mi e S = .nx e S4 := by
  unfold sSet; rw [h1]; show (mo e S1).st _ _ = _; rw [h2]; show (mi e S2).st _ _ = _; rw [h3]; show (match fSet S3 a i d with | some S4 => RS.nx e S4 | none => .bad) = _; rw [h4]
theorem x_ix {j : Nat} {l : List D} {i : Int} (h : S[j]? = some (.lst l)) (h2 : atI l i = some d) : gIx S (.ref j) (.int i) = some d := by
  show (match seqR S (.ref j) with | some l => atI l i | none => none) = _
  rw [show seqR S (.ref j) = some l by unfold seqR; simp only [h]]
  exact h2
theorem x_ixl {l : List D} {i : Int} (h2 : atI l i = some d) : gIx S (.lst l) (.int i) = some d := h2
theorem x_set {j q : Nat} {l : List D} {i : Int} (h : S[j]? = some (.lst l)) (h2 : ixN l.length i = some q) : fSet S (.ref j) (.int i) d = some (S.set j (.lst (l.set q d))) := by
  unfold fSet; simp only [h, h2]
theorem x_addI {i j : Int} : gAdd S (.int i) (.int j) = some (.int (i + j)) := rfl
theorem x_gt {i j : Int} : gGt S (.int i) (.int j) = some (.bl (decide (j < i))) := rfl
theorem x_ge {i j : Int} : gGe S (.int i) (.int j) = some (.bl (decide (j ≤ i))) := rfl
theorem x_le {i j : Int} : gLe S (.int i) (.int j) = some (.bl (decide (i ≤ j))) := rfl
theorem x_mod {i j : Int} (h : 0 < j) : gMod S (.int i) (.int j) = some (.int (i % j)) := by unfold gMod; simp only [h, if_true]
theorem x_div {i j : Int} (h : 0 < j) (h2 : j < 1073741824) : gDiv S (.int i) (.int j) = some (.int (i / j)) := by unfold gDiv; simp only [h, h2, and_self, if_true]
theorem x_mul {i j : Int} (h : i.natAbs < 18446744073709551616) : gMul S (.int i) (.int j) = some (.int (i * j)) := by unfold gMul; simp only [h, true_or, if_true]
theorem x_pow {i j : Int} (h : 0 ≤ j) (h1 : j ≤ 1000000) (h2 : i.natAbs < 18446744073709551616) : gPow S (.int i) (.int j) = some (.int (i ^ j.toNat)) := by unfold gPow; simp only [h, h1, h2, and_self, if_true]
theorem x_int {i : Int} : gInt S [.int i] = some (.int i) := rfl
theorem x_intB {k : Bool} : gInt S [.bl k] = some (.int (if k then 1 else 0)) := rfl
theorem x_lenL {l : List D} : gLen S [.lst l] = some (.int l.length) := rfl
end
theorem toPys_ints : ∀ cs : List Int, toPys (cs.map D.int) = some (cs.map PyData.int)
  | [] => rfl
  | c :: cs => by
    rw [List.map_cons, toPys, toPys_ints cs]
    rfl
theorem trim_same {b : Bool} {S S' : List O} (h : S'.length = S.length) : trimS b S S' = S' := by
  unfold trimS
  split
  · rw [← h, List.take_length]
  · rfl
theorem canLay_ints : ∀ cs : List Int, PyData.canLayAll0 (cs.map PyData.int) = true ∧ PyData.depthAll (cs.map PyData.int) = 0
  | [] => ⟨rfl, rfl⟩
  | c :: cs => by
    obtain ⟨h1, h2⟩ := canLay_ints cs
    constructor
    · rw [List.map_cons, PyData.canLayAll0, h1]; rfl
    · rw [List.map_cons, PyData.depthAll, h2]; rfl
theorem shaped_ints (cs : List Int) : SeqAt.shaped (.list (cs.map PyData.int)) = true := by
  unfold SeqAt.shaped
  rw [PyData.canLay0, (canLay_ints cs).1, PyData.depth, (canLay_ints cs).2]
  decide
/-- xs == [] -/
theorem x_eqNil {S : List O} {cs : List Int} : gEq S (.lst (cs.map .int)) (.lst []) = some (.bl (decide (cs = []))) := by
  unfold gEq eqB
  rw [show scD (.lst (cs.map .int)) (.lst []) = none by rfl]
  dsimp only
  rw [show toPyS S (.lst (cs.map .int)) = some (.list (cs.map PyData.int)) by
    show toPy (.lst (cs.map .int)) = _
    rw [toPy, toPys_ints]]
  rw [show toPyS S (.lst []) = some (.list []) by rfl]
  dsimp only
  rw [if_pos ⟨shaped_ints cs, by decide +kernel⟩]
  cases cs with
  | nil => rfl
  | cons c cs => rfl
/-! ### the numbers that a script gives -/
def bFeed : MS :=
  sRet (mNew (mCons (mC (.int 0)) (mCons (mComp (miSeq (mSl (mVar 0) moN (moS (mC (.int 63))))) (tgN 1) mYes (mCB gAbs (mCons (mVar 1) mNil)) [1]) (mCons (mC (.int 0)) (mCons (mC (.int 0)) mNil)))))
def bDraw : MS :=
  sSeq (sSet (mBin gAdd (mBin gIx (mVar 0) (mC (.int 3))) (mC (.int 1))) (mVar 0) (mC (.int 3))) (
  sSeq (sIf (mTB (mBin gGt (mBin gIx (mVar 0) (mC (.int 0))) (mC (.int 0)))) (
  sSeq (sAsg 2 (mBin gMod (mCB gInt (mCons (mBin gIx (mVar 0) (mC (.int 0))) mNil)) (mVar 1))) (
  sSeq (sSet (mBin gDiv (mBin gIx (mVar 0) (mC (.int 0))) (mVar 1)) (mVar 0) (mC (.int 0))) (
  sRet (mVar 2)))) (
  sNil)) (
  sSeq (sAsg 3 (mBin gAdd (mBin gIx (mVar 0) (mC (.int 1))) (mBin gMul (mLst (mCons (mC (.int 7)) mNil)) (mCB gInt (mCons (mBin gEq (mBin gIx (mVar 0) (mC (.int 1))) (mLst mNil)) mNil))))) (
  sSeq (sAsg 4 (mBin gIx (mVar 3) (mBin gMod (mCB gInt (mCons (mBin gIx (mVar 0) (mC (.int 2))) mNil)) (mCB gLen (mCons (mVar 3) mNil))))) (
  sSeq (sSet (mBin gAdd (mBin gIx (mVar 0) (mC (.int 2))) (mC (.int 1))) (mVar 0) (mC (.int 2))) (
  sSeq (sIf (mAnd (mTB (mBin gGe (mVar 4) (mBin gPow (mC (.int 10)) (mC (.int 18))))) (mTB (mBin gLe (mBin gIx (mVar 0) (mC (.int 2))) (mCB gLen (mCons (mVar 3) mNil))))) (
  sSeq (sSet (mBin gDiv (mVar 4) (mVar 1)) (mVar 0) (mC (.int 0))) (
  sRet (mBin gMod (mCB gInt (mCons (mVar 4) mNil)) (mVar 1)))) (
  sNil)) (
  sSeq (sAsg 5 (mBin gMod (mCB gInt (mCons (mBin gPow (mBin gAdd (mBin gMod (mCB gInt (mCons (mVar 4) mNil)) (mC (.int 2147483629))) (mBin gMul (mC (.int 99991)) (mBin gIx (mVar 0) (mC (.int 3))))) (mC (.int 5))) mNil)) (mC (.int 2305843009213693951)))) (
  sSeq (sAsg 5 (mBin gMod (mCB gInt (mCons (mBin gPow (mBin gAdd (mBin gAdd (mVar 5) (mBin gMul (mC (.int 7)) (mBin gIx (mVar 0) (mC (.int 3))))) (mC (.int 1))) (mC (.int 3))) mNil)) (mC (.int 2305843009213693921)))) (
  sRet (mBin gMod (mCB gInt (mCons (mBin gDiv (mVar 5) (mC (.int 1024))) mNil)) (mVar 1))))))))))
abbrev feedO (l : Int) (cs : List Int) (p c : Int) : O := .lst [.int l, .lst (cs.map .int), .int p, .int c]
/-- the feed stands in slot j, c draws behind it -/
structure FeedAt (S : List O) (j : Nat) (l : Int) (cs : List Int) (p c : Int) : Prop where
  at_ : S[j]? = some (feedO l cs p c)
  l0 : 0 ≤ l
  cs0 : ∀ x ∈ cs, 0 ≤ x
  csl : cs.length ≤ 63
  p0 : 0 ≤ p
  c0 : 0 ≤ c
def drawV (cs : List Int) : List Int := if cs = [] then [7] else cs
theorem drawV_eq {S : List O} {cs : List Int} (h : cs.length ≤ 63) : ∃ x, gMul S (.lst [.int 7]) (.int (if decide (cs = []) then 1 else 0)) = some x ∧ gAdd S (.lst (cs.map .int)) x = some (.lst ((drawV cs).map .int)) := by
  cases cs with
  | nil => exact ⟨.lst [.int 7], rfl, rfl⟩
  | cons c cs =>
    refine ⟨.lst [], rfl, ?_⟩
    show (if _ then _ else _) = _
    rw [if_pos (by simp [sz] at h ⊢; omega), List.append_nil]
    rfl
theorem drawV_len {cs : List Int} (h : cs.length ≤ 63) : 0 < (drawV cs).length ∧ (drawV cs).length ≤ 63 := by
  unfold drawV
  split
  · decide
  · rename_i hc
    exact ⟨List.length_pos_iff.mpr hc, h⟩
theorem drawV_pos {cs : List Int} (h : ∀ x ∈ cs, 0 ≤ x) : ∀ x ∈ drawV cs, 0 ≤ x := by
  unfold drawV
  split
  · intro x hx
    simp at hx
    omega
  · exact h
theorem draw_run {S : List O} {j : Nat} {l p c many : Int} {cs : List Int} (F : FeedAt S j l cs p c) (hm : 0 < many) (hm2 : many < 1073741824) (hc : c < 1000000000) :
    ∃ d l' p', bDraw [some (.ref j), some (.int many), none, none, none, none] S = .rt (.int d) (S.set j (feedO l' cs p' (c + 1))) ∧ 0 ≤ d ∧ d < many ∧ 0 ≤ l' ∧ 0 ≤ p' := by
  obtain ⟨h, l0, cs0, csl, p0, c0⟩ := F
  have hj : j < S.length := (List.getElem?_eq_some_iff.mp h).1
  have at1 : ∀ (T : List O) o, T.length = S.length → (T.set j o)[j]? = some o := fun T o e => List.getElem?_set_self (by omega)
  obtain ⟨x7, hx7, hV⟩ := drawV_eq (S := S.set j (feedO l cs p (c + 1))) csl
  obtain ⟨v0, v63⟩ := drawV_len csl
  have vpos := drawV_pos cs0
  unfold bDraw
  have s1 := at1 S (feedO l cs p (c + 1)) rfl
  by_cases hl : 0 < l
  · refine ⟨l % many, l / many, p, ?_, Int.emod_nonneg _ (by omega), Int.emod_lt_of_pos _ hm, Int.ediv_nonneg l0 (by omega), p0⟩
    refine w_seq (w_set (v_bin (v_bin (v_var rfl) v_C (x_ix h rfl)) v_C x_addI) (v_var rfl) v_C (x_set h rfl)) ?_
    refine w_seqR (w_if (k := true) (v_tb (v_bin (v_bin (v_var rfl) v_C (x_ix s1 rfl)) v_C (by rw [x_gt, decide_eq_true hl]))) ?_)
    refine w_seq (w_asg (v_bin (v_cb (v_cons (v_bin (v_var rfl) v_C (x_ix s1 rfl)) v_nil) x_int) (v_var rfl) (x_mod hm))) ?_
    refine w_seq (w_set (v_bin (v_bin (v_var rfl) v_C (x_ix s1 rfl)) (v_var rfl) (x_div hm hm2)) (v_var rfl) v_C (x_set s1 rfl)) ?_
    rw [List.set_set]
    exact w_ret (v_var rfl)
  · -- the cell
    have hq : 0 ≤ p % ((drawV cs).length : Int) ∧ p % ((drawV cs).length : Int) < ((drawV cs).length : Int) := ⟨Int.emod_nonneg _ (by omega), Int.emod_lt_of_pos _ (by omega)⟩
    obtain ⟨cell, hcell, cpos⟩ : ∃ cell : Int, atI ((drawV cs).map D.int) (p % ((drawV cs).length : Int)) = some (.int cell) ∧ 0 ≤ cell := by
      have hn : (p % ((drawV cs).length : Int)).toNat < (drawV cs).length := by omega
      refine ⟨(drawV cs)[(p % ((drawV cs).length : Int)).toNat], ?_, vpos _ (List.getElem_mem hn)⟩
      unfold atI ixN
      rw [List.length_map, if_pos hq.1, if_pos hq.2]
      show ((drawV cs).map D.int)[(p % ((drawV cs).length : Int)).toNat]? = _
      rw [List.getElem?_map, List.getElem?_eq_getElem hn]
      rfl
    have s2 := at1 (S.set j (feedO l cs p (c + 1))) (feedO l cs (p + 1) (c + 1)) (by rw [List.length_set])
    have pre : ∀ r, (∀ (z : D), sSeq (sIf (mAnd (mTB (mBin gGe (mVar 4) (mBin gPow (mC (.int 10)) (mC (.int 18))))) (mTB (mBin gLe (mBin gIx (mVar 0) (mC (.int 2))) (mCB gLen (mCons (mVar 3) mNil))))) (
  sSeq (sSet (mBin gDiv (mVar 4) (mVar 1)) (mVar 0) (mC (.int 0))) (
  sRet (mBin gMod (mCB gInt (mCons (mVar 4) mNil)) (mVar 1)))) (
  sNil)) (
  sSeq (sAsg 5 (mBin gMod (mCB gInt (mCons (mBin gPow (mBin gAdd (mBin gMod (mCB gInt (mCons (mVar 4) mNil)) (mC (.int 2147483629))) (mBin gMul (mC (.int 99991)) (mBin gIx (mVar 0) (mC (.int 3))))) (mC (.int 5))) mNil)) (mC (.int 2305843009213693951)))) (
  sSeq (sAsg 5 (mBin gMod (mCB gInt (mCons (mBin gPow (mBin gAdd (mBin gAdd (mVar 5) (mBin gMul (mC (.int 7)) (mBin gIx (mVar 0) (mC (.int 3))))) (mC (.int 1))) (mC (.int 3))) mNil)) (mC (.int 2305843009213693921)))) (
  sRet (mBin gMod (mCB gInt (mCons (mBin gDiv (mVar 5) (mC (.int 1024))) mNil)) (mVar 1)))))
      [some (.ref j), some (.int many), none, some (.lst ((drawV cs).map .int)), some (.int cell), none] (S.set j (feedO l cs (p + 1) (c + 1))) = r) → bDraw [some (.ref j), some (.int many), none, none, none, none] S = r := by
      intro r hr
      refine w_seq (w_set (v_bin (v_bin (v_var rfl) v_C (x_ix h rfl)) v_C x_addI) (v_var rfl) v_C (x_set h rfl)) ?_
      refine w_seq (w_if (k := false) (v_tb (v_bin (v_bin (v_var rfl) v_C (x_ix s1 rfl)) v_C (by rw [x_gt, decide_eq_false hl]))) rfl) ?_
      refine w_seq (w_asg (v_bin (v_bin (v_var rfl) v_C (x_ix s1 rfl)) (v_bin (v_lst (v_cons v_C v_nil) (by decide)) (v_cb (v_cons (v_bin (v_bin (v_var rfl) v_C (x_ix s1 rfl)) (v_lst v_nil (by decide)) x_eqNil) v_nil) x_intB) hx7) hV)) ?_
      refine w_seq (w_asg (v_bin (v_var rfl) (v_bin (v_cb (v_cons (v_bin (v_var rfl) v_C (x_ix s1 rfl)) v_nil) x_int) (v_cb (v_cons (v_var rfl) v_nil) x_lenL) (x_mod (by rw [List.length_map]; omega))) (x_ixl (by rw [List.length_map]; exact hcell)))) ?_
      refine w_seq (w_set (v_bin (v_bin (v_var rfl) v_C (x_ix s1 rfl)) v_C x_addI) (v_var rfl) v_C (x_set s1 rfl)) ?_
      rw [List.set_set]
      exact hr .non
    have s3 := at1 S (feedO l cs (p + 1) (c + 1)) rfl
    have e18 : ∀ (T : List O), mBin gPow (mC (.int 10)) (mC (.int 18)) [some (.ref j), some (.int many), none, some (.lst ((drawV cs).map .int)), some (.int cell), none] T = .ok (.int 1000000000000000000) T := fun T => v_bin v_C v_C (x_pow (by decide) (by decide) (by decide))
    by_cases hb : 1000000000000000000 ≤ cell ∧ p + 1 ≤ ((drawV cs).length : Int)
    · refine ⟨cell % many, cell / many, p + 1, pre _ fun z => ?_, Int.emod_nonneg _ (by omega), Int.emod_lt_of_pos _ hm, Int.ediv_nonneg cpos (by omega), by omega⟩
      refine w_seqR (w_if (k := true) (v_and (k := true) (v_tb (v_bin (v_var rfl) (e18 _) (by rw [x_ge, decide_eq_true hb.1]))) (v_tb (v_bin (v_bin (v_var rfl) v_C (x_ix s3 rfl)) (v_cb (v_cons (v_var rfl) v_nil) x_lenL) (by rw [x_le, List.length_map, decide_eq_true hb.2])))) ?_)
      refine w_seq (w_set (v_bin (v_var rfl) (v_var rfl) (x_div hm hm2)) (v_var rfl) v_C (x_set s3 rfl)) ?_
      rw [List.set_set]
      exact w_ret (v_bin (v_cb (v_cons (v_var rfl) v_nil) x_int) (v_var rfl) (x_mod hm))
    · have m1 : 0 ≤ cell % 2147483629 ∧ cell % 2147483629 < 2147483629 := ⟨Int.emod_nonneg _ (by decide), Int.emod_lt_of_pos _ (by decide)⟩
      let y := (cell % 2147483629 + 99991 * (c + 1)) ^ (5 : Int).toNat % 2305843009213693951
      have hy : 0 ≤ y ∧ y < 2305843009213693951 := ⟨Int.emod_nonneg _ (by decide), Int.emod_lt_of_pos _ (by decide)⟩
      let y2 := (y + 7 * (c + 1) + 1) ^ (3 : Int).toNat % 2305843009213693921
      refine ⟨y2 / 1024 % many, l, p + 1, pre _ fun z => ?_, Int.emod_nonneg _ (by omega), Int.emod_lt_of_pos _ hm, l0, by omega⟩
      refine w_seq (S1 := S.set j (feedO l cs (p + 1) (c + 1))) (w_if (k := false) ?_ rfl) ?_
      · by_cases h1 : 1000000000000000000 ≤ cell
        · exact v_and (k := true) (v_tb (v_bin (v_var rfl) (e18 _) (by rw [x_ge, decide_eq_true h1]))) (v_tb (v_bin (v_bin (v_var rfl) v_C (x_ix s3 rfl)) (v_cb (v_cons (v_var rfl) v_nil) x_lenL) (by rw [x_le, List.length_map, decide_eq_false (fun q => hb ⟨h1, q⟩)])))
        · exact v_and (k := false) (v_tb (v_bin (v_var rfl) (e18 _) (by rw [x_ge, decide_eq_false h1]))) rfl
      refine w_seq (w_asg (v_bin (v_cb (v_cons (v_bin (v_bin (v_bin (v_cb (v_cons (v_var rfl) v_nil) x_int) v_C (x_mod (by decide))) (v_bin v_C (v_bin (v_var rfl) v_C (x_ix s3 rfl)) (x_mul (by decide))) x_addI) v_C (x_pow (by decide) (by decide) (by omega))) v_nil) x_int) v_C (x_mod (by decide)))) ?_
      refine w_seq (w_asg (v_bin (v_cb (v_cons (v_bin (v_bin (v_bin (v_var rfl) (v_bin v_C (v_bin (v_var rfl) v_C (x_ix s3 rfl)) (x_mul (by decide))) x_addI) v_C x_addI) v_C (x_pow (by decide) (by decide) (by show (y + 7 * (c + 1) + 1).natAbs < _; omega))) v_nil) x_int) v_C (x_mod (by decide)))) ?_
      exact w_ret (v_bin (v_cb (v_cons (v_bin (v_var rfl) v_C (x_div (by decide) (by decide))) v_nil) x_int) (v_var rfl) (x_mod hm))
theorem feed_set {S : List O} {j : Nat} {l p c l' p' : Int} {cs : List Int} (F : FeedAt S j l cs p c) (h1 : 0 ≤ l') (h2 : 0 ≤ p') : FeedAt (S.set j (feedO l' cs p' (c + 1))) j l' cs p' (c + 1) :=
  ⟨List.getElem?_set_self (List.getElem?_eq_some_iff.mp F.at_).1, h1, F.cs0, F.csl, h2, by have := F.c0; omega⟩
theorem fn_rt {np n : Nat} {b : MS} {ds : List D} {S S' : List O} {d : D} (hl : ds.length = np) (h : b (ds.map some ++ List.replicate (n - ds.length) none) S = .rt d S') : fnM np n b ds S = .ok d (trimS (D.lo S.length d) S S') := by
  unfold fnM
  rw [if_pos hl, h]
theorem nb_ok {f : List D → List O → R D} {ds : List D} {S S' : List O} {d : D} (h : f ds S = .ok d S') : nbF f ds S = .ok d S' := by
  unfold nbF
  rw [h]
  rfl
/-- one draw, as a call -/
theorem draw_call {S : List O} {j : Nat} {l p c many : Int} {cs : List Int} (F : FeedAt S j l cs p c) (hm : 0 < many) (hm2 : many < 1073741824) (hc : c < 1000000000) :
    ∃ d l' p', nbF (fnM 2 6 bDraw) [.ref j, .int many] S = .ok (.int d) (S.set j (feedO l' cs p' (c + 1))) ∧ 0 ≤ d ∧ d < many ∧ FeedAt (S.set j (feedO l' cs p' (c + 1))) j l' cs p' (c + 1) := by
  obtain ⟨d, l', p', h1, h2, h3, h4, h5⟩ := draw_run F hm hm2 hc
  refine ⟨d, l', p', nb_ok ?_, h2, h3, feed_set F h4 h5⟩
  refine (fn_rt (S' := S.set j (feedO l' cs p' (c + 1))) (d := .int d) rfl h1).trans ?_
  rw [trim_same (by rw [List.length_set])]
theorem compL_map {chk : List O → Bool} {t : Tg} {te : ME} {e : Env} {S : List O} {f : D → D} (hc : chk S = true) : ∀ {l acc : List D}, (∀ d ∈ l, ∃ e', t.f d e = some e' ∧ te e' S = .ok (f d) S) → acc.length + l.length ≤ sz → compL chk t mYes te e acc l S = .ok (acc ++ l.map f) S
  | [], acc, _, _ => by
    unfold compL
    rw [if_pos hc, List.map_nil, List.append_nil]
  | d :: l, acc, h, hs => by
    obtain ⟨e', h1, h2⟩ := h d List.mem_cons_self
    unfold compL
    rw [if_pos hc, h1]
    show R.bind (te e' S).nb _ = _
    rw [h2]
    show (if acc.length < sz then compL chk t mYes te e (acc ++ [f d]) l S else .bad) = _
    rw [List.length_cons] at hs
    rw [if_pos (by omega), compL_map hc (fun x hx => h x (List.mem_cons_of_mem _ hx)) (by rw [List.length_append]; simp; omega)]
    simp
theorem feed_call (ns : List Int) : ∃ cs, nbF (fnM 1 2 bFeed) [.kl (ns.map .int)] [] = .ok (.ref 0) [feedO 0 cs 0 0] ∧ FeedAt [feedO 0 cs 0 0] 0 0 cs 0 0 := by
  let cs : List Int := (cutD ns none (some 63)).map fun i => if i < 0 then -i else i
  have hcut : cutD (ns.map D.int) none (some 63) = (cutD ns none (some 63)).map D.int := by
    unfold cutD
    rw [List.length_map, List.map_take, List.map_drop]
  have hl : (cutD ns none (some 63)).length ≤ 63 := by
    unfold cutD
    rw [List.length_take]
    refine Nat.le_trans (Nat.min_le_left _ _) ?_
    show (min (Int.toNat 63) ns.length) - 0 ≤ 63
    omega
  refine ⟨cs, nb_ok ?_, rfl, Int.le_refl _, ?_, by simpa [cs] using hl, Int.le_refl _, Int.le_refl _⟩
  · refine (fn_rt (S' := [feedO 0 cs 0 0]) (d := .ref 0) rfl ?_).trans ?_
    · refine w_ret (v_new (S1 := []) (l := [.int 0, .lst (cs.map .int), .int 0, .int 0]) (v_cons v_C (v_cons ?_ (v_cons v_C (v_cons v_C v_nil)))) (show 4 ≤ 16777216 by decide))
      show (miSeq (mSl (mVar 0) moN (moS (mC (.int 63)))) [some (.kl (ns.map D.int)), none] []).bind _ = _
      rw [show miSeq (mSl (mVar 0) moN (moS (mC (.int 63)))) [some (.kl (ns.map D.int)), none] [] = .ok ((cutD ns none (some 63)).map D.int, anyS) [] by
        rw [← hcut]
        rfl]
      show (compL anyS (tgN 1) mYes (mCB gAbs (mCons (mVar 1) mNil)) [some (.kl (ns.map D.int)), none] [] ((cutD ns none (some 63)).map D.int) []).bind _ = _
      rw [compL_map (f := fun d => match d with | .int i => .int (if i < 0 then -i else i) | d => d) rfl ?_ ?_]
      · rw [List.nil_append, List.map_map]
        show R.ok _ _ = _
        congr 2
        simp [cs]
      · intro d hd
        obtain ⟨i, _, rfl⟩ := List.mem_map.mp hd
        exact ⟨_, rfl, v_cb (v_cons (v_var rfl) v_nil) rfl⟩
      · simp [sz]
        omega
    · rfl
  · intro x hx
    obtain ⟨i, _, rfl⟩ := List.mem_map.mp hx
    split <;> omega
theorem loop_inv {t : Tg} {b : MS} {I : Nat → Env → List O → Prop} {n : Nat} (h : ∀ (i : Nat), i < n → ∀ (d : D) (e : Env) (S : List O), I i e S → ∃ e' e1 S1, t.f d e = some e' ∧ b e' S = .nx e1 S1 ∧ I (i + 1) e1 S1) :
    ∀ {l : List D} {i : Nat} {e : Env} {S : List O}, i + l.length = n → I i e S → ∃ e1 S1, loopL anyS t b l e S = .nx e1 S1 ∧ I n e1 S1
  | [], i, e, S, hl, hI => ⟨e, S, by unfold loopL; rw [if_pos (show anyS S = true from rfl)], by simp at hl; exact hl ▸ hI⟩
  | d :: l, i, e, S, hl, hI => by
    rw [List.length_cons] at hl
    obtain ⟨e', e1, S1, h1, h2, h3⟩ := h i (by omega) d e S hI
    obtain ⟨e2, S2, h4, h5⟩ := loop_inv h (l := l) (i := i + 1) (by omega) h3
    refine ⟨e2, S2, ?_, h5⟩
    unfold loopL
    rw [if_pos (show anyS S = true from rfl), h1]
    dsimp only
    rw [h2]
    exact h4
theorem w_for {m : MI} {t : Tg} {b : MS} {e : Env} {S S1 : List O} {l : List D} {chk : List O → Bool} (h : m e S = .ok (l, chk) S1) : sFor m t b e S = loopL chk t b l e S1 := by unfold sFor; rw [h]; rfl
end Mo

namespace K61
open PySem PySem.Spec L2 PyProof.Rows Mo
def top (i : Nat) : Stmt := PySem.Challenge.pw_everyround_k61_shapes_of_sum_trees.main.body.getD i (.Pass ⟨0, 0, 0, 0⟩)
abbrev s__law_feed : Stmt := top 9
abbrev N__law_feed : List Str := ["_law_script", "_law_cell"]
abbrev P__law_feed : List Str := ["_law_script"]
theorem sc__law_feed : FnScope N__law_feed P__law_feed (defScope s__law_feed) := ⟨rfl, rfl, rfl, by decide +kernel, rfl, by decide +kernel, by decide +kernel⟩
def b__law_feed : MS :=
  sRet (mNew (mCons (mC (.int 0)) (mCons (mComp (miSeq (mSl (mVar 0) moN (moS (mC (.int 63))))) (tgN 1) mYes (mCB gAbs (mCons (mVar 1) mNil)) [1]) (mCons (mC (.int 0)) (mCons (mC (.int 0)) mNil)))))
abbrev m__law_feed : List D → List O → R D := nbF (fnM 1 2 b__law_feed)
abbrev s__law_join : Stmt := top 12
abbrev N__law_join : List Str := ["_law_one_here", "_law_two"]
abbrev P__law_join : List Str := ["_law_one_here", "_law_two"]
theorem sc__law_join : FnScope N__law_join P__law_join (defScope s__law_join) := ⟨rfl, rfl, rfl, by decide +kernel, rfl, by decide +kernel, by decide +kernel⟩
def b__law_join : MS :=
  sRet (mBin gAdd (mBin gAdd (mC (.str "(")) (mMt isS gJoin (mC (.str ",")) (mCons (mCB gSorted (mCons (mLst (mCons (mVar 0) (mCons (mVar 1) mNil))) mNil)) mNil))) (mC (.str ")")))
abbrev m__law_join : List D → List O → R D := nbF (fnM 2 2 b__law_join)
abbrev s__law_paired : Stmt := top 16
abbrev N__law_paired : List Str := ["_law_texts", "_law_found", "_law_spot"]
abbrev P__law_paired : List Str := ["_law_texts"]
theorem sc__law_paired : FnScope N__law_paired P__law_paired (defScope s__law_paired) := ⟨rfl, rfl, rfl, by decide +kernel, rfl, by decide +kernel, by decide +kernel⟩
def b__law_paired : MS :=
  sSeq (loopW (mTB (mBin gGt (mCB gLen (mCons (mVar 0) mNil)) (mC (.int 1)))) (
  sSeq (sAsg 1 (mNew mNil)) (
  sSeq (sFor (miRange rangeA3 (mCons (mC (.int 0)) (mCons (mCB gLen (mCons (mVar 0) mNil)) (mCons (mC (.int 2)) mNil)))) (tgN 2) (
  sExpr (mMt isL gAppend (mVar 1) (mCons (mIf (mTB (mBin gLt (mBin gAdd (mVar 2) (mC (.int 1))) (mCB gLen (mCons (mVar 0) mNil)))) (mCallP m__law_join (mCons (mBin gIx (mVar 0) (mVar 2)) (mCons (mBin gIx (mVar 0) (mBin gAdd (mVar 2) (mC (.int 1)))) mNil))) (mBin gIx (mVar 0) (mVar 2))) mNil)))) (
  sAsg 0 (mVar 1)))) 5) (
  sRet (mBin gIx (mVar 0) (mC (.int 0))))
abbrev m__law_paired : List D → List O → R D := nbF (fnM 1 3 b__law_paired)
abbrev s__law_draw : Stmt := top 10
abbrev N__law_draw : List Str := ["_law_feed_here", "_law_many", "_law_digit", "_law_cells", "_law_cell", "_law_mixed"]
abbrev P__law_draw : List Str := ["_law_feed_here", "_law_many"]
theorem sc__law_draw : FnScope N__law_draw P__law_draw (defScope s__law_draw) := ⟨rfl, rfl, rfl, by decide +kernel, rfl, by decide +kernel, by decide +kernel⟩
def b__law_draw : MS :=
  sSeq (sSet (mBin gAdd (mBin gIx (mVar 0) (mC (.int 3))) (mC (.int 1))) (mVar 0) (mC (.int 3))) (
  sSeq (sIf (mTB (mBin gGt (mBin gIx (mVar 0) (mC (.int 0))) (mC (.int 0)))) (
  sSeq (sAsg 2 (mBin gMod (mCB gInt (mCons (mBin gIx (mVar 0) (mC (.int 0))) mNil)) (mVar 1))) (
  sSeq (sSet (mBin gDiv (mBin gIx (mVar 0) (mC (.int 0))) (mVar 1)) (mVar 0) (mC (.int 0))) (
  sRet (mVar 2)))) (
  sNil)) (
  sSeq (sAsg 3 (mBin gAdd (mBin gIx (mVar 0) (mC (.int 1))) (mBin gMul (mLst (mCons (mC (.int 7)) mNil)) (mCB gInt (mCons (mBin gEq (mBin gIx (mVar 0) (mC (.int 1))) (mLst mNil)) mNil))))) (
  sSeq (sAsg 4 (mBin gIx (mVar 3) (mBin gMod (mCB gInt (mCons (mBin gIx (mVar 0) (mC (.int 2))) mNil)) (mCB gLen (mCons (mVar 3) mNil))))) (
  sSeq (sSet (mBin gAdd (mBin gIx (mVar 0) (mC (.int 2))) (mC (.int 1))) (mVar 0) (mC (.int 2))) (
  sSeq (sIf (mAnd (mTB (mBin gGe (mVar 4) (mBin gPow (mC (.int 10)) (mC (.int 18))))) (mTB (mBin gLe (mBin gIx (mVar 0) (mC (.int 2))) (mCB gLen (mCons (mVar 3) mNil))))) (
  sSeq (sSet (mBin gDiv (mVar 4) (mVar 1)) (mVar 0) (mC (.int 0))) (
  sRet (mBin gMod (mCB gInt (mCons (mVar 4) mNil)) (mVar 1)))) (
  sNil)) (
  sSeq (sAsg 5 (mBin gMod (mCB gInt (mCons (mBin gPow (mBin gAdd (mBin gMod (mCB gInt (mCons (mVar 4) mNil)) (mC (.int 2147483629))) (mBin gMul (mC (.int 99991)) (mBin gIx (mVar 0) (mC (.int 3))))) (mC (.int 5))) mNil)) (mC (.int 2305843009213693951)))) (
  sSeq (sAsg 5 (mBin gMod (mCB gInt (mCons (mBin gPow (mBin gAdd (mBin gAdd (mVar 5) (mBin gMul (mC (.int 7)) (mBin gIx (mVar 0) (mC (.int 3))))) (mC (.int 1))) (mC (.int 3))) mNil)) (mC (.int 2305843009213693921)))) (
  sRet (mBin gMod (mCB gInt (mCons (mBin gDiv (mVar 5) (mC (.int 1024))) mNil)) (mVar 1))))))))))
abbrev m__law_draw : List D → List O → R D := nbF (fnM 2 6 b__law_draw)
abbrev s__law_fold : Stmt := top 15
abbrev N__law_fold : List Str := ["_law_texts", "_law_found", "_law_text"]
abbrev P__law_fold : List Str := ["_law_texts"]
theorem sc__law_fold : FnScope N__law_fold P__law_fold (defScope s__law_fold) := ⟨rfl, rfl, rfl, by decide +kernel, rfl, by decide +kernel, by decide +kernel⟩
def b__law_fold : MS :=
  sSeq (sAsg 1 (mBin gIx (mVar 0) (mC (.int 0)))) (
  sSeq (sFor (miSeq (mSl (mVar 0) (moS (mC (.int 1))) moN)) (tgN 2) (
  sAsg 1 (mCallP m__law_join (mCons (mVar 1) (mCons (mVar 2) mNil))))) (
  sRet (mVar 1)))
abbrev m__law_fold : List D → List O → R D := nbF (fnM 1 3 b__law_fold)
abbrev s_added : Stmt := top 1
abbrev N_added : List Str := ["one", "other"]
abbrev P_added : List Str := ["one", "other"]
theorem sc_added : FnScope N_added P_added (defScope s_added) := ⟨rfl, rfl, rfl, by decide +kernel, rfl, by decide +kernel, by decide +kernel⟩
def b_added : MS :=
  sRet (mTup (mCons (mC (.str "round")) (mCons (mTup (mCons (mTup (mCons (mC (.int 1)) (mCons (mTup (mCons (mVar 0) mNil)) mNil))) (mCons (mTup (mCons (mC (.int 1)) (mCons (mTup (mCons (mVar 1) mNil)) mNil))) mNil))) mNil)))
abbrev m_added : List D → List O → R D := nbF (fnM 2 2 b_added)
abbrev s_put_row : Stmt := top 2
abbrev N_put_row : List Str := ["rows", "n", "one", "other"]
abbrev P_put_row : List Str := ["rows", "n", "one", "other"]
theorem sc_put_row : FnScope N_put_row P_put_row (defScope s_put_row) := ⟨rfl, rfl, rfl, by decide +kernel, rfl, by decide +kernel, by decide +kernel⟩
def b_put_row : MS :=
  sSeq (sExpr (mMt isL gAppend (mVar 0) (mCons (mCall m_added (mCons (mVar 2) (mCons (mVar 3) mNil))) mNil))) (
  sRet (mBin gSub (mBin gAdd (mVar 1) (mCB gLen (mCons (mVar 0) mNil))) (mC (.int 1))))
abbrev m_put_row : List D → List O → R D := nbF (fnM 4 4 b_put_row)
abbrev s_put_left : Stmt := top 3
abbrev N_put_left : List Str := ["rows", "n", "places", "found", "place"]
abbrev P_put_left : List Str := ["rows", "n", "places"]
theorem sc_put_left : FnScope N_put_left P_put_left (defScope s_put_left) := ⟨rfl, rfl, rfl, by decide +kernel, rfl, by decide +kernel, by decide +kernel⟩
def b_put_left : MS :=
  sSeq (sAsg 3 (mBin gIx (mVar 2) (mC (.int 0)))) (
  sSeq (sFor (miSeq (mSl (mVar 2) (moS (mC (.int 1))) moN)) (tgN 4) (
  sAsg 3 (mCall m_put_row (mCons (mVar 0) (mCons (mVar 1) (mCons (mVar 3) (mCons (mVar 4) mNil))))))) (
  sRet (mVar 3)))
abbrev m_put_left : List D → List O → R D := nbF (fnM 3 5 b_put_left)
abbrev s_left_tree : Stmt := top 5
abbrev N_left_tree : List Str := ["n", "rows", "out"]
abbrev P_left_tree : List Str := ["n"]
theorem sc_left_tree : FnScope N_left_tree P_left_tree (defScope s_left_tree) := ⟨rfl, rfl, rfl, by decide +kernel, rfl, by decide +kernel, by decide +kernel⟩
def b_left_tree : MS :=
  sSeq (sAsg 1 (mNew mNil)) (
  sSeq (sAsg 2 (mCall m_put_left (mCons (mVar 1) (mCons (mVar 0) (mCons (mListR rangeA1 (mCons (mVar 0) mNil)) mNil))))) (
  sRet (mTup (mCons (mVar 0) (mCons (mCB gTuple (mCons (mVar 1) mNil)) (mCons (mTup (mCons (mVar 2) mNil)) mNil))))))
abbrev m_left_tree : List D → List O → R D := nbF (fnM 1 3 b_left_tree)
abbrev s_put_pairs : Stmt := top 4
abbrev N_put_pairs : List Str := ["rows", "n", "places", "found", "at"]
abbrev P_put_pairs : List Str := ["rows", "n", "places"]
theorem sc_put_pairs : FnScope N_put_pairs P_put_pairs (defScope s_put_pairs) := ⟨rfl, rfl, rfl, by decide +kernel, rfl, by decide +kernel, by decide +kernel⟩
def b_put_pairs : MS :=
  sSeq (loopW (mTB (mBin gGt (mCB gLen (mCons (mVar 2) mNil)) (mC (.int 1)))) (
  sSeq (sAsg 3 (mNew mNil)) (
  sSeq (sFor (miRange rangeA3 (mCons (mC (.int 0)) (mCons (mBin gSub (mCB gLen (mCons (mVar 2) mNil)) (mC (.int 1))) (mCons (mC (.int 2)) mNil)))) (tgN 4) (
  sExpr (mMt isL gAppend (mVar 3) (mCons (mCall m_put_row (mCons (mVar 0) (mCons (mVar 1) (mCons (mBin gIx (mVar 2) (mVar 4)) (mCons (mBin gIx (mVar 2) (mBin gAdd (mVar 4) (mC (.int 1)))) mNil))))) mNil)))) (
  sAsg 2 (mBin gAdd (mVar 3) (mSl (mVar 2) (moS (mBin gMul (mC (.int 2)) (mCB gLen (mCons (mVar 3) mNil)))) moN))))) 5) (
  sRet (mBin gIx (mVar 2) (mC (.int 0))))
abbrev m_put_pairs : List D → List O → R D := nbF (fnM 3 5 b_put_pairs)
abbrev s_pairs_tree : Stmt := top 6
abbrev N_pairs_tree : List Str := ["n", "rows", "out"]
abbrev P_pairs_tree : List Str := ["n"]
theorem sc_pairs_tree : FnScope N_pairs_tree P_pairs_tree (defScope s_pairs_tree) := ⟨rfl, rfl, rfl, by decide +kernel, rfl, by decide +kernel, by decide +kernel⟩
def b_pairs_tree : MS :=
  sSeq (sAsg 1 (mNew mNil)) (
  sSeq (sAsg 2 (mCall m_put_pairs (mCons (mVar 1) (mCons (mVar 0) (mCons (mListR rangeA1 (mCons (mVar 0) mNil)) mNil))))) (
  sRet (mTup (mCons (mVar 0) (mCons (mCB gTuple (mCons (mVar 1) mNil)) (mCons (mTup (mCons (mVar 2) mNil)) mNil))))))
abbrev m_pairs_tree : List D → List O → R D := nbF (fnM 1 3 b_pairs_tree)
abbrev s_lanes_tree : Stmt := top 7
abbrev N_lanes_tree : List Str := ["n", "k", "rows", "found", "lane", "out"]
abbrev P_lanes_tree : List Str := ["n", "k"]
theorem sc_lanes_tree : FnScope N_lanes_tree P_lanes_tree (defScope s_lanes_tree) := ⟨rfl, rfl, rfl, by decide +kernel, rfl, by decide +kernel, by decide +kernel⟩
def b_lanes_tree : MS :=
  sSeq (sAsg 2 (mNew mNil)) (
  sSeq (sAsg 3 (mComp (miRange rangeA1 (mCons (mVar 1) mNil)) (tgN 4) mYes (mCall m_put_left (mCons (mVar 2) (mCons (mVar 0) (mCons (mListR rangeA3 (mCons (mVar 4) (mCons (mVar 0) (mCons (mVar 1) mNil)))) mNil)))) [4])) (
  sSeq (sAsg 5 (mCall m_put_pairs (mCons (mVar 2) (mCons (mVar 0) (mCons (mVar 3) mNil))))) (
  sRet (mTup (mCons (mVar 0) (mCons (mCB gTuple (mCons (mVar 2) mNil)) (mCons (mTup (mCons (mVar 5) mNil)) mNil)))))))
abbrev m_lanes_tree : List D → List O → R D := nbF (fnM 2 6 b_lanes_tree)
abbrev s__law_sides : Stmt := top 13
abbrev N__law_sides : List Str := ["_law_row", "_law_many", "_law_found", "_law_term", "_law_place", "_law_due"]
abbrev P__law_sides : List Str := ["_law_row", "_law_many"]
theorem sc__law_sides : FnScope N__law_sides P__law_sides (defScope s__law_sides) := ⟨rfl, rfl, rfl, by decide +kernel, rfl, by decide +kernel, by decide +kernel⟩
def b__law_sides : MS :=
  sSeq (sIf (mOr (mNot (mTB (mCB gIsi (mCons (mVar 0) (mCons (mC (.ty "tuple")) mNil))))) (mOr (mTB (mBin gNe (mCB gLen (mCons (mVar 0) mNil)) (mC (.int 2)))) (mOr (mNot (mTB (mCB gIsi (mCons (mBin gIx (mVar 0) (mC (.int 1))) (mCons (mC (.ty "tuple")) mNil))))) (mTB (mBin gNe (mCB gLen (mCons (mBin gIx (mVar 0) (mC (.int 1))) mNil)) (mC (.int 2))))))) (
  sRet (mC .non)) (
  sNil)) (
  sSeq (sAsg 2 (mNew mNil)) (
  sSeq (sFor (miSeq (mBin gIx (mVar 0) (mC (.int 1)))) (tgN 3) (
  sSeq (sIf (mOr (mNot (mTB (mCB gIsi (mCons (mVar 3) (mCons (mC (.ty "tuple")) mNil))))) (mOr (mTB (mBin gNe (mCB gLen (mCons (mVar 3) mNil)) (mC (.int 2)))) (mOr (mNot (mTB (mCB gIsi (mCons (mBin gIx (mVar 3) (mC (.int 1))) (mCons (mC (.ty "tuple")) mNil))))) (mTB (mBin gNe (mCB gLen (mCons (mBin gIx (mVar 3) (mC (.int 1))) mNil)) (mC (.int 1))))))) (
  sRet (mC .non)) (
  sNil)) (
  sExpr (mMt isL gAppend (mVar 2) (mCons (mBin gIx (mBin gIx (mVar 3) (mC (.int 1))) (mC (.int 0))) mNil))))) (
  sSeq (sIf (mTB (mBin gNe (mComp (miSeq (mVar 2)) (tgN 4) (mOr (mNot (mTB (mCB gIsi (mCons (mVar 4) (mCons (mC (.ty "int")) mNil))))) (mTB (mCB gIsi (mCons (mVar 4) (mCons (mC (.ty "bool")) mNil))))) (mVar 4) [4]) (mLst mNil))) (
  sRet (mC .non)) (
  sNil)) (
  sSeq (sIf (mTB (mBin gNe (mComp (miSeq (mVar 2)) (tgN 4) (mOr (mTB (mBin gLt (mVar 4) (mC (.int 0)))) (mTB (mBin gGe (mVar 4) (mVar 1)))) (mVar 4) [4]) (mLst mNil))) (
  sRet (mC .non)) (
  sNil)) (
  sSeq (sAsg 5 (mTup (mCons (mC (.str "round")) (mCons (mTup (mCons (mTup (mCons (mC (.int 1)) (mCons (mTup (mCons (mBin gIx (mVar 2) (mC (.int 0))) mNil)) mNil))) (mCons (mTup (mCons (mC (.int 1)) (mCons (mTup (mCons (mBin gIx (mVar 2) (mC (.int 1))) mNil)) mNil))) mNil))) mNil)))) (
  sRet (mIf (mTB (mReprEq gEq (mVar 0) (mVar 5))) (mVar 2) (mC .non))))))))
abbrev m__law_sides : List D → List O → R D := nbF (fnM 2 6 b__law_sides)
abbrev s__law_shape : Stmt := top 14
abbrev N__law_shape : List Str := ["_law_program", "_law_size", "_law_texts", "_law_used", "_law_spot", "_law_row", "_law_sides_here"]
abbrev P__law_shape : List Str := ["_law_program", "_law_size"]
theorem sc__law_shape : FnScope N__law_shape P__law_shape (defScope s__law_shape) := ⟨rfl, rfl, rfl, by decide +kernel, rfl, by decide +kernel, by decide +kernel⟩
def b__law_shape : MS :=
  sSeq (sIf (mOr (mNot (mTB (mCB gIsi (mCons (mVar 0) (mCons (mC (.ty "tuple")) mNil))))) (mOr (mTB (mBin gNe (mCB gLen (mCons (mVar 0) mNil)) (mC (.int 3)))) (mNot (mTB (mCB gIsi (mCons (mBin gIx (mVar 0) (mC (.int 1))) (mCons (mC (.ty "tuple")) mNil))))))) (
  sRet (mC (.str ""))) (
  sNil)) (
  sSeq (sIf (mOr (mTB (mReprEq gNe (mBin gIx (mVar 0) (mC (.int 0))) (mVar 1))) (mOr (mTB (mBin gNe (mCB gLen (mCons (mBin gIx (mVar 0) (mC (.int 1))) mNil)) (mBin gSub (mVar 1) (mC (.int 1))))) (mTB (mReprEq gNe (mBin gIx (mVar 0) (mC (.int 2))) (mTup (mCons (mBin gSub (mBin gMul (mC (.int 2)) (mVar 1)) (mC (.int 2))) mNil)))))) (
  sRet (mC (.str ""))) (
  sNil)) (
  sSeq (sPar 2 3 (mCons (mCompN (miRange rangeA1 (mCons (mVar 1) mNil)) (tgN 4) mYes (mCB gStr (mCons (mVar 4) mNil)) [4]) (mCons (mLst mNil) mNil))) (
  sSeq (sFor (miSeq (mBin gIx (mVar 0) (mC (.int 1)))) (tgN 5) (
  sSeq (sAsg 6 (mCall m__law_sides (mCons (mVar 5) (mCons (mCB gLen (mCons (mVar 2) mNil)) mNil)))) (
  sSeq (sIf (mTB (mBin gIsN (mVar 6) (mC .non))) (
  sRet (mC (.str ""))) (
  sNil)) (
  sSeq (sAsg 3 (mBin gAdd (mVar 3) (mVar 6))) (
  sExpr (mMt isL gAppend (mVar 2) (mCons (mCallP m__law_join (mCons (mBin gIx (mVar 2) (mBin gIx (mVar 6) (mC (.int 0)))) (mCons (mBin gIx (mVar 2) (mBin gIx (mVar 6) (mC (.int 1)))) mNil))) mNil))))))) (
  sRet (mIf (mTB (mBin gEq (mCB gSorted (mCons (mVar 3) mNil)) (mListR rangeA1 (mCons (mBin gSub (mBin gMul (mC (.int 2)) (mVar 1)) (mC (.int 2))) mNil)))) (mBin gIx (mVar 2) (mUn gNeg (mC (.int 1)))) (mC (.str "")))))))
abbrev m__law_shape : List D → List O → R D := nbF (fnM 2 7 b__law_shape)
abbrev s_law : Stmt := top 17
abbrev N_law : List Str := ["_law_script", "_law_feed_here", "_law_turn", "_law_inputs", "_law_count", "_law_texts", "_law_spot", "_law_lanes", "_law_due", "_law_found", "_law_tree"]
abbrev P_law : List Str := ["_law_script"]
theorem sc_law : FnScope N_law P_law (defScope s_law) := ⟨rfl, rfl, rfl, by decide +kernel, rfl, by decide +kernel, by decide +kernel⟩
def b_law : MS :=
  sSeq (sAsg 1 (mCall m__law_feed (mCons (mVar 0) mNil))) (
  sSeq (sFor (miRange rangeA1 (mCons (mC (.int 12)) mNil)) (tgN 2) (
  sSeq (sAsg 3 (mBin gAdd (mC (.int 1)) (mCall m__law_draw (mCons (mVar 1) (mCons (mC (.int 12)) mNil))))) (
  sSeq (sAsg 4 (mBin gAdd (mC (.int 1)) (mCall m__law_draw (mCons (mVar 1) (mCons (mVar 3) mNil))))) (
  sSeq (sAsg 5 (mComp (miRange rangeA1 (mCons (mVar 3) mNil)) (tgN 6) mYes (mCB gStr (mCons (mVar 6) mNil)) [6])) (
  sSeq (sAsg 7 (mCallP m__law_paired (mCons (mComp (miRange rangeA1 (mCons (mVar 4) mNil)) (tgN 6) mYes (mCallP m__law_fold (mCons (mSl3 (mVar 5) (moS (mVar 6)) moN (moS (mVar 4))) mNil)) [6]) mNil))) (
  sSeq (sAsg 8 (mLst (mCons (mCallP m__law_fold (mCons (mVar 5) mNil)) (mCons (mCallP m__law_paired (mCons (mVar 5) mNil)) (mCons (mVar 7) mNil))))) (
  sSeq (sAsg 9 (mLst (mCons (mCallP m_left_tree (mCons (mVar 3) mNil)) (mCons (mCallP m_pairs_tree (mCons (mVar 3) mNil)) (mCons (mCallP m_lanes_tree (mCons (mVar 3) (mCons (mVar 4) mNil))) mNil))))) (
  sSeq (sIf (mTB (mBin gNe (mComp (miSeq (mVar 9)) (tgN 10) mYes (mCallP m__law_shape (mCons (mVar 10) (mCons (mVar 3) mNil))) [10]) (mVar 8))) (
  sRet (mC (.bl false))) (
  sNil)) (
  sSeq (sAsg 9 (mLst (mCons (mCallKP 0 1 [0] m_left_tree mNil (mCons (mVar 3) mNil)) (mCons (mCallKP 0 1 [0] m_pairs_tree mNil (mCons (mVar 3) mNil)) (mCons (mCallKP 0 2 [0, 1] m_lanes_tree mNil (mCons (mVar 3) (mCons (mVar 4) mNil))) mNil))))) (
  sIf (mTB (mBin gNe (mComp (miSeq (mVar 9)) (tgN 10) mYes (mCallP m__law_shape (mCons (mVar 10) (mCons (mVar 3) mNil))) [10]) (mVar 8))) (
  sRet (mC (.bl false))) (
  sNil))))))))))) (
  sRet (mC (.bl true))))
abbrev m_law : List D → List O → R D := nbF (fnM 1 11 b_law)
structure Fa (K : PySem.W.Frag) (mg : Str → Option Value) (x : Str) (st : Stmt) (ps : List Str) (f : Addr) (fd : FuncData) : Prop where
  F : Fun K x x st f fd
  mg : mg x = some (.ref f)
  kp : PySem.W.keepIn K (.ref f) = true
  bi : Binds K fd ps []
structure Ad where
  a__law_feed : Addr
  d__law_feed : FuncData
  a__law_join : Addr
  d__law_join : FuncData
  a__law_paired : Addr
  d__law_paired : FuncData
  a__law_draw : Addr
  d__law_draw : FuncData
  a__law_fold : Addr
  d__law_fold : FuncData
  a_added : Addr
  d_added : FuncData
  a_put_row : Addr
  d_put_row : FuncData
  a_put_left : Addr
  d_put_left : FuncData
  a_left_tree : Addr
  d_left_tree : FuncData
  a_put_pairs : Addr
  d_put_pairs : FuncData
  a_pairs_tree : Addr
  d_pairs_tree : FuncData
  a_lanes_tree : Addr
  d_lanes_tree : FuncData
  a__law_sides : Addr
  d__law_sides : FuncData
  a__law_shape : Addr
  d__law_shape : FuncData
  a_law : Addr
  d_law : FuncData
structure Txt (K : PySem.W.Frag) (mg : Str → Option Value) (A : Ad) : Prop where
  F__law_feed : Fa K mg "_law_feed" s__law_feed P__law_feed A.a__law_feed A.d__law_feed
  F__law_join : Fa K mg "_law_join" s__law_join P__law_join A.a__law_join A.d__law_join
  F__law_paired : Fa K mg "_law_paired" s__law_paired P__law_paired A.a__law_paired A.d__law_paired
  F__law_draw : Fa K mg "_law_draw" s__law_draw P__law_draw A.a__law_draw A.d__law_draw
  F__law_fold : Fa K mg "_law_fold" s__law_fold P__law_fold A.a__law_fold A.d__law_fold
  F_added : Fa K mg "added" s_added P_added A.a_added A.d_added
  F_put_row : Fa K mg "put_row" s_put_row P_put_row A.a_put_row A.d_put_row
  F_put_left : Fa K mg "put_left" s_put_left P_put_left A.a_put_left A.d_put_left
  F_left_tree : Fa K mg "left_tree" s_left_tree P_left_tree A.a_left_tree A.d_left_tree
  F_put_pairs : Fa K mg "put_pairs" s_put_pairs P_put_pairs A.a_put_pairs A.d_put_pairs
  F_pairs_tree : Fa K mg "pairs_tree" s_pairs_tree P_pairs_tree A.a_pairs_tree A.d_pairs_tree
  F_lanes_tree : Fa K mg "lanes_tree" s_lanes_tree P_lanes_tree A.a_lanes_tree A.d_lanes_tree
  F__law_sides : Fa K mg "_law_sides" s__law_sides P__law_sides A.a__law_sides A.d__law_sides
  F__law_shape : Fa K mg "_law_shape" s__law_shape P__law_shape A.a__law_shape A.d__law_shape
  F_law : Fa K mg "law" s_law P_law A.a_law A.d_law
  K_lanes_tree_n_k : KBindsG K A.d_lanes_tree P_lanes_tree ["n", "k"] 0 [0, 1]
  K_left_tree_n : KBindsG K A.d_left_tree P_left_tree ["n"] 0 [0]
  K_pairs_tree_n : KBindsG K A.d_pairs_tree P_pairs_tree ["n"] 0 [0]
  n_abs : mg "abs" = none
  n_bool : mg "bool" = none
  n_int : mg "int" = none
  n_isinstance : mg "isinstance" = none
  n_len : mg "len" = none
  n_list : mg "list" = none
  n_range : mg "range" = none
  n_repr : mg "repr" = none
  n_sorted : mg "sorted" = none
  n_str : mg "str" = none
  n_tuple : mg "tuple" = none
section
variable {P : Program} {w : World} {K : PySem.W.Frag} {mg : Str → Option Value} {base : Heap} {A : Ad}
theorem ok__law_feed (T : Txt K mg A) : FnG P w K mg base CX0 1 A.a__law_feed A.d__law_feed P__law_feed fun vs H Q _ => spM K 1 (fnM 1 2 b__law_feed) vs H Q E0 :=
  fn_m T.F__law_feed.F sc__law_feed rfl rfl fun cdv A outer s H E hr => 
  sm_one (sm_ret (pm_new (am_cons pm_int (am_cons (pm_comp (own := [("_law_cell", 1)]) rfl sc__law_feed.nd (im_seq (pm_sl (pm_var 0) po_n (po_s pm_int))) (blkOk_by (N := N__law_feed) (sc := defScope s__law_feed) (by decide +kernel)) (fun _ _ _ _ _ => gm_name sc__law_feed.nd rfl (.inl rfl)) (fun _ _ _ _ _ => qms_nil) (fun _ _ _ _ _ => pm_cb c_abs (by rfl) T.n_abs (by first | exact PySem.boot_abs | exact PyProof.Rows.boot_abs | exact boot_abs | decide +kernel) (am_cons (pm_var 1) am_nil))) (am_cons pm_int (am_cons pm_int am_nil))))))
theorem ok__law_join (T : Txt K mg A) : FnG P w K mg base CX0 1 A.a__law_join A.d__law_join P__law_join fun vs H Q _ => spM K 2 (fnM 2 2 b__law_join) vs H Q E0 :=
  fn_m T.F__law_join.F sc__law_join rfl rfl fun cdv A outer s H E hr => 
  sm_one (sm_ret (pm_bin o_add (pm_bin o_add pm_str (pm_mt PySem.F.plainAttrs_str PySem.F.slot_str_join PySem.F.type_str_join t_join isS_ok pm_str (am_cons (pm_cb c_sorted (by rfl) T.n_sorted (by first | exact PySem.boot_sorted | exact PyProof.Rows.boot_sorted | exact boot_sorted | decide +kernel) (am_cons (pm_lst (am_cons (pm_var 0) (am_cons (pm_var 1) am_nil))) am_nil)) am_nil))) pm_str))
theorem ok__law_paired (T : Txt K mg A) : FnG P w K mg base CX0 2 A.a__law_paired A.d__law_paired P__law_paired fun vs H Q _ => spM K 1 (fnM 1 3 b__law_paired) vs H Q E0 :=
  fn_m T.F__law_paired.F sc__law_paired rfl rfl fun cdv A outer s H E hr => 
  sm_cons (sm_while 5 PassesOwn.never (qm_cmp o_gt (pm_cb c_len (by rfl) T.n_len (by first | exact PySem.boot_len | exact PyProof.Rows.boot_len | exact boot_len | decide +kernel) (am_cons (pm_var 0) am_nil)) pm_int) (
  sm_cons (sm_set sc__law_paired.nd rfl (.inl rfl) (pm_new am_nil)) (
  sm_cons (sm_for PassesOwn.never rfl (im_range3 (by rfl) T.n_range (am_cons pm_int (am_cons (pm_cb c_len (by rfl) T.n_len (by first | exact PySem.boot_len | exact PyProof.Rows.boot_len | exact boot_len | decide +kernel) (am_cons (pm_var 0) am_nil)) (am_cons pm_int am_nil)))) (gm_name sc__law_paired.nd rfl (.inl rfl)) (
  sm_one (sm_expr (pm_mt PySem.F.plainAttrs_list PySem.F.slot_list_append PySem.F.type_list_append t_append isL_ok (pm_var 1) (am_cons (pm_if (qm_cmp o_lt (pm_bin o_add (pm_var 2) pm_int) (pm_cb c_len (by rfl) T.n_len (by first | exact PySem.boot_len | exact PyProof.Rows.boot_len | exact boot_len | decide +kernel) (am_cons (pm_var 0) am_nil))) (pm_callP (ok__law_join T) hr (by rfl) T.F__law_join.mg T.F__law_join.kp T.F__law_join.bi (am_cons (pm_ix (pm_var 0) (pm_var 2)) (am_cons (pm_ix (pm_var 0) (pm_bin o_add (pm_var 2) pm_int)) am_nil))) (pm_ix (pm_var 0) (pm_var 2))) am_nil))))) (
  sm_one (sm_set sc__law_paired.nd rfl (.inl rfl) (pm_var 1)))))) (
  sm_one (sm_ret (pm_ix (pm_var 0) pm_int)))
theorem ok__law_draw (T : Txt K mg A) : FnG P w K mg base CX0 1 A.a__law_draw A.d__law_draw P__law_draw fun vs H Q _ => spM K 2 (fnM 2 6 b__law_draw) vs H Q E0 :=
  fn_m T.F__law_draw.F sc__law_draw rfl rfl fun cdv A outer s H E hr => 
  sm_cons (sm_item (pm_bin o_add (pm_ix (pm_var 0) pm_int) pm_int) (pm_var 0) pm_int) (
  sm_cons (sm_if (qm_cmp o_gt (pm_ix (pm_var 0) pm_int) pm_int) (
  sm_cons (sm_set sc__law_draw.nd rfl (.inl rfl) (pm_bin o_mod (pm_cty c_int (by rfl) T.n_int (by first | exact PySem.boot_int | exact PyProof.Rows.boot_int | exact boot_int | decide +kernel) (am_cons (pm_ix (pm_var 0) pm_int) am_nil)) (pm_var 1))) (
  sm_cons (sm_item (pm_bin o_div (pm_ix (pm_var 0) pm_int) (pm_var 1)) (pm_var 0) pm_int) (
  sm_one (sm_ret (pm_var 2))))) (
  sm_nil)) (
  sm_cons (sm_set sc__law_draw.nd rfl (.inl rfl) (pm_bin o_add (pm_ix (pm_var 0) pm_int) (pm_bin o_mul (pm_lst (am_cons pm_int am_nil)) (pm_cty c_int (by rfl) T.n_int (by first | exact PySem.boot_int | exact PyProof.Rows.boot_int | exact boot_int | decide +kernel) (am_cons (pm_cmp (o_eq hr.u64) (pm_ix (pm_var 0) pm_int) (pm_lst am_nil)) am_nil))))) (
  sm_cons (sm_set sc__law_draw.nd rfl (.inl rfl) (pm_ix (pm_var 3) (pm_bin o_mod (pm_cty c_int (by rfl) T.n_int (by first | exact PySem.boot_int | exact PyProof.Rows.boot_int | exact boot_int | decide +kernel) (am_cons (pm_ix (pm_var 0) pm_int) am_nil)) (pm_cb c_len (by rfl) T.n_len (by first | exact PySem.boot_len | exact PyProof.Rows.boot_len | exact boot_len | decide +kernel) (am_cons (pm_var 3) am_nil))))) (
  sm_cons (sm_item (pm_bin o_add (pm_ix (pm_var 0) pm_int) pm_int) (pm_var 0) pm_int) (
  sm_cons (sm_if ((qm_and (qm_cmp o_ge (pm_var 4) (pm_bin o_pow pm_int pm_int)) (qm_and1 (qm_cmp o_le (pm_ix (pm_var 0) pm_int) (pm_cb c_len (by rfl) T.n_len (by first | exact PySem.boot_len | exact PyProof.Rows.boot_len | exact boot_len | decide +kernel) (am_cons (pm_var 3) am_nil))))).pt) (
  sm_cons (sm_item (pm_bin o_div (pm_var 4) (pm_var 1)) (pm_var 0) pm_int) (
  sm_one (sm_ret (pm_bin o_mod (pm_cty c_int (by rfl) T.n_int (by first | exact PySem.boot_int | exact PyProof.Rows.boot_int | exact boot_int | decide +kernel) (am_cons (pm_var 4) am_nil)) (pm_var 1))))) (
  sm_nil)) (
  sm_cons (sm_set sc__law_draw.nd rfl (.inl rfl) (pm_bin o_mod (pm_cty c_int (by rfl) T.n_int (by first | exact PySem.boot_int | exact PyProof.Rows.boot_int | exact boot_int | decide +kernel) (am_cons (pm_bin o_pow (pm_bin o_add (pm_bin o_mod (pm_cty c_int (by rfl) T.n_int (by first | exact PySem.boot_int | exact PyProof.Rows.boot_int | exact boot_int | decide +kernel) (am_cons (pm_var 4) am_nil)) pm_int) (pm_bin o_mul pm_int (pm_ix (pm_var 0) pm_int))) pm_int) am_nil)) pm_int)) (
  sm_cons (sm_set sc__law_draw.nd rfl (.inl rfl) (pm_bin o_mod (pm_cty c_int (by rfl) T.n_int (by first | exact PySem.boot_int | exact PyProof.Rows.boot_int | exact boot_int | decide +kernel) (am_cons (pm_bin o_pow (pm_bin o_add (pm_bin o_add (pm_var 5) (pm_bin o_mul pm_int (pm_ix (pm_var 0) pm_int))) pm_int) pm_int) am_nil)) pm_int)) (
  sm_one (sm_ret (pm_bin o_mod (pm_cty c_int (by rfl) T.n_int (by first | exact PySem.boot_int | exact PyProof.Rows.boot_int | exact boot_int | decide +kernel) (am_cons (pm_bin o_div (pm_var 5) pm_int) am_nil)) (pm_var 1)))))))))))
theorem ok__law_fold (T : Txt K mg A) : FnG P w K mg base CX0 2 A.a__law_fold A.d__law_fold P__law_fold fun vs H Q _ => spM K 1 (fnM 1 3 b__law_fold) vs H Q E0 :=
  fn_m T.F__law_fold.F sc__law_fold rfl rfl fun cdv A outer s H E hr => 
  sm_cons (sm_set sc__law_fold.nd rfl (.inl rfl) (pm_ix (pm_var 0) pm_int)) (
  sm_cons (sm_for PassesOwn.never rfl (im_seq (pm_sl (pm_var 0) (po_s pm_int) po_n)) (gm_name sc__law_fold.nd rfl (.inl rfl)) (
  sm_one (sm_set sc__law_fold.nd rfl (.inl rfl) (pm_callP (ok__law_join T) hr (by rfl) T.F__law_join.mg T.F__law_join.kp T.F__law_join.bi (am_cons (pm_var 1) (am_cons (pm_var 2) am_nil)))))) (
  sm_one (sm_ret (pm_var 1))))
theorem ok_added (T : Txt K mg A) : FnG P w K mg base CX0 1 A.a_added A.d_added P_added fun vs H Q _ => spM K 2 (fnM 2 2 b_added) vs H Q E0 :=
  fn_m T.F_added.F sc_added rfl rfl fun cdv A outer s H E hr => 
  sm_one (sm_ret (pm_tup (am_cons pm_str (am_cons (pm_tup (am_cons (pm_tup (am_cons pm_int (am_cons (pm_tup (am_cons (pm_var 0) am_nil)) am_nil))) (am_cons (pm_tup (am_cons pm_int (am_cons (pm_tup (am_cons (pm_var 1) am_nil)) am_nil))) am_nil))) am_nil))))
theorem ok_put_row (T : Txt K mg A) : FnG P w K mg base CX0 2 A.a_put_row A.d_put_row P_put_row fun vs H Q _ => spM K 4 (fnM 4 4 b_put_row) vs H Q E0 :=
  fn_m T.F_put_row.F sc_put_row rfl rfl fun cdv A outer s H E hr => 
  sm_cons (sm_expr (pm_mt PySem.F.plainAttrs_list PySem.F.slot_list_append PySem.F.type_list_append t_append isL_ok (pm_var 0) (am_cons (pm_call (ok_added T) hr (by rfl) T.F_added.mg T.F_added.kp T.F_added.bi (am_cons (pm_var 2) (am_cons (pm_var 3) am_nil))) am_nil))) (
  sm_one (sm_ret (pm_bin o_sub (pm_bin o_add (pm_var 1) (pm_cb c_len (by rfl) T.n_len (by first | exact PySem.boot_len | exact PyProof.Rows.boot_len | exact boot_len | decide +kernel) (am_cons (pm_var 0) am_nil))) pm_int)))
theorem ok_put_left (T : Txt K mg A) : FnG P w K mg base CX0 3 A.a_put_left A.d_put_left P_put_left fun vs H Q _ => spM K 3 (fnM 3 5 b_put_left) vs H Q E0 :=
  fn_m T.F_put_left.F sc_put_left rfl rfl fun cdv A outer s H E hr => 
  sm_cons (sm_set sc_put_left.nd rfl (.inl rfl) (pm_ix (pm_var 2) pm_int)) (
  sm_cons (sm_for PassesOwn.never rfl (im_seq (pm_sl (pm_var 2) (po_s pm_int) po_n)) (gm_name sc_put_left.nd rfl (.inl rfl)) (
  sm_one (sm_set sc_put_left.nd rfl (.inl rfl) (pm_call (ok_put_row T) hr (by rfl) T.F_put_row.mg T.F_put_row.kp T.F_put_row.bi (am_cons (pm_var 0) (am_cons (pm_var 1) (am_cons (pm_var 3) (am_cons (pm_var 4) am_nil)))))))) (
  sm_one (sm_ret (pm_var 3))))
theorem ok_left_tree (T : Txt K mg A) : FnG P w K mg base CX0 4 A.a_left_tree A.d_left_tree P_left_tree fun vs H Q _ => spM K 1 (fnM 1 3 b_left_tree) vs H Q E0 :=
  fn_m T.F_left_tree.F sc_left_tree rfl rfl fun cdv A outer s H E hr => 
  sm_cons (sm_set sc_left_tree.nd rfl (.inl rfl) (pm_new am_nil)) (
  sm_cons (sm_set sc_left_tree.nd rfl (.inl rfl) (pm_call (ok_put_left T) hr (by rfl) T.F_put_left.mg T.F_put_left.kp T.F_put_left.bi (am_cons (pm_var 1) (am_cons (pm_var 0) (am_cons (pm_listR1 rfl (by rfl) T.n_list (by rfl) T.n_range (am_cons (pm_var 0) am_nil)) am_nil))))) (
  sm_one (sm_ret (pm_tup (am_cons (pm_var 0) (am_cons (pm_cty c_tuple (by rfl) T.n_tuple (by first | exact PySem.boot_tuple | exact PyProof.Rows.boot_tuple | exact boot_tuple | decide +kernel) (am_cons (pm_var 1) am_nil)) (am_cons (pm_tup (am_cons (pm_var 2) am_nil)) am_nil)))))))
theorem ok_put_pairs (T : Txt K mg A) : FnG P w K mg base CX0 3 A.a_put_pairs A.d_put_pairs P_put_pairs fun vs H Q _ => spM K 3 (fnM 3 5 b_put_pairs) vs H Q E0 :=
  fn_m T.F_put_pairs.F sc_put_pairs rfl rfl fun cdv A outer s H E hr => 
  sm_cons (sm_while 5 PassesOwn.never (qm_cmp o_gt (pm_cb c_len (by rfl) T.n_len (by first | exact PySem.boot_len | exact PyProof.Rows.boot_len | exact boot_len | decide +kernel) (am_cons (pm_var 2) am_nil)) pm_int) (
  sm_cons (sm_set sc_put_pairs.nd rfl (.inl rfl) (pm_new am_nil)) (
  sm_cons (sm_for PassesOwn.never rfl (im_range3 (by rfl) T.n_range (am_cons pm_int (am_cons (pm_bin o_sub (pm_cb c_len (by rfl) T.n_len (by first | exact PySem.boot_len | exact PyProof.Rows.boot_len | exact boot_len | decide +kernel) (am_cons (pm_var 2) am_nil)) pm_int) (am_cons pm_int am_nil)))) (gm_name sc_put_pairs.nd rfl (.inl rfl)) (
  sm_one (sm_expr (pm_mt PySem.F.plainAttrs_list PySem.F.slot_list_append PySem.F.type_list_append t_append isL_ok (pm_var 3) (am_cons (pm_call (ok_put_row T) hr (by rfl) T.F_put_row.mg T.F_put_row.kp T.F_put_row.bi (am_cons (pm_var 0) (am_cons (pm_var 1) (am_cons (pm_ix (pm_var 2) (pm_var 4)) (am_cons (pm_ix (pm_var 2) (pm_bin o_add (pm_var 4) pm_int)) am_nil))))) am_nil))))) (
  sm_one (sm_set sc_put_pairs.nd rfl (.inl rfl) (pm_bin o_add (pm_var 3) (pm_sl (pm_var 2) (po_s (pm_bin o_mul pm_int (pm_cb c_len (by rfl) T.n_len (by first | exact PySem.boot_len | exact PyProof.Rows.boot_len | exact boot_len | decide +kernel) (am_cons (pm_var 3) am_nil)))) po_n))))))) (
  sm_one (sm_ret (pm_ix (pm_var 2) pm_int)))
theorem ok_pairs_tree (T : Txt K mg A) : FnG P w K mg base CX0 4 A.a_pairs_tree A.d_pairs_tree P_pairs_tree fun vs H Q _ => spM K 1 (fnM 1 3 b_pairs_tree) vs H Q E0 :=
  fn_m T.F_pairs_tree.F sc_pairs_tree rfl rfl fun cdv A outer s H E hr => 
  sm_cons (sm_set sc_pairs_tree.nd rfl (.inl rfl) (pm_new am_nil)) (
  sm_cons (sm_set sc_pairs_tree.nd rfl (.inl rfl) (pm_call (ok_put_pairs T) hr (by rfl) T.F_put_pairs.mg T.F_put_pairs.kp T.F_put_pairs.bi (am_cons (pm_var 1) (am_cons (pm_var 0) (am_cons (pm_listR1 rfl (by rfl) T.n_list (by rfl) T.n_range (am_cons (pm_var 0) am_nil)) am_nil))))) (
  sm_one (sm_ret (pm_tup (am_cons (pm_var 0) (am_cons (pm_cty c_tuple (by rfl) T.n_tuple (by first | exact PySem.boot_tuple | exact PyProof.Rows.boot_tuple | exact boot_tuple | decide +kernel) (am_cons (pm_var 1) am_nil)) (am_cons (pm_tup (am_cons (pm_var 2) am_nil)) am_nil)))))))
theorem ok_lanes_tree (T : Txt K mg A) : FnG P w K mg base CX0 4 A.a_lanes_tree A.d_lanes_tree P_lanes_tree fun vs H Q _ => spM K 2 (fnM 2 6 b_lanes_tree) vs H Q E0 :=
  fn_m T.F_lanes_tree.F sc_lanes_tree rfl rfl fun cdv A outer s H E hr => 
  sm_cons (sm_set sc_lanes_tree.nd rfl (.inr rfl) (pm_new am_nil)) (
  sm_cons (sm_comp (own := [("lane", 4)]) rfl sc_lanes_tree.nd rfl rfl (sw_true rfl rfl rfl (by decide +kernel)) (im_range1 (by rfl) T.n_range (am_cons (pm_var 1) am_nil)) (blkOk_by (N := N_lanes_tree) (sc := defScope s_lanes_tree) (by decide +kernel)) (fun _ _ _ _ _ => gm_name sc_lanes_tree.nd rfl (.inl rfl)) (fun _ _ _ _ _ => qms_nil) (fun _ _ _ _ _ => pm_call (ok_put_left T) hr (by rfl) T.F_put_left.mg T.F_put_left.kp T.F_put_left.bi (am_cons (pm_var 2) (am_cons (pm_var 0) (am_cons (pm_listR3 rfl (by rfl) T.n_list (by rfl) T.n_range (am_cons (pm_var 4) (am_cons (pm_var 0) (am_cons (pm_var 1) am_nil)))) am_nil))))) (
  sm_cons (sm_set sc_lanes_tree.nd rfl (.inl rfl) (pm_call (ok_put_pairs T) hr (by rfl) T.F_put_pairs.mg T.F_put_pairs.kp T.F_put_pairs.bi (am_cons (pm_var 2) (am_cons (pm_var 0) (am_cons (pm_var 3) am_nil))))) (
  sm_one (sm_ret (pm_tup (am_cons (pm_var 0) (am_cons (pm_cty c_tuple (by rfl) T.n_tuple (by first | exact PySem.boot_tuple | exact PyProof.Rows.boot_tuple | exact boot_tuple | decide +kernel) (am_cons (pm_var 2) am_nil)) (am_cons (pm_tup (am_cons (pm_var 5) am_nil)) am_nil))))))))
theorem ok__law_sides (T : Txt K mg A) : FnG P w K mg base CX0 1 A.a__law_sides A.d__law_sides P__law_sides fun vs H Q _ => spM K 2 (fnM 2 6 b__law_sides) vs H Q E0 :=
  fn_m T.F__law_sides.F sc__law_sides rfl rfl fun cdv A outer s H E hr => 
  sm_cons (sm_if ((qm_or (qm_not (qm_val (pm_cb c_isi (by rfl) T.n_isinstance (by first | exact PySem.boot_isinstance | exact PyProof.Rows.boot_isinstance | exact boot_isinstance | decide +kernel) (am_cons (pm_var 0) (am_cons (pm_bltn (by rfl) T.n_tuple (by first | exact PySem.boot_tuple | exact PyProof.Rows.boot_tuple | exact boot_tuple | decide +kernel)) am_nil))))) (qm_or (qm_cmp (o_ne hr.u64) (pm_cb c_len (by rfl) T.n_len (by first | exact PySem.boot_len | exact PyProof.Rows.boot_len | exact boot_len | decide +kernel) (am_cons (pm_var 0) am_nil)) pm_int) (qm_or (qm_not (qm_val (pm_cb c_isi (by rfl) T.n_isinstance (by first | exact PySem.boot_isinstance | exact PyProof.Rows.boot_isinstance | exact boot_isinstance | decide +kernel) (am_cons (pm_ix (pm_var 0) pm_int) (am_cons (pm_bltn (by rfl) T.n_tuple (by first | exact PySem.boot_tuple | exact PyProof.Rows.boot_tuple | exact boot_tuple | decide +kernel)) am_nil))))) (qm_or1 (qm_cmp (o_ne hr.u64) (pm_cb c_len (by rfl) T.n_len (by first | exact PySem.boot_len | exact PyProof.Rows.boot_len | exact boot_len | decide +kernel) (am_cons (pm_ix (pm_var 0) pm_int) am_nil)) pm_int))))).pt) (
  sm_one (sm_ret pm_non)) (
  sm_nil)) (
  sm_cons (sm_set sc__law_sides.nd rfl (.inl rfl) (pm_new am_nil)) (
  sm_cons (sm_for PassesOwn.never rfl (im_seq (pm_ix (pm_var 0) pm_int)) (gm_name sc__law_sides.nd rfl (.inl rfl)) (
  sm_cons (sm_if ((qm_or (qm_not (qm_val (pm_cb c_isi (by rfl) T.n_isinstance (by first | exact PySem.boot_isinstance | exact PyProof.Rows.boot_isinstance | exact boot_isinstance | decide +kernel) (am_cons (pm_var 3) (am_cons (pm_bltn (by rfl) T.n_tuple (by first | exact PySem.boot_tuple | exact PyProof.Rows.boot_tuple | exact boot_tuple | decide +kernel)) am_nil))))) (qm_or (qm_cmp (o_ne hr.u64) (pm_cb c_len (by rfl) T.n_len (by first | exact PySem.boot_len | exact PyProof.Rows.boot_len | exact boot_len | decide +kernel) (am_cons (pm_var 3) am_nil)) pm_int) (qm_or (qm_not (qm_val (pm_cb c_isi (by rfl) T.n_isinstance (by first | exact PySem.boot_isinstance | exact PyProof.Rows.boot_isinstance | exact boot_isinstance | decide +kernel) (am_cons (pm_ix (pm_var 3) pm_int) (am_cons (pm_bltn (by rfl) T.n_tuple (by first | exact PySem.boot_tuple | exact PyProof.Rows.boot_tuple | exact boot_tuple | decide +kernel)) am_nil))))) (qm_or1 (qm_cmp (o_ne hr.u64) (pm_cb c_len (by rfl) T.n_len (by first | exact PySem.boot_len | exact PyProof.Rows.boot_len | exact boot_len | decide +kernel) (am_cons (pm_ix (pm_var 3) pm_int) am_nil)) pm_int))))).pt) (
  sm_one (sm_ret pm_non)) (
  sm_nil)) (
  sm_one (sm_expr (pm_mt PySem.F.plainAttrs_list PySem.F.slot_list_append PySem.F.type_list_append t_append isL_ok (pm_var 2) (am_cons (pm_ix (pm_ix (pm_var 3) pm_int) pm_int) am_nil)))))) (
  sm_cons (sm_if (qm_cmp (o_ne hr.u64) (pm_comp (own := [("_law_place", 4)]) rfl sc__law_sides.nd (im_seq (pm_var 2)) (blkOk_by (N := N__law_sides) (sc := defScope s__law_sides) (by decide +kernel)) (fun _ _ _ _ _ => gm_name sc__law_sides.nd rfl (.inl rfl)) (fun _ _ _ _ _ => qms_one ((qm_or (qm_not (qm_val (pm_cb c_isi (by rfl) T.n_isinstance (by first | exact PySem.boot_isinstance | exact PyProof.Rows.boot_isinstance | exact boot_isinstance | decide +kernel) (am_cons (pm_var 4) (am_cons (pm_bltn (by rfl) T.n_int (by first | exact PySem.boot_int | exact PyProof.Rows.boot_int | exact boot_int | decide +kernel)) am_nil))))) (qm_or1 (qm_val (pm_cb c_isi (by rfl) T.n_isinstance (by first | exact PySem.boot_isinstance | exact PyProof.Rows.boot_isinstance | exact boot_isinstance | decide +kernel) (am_cons (pm_var 4) (am_cons (pm_bltn (by rfl) T.n_bool (by first | exact PySem.boot_bool | exact PyProof.Rows.boot_bool | exact boot_bool | decide +kernel)) am_nil)))))).pt)) (fun _ _ _ _ _ => pm_var 4)) (pm_lst am_nil)) (
  sm_one (sm_ret pm_non)) (
  sm_nil)) (
  sm_cons (sm_if (qm_cmp (o_ne hr.u64) (pm_comp (own := [("_law_place", 4)]) rfl sc__law_sides.nd (im_seq (pm_var 2)) (blkOk_by (N := N__law_sides) (sc := defScope s__law_sides) (by decide +kernel)) (fun _ _ _ _ _ => gm_name sc__law_sides.nd rfl (.inl rfl)) (fun _ _ _ _ _ => qms_one ((qm_or (qm_cmp o_lt (pm_var 4) pm_int) (qm_or1 (qm_cmp o_ge (pm_var 4) (pm_var 1)))).pt)) (fun _ _ _ _ _ => pm_var 4)) (pm_lst am_nil)) (
  sm_one (sm_ret pm_non)) (
  sm_nil)) (
  sm_cons (sm_set sc__law_sides.nd rfl (.inl rfl) (pm_tup (am_cons pm_str (am_cons (pm_tup (am_cons (pm_tup (am_cons pm_int (am_cons (pm_tup (am_cons (pm_ix (pm_var 2) pm_int) am_nil)) am_nil))) (am_cons (pm_tup (am_cons pm_int (am_cons (pm_tup (am_cons (pm_ix (pm_var 2) pm_int) am_nil)) am_nil))) am_nil))) am_nil)))) (
  sm_one (sm_ret (pm_if (qm_reprEq (qm_cmp (o_eq hr.u64) (pm_cb (c_repr hr.g hr.u100) (by rfl) T.n_repr (by first | exact PySem.boot_repr | exact PyProof.Rows.boot_repr | exact boot_repr | decide +kernel) (am_cons (pm_var 0) am_nil)) (pm_cb (c_repr hr.g hr.u100) (by rfl) T.n_repr (by first | exact PySem.boot_repr | exact PyProof.Rows.boot_repr | exact boot_repr | decide +kernel) (am_cons (pm_var 5) am_nil)))) (pm_var 2) pm_non))))))))
theorem ok__law_shape (T : Txt K mg A) : FnG P w K mg base CX0 2 A.a__law_shape A.d__law_shape P__law_shape fun vs H Q _ => spM K 2 (fnM 2 7 b__law_shape) vs H Q E0 :=
  fn_m T.F__law_shape.F sc__law_shape rfl rfl fun cdv A outer s H E hr => 
  sm_cons (sm_if ((qm_or (qm_not (qm_val (pm_cb c_isi (by rfl) T.n_isinstance (by first | exact PySem.boot_isinstance | exact PyProof.Rows.boot_isinstance | exact boot_isinstance | decide +kernel) (am_cons (pm_var 0) (am_cons (pm_bltn (by rfl) T.n_tuple (by first | exact PySem.boot_tuple | exact PyProof.Rows.boot_tuple | exact boot_tuple | decide +kernel)) am_nil))))) (qm_or (qm_cmp (o_ne hr.u64) (pm_cb c_len (by rfl) T.n_len (by first | exact PySem.boot_len | exact PyProof.Rows.boot_len | exact boot_len | decide +kernel) (am_cons (pm_var 0) am_nil)) pm_int) (qm_or1 (qm_not (qm_val (pm_cb c_isi (by rfl) T.n_isinstance (by first | exact PySem.boot_isinstance | exact PyProof.Rows.boot_isinstance | exact boot_isinstance | decide +kernel) (am_cons (pm_ix (pm_var 0) pm_int) (am_cons (pm_bltn (by rfl) T.n_tuple (by first | exact PySem.boot_tuple | exact PyProof.Rows.boot_tuple | exact boot_tuple | decide +kernel)) am_nil)))))))).pt) (
  sm_one (sm_ret pm_str)) (
  sm_nil)) (
  sm_cons (sm_if ((qm_or (qm_reprNe (qm_cmp (o_ne hr.u64) (pm_cb (c_repr hr.g hr.u100) (by rfl) T.n_repr (by first | exact PySem.boot_repr | exact PyProof.Rows.boot_repr | exact boot_repr | decide +kernel) (am_cons (pm_ix (pm_var 0) pm_int) am_nil)) (pm_cb (c_repr hr.g hr.u100) (by rfl) T.n_repr (by first | exact PySem.boot_repr | exact PyProof.Rows.boot_repr | exact boot_repr | decide +kernel) (am_cons (pm_var 1) am_nil)))) (qm_or (qm_cmp (o_ne hr.u64) (pm_cb c_len (by rfl) T.n_len (by first | exact PySem.boot_len | exact PyProof.Rows.boot_len | exact boot_len | decide +kernel) (am_cons (pm_ix (pm_var 0) pm_int) am_nil)) (pm_bin o_sub (pm_var 1) pm_int)) (qm_or1 (qm_reprNe (qm_cmp (o_ne hr.u64) (pm_cb (c_repr hr.g hr.u100) (by rfl) T.n_repr (by first | exact PySem.boot_repr | exact PyProof.Rows.boot_repr | exact boot_repr | decide +kernel) (am_cons (pm_ix (pm_var 0) pm_int) am_nil)) (pm_cb (c_repr hr.g hr.u100) (by rfl) T.n_repr (by first | exact PySem.boot_repr | exact PyProof.Rows.boot_repr | exact boot_repr | decide +kernel) (am_cons (pm_tup (am_cons (pm_bin o_sub (pm_bin o_mul pm_int (pm_var 1)) pm_int) am_nil)) am_nil))))))).pt) (
  sm_one (sm_ret pm_str)) (
  sm_nil)) (
  sm_cons (sm_par rfl sc__law_shape.nd rfl rfl (by decide) rfl rfl (am_cons (pm_compN (own := [("_law_spot", 4)]) rfl sc__law_shape.nd (im_range1 (by rfl) T.n_range (am_cons (pm_var 1) am_nil)) (blkOk_by (N := N__law_shape) (sc := defScope s__law_shape) (by decide +kernel)) (fun _ _ _ _ _ => gm_name sc__law_shape.nd rfl (.inl rfl)) (fun _ _ _ _ _ => qms_nil) (fun _ _ _ _ _ => pm_cty c_str (by rfl) T.n_str (by first | exact PySem.boot_str | exact PyProof.Rows.boot_str | exact boot_str | decide +kernel) (am_cons (pm_var 4) am_nil))) (am_cons (pm_lst am_nil) am_nil)) (by rfl)) (
  sm_cons (sm_for PassesOwn.never rfl (im_seq (pm_ix (pm_var 0) pm_int)) (gm_name sc__law_shape.nd rfl (.inl rfl)) (
  sm_cons (sm_set sc__law_shape.nd rfl (.inl rfl) (pm_call (ok__law_sides T) hr (by rfl) T.F__law_sides.mg T.F__law_sides.kp T.F__law_sides.bi (am_cons (pm_var 5) (am_cons (pm_cb c_len (by rfl) T.n_len (by first | exact PySem.boot_len | exact PyProof.Rows.boot_len | exact boot_len | decide +kernel) (am_cons (pm_var 2) am_nil)) am_nil)))) (
  sm_cons (sm_if (qm_cmp o_isN (pm_var 6) pm_non) (
  sm_one (sm_ret pm_str)) (
  sm_nil)) (
  sm_cons (sm_set sc__law_shape.nd rfl (.inl rfl) (pm_bin o_add (pm_var 3) (pm_var 6))) (
  sm_one (sm_expr (pm_mt PySem.F.plainAttrs_list PySem.F.slot_list_append PySem.F.type_list_append t_append isL_ok (pm_var 2) (am_cons (pm_callP (ok__law_join T) hr (by rfl) T.F__law_join.mg T.F__law_join.kp T.F__law_join.bi (am_cons (pm_ix (pm_var 2) (pm_ix (pm_var 6) pm_int)) (am_cons (pm_ix (pm_var 2) (pm_ix (pm_var 6) pm_int)) am_nil))) am_nil)))))))) (
  sm_one (sm_ret (pm_if (qm_cmp (o_eq hr.u64) (pm_cb c_sorted (by rfl) T.n_sorted (by first | exact PySem.boot_sorted | exact PyProof.Rows.boot_sorted | exact boot_sorted | decide +kernel) (am_cons (pm_var 3) am_nil)) (pm_listR1 rfl (by rfl) T.n_list (by rfl) T.n_range (am_cons (pm_bin o_sub (pm_bin o_mul pm_int (pm_var 1)) pm_int) am_nil))) (pm_ix (pm_var 2) (pm_un o_neg pm_int)) pm_str))))))
theorem ok_law (T : Txt K mg A) : FnG P w K mg base CX0 5 A.a_law A.d_law P_law fun vs H Q _ => spM K 1 (fnM 1 11 b_law) vs H Q E0 :=
  fn_m T.F_law.F sc_law rfl rfl fun cdv A outer s H E hr => 
  sm_cons (sm_set sc_law.nd rfl (.inl rfl) (pm_call (ok__law_feed T) (hr.mono (by decide)) (by rfl) T.F__law_feed.mg T.F__law_feed.kp T.F__law_feed.bi (am_cons (pm_var 0) am_nil))) (
  sm_cons (sm_for PassesOwn.never rfl (im_range1 (by rfl) T.n_range (am_cons pm_int am_nil)) (gm_name sc_law.nd rfl (.inl rfl)) (
  sm_cons (sm_set sc_law.nd rfl (.inr rfl) (pm_bin o_add pm_int (pm_call (ok__law_draw T) (hr.mono (by decide)) (by rfl) T.F__law_draw.mg T.F__law_draw.kp T.F__law_draw.bi (am_cons (pm_var 1) (am_cons pm_int am_nil))))) (
  sm_cons (sm_set sc_law.nd rfl (.inr rfl) (pm_bin o_add pm_int (pm_call (ok__law_draw T) (hr.mono (by decide)) (by rfl) T.F__law_draw.mg T.F__law_draw.kp T.F__law_draw.bi (am_cons (pm_var 1) (am_cons (pm_var 3) am_nil))))) (
  sm_cons (sm_set sc_law.nd rfl (.inr rfl) (pm_comp (own := [("_law_spot", 6)]) rfl sc_law.nd (im_range1 (by rfl) T.n_range (am_cons (pm_var 3) am_nil)) (blkOk_by (N := N_law) (sc := defScope s_law) (by decide +kernel)) (fun _ _ _ _ _ => gm_name sc_law.nd rfl (.inl rfl)) (fun _ _ _ _ _ => qms_nil) (fun _ _ _ _ _ => pm_cty c_str (by rfl) T.n_str (by first | exact PySem.boot_str | exact PyProof.Rows.boot_str | exact boot_str | decide +kernel) (am_cons (pm_var 6) am_nil)))) (
  sm_cons (sm_set sc_law.nd rfl (.inl rfl) (pm_callP (ok__law_paired T) (hr.mono (by decide)) (by rfl) T.F__law_paired.mg T.F__law_paired.kp T.F__law_paired.bi (am_cons (pm_comp (own := [("_law_spot", 6)]) rfl sc_law.nd (im_range1 (by rfl) T.n_range (am_cons (pm_var 4) am_nil)) (blkOk_by (N := N_law) (sc := defScope s_law) (by decide +kernel)) (fun _ _ _ _ _ => gm_name sc_law.nd rfl (.inl rfl)) (fun _ _ _ _ _ => qms_nil) (fun _ _ _ _ _ => pm_callP (ok__law_fold T) (hr.mono (by decide)) (by rfl) T.F__law_fold.mg T.F__law_fold.kp T.F__law_fold.bi (am_cons (pm_sl3 (pm_var 5) (po_s (pm_var 6)) po_n (po_s (pm_var 4))) am_nil))) am_nil))) (
  sm_cons (sm_set sc_law.nd rfl (.inl rfl) (pm_lst (am_cons (pm_callP (ok__law_fold T) (hr.mono (by decide)) (by rfl) T.F__law_fold.mg T.F__law_fold.kp T.F__law_fold.bi (am_cons (pm_var 5) am_nil)) (am_cons (pm_callP (ok__law_paired T) (hr.mono (by decide)) (by rfl) T.F__law_paired.mg T.F__law_paired.kp T.F__law_paired.bi (am_cons (pm_var 5) am_nil)) (am_cons (pm_var 7) am_nil))))) (
  sm_cons (sm_set sc_law.nd rfl (.inl rfl) (pm_lst (am_cons (pm_callP (ok_left_tree T) hr (by rfl) T.F_left_tree.mg T.F_left_tree.kp T.F_left_tree.bi (am_cons (pm_var 3) am_nil)) (am_cons (pm_callP (ok_pairs_tree T) hr (by rfl) T.F_pairs_tree.mg T.F_pairs_tree.kp T.F_pairs_tree.bi (am_cons (pm_var 3) am_nil)) (am_cons (pm_callP (ok_lanes_tree T) hr (by rfl) T.F_lanes_tree.mg T.F_lanes_tree.kp T.F_lanes_tree.bi (am_cons (pm_var 3) (am_cons (pm_var 4) am_nil))) am_nil))))) (
  sm_cons (sm_if (qm_cmp (o_ne hr.u64) (pm_comp (own := [("_law_tree", 10)]) rfl sc_law.nd (im_seq (pm_var 9)) (blkOk_by (N := N_law) (sc := defScope s_law) (by decide +kernel)) (fun _ _ _ _ _ => gm_name sc_law.nd rfl (.inl rfl)) (fun _ _ _ _ _ => qms_nil) (fun _ _ _ _ _ => pm_callP (ok__law_shape T) (hr.mono (by decide)) (by rfl) T.F__law_shape.mg T.F__law_shape.kp T.F__law_shape.bi (am_cons (pm_var 10) (am_cons (pm_var 3) am_nil)))) (pm_var 8)) (
  sm_one (sm_ret pm_bl)) (
  sm_nil)) (
  sm_cons (sm_set sc_law.nd rfl (.inl rfl) (pm_lst (am_cons (pm_callKP0 (ok_left_tree T) hr (by rfl) T.F_left_tree.mg T.F_left_tree.kp T.K_left_tree_n rfl (km_cons (pm_var 3) km_nil) ⟨fun _ => rfl, fun _ => rfl, fun _ => rfl⟩) (am_cons (pm_callKP0 (ok_pairs_tree T) hr (by rfl) T.F_pairs_tree.mg T.F_pairs_tree.kp T.K_pairs_tree_n rfl (km_cons (pm_var 3) km_nil) ⟨fun _ => rfl, fun _ => rfl, fun _ => rfl⟩) (am_cons (pm_callKP0 (ok_lanes_tree T) hr (by rfl) T.F_lanes_tree.mg T.F_lanes_tree.kp T.K_lanes_tree_n_k rfl (km_cons (pm_var 3) (km_cons (pm_var 4) km_nil)) ⟨fun _ => rfl, fun _ => rfl, fun _ => rfl⟩) am_nil))))) (
  sm_one (sm_if (qm_cmp (o_ne hr.u64) (pm_comp (own := [("_law_tree", 10)]) rfl sc_law.nd (im_seq (pm_var 9)) (blkOk_by (N := N_law) (sc := defScope s_law) (by decide +kernel)) (fun _ _ _ _ _ => gm_name sc_law.nd rfl (.inl rfl)) (fun _ _ _ _ _ => qms_nil) (fun _ _ _ _ _ => pm_callP (ok__law_shape T) (hr.mono (by decide)) (by rfl) T.F__law_shape.mg T.F__law_shape.kp T.F__law_shape.bi (am_cons (pm_var 10) (am_cons (pm_var 3) am_nil)))) (pm_var 8)) (
  sm_one (sm_ret pm_bl)) (
  sm_nil)))))))))))) (
  sm_one (sm_ret pm_bl)))
end
theorem all_mk {l : PySem.W.OpenLaw} {w : World} {K : PySem.W.Frag} {h : Heap} {mg : Str → Option Value} {fa : Addr} (X : K.In h) (G : h.Ns mainGlobals mg) (hfa : mg "law" = some (.ref fa))
    {f0 : Addr} {od0 an0 : Option Addr} {sl0 : Array (Option Value)} {oc0 kV0 dc0 pm0 cd0 ct0 : Value}
    (a0 : PySem.W.nsIn K mainGlobals "_law_feed" = some (some (.ref f0))) (l0 : K.lookup f0 = some ⟨oc0, od0, .func (PySem.W.fnOf "_law_feed" "_law_feed" (defArgs s__law_feed) (defBody s__law_feed) (defScope s__law_feed) .none kV0 dc0 pm0 an0 cd0 ct0), sl0⟩) (c0 : PySem.W.codeIn K cd0 "_law_feed" = true) (k0 : PySem.W.keepIn K (.ref f0) = true)
    {f1 : Addr} {od1 an1 : Option Addr} {sl1 : Array (Option Value)} {oc1 kV1 dc1 pm1 cd1 ct1 : Value}
    (a1 : PySem.W.nsIn K mainGlobals "_law_join" = some (some (.ref f1))) (l1 : K.lookup f1 = some ⟨oc1, od1, .func (PySem.W.fnOf "_law_join" "_law_join" (defArgs s__law_join) (defBody s__law_join) (defScope s__law_join) .none kV1 dc1 pm1 an1 cd1 ct1), sl1⟩) (c1 : PySem.W.codeIn K cd1 "_law_join" = true) (k1 : PySem.W.keepIn K (.ref f1) = true)
    {f2 : Addr} {od2 an2 : Option Addr} {sl2 : Array (Option Value)} {oc2 kV2 dc2 pm2 cd2 ct2 : Value}
    (a2 : PySem.W.nsIn K mainGlobals "_law_paired" = some (some (.ref f2))) (l2 : K.lookup f2 = some ⟨oc2, od2, .func (PySem.W.fnOf "_law_paired" "_law_paired" (defArgs s__law_paired) (defBody s__law_paired) (defScope s__law_paired) .none kV2 dc2 pm2 an2 cd2 ct2), sl2⟩) (c2 : PySem.W.codeIn K cd2 "_law_paired" = true) (k2 : PySem.W.keepIn K (.ref f2) = true)
    {f3 : Addr} {od3 an3 : Option Addr} {sl3 : Array (Option Value)} {oc3 kV3 dc3 pm3 cd3 ct3 : Value}
    (a3 : PySem.W.nsIn K mainGlobals "_law_draw" = some (some (.ref f3))) (l3 : K.lookup f3 = some ⟨oc3, od3, .func (PySem.W.fnOf "_law_draw" "_law_draw" (defArgs s__law_draw) (defBody s__law_draw) (defScope s__law_draw) .none kV3 dc3 pm3 an3 cd3 ct3), sl3⟩) (c3 : PySem.W.codeIn K cd3 "_law_draw" = true) (k3 : PySem.W.keepIn K (.ref f3) = true)
    {f4 : Addr} {od4 an4 : Option Addr} {sl4 : Array (Option Value)} {oc4 kV4 dc4 pm4 cd4 ct4 : Value}
    (a4 : PySem.W.nsIn K mainGlobals "_law_fold" = some (some (.ref f4))) (l4 : K.lookup f4 = some ⟨oc4, od4, .func (PySem.W.fnOf "_law_fold" "_law_fold" (defArgs s__law_fold) (defBody s__law_fold) (defScope s__law_fold) .none kV4 dc4 pm4 an4 cd4 ct4), sl4⟩) (c4 : PySem.W.codeIn K cd4 "_law_fold" = true) (k4 : PySem.W.keepIn K (.ref f4) = true)
    {f5 : Addr} {od5 an5 : Option Addr} {sl5 : Array (Option Value)} {oc5 kV5 dc5 pm5 cd5 ct5 : Value}
    (a5 : PySem.W.nsIn K mainGlobals "added" = some (some (.ref f5))) (l5 : K.lookup f5 = some ⟨oc5, od5, .func (PySem.W.fnOf "added" "added" (defArgs s_added) (defBody s_added) (defScope s_added) .none kV5 dc5 pm5 an5 cd5 ct5), sl5⟩) (c5 : PySem.W.codeIn K cd5 "added" = true) (k5 : PySem.W.keepIn K (.ref f5) = true)
    {f6 : Addr} {od6 an6 : Option Addr} {sl6 : Array (Option Value)} {oc6 kV6 dc6 pm6 cd6 ct6 : Value}
    (a6 : PySem.W.nsIn K mainGlobals "put_row" = some (some (.ref f6))) (l6 : K.lookup f6 = some ⟨oc6, od6, .func (PySem.W.fnOf "put_row" "put_row" (defArgs s_put_row) (defBody s_put_row) (defScope s_put_row) .none kV6 dc6 pm6 an6 cd6 ct6), sl6⟩) (c6 : PySem.W.codeIn K cd6 "put_row" = true) (k6 : PySem.W.keepIn K (.ref f6) = true)
    {f7 : Addr} {od7 an7 : Option Addr} {sl7 : Array (Option Value)} {oc7 kV7 dc7 pm7 cd7 ct7 : Value}
    (a7 : PySem.W.nsIn K mainGlobals "put_left" = some (some (.ref f7))) (l7 : K.lookup f7 = some ⟨oc7, od7, .func (PySem.W.fnOf "put_left" "put_left" (defArgs s_put_left) (defBody s_put_left) (defScope s_put_left) .none kV7 dc7 pm7 an7 cd7 ct7), sl7⟩) (c7 : PySem.W.codeIn K cd7 "put_left" = true) (k7 : PySem.W.keepIn K (.ref f7) = true)
    {f8 : Addr} {od8 an8 : Option Addr} {sl8 : Array (Option Value)} {oc8 kV8 dc8 pm8 cd8 ct8 : Value}
    (a8 : PySem.W.nsIn K mainGlobals "left_tree" = some (some (.ref f8))) (l8 : K.lookup f8 = some ⟨oc8, od8, .func (PySem.W.fnOf "left_tree" "left_tree" (defArgs s_left_tree) (defBody s_left_tree) (defScope s_left_tree) .none kV8 dc8 pm8 an8 cd8 ct8), sl8⟩) (c8 : PySem.W.codeIn K cd8 "left_tree" = true) (k8 : PySem.W.keepIn K (.ref f8) = true)
    {f9 : Addr} {od9 an9 : Option Addr} {sl9 : Array (Option Value)} {oc9 kV9 dc9 pm9 cd9 ct9 : Value}
    (a9 : PySem.W.nsIn K mainGlobals "put_pairs" = some (some (.ref f9))) (l9 : K.lookup f9 = some ⟨oc9, od9, .func (PySem.W.fnOf "put_pairs" "put_pairs" (defArgs s_put_pairs) (defBody s_put_pairs) (defScope s_put_pairs) .none kV9 dc9 pm9 an9 cd9 ct9), sl9⟩) (c9 : PySem.W.codeIn K cd9 "put_pairs" = true) (k9 : PySem.W.keepIn K (.ref f9) = true)
    {f10 : Addr} {od10 an10 : Option Addr} {sl10 : Array (Option Value)} {oc10 kV10 dc10 pm10 cd10 ct10 : Value}
    (a10 : PySem.W.nsIn K mainGlobals "pairs_tree" = some (some (.ref f10))) (l10 : K.lookup f10 = some ⟨oc10, od10, .func (PySem.W.fnOf "pairs_tree" "pairs_tree" (defArgs s_pairs_tree) (defBody s_pairs_tree) (defScope s_pairs_tree) .none kV10 dc10 pm10 an10 cd10 ct10), sl10⟩) (c10 : PySem.W.codeIn K cd10 "pairs_tree" = true) (k10 : PySem.W.keepIn K (.ref f10) = true)
    {f11 : Addr} {od11 an11 : Option Addr} {sl11 : Array (Option Value)} {oc11 kV11 dc11 pm11 cd11 ct11 : Value}
    (a11 : PySem.W.nsIn K mainGlobals "lanes_tree" = some (some (.ref f11))) (l11 : K.lookup f11 = some ⟨oc11, od11, .func (PySem.W.fnOf "lanes_tree" "lanes_tree" (defArgs s_lanes_tree) (defBody s_lanes_tree) (defScope s_lanes_tree) .none kV11 dc11 pm11 an11 cd11 ct11), sl11⟩) (c11 : PySem.W.codeIn K cd11 "lanes_tree" = true) (k11 : PySem.W.keepIn K (.ref f11) = true)
    {f12 : Addr} {od12 an12 : Option Addr} {sl12 : Array (Option Value)} {oc12 kV12 dc12 pm12 cd12 ct12 : Value}
    (a12 : PySem.W.nsIn K mainGlobals "_law_sides" = some (some (.ref f12))) (l12 : K.lookup f12 = some ⟨oc12, od12, .func (PySem.W.fnOf "_law_sides" "_law_sides" (defArgs s__law_sides) (defBody s__law_sides) (defScope s__law_sides) .none kV12 dc12 pm12 an12 cd12 ct12), sl12⟩) (c12 : PySem.W.codeIn K cd12 "_law_sides" = true) (k12 : PySem.W.keepIn K (.ref f12) = true)
    {f13 : Addr} {od13 an13 : Option Addr} {sl13 : Array (Option Value)} {oc13 kV13 dc13 pm13 cd13 ct13 : Value}
    (a13 : PySem.W.nsIn K mainGlobals "_law_shape" = some (some (.ref f13))) (l13 : K.lookup f13 = some ⟨oc13, od13, .func (PySem.W.fnOf "_law_shape" "_law_shape" (defArgs s__law_shape) (defBody s__law_shape) (defScope s__law_shape) .none kV13 dc13 pm13 an13 cd13 ct13), sl13⟩) (c13 : PySem.W.codeIn K cd13 "_law_shape" = true) (k13 : PySem.W.keepIn K (.ref f13) = true)
    {f14 : Addr} {od14 an14 : Option Addr} {sl14 : Array (Option Value)} {oc14 kV14 dc14 pm14 cd14 ct14 : Value}
    (a14 : PySem.W.nsIn K mainGlobals "law" = some (some (.ref f14))) (l14 : K.lookup f14 = some ⟨oc14, od14, .func (PySem.W.fnOf "law" "law" (defArgs s_law) (defBody s_law) (defScope s_law) .none kV14 dc14 pm14 an14 cd14 ct14), sl14⟩) (c14 : PySem.W.codeIn K cd14 "law" = true) (k14 : PySem.W.keepIn K (.ref f14) = true)
    (z_abs : PySem.W.nsIn K mainGlobals "abs" = some none)
    (z_bool : PySem.W.nsIn K mainGlobals "bool" = some none)
    (z_int : PySem.W.nsIn K mainGlobals "int" = some none)
    (z_isinstance : PySem.W.nsIn K mainGlobals "isinstance" = some none)
    (z_len : PySem.W.nsIn K mainGlobals "len" = some none)
    (z_list : PySem.W.nsIn K mainGlobals "list" = some none)
    (z_range : PySem.W.nsIn K mainGlobals "range" = some none)
    (z_repr : PySem.W.nsIn K mainGlobals "repr" = some none)
    (z_sorted : PySem.W.nsIn K mainGlobals "sorted" = some none)
    (z_str : PySem.W.nsIn K mainGlobals "str" = some none)
    (z_tuple : PySem.W.nsIn K mainGlobals "tuple" = some none)
    : ∃ fd : FuncData, (∀ (s : Shared) (u : Value), BindsTo s fd ⟨[u], []⟩ [("_law_script", u)]) ∧ ∀ base : Heap, K.In base → base.Ns mainGlobals mg → FnG l.prog w K mg base CX0 5 fa fd ["_law_script"] fun vs H Q _ => spM K 1 (fnM 1 11 b_law) vs H Q E0 := by
  have e := hfa.symm.trans (PySem.W.mg_of X G a14)
  cases e
  have F0 := fun_mk (st := s__law_feed) l0 c0 k0
  have b0 := F0.binds (ps := P__law_feed) fun _ _ _ _ _ _ us hl => match us, hl with | [_], _ => rfl
  have F1 := fun_mk (st := s__law_join) l1 c1 k1
  have b1 := F1.binds (ps := P__law_join) fun _ _ _ _ _ _ us hl => match us, hl with | [_, _], _ => rfl
  have F2 := fun_mk (st := s__law_paired) l2 c2 k2
  have b2 := F2.binds (ps := P__law_paired) fun _ _ _ _ _ _ us hl => match us, hl with | [_], _ => rfl
  have F3 := fun_mk (st := s__law_draw) l3 c3 k3
  have b3 := F3.binds (ps := P__law_draw) fun _ _ _ _ _ _ us hl => match us, hl with | [_, _], _ => rfl
  have F4 := fun_mk (st := s__law_fold) l4 c4 k4
  have b4 := F4.binds (ps := P__law_fold) fun _ _ _ _ _ _ us hl => match us, hl with | [_], _ => rfl
  have F5 := fun_mk (st := s_added) l5 c5 k5
  have b5 := F5.binds (ps := P_added) fun _ _ _ _ _ _ us hl => match us, hl with | [_, _], _ => rfl
  have F6 := fun_mk (st := s_put_row) l6 c6 k6
  have b6 := F6.binds (ps := P_put_row) fun _ _ _ _ _ _ us hl => match us, hl with | [_, _, _, _], _ => rfl
  have F7 := fun_mk (st := s_put_left) l7 c7 k7
  have b7 := F7.binds (ps := P_put_left) fun _ _ _ _ _ _ us hl => match us, hl with | [_, _, _], _ => rfl
  have F8 := fun_mk (st := s_left_tree) l8 c8 k8
  have b8 := F8.binds (ps := P_left_tree) fun _ _ _ _ _ _ us hl => match us, hl with | [_], _ => rfl
  have F9 := fun_mk (st := s_put_pairs) l9 c9 k9
  have b9 := F9.binds (ps := P_put_pairs) fun _ _ _ _ _ _ us hl => match us, hl with | [_, _, _], _ => rfl
  have F10 := fun_mk (st := s_pairs_tree) l10 c10 k10
  have b10 := F10.binds (ps := P_pairs_tree) fun _ _ _ _ _ _ us hl => match us, hl with | [_], _ => rfl
  have F11 := fun_mk (st := s_lanes_tree) l11 c11 k11
  have b11 := F11.binds (ps := P_lanes_tree) fun _ _ _ _ _ _ us hl => match us, hl with | [_, _], _ => rfl
  have F12 := fun_mk (st := s__law_sides) l12 c12 k12
  have b12 := F12.binds (ps := P__law_sides) fun _ _ _ _ _ _ us hl => match us, hl with | [_, _], _ => rfl
  have F13 := fun_mk (st := s__law_shape) l13 c13 k13
  have b13 := F13.binds (ps := P__law_shape) fun _ _ _ _ _ _ us hl => match us, hl with | [_, _], _ => rfl
  have F14 := fun_mk (st := s_law) l14 c14 k14
  have b14 := F14.binds (ps := P_law) fun _ _ _ _ _ _ us hl => match us, hl with | [_], _ => rfl
  let A : Ad := ⟨f0, PySem.W.fnOf "_law_feed" "_law_feed" (defArgs s__law_feed) (defBody s__law_feed) (defScope s__law_feed) .none kV0 dc0 pm0 an0 cd0 ct0, f1, PySem.W.fnOf "_law_join" "_law_join" (defArgs s__law_join) (defBody s__law_join) (defScope s__law_join) .none kV1 dc1 pm1 an1 cd1 ct1, f2, PySem.W.fnOf "_law_paired" "_law_paired" (defArgs s__law_paired) (defBody s__law_paired) (defScope s__law_paired) .none kV2 dc2 pm2 an2 cd2 ct2, f3, PySem.W.fnOf "_law_draw" "_law_draw" (defArgs s__law_draw) (defBody s__law_draw) (defScope s__law_draw) .none kV3 dc3 pm3 an3 cd3 ct3, f4, PySem.W.fnOf "_law_fold" "_law_fold" (defArgs s__law_fold) (defBody s__law_fold) (defScope s__law_fold) .none kV4 dc4 pm4 an4 cd4 ct4, f5, PySem.W.fnOf "added" "added" (defArgs s_added) (defBody s_added) (defScope s_added) .none kV5 dc5 pm5 an5 cd5 ct5, f6, PySem.W.fnOf "put_row" "put_row" (defArgs s_put_row) (defBody s_put_row) (defScope s_put_row) .none kV6 dc6 pm6 an6 cd6 ct6, f7, PySem.W.fnOf "put_left" "put_left" (defArgs s_put_left) (defBody s_put_left) (defScope s_put_left) .none kV7 dc7 pm7 an7 cd7 ct7, f8, PySem.W.fnOf "left_tree" "left_tree" (defArgs s_left_tree) (defBody s_left_tree) (defScope s_left_tree) .none kV8 dc8 pm8 an8 cd8 ct8, f9, PySem.W.fnOf "put_pairs" "put_pairs" (defArgs s_put_pairs) (defBody s_put_pairs) (defScope s_put_pairs) .none kV9 dc9 pm9 an9 cd9 ct9, f10, PySem.W.fnOf "pairs_tree" "pairs_tree" (defArgs s_pairs_tree) (defBody s_pairs_tree) (defScope s_pairs_tree) .none kV10 dc10 pm10 an10 cd10 ct10, f11, PySem.W.fnOf "lanes_tree" "lanes_tree" (defArgs s_lanes_tree) (defBody s_lanes_tree) (defScope s_lanes_tree) .none kV11 dc11 pm11 an11 cd11 ct11, f12, PySem.W.fnOf "_law_sides" "_law_sides" (defArgs s__law_sides) (defBody s__law_sides) (defScope s__law_sides) .none kV12 dc12 pm12 an12 cd12 ct12, f13, PySem.W.fnOf "_law_shape" "_law_shape" (defArgs s__law_shape) (defBody s__law_shape) (defScope s__law_shape) .none kV13 dc13 pm13 an13 cd13 ct13, fa, PySem.W.fnOf "law" "law" (defArgs s_law) (defBody s_law) (defScope s_law) .none kV14 dc14 pm14 an14 cd14 ct14⟩
  have T : Txt K mg A := ⟨⟨F0, PySem.W.mg_of X G a0, k0, b0⟩, ⟨F1, PySem.W.mg_of X G a1, k1, b1⟩, ⟨F2, PySem.W.mg_of X G a2, k2, b2⟩, ⟨F3, PySem.W.mg_of X G a3, k3, b3⟩, ⟨F4, PySem.W.mg_of X G a4, k4, b4⟩, ⟨F5, PySem.W.mg_of X G a5, k5, b5⟩, ⟨F6, PySem.W.mg_of X G a6, k6, b6⟩, ⟨F7, PySem.W.mg_of X G a7, k7, b7⟩, ⟨F8, PySem.W.mg_of X G a8, k8, b8⟩, ⟨F9, PySem.W.mg_of X G a9, k9, b9⟩, ⟨F10, PySem.W.mg_of X G a10, k10, b10⟩, ⟨F11, PySem.W.mg_of X G a11, k11, b11⟩, ⟨F12, PySem.W.mg_of X G a12, k12, b12⟩, ⟨F13, PySem.W.mg_of X G a13, k13, b13⟩, ⟨F14, PySem.W.mg_of X G a14, k14, b14⟩, (fun s us ws _ h1 h2 => match us, ws, h1, h2 with | [], [_, _], _, _ => .of_eq rfl), (fun s us ws _ h1 h2 => match us, ws, h1, h2 with | [], [_], _, _ => .of_eq rfl), (fun s us ws _ h1 h2 => match us, ws, h1, h2 with | [], [_], _, _ => .of_eq rfl), PySem.W.mg_none_of X G z_abs, PySem.W.mg_none_of X G z_bool, PySem.W.mg_none_of X G z_int, PySem.W.mg_none_of X G z_isinstance, PySem.W.mg_none_of X G z_len, PySem.W.mg_none_of X G z_list, PySem.W.mg_none_of X G z_range, PySem.W.mg_none_of X G z_repr, PySem.W.mg_none_of X G z_sorted, PySem.W.mg_none_of X G z_str, PySem.W.mg_none_of X G z_tuple⟩
  exact ⟨A.d_law, fun s v => .of_eq rfl, fun base _ _ => ok_law T⟩
theorem fin {l : PySem.W.OpenLaw} {w : World} {K : PySem.W.Frag} {mg : Str → Option Value} {fa : Addr} (hlaw : ∀ ns : List Int, ns.length ≤ 63 → ∃ S, fnM 1 11 b_law [.kl (ns.map D.int)] [] = .ok (.bl true) S)
    (hh : ∃ fd : FuncData, (∀ (s : Shared) (u : Value), BindsTo s fd ⟨[u], []⟩ [("_law_script", u)]) ∧ ∀ base : Heap, K.In base → base.Ns mainGlobals mg → FnG l.prog w K mg base CX0 5 fa fd ["_law_script"] fun vs H Q _ => spM K 1 (fnM 1 11 b_law) vs H Q E0) :
    ∃ fd : FuncData, (∀ (s : Shared) (u : Value), BindsTo s fd ⟨[u], []⟩ [("_law_script", u)]) ∧ ∃ b : MS, (∀ ns : List Int, ns.length ≤ 63 → ∃ S, fnM 1 11 b [.kl (ns.map D.int)] [] = .ok (.bl true) S) ∧
        ∀ base : Heap, K.In base → base.Ns mainGlobals mg → FnG l.prog w K mg base CX0 5 fa fd ["_law_script"] fun vs H Q _ => spM K 1 (fnM 1 11 b) vs H Q E0 :=
  let ⟨fd, h1, h2⟩ := hh
  ⟨fd, h1, b_law, hlaw, h2⟩
end K61

namespace K61
open PySem PySem.Spec L2 PyProof.Rows Mo
def rest : MS :=
  sSeq (sAsg 5 (mComp (miRange rangeA1 (mCons (mVar 3) mNil)) (tgN 6) mYes (mCB gStr (mCons (mVar 6) mNil)) [6])) (
  sSeq (sAsg 7 (mCallP m__law_paired (mCons (mComp (miRange rangeA1 (mCons (mVar 4) mNil)) (tgN 6) mYes (mCallP m__law_fold (mCons (mSl3 (mVar 5) (moS (mVar 6)) moN (moS (mVar 4))) mNil)) [6]) mNil))) (
  sSeq (sAsg 8 (mLst (mCons (mCallP m__law_fold (mCons (mVar 5) mNil)) (mCons (mCallP m__law_paired (mCons (mVar 5) mNil)) (mCons (mVar 7) mNil))))) (
  sSeq (sAsg 9 (mLst (mCons (mCallP m_left_tree (mCons (mVar 3) mNil)) (mCons (mCallP m_pairs_tree (mCons (mVar 3) mNil)) (mCons (mCallP m_lanes_tree (mCons (mVar 3) (mCons (mVar 4) mNil))) mNil))))) (
  sSeq (sIf (mTB (mBin gNe (mComp (miSeq (mVar 9)) (tgN 10) mYes (mCallP m__law_shape (mCons (mVar 10) (mCons (mVar 3) mNil))) [10]) (mVar 8))) (
  sRet (mC (.bl false))) (
  sNil)) (
  sSeq (sAsg 9 (mLst (mCons (mCallKP 0 1 [0] m_left_tree mNil (mCons (mVar 3) mNil)) (mCons (mCallKP 0 1 [0] m_pairs_tree mNil (mCons (mVar 3) mNil)) (mCons (mCallKP 0 2 [0, 1] m_lanes_tree mNil (mCons (mVar 3) (mCons (mVar 4) mNil))) mNil))))) (
  sIf (mTB (mBin gNe (mComp (miSeq (mVar 9)) (tgN 10) mYes (mCallP m__law_shape (mCons (mVar 10) (mCons (mVar 3) mNil))) [10]) (mVar 8))) (
  sRet (mC (.bl false))) (
  sNil)))))))
def pick : RS → Option (Option D × List O)
  | .nx [_, a, _, _, _, _, _, _, _, _, _] S => some (a, S)
  | _ => none
def ks (n : Nat) : List Int := (List.range n).map fun k => ((k + 1 : Nat) : Int)
theorem rests1 (x0 x2 x5 x6 x7 x8 x9 x10 : Option D) (S : List O) : ((ks 1).map fun k => pick (rest [x0, some (.ref 0), x2, some (.int 1), some (.int k), x5, x6, x7, x8, x9, x10] S)) = (ks 1).map fun _ => some (some (.ref 0), S) := by kernel_rfl
theorem rests2 (x0 x2 x5 x6 x7 x8 x9 x10 : Option D) (S : List O) : ((ks 2).map fun k => pick (rest [x0, some (.ref 0), x2, some (.int 2), some (.int k), x5, x6, x7, x8, x9, x10] S)) = (ks 2).map fun _ => some (some (.ref 0), S) := by kernel_rfl
theorem rests3 (x0 x2 x5 x6 x7 x8 x9 x10 : Option D) (S : List O) : ((ks 3).map fun k => pick (rest [x0, some (.ref 0), x2, some (.int 3), some (.int k), x5, x6, x7, x8, x9, x10] S)) = (ks 3).map fun _ => some (some (.ref 0), S) := by kernel_rfl
theorem rests4 (x0 x2 x5 x6 x7 x8 x9 x10 : Option D) (S : List O) : ((ks 4).map fun k => pick (rest [x0, some (.ref 0), x2, some (.int 4), some (.int k), x5, x6, x7, x8, x9, x10] S)) = (ks 4).map fun _ => some (some (.ref 0), S) := by kernel_rfl
theorem rests5 (x0 x2 x5 x6 x7 x8 x9 x10 : Option D) (S : List O) : ((ks 5).map fun k => pick (rest [x0, some (.ref 0), x2, some (.int 5), some (.int k), x5, x6, x7, x8, x9, x10] S)) = (ks 5).map fun _ => some (some (.ref 0), S) := by kernel_rfl
theorem rests6 (x0 x2 x5 x6 x7 x8 x9 x10 : Option D) (S : List O) : ((ks 6).map fun k => pick (rest [x0, some (.ref 0), x2, some (.int 6), some (.int k), x5, x6, x7, x8, x9, x10] S)) = (ks 6).map fun _ => some (some (.ref 0), S) := by kernel_rfl
theorem rests7 (x0 x2 x5 x6 x7 x8 x9 x10 : Option D) (S : List O) : ((ks 7).map fun k => pick (rest [x0, some (.ref 0), x2, some (.int 7), some (.int k), x5, x6, x7, x8, x9, x10] S)) = (ks 7).map fun _ => some (some (.ref 0), S) := by kernel_rfl
theorem rests8 (x0 x2 x5 x6 x7 x8 x9 x10 : Option D) (S : List O) : ((ks 8).map fun k => pick (rest [x0, some (.ref 0), x2, some (.int 8), some (.int k), x5, x6, x7, x8, x9, x10] S)) = (ks 8).map fun _ => some (some (.ref 0), S) := by kernel_rfl
theorem rests9 (x0 x2 x5 x6 x7 x8 x9 x10 : Option D) (S : List O) : ((ks 9).map fun k => pick (rest [x0, some (.ref 0), x2, some (.int 9), some (.int k), x5, x6, x7, x8, x9, x10] S)) = (ks 9).map fun _ => some (some (.ref 0), S) := by kernel_rfl
theorem rests10 (x0 x2 x5 x6 x7 x8 x9 x10 : Option D) (S : List O) : ((ks 10).map fun k => pick (rest [x0, some (.ref 0), x2, some (.int 10), some (.int k), x5, x6, x7, x8, x9, x10] S)) = (ks 10).map fun _ => some (some (.ref 0), S) := by kernel_rfl
theorem rests11 (x0 x2 x5 x6 x7 x8 x9 x10 : Option D) (S : List O) : ((ks 11).map fun k => pick (rest [x0, some (.ref 0), x2, some (.int 11), some (.int k), x5, x6, x7, x8, x9, x10] S)) = (ks 11).map fun _ => some (some (.ref 0), S) := by kernel_rfl
theorem rests12 (x0 x2 x5 x6 x7 x8 x9 x10 : Option D) (S : List O) : ((ks 12).map fun k => pick (rest [x0, some (.ref 0), x2, some (.int 12), some (.int k), x5, x6, x7, x8, x9, x10] S)) = (ks 12).map fun _ => some (some (.ref 0), S) := by kernel_rfl
theorem ks_mem {n : Nat} {k : Int} (h3 : 1 ≤ k) (h4 : k ≤ n) : k ∈ ks n := List.mem_map.mpr ⟨(k - 1).toNat, List.mem_range.mpr (by omega), by omega⟩
theorem rest_at {n k : Int} (h1 : 1 ≤ n) (h2 : n ≤ 12) (h3 : 1 ≤ k) (h4 : k ≤ n) (x0 x2 x5 x6 x7 x8 x9 x10 : Option D) (S : List O) :
    pick (rest [x0, some (.ref 0), x2, some (.int n), some (.int k), x5, x6, x7, x8, x9, x10] S) = some (some (.ref 0), S) := by
  have c : n = 1 ∨ n = 2 ∨ n = 3 ∨ n = 4 ∨ n = 5 ∨ n = 6 ∨ n = 7 ∨ n = 8 ∨ n = 9 ∨ n = 10 ∨ n = 11 ∨ n = 12 := by omega
  rcases c with rfl | rfl | rfl | rfl | rfl | rfl | rfl | rfl | rfl | rfl | rfl | rfl
  · exact List.map_inj_left.mp (rests1 x0 x2 x5 x6 x7 x8 x9 x10 S) k (ks_mem h3 h4)
  · exact List.map_inj_left.mp (rests2 x0 x2 x5 x6 x7 x8 x9 x10 S) k (ks_mem h3 h4)
  · exact List.map_inj_left.mp (rests3 x0 x2 x5 x6 x7 x8 x9 x10 S) k (ks_mem h3 h4)
  · exact List.map_inj_left.mp (rests4 x0 x2 x5 x6 x7 x8 x9 x10 S) k (ks_mem h3 h4)
  · exact List.map_inj_left.mp (rests5 x0 x2 x5 x6 x7 x8 x9 x10 S) k (ks_mem h3 h4)
  · exact List.map_inj_left.mp (rests6 x0 x2 x5 x6 x7 x8 x9 x10 S) k (ks_mem h3 h4)
  · exact List.map_inj_left.mp (rests7 x0 x2 x5 x6 x7 x8 x9 x10 S) k (ks_mem h3 h4)
  · exact List.map_inj_left.mp (rests8 x0 x2 x5 x6 x7 x8 x9 x10 S) k (ks_mem h3 h4)
  · exact List.map_inj_left.mp (rests9 x0 x2 x5 x6 x7 x8 x9 x10 S) k (ks_mem h3 h4)
  · exact List.map_inj_left.mp (rests10 x0 x2 x5 x6 x7 x8 x9 x10 S) k (ks_mem h3 h4)
  · exact List.map_inj_left.mp (rests11 x0 x2 x5 x6 x7 x8 x9 x10 S) k (ks_mem h3 h4)
  · exact List.map_inj_left.mp (rests12 x0 x2 x5 x6 x7 x8 x9 x10 S) k (ks_mem h3 h4)
theorem pick_inv {r : RS} {S : List O} (h : pick r = some (some (.ref 0), S)) : ∃ a0 a2 a3 a4 a5 a6 a7 a8 a9 a10, r = .nx [a0, some (.ref 0), a2, a3, a4, a5, a6, a7, a8, a9, a10] S := by
  unfold pick at h
  split at h
  · cases h
    exact ⟨_, _, _, _, _, _, _, _, _, _, rfl⟩
  · cases h
def Iv (i : Nat) (e : Mo.Env) (S : List O) : Prop := ∃ a0 a2 a3 a4 a5 a6 a7 a8 a9 a10, e = [a0, some (.ref 0), a2, a3, a4, a5, a6, a7, a8, a9, a10] ∧ ∃ l cs p c, FeedAt S 0 l cs p c ∧ c ≤ 2 * i
def body : MS := sSeq (sAsg 3 (mBin gAdd (mC (.int 1)) (mCall m__law_draw (mCons (mVar 1) (mCons (mC (.int 12)) mNil))))) (
  sSeq (sAsg 4 (mBin gAdd (mC (.int 1)) (mCall m__law_draw (mCons (mVar 1) (mCons (mVar 3) mNil))))) rest)
theorem turn (i : Nat) (hi : i < 12) (d : D) (e : Mo.Env) (S : List O) (h : Iv i e S) : ∃ e' e1 S1, (tgN 2).f d e = some e' ∧ body e' S = .nx e1 S1 ∧ Iv (i + 1) e1 S1 := by
  obtain ⟨a0, a2, a3, a4, a5, a6, a7, a8, a9, a10, rfl, l, cs, p, c, F, hc⟩ := h
  obtain ⟨n, l1, p1, c1, n0, n1, F1⟩ := draw_call (many := 12) F (by decide) (by decide) (by omega)
  obtain ⟨k, l2, p2, c2, k0, k1, F2⟩ := draw_call (many := 1 + n) F1 (by omega) (by omega) (by omega)
  obtain ⟨b0, b2, b3, b4, b5, b6, b7, b8, b9, b10, hr⟩ := pick_inv (rest_at (n := 1 + n) (k := 1 + k) (by omega) (by omega) (by omega) (by omega) a0 (some d) a5 a6 a7 a8 a9 a10 ((S.set 0 (feedO l1 cs p1 (c + 1))).set 0 (feedO l2 cs p2 (c + 1 + 1))))
  refine ⟨_, _, _, rfl, ?_, b0, b2, b3, b4, b5, b6, b7, b8, b9, b10, rfl, l2, cs, p2, c + 1 + 1, F2, by omega⟩
  refine w_seq (w_asg (v_bin v_C (v_call (v_cons (v_var rfl) (v_cons v_C v_nil)) c1) x_addI)) ?_
  refine w_seq (w_asg (v_bin v_C (v_call (v_cons (v_var rfl) (v_cons (v_var rfl) v_nil)) c2) x_addI)) ?_
  exact hr
theorem law_true : ∀ ns : List Int, ns.length ≤ 63 → ∃ S, fnM 1 11 b_law [.kl (ns.map D.int)] [] = .ok (.bl true) S := by
  intro ns _
  obtain ⟨cs, hf, F⟩ := feed_call ns
  obtain ⟨e1, S1, h1, _⟩ := loop_inv (t := tgN 2) (b := body) (I := Iv) (n := 12) turn (i := 0) (l := rangeD 0 1 12) rfl (e := [some (.kl (ns.map .int)), some (.ref 0), none, none, none, none, none, none, none, none, none]) (S := [feedO 0 cs 0 0]) ⟨_, _, _, _, _, _, _, _, _, _, rfl, 0, cs, 0, 0, F, by decide⟩
  refine ⟨_, fn_rt (S' := S1) (d := .bl true) rfl ?_⟩
  refine w_seq (w_asg (v_call (v_cons (v_var rfl) v_nil) hf)) ?_
  refine w_seq (e1 := e1) (S1 := S1) ?_ (w_ret v_C)
  exact (w_for (l := rangeD 0 1 12) (S1 := [feedO 0 cs 0 0]) rfl).trans h1
end K61

open PySem PySem.W PyProof.Rows
set_option maxRecDepth 100000 in
set_option maxHeartbeats 0 in
theorem PySem.Challenge.cw_everyround_k61_shapes_of_sum_trees_holds : PySem.Challenge.rw_everyround_k61_shapes_of_sum_trees.Holds := by
  w_on; o_law; k_head; (case hw => w_witness2)
  k_fill
  refine Mo.walk_G (l := PySem.Challenge.rw_everyround_k61_shapes_of_sum_trees) (k := 5) (np := 1) (nn := 11) (x := "_law_script") rfl rfl ⟨rfl, by decide, by decide⟩ (fun w h Y => PySem.W.kIn_of Y) ?F
  case F =>
    intro w mg fa h KX G hmg
    refine K61.fin (l := PySem.Challenge.rw_everyround_k61_shapes_of_sum_trees) (w := w) K61.law_true ?_
    refine' K61.all_mk KX G hmg ?a0 ?l0 ?c0 ?k0 ?a1 ?l1 ?c1 ?k1 ?a2 ?l2 ?c2 ?k2 ?a3 ?l3 ?c3 ?k3 ?a4 ?l4 ?c4 ?k4 ?a5 ?l5 ?c5 ?k5 ?a6 ?l6 ?c6 ?k6 ?a7 ?l7 ?c7 ?k7 ?a8 ?l8 ?c8 ?k8 ?a9 ?l9 ?c9 ?k9 ?a10 ?l10 ?c10 ?k10 ?a11 ?l11 ?c11 ?k11 ?a12 ?l12 ?c12 ?k12 ?a13 ?l13 ?c13 ?k13 ?a14 ?l14 ?c14 ?k14 ?z_abs ?z_bool ?z_int ?z_isinstance ?z_len ?z_list ?z_range ?z_repr ?z_sorted ?z_str ?z_tuple
    (case a0 => k_is)
    (case l0 => k_is)
    (case c0 => k_is)
    (case k0 => k_is)
    (case a1 => k_is)
    (case l1 => k_is)
    (case c1 => k_is)
    (case k1 => k_is)
    (case a2 => k_is)
    (case l2 => k_is)
    (case c2 => k_is)
    (case k2 => k_is)
    (case a3 => k_is)
    (case l3 => k_is)
    (case c3 => k_is)
    (case k3 => k_is)
    (case a4 => k_is)
    (case l4 => k_is)
    (case c4 => k_is)
    (case k4 => k_is)
    (case a5 => k_is)
    (case l5 => k_is)
    (case c5 => k_is)
    (case k5 => k_is)
    (case a6 => k_is)
    (case l6 => k_is)
    (case c6 => k_is)
    (case k6 => k_is)
    (case a7 => k_is)
    (case l7 => k_is)
    (case c7 => k_is)
    (case k7 => k_is)
    (case a8 => k_is)
    (case l8 => k_is)
    (case c8 => k_is)
    (case k8 => k_is)
    (case a9 => k_is)
    (case l9 => k_is)
    (case c9 => k_is)
    (case k9 => k_is)
    (case a10 => k_is)
    (case l10 => k_is)
    (case c10 => k_is)
    (case k10 => k_is)
    (case a11 => k_is)
    (case l11 => k_is)
    (case c11 => k_is)
    (case k11 => k_is)
    (case a12 => k_is)
    (case l12 => k_is)
    (case c12 => k_is)
    (case k12 => k_is)
    (case a13 => k_is)
    (case l13 => k_is)
    (case c13 => k_is)
    (case k13 => k_is)
    (case a14 => k_is)
    (case l14 => k_is)
    (case c14 => k_is)
    (case k14 => k_is)
    (case z_abs => k_is)
    (case z_bool => k_is)
    (case z_int => k_is)
    (case z_isinstance => k_is)
    (case z_len => k_is)
    (case z_list => k_is)
    (case z_range => k_is)
    (case z_repr => k_is)
    (case z_sorted => k_is)
    (case z_str => k_is)
    (case z_tuple => k_is)

