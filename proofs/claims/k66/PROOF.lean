import PyProof.Rows.All
import Wide.All
import OpenK.AllK
import Wide.FinOn
import HandS.ForMost
import HandS.IsInst
import HandS.TupAny
import HandS.Conv
import HandS.Wide
import HandS.SortInts
import HandS.RaiseMore
import HandS.DictComp
import KE.GoesMore
import KE.GoesEnum
import HandS.Style
import HandS.WordsDict
import PySem.Challenge.RW_everyround_k66_whole_numbers_of_sum_tree
set_option Elab.async false
set_option linter.all false
set_option maxRecDepth 100000
set_option maxHeartbeats 1000000
/-! A layer of my own over HandS: data as trees (D), mutable objects by number (O), programs as plain functions of them. -/
namespace Mo
open PySem L2

/-- data: scalars, tuples and lists by value, mutable objects by their number -/
inductive D where
  | non | bl (b : Bool) | int (i : Int) | str (x : Str) | ty (n : String) | adr (a : Addr) | ref (n : Nat) | tup (l : List D) | lst (l : List D) | kl (l : List D)
mutual
def D.beq : D → D → Bool
  | .non, .non => true
  | .bl a, .bl b => a == b
  | .int i, .int j => decide (i = j)
  | .str x, .str y => decide (x = y)
  | .ty x, .ty y => decide (x = y)
  | .adr x, .adr y => decide (x = y)
  | .ref x, .ref y => decide (x = y)
  | .tup l, .tup m => D.beqs l m
  | .lst l, .lst m => D.beqs l m
  | .kl l, .kl m => D.beqs l m
  | _, _ => false
def D.beqs : List D → List D → Bool
  | [], [] => true
  | x :: l, y :: m => D.beq x y && D.beqs l m
  | _, _ => false
end
mutual
theorem D.beq_eq : ∀ (x y : D), D.beq x y = true → x = y
  | .non, y, h => by cases y <;> simp [D.beq] at h <;> rfl
  | .bl a, y, h => by cases y <;> simp [D.beq] at h; rw [h]
  | .int a, y, h => by cases y <;> simp [D.beq] at h; rw [h]
  | .str a, y, h => by cases y <;> simp [D.beq] at h; rw [h]
  | .ty a, y, h => by cases y <;> simp [D.beq] at h; rw [h]
  | .adr a, y, h => by cases y <;> simp [D.beq] at h; rw [h]
  | .ref a, y, h => by cases y <;> simp [D.beq] at h; rw [h]
  | .tup l, y, h => by
    cases y <;> simp [D.beq] at h
    rw [D.beqs_eq l _ h]
  | .lst l, y, h => by
    cases y <;> simp [D.beq] at h
    rw [D.beqs_eq l _ h]
  | .kl l, y, h => by
    cases y <;> simp [D.beq] at h
    rw [D.beqs_eq l _ h]
theorem D.beqs_eq : ∀ (x y : List D), D.beqs x y = true → x = y
  | [], y, h => by cases y <;> simp [D.beqs] at h; rfl
  | x :: l, y, h => by
    cases y with
    | nil => simp [D.beqs] at h
    | cons y m =>
      simp [D.beqs] at h
      rw [D.beq_eq x y h.1, D.beqs_eq l m h.2]
end
mutual
theorem D.beq_refl : ∀ (x : D), D.beq x x = true
  | .non => rfl
  | .bl a => by simp [D.beq]
  | .int a => by simp [D.beq]
  | .str a => by simp [D.beq]
  | .ty a => by simp [D.beq]
  | .adr a => by simp [D.beq]
  | .ref a => by simp [D.beq]
  | .tup l => by rw [D.beq]; exact D.beqs_refl l
  | .lst l => by rw [D.beq]; exact D.beqs_refl l
  | .kl l => by rw [D.beq]; exact D.beqs_refl l
theorem D.beqs_refl : ∀ (x : List D), D.beqs x x = true
  | [] => rfl
  | x :: l => by rw [D.beqs, D.beq_refl x, D.beqs_refl l]; rfl
end
instance : DecidableEq D := fun x y => if h : D.beq x y = true then isTrue (D.beq_eq x y h) else isFalse fun e => h (e ▸ D.beq_refl x)

/-- a mutable object; gone: no longer one's own -/
inductive O where
  | gone | lst (l : List D) | dct (l : List (Key × D)) | ins (C : Addr) (fs : List (Str × D)) | fdct (l : List (Key × D))
  deriving DecidableEq
/-- may change: neither gone nor locked (fdct: a dict that is walked through) -/
def O.act : O → Bool
  | .gone => false
  | .fdct _ => false
  | _ => true
theorem O.act_ne {o : O} (h : o.act = true) : o ≠ .gone := fun z => by subst z; cases h

/-- the ground: addresses that others hold as mutable, where one's own objects stand, these objects, the abstract heap -/
structure G where
  N : Addr → Prop
  ρ : Nat → Addr
  S : List O
  H : Hp
def G.Live (g : G) (a : Addr) : Prop := ∃ i o, g.S[i]? = some o ∧ o.act = true ∧ g.ρ i = a
def G.Pr (g : G) (a : Addr) : Prop := ¬ g.N a ∧ ¬ g.Live a

def H0 : Hp := fun _ => none
def gT (K : PySem.W.Frag) (g : G) (a : Addr) (vs : List V) : Prop := (Rd g.H a (.tup vs) ∧ g.Pr a) ∨ SqT K H0 a vs
def gL (g : G) (a : Addr) (vs : List V) : Prop := Rd g.H a (.lst vs) ∧ g.Pr a
def gK (K : PySem.W.Frag) (g : G) (a : Addr) (vs : List V) : Prop := gL g a vs ∨ SqL K H0 a vs
theorem not_rd0 {a : Addr} {u : HO} (h : Rd H0 a u) : False := by
  rcases h with h | ⟨o, h⟩ <;> cases h
theorem gT.sq {K : PySem.W.Frag} {g : G} {a : Addr} {vs : List V} (h : gT K g a vs) : SqT K g.H a vs := by
  rcases h with ⟨h, _⟩ | h | h
  · exact .inl h
  · exact (not_rd0 h).elim
  · exact .inr h
theorem gL.sq {K : PySem.W.Frag} {g : G} {a : Addr} {vs : List V} (h : gL g a vs) : SqL K g.H a vs := .inl h.1
theorem gK.sq {K : PySem.W.Frag} {g : G} {a : Addr} {vs : List V} (h : gK K g a vs) : SqL K g.H a vs := by
  rcases h with ⟨h, _⟩ | h | h
  · exact .inl h
  · exact (not_rd0 h).elim
  · exact .inr h

mutual
/-- the data d stands as the value v -/
def RD (K : PySem.W.Frag) (g : G) : D → V → Prop
  | .non, v => v = .non
  | .bl b, v => v = .bl b
  | .int i, v => v = .int i
  | .str x, v => v = .str x
  | .ty n, v => v = .ty n
  | .adr a, v => v = .ref a
  | .ref n, v => n < g.S.length ∧ v = .ref (g.ρ n)
  | .tup l, v => ∃ a vs, v = .ref a ∧ gT K g a vs ∧ RDs K g l vs
  | .lst l, v => ∃ a vs, v = .ref a ∧ gL g a vs ∧ RDs K g l vs
  | .kl l, v => ∃ a vs, v = .ref a ∧ gK K g a vs ∧ RDs K g l vs
def RDs (K : PySem.W.Frag) (g : G) : List D → List V → Prop
  | [], vs => vs = []
  | d :: l, vs => ∃ v r, vs = v :: r ∧ RD K g d v ∧ RDs K g l r
end
/-- pairs with the same first parts -/
def RPs (K : PySem.W.Frag) (g : G) {α : Type} : List (α × D) → List (α × V) → Prop
  | [], vs => vs = []
  | (k, d) :: l, vs => ∃ v r, vs = (k, v) :: r ∧ RD K g d v ∧ RPs K g l r
def RO (K : PySem.W.Frag) (g : G) : O → Addr → Prop
  | .gone, _ => True
  | .lst l, a => ∃ vs, g.H a = some (.lst vs) ∧ RDs K g l vs
  | .dct l, a => ∃ vs, g.H a = some (.dK vs) ∧ RPs K g l vs
  | .ins C l, a => ∃ dx vs, g.H a = some (.ins C dx vs) ∧ RPs K g l vs
  | .fdct l, a => ∃ od vs, g.H a = some (.frz od (.dK vs)) ∧ RPs K g l vs
structure Rep (K : PySem.W.Frag) (g : G) : Prop where
  nd : ∀ a, g.N a → ∃ o, g.H a = some o
  inj : ∀ i j o u, g.S[i]? = some o → o ≠ .gone → g.S[j]? = some u → u ≠ .gone → g.ρ i = g.ρ j → i = j
  obj : ∀ i o, g.S[i]? = some o → RO K g o (g.ρ i)
/-- a later ground -/
structure Ext (g g' : G) : Prop where
  n : g'.N = g.N
  len : g.S.length ≤ g'.S.length
  ag : ∀ i, i < g.S.length → g'.ρ i = g.ρ i
  kp : ∀ a o, g.H a = some o → ¬ g.Live a → g'.H a = some o ∧ ¬ g'.Live a
theorem Ext.refl (g : G) : Ext g g := ⟨rfl, Nat.le_refl _, fun _ _ => rfl, fun _ _ h l => ⟨h, l⟩⟩
theorem Ext.trans {g g1 g2 : G} (a : Ext g g1) (b : Ext g1 g2) : Ext g g2 :=
  ⟨b.n.trans a.n, Nat.le_trans a.len b.len, fun i h => (b.ag i (Nat.lt_of_lt_of_le h a.len)).trans (a.ag i h), fun x o h l =>
    let ⟨h1, l1⟩ := a.kp x o h l
    b.kp x o h1 l1⟩
theorem Ext.pr {g g' : G} (e : Ext g g') {a : Addr} {o : HO} (h : g.H a = some o) (p : g.Pr a) : g'.H a = some o ∧ g'.Pr a :=
  ⟨(e.kp a o h p.2).1, by rw [G.Pr, e.n]; exact ⟨p.1, (e.kp a o h p.2).2⟩⟩
theorem Ext.rd {g g' : G} (e : Ext g g') {a : Addr} {u : HO} (h : Rd g.H a u) (p : g.Pr a) : Rd g'.H a u ∧ g'.Pr a := by
  rcases h with h | ⟨o, h⟩
  · exact ⟨.inl (e.pr h p).1, (e.pr h p).2⟩
  · exact ⟨.inr ⟨o, (e.pr h p).1⟩, (e.pr h p).2⟩
/-- what data needs of a ground -/
structure Sim0 (g g' : G) : Prop where
  tu : ∀ a vs, Rd g.H a (.tup vs) → g.Pr a → Rd g'.H a (.tup vs) ∧ g'.Pr a
  ls : ∀ a vs, Rd g.H a (.lst vs) → g.Pr a → Rd g'.H a (.lst vs) ∧ g'.Pr a
structure Sim (g g' : G) : Prop extends Sim0 g g' where
  len : g.S.length ≤ g'.S.length
  ag : ∀ i, i < g.S.length → g'.ρ i = g.ρ i
theorem Ext.sim {g g' : G} (e : Ext g g') : Sim g g' := ⟨⟨fun _ _ h p => e.rd h p, fun _ _ h p => e.rd h p⟩, e.len, e.ag⟩
theorem gT.sim {K : PySem.W.Frag} {g g' : G} (e : Sim0 g g') {a : Addr} {vs : List V} (h : gT K g a vs) : gT K g' a vs := by
  rcases h with ⟨h, p⟩ | h
  · exact .inl (e.tu _ _ h p)
  · exact .inr h
theorem gL.sim {g g' : G} (e : Sim0 g g') {a : Addr} {vs : List V} (h : gL g a vs) : gL g' a vs := e.ls _ _ h.1 h.2
theorem gK.sim {K : PySem.W.Frag} {g g' : G} (e : Sim0 g g') {a : Addr} {vs : List V} (h : gK K g a vs) : gK K g' a vs := by
  rcases h with h | h
  · exact .inl (h.sim e)
  · exact .inr h
mutual
theorem RD.sim {K : PySem.W.Frag} {g g' : G} (e : Sim g g') : ∀ {d : D} {v : V}, RD K g d v → RD K g' d v
  | .non, _, h => by rw [RD] at h ⊢; exact h
  | .bl _, _, h => by rw [RD] at h ⊢; exact h
  | .int _, _, h => by rw [RD] at h ⊢; exact h
  | .str _, _, h => by rw [RD] at h ⊢; exact h
  | .ty _, _, h => by rw [RD] at h ⊢; exact h
  | .adr _, _, h => by rw [RD] at h ⊢; exact h
  | .ref n, _, h => by
    rw [RD] at h ⊢
    exact ⟨Nat.lt_of_lt_of_le h.1 e.len, by rw [e.ag n h.1]; exact h.2⟩
  | .tup l, _, h => by
    rw [RD] at h ⊢
    obtain ⟨a, vs, h1, h2, h3⟩ := h
    exact ⟨a, vs, h1, h2.sim e.toSim0, RDs.sim e h3⟩
  | .lst l, _, h => by
    rw [RD] at h ⊢
    obtain ⟨a, vs, h1, h2, h3⟩ := h
    exact ⟨a, vs, h1, h2.sim e.toSim0, RDs.sim e h3⟩
  | .kl l, _, h => by
    rw [RD] at h ⊢
    obtain ⟨a, vs, h1, h2, h3⟩ := h
    exact ⟨a, vs, h1, h2.sim e.toSim0, RDs.sim e h3⟩
theorem RDs.sim {K : PySem.W.Frag} {g g' : G} (e : Sim g g') : ∀ {l : List D} {vs : List V}, RDs K g l vs → RDs K g' l vs
  | [], _, h => by rw [RDs] at h ⊢; exact h
  | d :: l, _, h => by
    rw [RDs] at h ⊢
    obtain ⟨v, r, h1, h2, h3⟩ := h
    exact ⟨v, r, h1, RD.sim e h2, RDs.sim e h3⟩
end
mutual
/-- no number of an object from n on -/
def D.lo (n : Nat) : D → Bool
  | .ref i => decide (i < n)
  | .tup l => D.los n l
  | .lst l => D.los n l
  | .kl l => D.los n l
  | _ => true
def D.los (n : Nat) : List D → Bool
  | [] => true
  | d :: l => D.lo n d && D.los n l
end
mutual
/-- data whose numbers are below n, where the first n objects stand alike -/
theorem RD.under {K : PySem.W.Frag} {g g' : G} (e : Sim0 g g') {n : Nat} (hn : ∀ i, i < n → i < g.S.length → i < g'.S.length ∧ g'.ρ i = g.ρ i) : ∀ {d : D} {v : V}, D.lo n d = true → RD K g d v → RD K g' d v
  | .non, _, _, h => by rw [RD] at h ⊢; exact h
  | .bl _, _, _, h => by rw [RD] at h ⊢; exact h
  | .int _, _, _, h => by rw [RD] at h ⊢; exact h
  | .str _, _, _, h => by rw [RD] at h ⊢; exact h
  | .ty _, _, _, h => by rw [RD] at h ⊢; exact h
  | .adr _, _, _, h => by rw [RD] at h ⊢; exact h
  | .ref i, _, b, h => by
    rw [D.lo] at b
    rw [RD] at h ⊢
    obtain ⟨h1, h2⟩ := hn i (of_decide_eq_true b) h.1
    exact ⟨h1, by rw [h2]; exact h.2⟩
  | .tup l, _, b, h => by
    rw [D.lo] at b
    rw [RD] at h ⊢
    obtain ⟨a, vs, h1, h2, h3⟩ := h
    exact ⟨a, vs, h1, h2.sim e, RDs.under e hn b h3⟩
  | .lst l, _, b, h => by
    rw [D.lo] at b
    rw [RD] at h ⊢
    obtain ⟨a, vs, h1, h2, h3⟩ := h
    exact ⟨a, vs, h1, h2.sim e, RDs.under e hn b h3⟩
  | .kl l, _, b, h => by
    rw [D.lo] at b
    rw [RD] at h ⊢
    obtain ⟨a, vs, h1, h2, h3⟩ := h
    exact ⟨a, vs, h1, h2.sim e, RDs.under e hn b h3⟩
theorem RDs.under {K : PySem.W.Frag} {g g' : G} (e : Sim0 g g') {n : Nat} (hn : ∀ i, i < n → i < g.S.length → i < g'.S.length ∧ g'.ρ i = g.ρ i) : ∀ {l : List D} {vs : List V}, D.los n l = true → RDs K g l vs → RDs K g' l vs
  | [], _, _, h => by rw [RDs] at h ⊢; exact h
  | d :: l, _, b, h => by
    rw [D.los, Bool.and_eq_true] at b
    rw [RDs] at h ⊢
    obtain ⟨v, r, h1, h2, h3⟩ := h
    exact ⟨v, r, h1, RD.under e hn b.1 h2, RDs.under e hn b.2 h3⟩
end
theorem RD.mono {K : PySem.W.Frag} {g g' : G} (e : Ext g g') {d : D} {v : V} (h : RD K g d v) : RD K g' d v := h.sim e.sim
theorem RDs.mono {K : PySem.W.Frag} {g g' : G} (e : Ext g g') {l : List D} {vs : List V} (h : RDs K g l vs) : RDs K g' l vs := h.sim e.sim
theorem RPs.sim {K : PySem.W.Frag} {g g' : G} (e : Sim g g') {α : Type} : ∀ {l : List (α × D)} {vs : List (α × V)}, RPs K g l vs → RPs K g' l vs
  | [], _, h => by rw [RPs] at h ⊢; exact h
  | (k, d) :: l, _, h => by
    rw [RPs] at h ⊢
    obtain ⟨v, r, h1, h2, h3⟩ := h
    exact ⟨v, r, h1, h2.sim e, RPs.sim e h3⟩
theorem RPs.mono {K : PySem.W.Frag} {g g' : G} (e : Ext g g') {α : Type} {l : List (α × D)} {vs : List (α × V)} (h : RPs K g l vs) : RPs K g' l vs := h.sim e.sim
/-- no object of the pairs from n on -/
def belowP {α : Type} (n : Nat) (l : List (α × D)) : Bool := l.all fun p => D.lo n p.2
def O.lo (n : Nat) : O → Bool
  | .gone => true
  | .lst l => D.los n l
  | .dct l => belowP n l
  | .ins _ l => belowP n l
  | .fdct l => belowP n l
theorem RPs.under {K : PySem.W.Frag} {g g' : G} (e : Sim0 g g') {n : Nat} (hn : ∀ i, i < n → i < g.S.length → i < g'.S.length ∧ g'.ρ i = g.ρ i) {α : Type} : ∀ {l : List (α × D)} {vs : List (α × V)}, belowP n l = true → RPs K g l vs → RPs K g' l vs
  | [], _, _, h => by rw [RPs] at h ⊢; exact h
  | (k, d) :: l, _, b, h => by
    rw [belowP, List.all_cons, Bool.and_eq_true] at b
    rw [RPs] at h ⊢
    obtain ⟨v, r, h1, h2, h3⟩ := h
    exact ⟨v, r, h1, h2.under e hn b.1, RPs.under e hn b.2 h3⟩

theorem RDs.length {K : PySem.W.Frag} {g : G} : ∀ {l : List D} {vs : List V}, RDs K g l vs → l.length = vs.length
  | [], _, h => by rw [RDs] at h; subst h; rfl
  | d :: l, _, h => by
    rw [RDs] at h
    obtain ⟨v, r, rfl, _, h3⟩ := h
    rw [List.length_cons, List.length_cons, RDs.length h3]
theorem RDs.get {K : PySem.W.Frag} {g : G} : ∀ {l : List D} {vs : List V} {i : Nat} {d : D}, RDs K g l vs → l[i]? = some d → ∃ v, vs[i]? = some v ∧ RD K g d v
  | [], _, _, _, _, q => by simp at q
  | x :: l, _, 0, d, h, q => by
    rw [RDs] at h
    obtain ⟨v, r, rfl, h2, _⟩ := h
    simp at q; subst q
    exact ⟨v, rfl, h2⟩
  | x :: l, _, i + 1, d, h, q => by
    rw [RDs] at h
    obtain ⟨v, r, rfl, _, h3⟩ := h
    obtain ⟨w, a, b⟩ := RDs.get h3 (i := i) (by simpa using q)
    exact ⟨w, by simpa using a, b⟩
theorem RDs.append {K : PySem.W.Frag} {g : G} : ∀ {l m : List D} {vs us : List V}, RDs K g l vs → RDs K g m us → RDs K g (l ++ m) (vs ++ us)
  | [], _, _, _, h, q => by rw [RDs] at h; subst h; exact q
  | d :: l, m, _, us, h, q => by
    rw [RDs] at h
    obtain ⟨v, r, rfl, h2, h3⟩ := h
    rw [List.cons_append, RDs]
    exact ⟨v, r ++ us, rfl, h2, RDs.append h3 q⟩
theorem RDs.nil {K : PySem.W.Frag} {g : G} : RDs K g [] [] := by rw [RDs]
theorem RDs.cons {K : PySem.W.Frag} {g : G} {d : D} {l : List D} {v : V} {vs : List V} (h : RD K g d v) (t : RDs K g l vs) : RDs K g (d :: l) (v :: vs) := by
  rw [RDs]
  exact ⟨v, vs, rfl, h, t⟩
theorem RDs.set {K : PySem.W.Frag} {g : G} {d : D} {v : V} (r : RD K g d v) : ∀ {l : List D} {vs : List V} (i : Nat), RDs K g l vs → RDs K g (l.set i d) (vs.set i v)
  | [], _, _, h => by rw [RDs] at h; subst h; exact RDs.nil
  | x :: l, _, 0, h => by
    rw [RDs] at h
    obtain ⟨w, u, rfl, _, h3⟩ := h
    exact RDs.cons r h3
  | x :: l, _, i + 1, h => by
    rw [RDs] at h
    obtain ⟨w, u, rfl, h2, h3⟩ := h
    exact RDs.cons h2 (RDs.set r i h3)
theorem RDs.take {K : PySem.W.Frag} {g : G} : ∀ {l : List D} {vs : List V} (n : Nat), RDs K g l vs → RDs K g (l.take n) (vs.take n)
  | _, _, 0, _ => RDs.nil
  | [], _, n + 1, h => by rw [RDs] at h; subst h; exact RDs.nil
  | x :: l, _, n + 1, h => by
    rw [RDs] at h
    obtain ⟨w, u, rfl, h2, h3⟩ := h
    exact RDs.cons h2 (RDs.take n h3)
theorem RDs.drop {K : PySem.W.Frag} {g : G} : ∀ {l : List D} {vs : List V} (n : Nat), RDs K g l vs → RDs K g (l.drop n) (vs.drop n)
  | _, _, 0, h => h
  | [], _, n + 1, h => by rw [RDs] at h; subst h; exact RDs.nil
  | x :: l, _, n + 1, h => by
    rw [RDs] at h
    obtain ⟨w, u, rfl, h2, h3⟩ := h
    exact RDs.drop n h3
theorem RO.sim {K : PySem.W.Frag} {g g' : G} (e : Sim g g') {o : O} {a : Addr} (h : RO K g o a) (k : o ≠ .gone → g'.H a = g.H a) : RO K g' o a := by
  cases o with
  | gone => trivial
  | lst l =>
    obtain ⟨vs, h1, h2⟩ := h
    exact ⟨vs, (k (by intro z; cases z)).trans h1, h2.sim e⟩
  | dct l =>
    obtain ⟨vs, h1, h2⟩ := h
    exact ⟨vs, (k (by intro z; cases z)).trans h1, h2.sim e⟩
  | ins C l =>
    obtain ⟨dx, vs, h1, h2⟩ := h
    exact ⟨dx, vs, (k (by intro z; cases z)).trans h1, h2.sim e⟩
  | fdct l =>
    obtain ⟨dx, vs, h1, h2⟩ := h
    exact ⟨dx, vs, (k (by intro z; cases z)).trans h1, h2.sim e⟩
theorem RO.under {K : PySem.W.Frag} {g g' : G} (e : Sim0 g g') {n : Nat} (hn : ∀ i, i < n → i < g.S.length → i < g'.S.length ∧ g'.ρ i = g.ρ i) {o : O} {a : Addr} (b : O.lo n o = true) (h : RO K g o a) (k : o ≠ .gone → g'.H a = g.H a) : RO K g' o a := by
  cases o with
  | gone => trivial
  | lst l =>
    obtain ⟨vs, h1, h2⟩ := h
    exact ⟨vs, (k (by intro z; cases z)).trans h1, h2.under e hn b⟩
  | dct l =>
    obtain ⟨vs, h1, h2⟩ := h
    exact ⟨vs, (k (by intro z; cases z)).trans h1, h2.under e hn b⟩
  | ins C l =>
    obtain ⟨dx, vs, h1, h2⟩ := h
    exact ⟨dx, vs, (k (by intro z; cases z)).trans h1, h2.under e hn b⟩
  | fdct l =>
    obtain ⟨dx, vs, h1, h2⟩ := h
    exact ⟨dx, vs, (k (by intro z; cases z)).trans h1, h2.under e hn b⟩
theorem RO.mono {K : PySem.W.Frag} {g g' : G} (e : Ext g g') {o : O} {a : Addr} (h : RO K g o a) (k : o ≠ .gone → g'.H a = g.H a) : RO K g' o a := by
  cases o with
  | gone => trivial
  | lst l =>
    obtain ⟨vs, h1, h2⟩ := h
    exact ⟨vs, (k (by intro z; cases z)).trans h1, h2.mono e⟩
  | dct l =>
    obtain ⟨vs, h1, h2⟩ := h
    exact ⟨vs, (k (by intro z; cases z)).trans h1, h2.mono e⟩
  | ins C l =>
    obtain ⟨dx, vs, h1, h2⟩ := h
    exact ⟨dx, vs, (k (by intro z; cases z)).trans h1, h2.mono e⟩
  | fdct l =>
    obtain ⟨dx, vs, h1, h2⟩ := h
    exact ⟨dx, vs, (k (by intro z; cases z)).trans h1, h2.mono e⟩
/-- where a live object stands, something mutable stands -/
theorem RO.at_ {K : PySem.W.Frag} {g : G} {o : O} {a : Addr} (h : RO K g o a) (n : o ≠ .gone) : ∃ u, g.H a = some u := by
  cases o with
  | gone => exact absurd rfl n
  | lst l => obtain ⟨vs, h1, _⟩ := h; exact ⟨_, h1⟩
  | dct l => obtain ⟨vs, h1, _⟩ := h; exact ⟨_, h1⟩
  | ins C l => obtain ⟨dx, vs, h1, _⟩ := h; exact ⟨_, h1⟩
  | fdct l => obtain ⟨dx, vs, h1, _⟩ := h; exact ⟨_, h1⟩
theorem RO.nofrz {K : PySem.W.Frag} {g : G} {o : O} {a : Addr} (h : RO K g o a) (n : o.act = true) (od : Obj) (u : HO) : g.H a ≠ some (.frz od u) := fun z => by
  cases o with
  | gone => cases n
  | fdct l => cases n
  | lst l => obtain ⟨vs, h1, _⟩ := h; rw [z] at h1; cases h1
  | dct l => obtain ⟨vs, h1, _⟩ := h; rw [z] at h1; cases h1
  | ins C l => obtain ⟨dx, vs, h1, _⟩ := h; rw [z] at h1; cases h1
theorem Rep.fresh {K : PySem.W.Frag} {g : G} (rp : Rep K g) {p : Addr} (h : g.H p = none) : g.Pr p := by
  refine ⟨fun z => ?_, fun ⟨i, o, h1, h2, h3⟩ => ?_⟩
  · obtain ⟨o, q⟩ := rp.nd p z
    rw [h] at q; cases q
  · obtain ⟨u, q⟩ := (rp.obj i o h1).at_ (O.act_ne h2)
    rw [h3, h] at q; cases q
/-- a new object that nobody will change -/
theorem Ext.newv {g : G} {p : Addr} {u : HO} (h : g.H p = none) : Ext g { g with H := upd g.H p u } :=
  ⟨rfl, Nat.le_refl _, fun _ _ => rfl, fun a o q l => ⟨(show upd g.H p u a = g.H a from upd_ne (ne_of_none q h)).trans q, l⟩⟩
theorem Rep.newv {K : PySem.W.Frag} {g : G} (rp : Rep K g) {p : Addr} {u : HO} (h : g.H p = none) : Rep K { g with H := upd g.H p u } := by
  refine ⟨fun a z => ?_, rp.inj, fun i o q => (rp.obj i o q).mono (Ext.newv h) fun n => ?_⟩
  · obtain ⟨o, e⟩ := rp.nd a z
    exact ⟨o, (show upd g.H p u a = g.H a from upd_ne (ne_of_none e h)).trans e⟩
  · obtain ⟨w, e⟩ := (rp.obj i o q).at_ n
    exact upd_ne (ne_of_none e h)
/-- a new object of one's own -/
abbrev G.add (g : G) (p : Addr) (o : O) (u : HO) : G := { N := g.N, ρ := fun i => if i = g.S.length then p else g.ρ i, S := g.S ++ [o], H := upd g.H p u }
theorem Ext.add {K : PySem.W.Frag} {g : G} (rp : Rep K g) {p : Addr} {o : O} {u : HO} (h : g.H p = none) : Ext g (g.add p o u) := by
  refine ⟨rfl, by simp, fun i hi => if_neg (Nat.ne_of_lt hi), fun a w q l => ⟨(show upd g.H p u a = g.H a from upd_ne (ne_of_none q h)).trans q, ?_⟩⟩
  rintro ⟨i, x, h1, h2, h3⟩
  have h3 : (if i = g.S.length then p else g.ρ i) = a := h3
  have h1 : (g.S ++ [o])[i]? = some x := h1
  by_cases hi : i < g.S.length
  · refine l ⟨i, x, ?_, h2, ?_⟩
    · rw [List.getElem?_append_left hi] at h1; exact h1
    · rw [if_neg (Nat.ne_of_lt hi)] at h3; exact h3
  · have e : i = g.S.length := by
      rcases Nat.lt_or_ge i (g.S.length + 1) with z | z
      · omega
      · rw [List.getElem?_eq_none (by simpa using z)] at h1; cases h1
    rw [if_pos e] at h3
    rw [h3, q] at h; cases h
theorem Rep.add {K : PySem.W.Frag} {g : G} (rp : Rep K g) {p : Addr} {o : O} {u : HO} (h : g.H p = none) (ho : RO K (g.add p o u) o p) : Rep K (g.add p o u) := by
  have hn : ∀ i x, g.S[i]? = some x → x ≠ .gone → g.ρ i ≠ p := fun i x q n z => by
    obtain ⟨w, e⟩ := (rp.obj i x q).at_ n
    rw [z, h] at e; cases e
  have hs : ∀ i x, (g.add p o u).S[i]? = some x → (i < g.S.length ∧ g.S[i]? = some x ∧ (g.add p o u).ρ i = g.ρ i) ∨ (i = g.S.length ∧ x = o ∧ (g.add p o u).ρ i = p) := fun i x q => by
    by_cases hi : i < g.S.length
    · exact .inl ⟨hi, by rw [← List.getElem?_append_left (l₂ := [o]) hi]; exact q, if_neg (Nat.ne_of_lt hi)⟩
    · have e : i = g.S.length := by
        rcases Nat.lt_or_ge i (g.S.length + 1) with z | z
        · omega
        · rw [List.getElem?_eq_none (by simpa using z)] at q; cases q
      refine .inr ⟨e, ?_, if_pos e⟩
      subst e
      have q' : (g.S ++ [o])[g.S.length]? = some x := q
      rw [List.getElem?_append_right (Nat.le_refl _), Nat.sub_self] at q'
      exact (Option.some.inj q').symm
  refine ⟨fun a z => ?_, fun i j x y q1 n1 q2 n2 e => ?_, fun i x q => ?_⟩
  · obtain ⟨w, e⟩ := rp.nd a z
    exact ⟨w, (show upd g.H p u a = g.H a from upd_ne (ne_of_none e h)).trans e⟩
  · rcases hs i x q1 with ⟨l1, s1, r1⟩ | ⟨l1, s1, r1⟩ <;> rcases hs j y q2 with ⟨l2, s2, r2⟩ | ⟨l2, s2, r2⟩
    · rw [r1, r2] at e; exact rp.inj i j x y s1 n1 s2 n2 e
    · rw [r1, r2] at e; exact absurd e (hn i x s1 n1)
    · rw [r1, r2] at e; exact absurd e.symm (hn j y s2 n2)
    · rw [l1, l2]
  · rcases hs i x q with ⟨l1, s1, r1⟩ | ⟨l1, s1, r1⟩
    · rw [r1]
      refine (rp.obj i x s1).mono (Ext.add rp h) fun n => ?_
      obtain ⟨w, e⟩ := (rp.obj i x s1).at_ n
      exact upd_ne (ne_of_none e h)
    · rw [r1, s1]; exact ho
/-- one's own object i changes -/
abbrev G.put (g : G) (i : Nat) (o : O) (u : HO) : G := { g with S := g.S.set i o, H := upd g.H (g.ρ i) u }
theorem live_put {g : G} {i : Nat} {o o' : O} {u : HO} (hi : g.S[i]? = some o) (n : o.act = true) {a : Addr} (h : (g.put i o' u).Live a) : g.Live a := by
  obtain ⟨j, x, h1, h2, h3⟩ := h
  by_cases hj : i = j
  · subst hj; exact ⟨i, o, hi, n, h3⟩
  · have h1' : (g.S.set i o')[j]? = some x := h1
    rw [List.getElem?_set_ne hj] at h1'
    exact ⟨j, x, h1', h2, h3⟩
theorem Ext.put {g : G} {i : Nat} {o o' : O} {u : HO} (hi : g.S[i]? = some o) (n : o.act = true) : Ext g (g.put i o' u) := by
  refine ⟨rfl, by simp, fun _ _ => rfl, fun a w q l => ⟨?_, fun z => l (live_put hi n z)⟩⟩
  exact (show upd g.H (g.ρ i) u a = g.H a from upd_ne fun z => l ⟨i, o, hi, n, z.symm⟩).trans q
theorem Rep.put {K : PySem.W.Frag} {g : G} (rp : Rep K g) {i : Nat} {o o' : O} {u : HO} (hi : g.S[i]? = some o) (n : o.act = true) (ho : RO K (g.put i o' u) o' (g.ρ i)) : Rep K (g.put i o' u) := by
  have hs : ∀ j x, (g.put i o' u).S[j]? = some x → (j = i ∧ x = o') ∨ (j ≠ i ∧ g.S[j]? = some x) := fun j x q => by
    have q' : (g.S.set i o')[j]? = some x := q
    by_cases hj : i = j
    · subst hj
      rw [List.getElem?_set_self (List.getElem?_eq_some_iff.mp hi).1] at q'
      exact .inl ⟨rfl, (Option.some.inj q').symm⟩
    · rw [List.getElem?_set_ne hj] at q'
      exact .inr ⟨fun z => hj z.symm, q'⟩
  have lv : ∀ (j : Nat) (x : O), (g.put i o' u).S[j]? = some x → x ≠ .gone → ∃ y : O, g.S[j]? = some y ∧ y ≠ .gone := fun j x q m => by
    rcases hs j x q with ⟨e, _⟩ | ⟨_, e⟩
    · exact ⟨o, by rw [e]; exact hi, O.act_ne n⟩
    · exact ⟨x, e, m⟩
  refine ⟨fun a z => ?_, fun j k x y q1 n1 q2 n2 e => ?_, fun j x q => ?_⟩
  · obtain ⟨w, e⟩ := rp.nd a z
    by_cases ha : a = g.ρ i
    · exact ⟨u, by rw [ha]; exact upd_same⟩
    · exact ⟨w, (show upd g.H (g.ρ i) u a = g.H a from upd_ne ha).trans e⟩
  · obtain ⟨x', a1, a2⟩ := lv j x q1 n1
    obtain ⟨y', b1, b2⟩ := lv k y q2 n2
    exact rp.inj j k x' y' a1 a2 b1 b2 e
  · rcases hs j x q with ⟨e1, e2⟩ | ⟨e1, e2⟩
    · rw [e1, e2]; exact ho
    · refine (rp.obj j x e2).mono (Ext.put hi n) fun m => ?_
      exact upd_ne fun z => e1 (rp.inj j i x o e2 m hi (O.act_ne n) z)
/-- one's own object is given away: nobody changes it any more -/
theorem Ext.freeze {g : G} {i : Nat} {o : O} (hi : g.S[i]? = some o) : Ext g { g with S := g.S.set i .gone } := by
  refine ⟨rfl, by simp, fun _ _ => rfl, fun a w q l => ⟨q, ?_⟩⟩
  rintro ⟨j, x, h1, h2, h3⟩
  have h1' : (g.S.set i .gone)[j]? = some x := h1
  by_cases hj : i = j
  · subst hj
    rw [List.getElem?_set_self (List.getElem?_eq_some_iff.mp hi).1] at h1'
    rw [← Option.some.inj h1'] at h2
    cases h2
  · rw [List.getElem?_set_ne hj] at h1'
    exact l ⟨j, x, h1', h2, h3⟩
theorem Rep.freeze {K : PySem.W.Frag} {g : G} (rp : Rep K g) {i : Nat} {o : O} (hi : g.S[i]? = some o) : Rep K { g with S := g.S.set i .gone } := by
  have hs : ∀ (j : Nat) (x : O), (g.S.set i .gone)[j]? = some x → x = .gone ∨ g.S[j]? = some x := fun j x q => by
    by_cases hj : i = j
    · subst hj
      rw [List.getElem?_set_self (List.getElem?_eq_some_iff.mp hi).1] at q
      exact .inl (Option.some.inj q).symm
    · rw [List.getElem?_set_ne hj] at q
      exact .inr q
  refine ⟨rp.nd, fun j k x y q1 n1 q2 n2 e => ?_, fun j x q => ?_⟩
  · rcases hs j x q1 with z | a1
    · exact absurd z n1
    rcases hs k y q2 with z | b1
    · exact absurd z n2
    exact rp.inj j k x y a1 n1 b1 n2 e
  · rcases hs j x q with z | a1
    · subst z; trivial
    · exact (rp.obj j x a1).mono (Ext.freeze hi) fun _ => rfl

/-- the names' values -/
abbrev Env := List (Option D)
def RE (K : PySem.W.Frag) (g : G) (e : Env) (σ : St) : Prop := e.length = σ.length ∧ ∀ (i : Nat) (d : D), e[i]? = some (some d) → ∃ v, σ[i]? = some (some v) ∧ RD K g d v
theorem RE.mono {K : PySem.W.Frag} {g g' : G} {e : Env} {σ : St} (x : Ext g g') (h : RE K g e σ) : RE K g' e σ :=
  ⟨h.1, fun i d q => let ⟨v, a, b⟩ := h.2 i d q; ⟨v, a, b.mono x⟩⟩
theorem RE.sim {K : PySem.W.Frag} {g g' : G} {e : Env} {σ : St} (x : Sim g g') (h : RE K g e σ) : RE K g' e σ :=
  ⟨h.1, fun i d q => let ⟨v, a, b⟩ := h.2 i d q; ⟨v, a, b.sim x⟩⟩
theorem RE.set {K : PySem.W.Frag} {g : G} {e : Env} {σ : St} {i : Nat} {d : D} {v : V} (h : RE K g e σ) (r : RD K g d v) : RE K g (e.set i (some d)) (σ.set i (some v)) := by
  refine ⟨by rw [List.length_set, List.length_set]; exact h.1, fun j x q => ?_⟩
  by_cases hj : i = j
  · subst hj
    have hl : i < e.length := by
      rcases Nat.lt_or_ge i e.length with z | z
      · exact z
      · rw [List.getElem?_eq_none (by rw [List.length_set]; exact z)] at q; cases q
    rw [List.getElem?_set_self hl] at q
    cases q
    exact ⟨v, List.getElem?_set_self (by rw [← h.1]; exact hl), r⟩
  · rw [List.getElem?_set_ne hj] at q ⊢
    exact h.2 j x q
theorem RE.wipe {K : PySem.W.Frag} {g : G} {e : Env} {σ : St} {i : Nat} (h : RE K g e σ) : RE K g (e.set i none) (σ.set i none) := by
  refine ⟨by rw [List.length_set, List.length_set]; exact h.1, fun j x q => ?_⟩
  by_cases hj : i = j
  · subst hj
    have hl : i < e.length := by
      rcases Nat.lt_or_ge i e.length with z | z
      · exact z
      · rw [List.getElem?_eq_none (by rw [List.length_set]; exact z)] at q; cases q
    rw [List.getElem?_set_self hl] at q
    cases q
  · rw [List.getElem?_set_ne hj] at q ⊢
    exact h.2 j x q

/-! ### results -/
/-- an error: its class, its own attributes (none: it has no dict) -/
structure Xc where
  cls : Value
  fs : Option (List (Str × D))
inductive R (α : Type) where
  | ok (a : α) (S : List O)
  | er (x : Xc) (S : List O)
  | bad
def R.bind {α β : Type} (r : R α) (f : α → List O → R β) : R β := match r with
  | .ok a S => f a S
  | .er x S => .er x S
  | .bad => .bad
inductive RS where
  | nx (e : Env) (S : List O) | rt (d : D) (S : List O) | bk (e : Env) (S : List O) | ct (e : Env) (S : List O) | er (x : Xc) (e : Env) (S : List O) | bad
abbrev ME := Env → List O → R D
abbrev MT := Env → List O → R Bool
abbrev MA := Env → List O → R (List D)
abbrev MS := Env → List O → RS
def RX (K : PySem.W.Frag) (g : G) (x : Xc) (cls : Value) (d : Option Addr) : Prop := cls = x.cls ∧ match x.fs, d with
  | none, none => True
  | some fs, some a => ∃ vs, g.H a = some (.xd vs) ∧ g.Pr a ∧ RPs K g fs vs
  | _, _ => False
/-- what is wanted of an error, by the names' values: as HandS.Exc has it -/
abbrev WX' := Value → Option Addr → St → Hp → Prop
def Post {α : Type} (K : PySem.W.Frag) (W : WX') (g : G) (r : R α) (σ : St) (k : α → G → Prop) : Prop := match r with
  | .ok a S' => ∀ g', Ext g g' → g'.S = S' → Rep K g' → k a g'
  | .er x S' => ∀ g' cls d, Ext g g' → g'.S = S' → Rep K g' → RX K g' x cls d → W cls d σ g'.H
  | .bad => False
theorem Post.mono {α : Type} {K : PySem.W.Frag} {W : WX'} {g g1 : G} {r : R α} {σ : St} {k : α → G → Prop} (e : Ext g g1) (h : Post K W g r σ k) : Post K W g1 r σ k := by
  cases r with
  | ok a S => exact fun g' e' => h g' (e.trans e')
  | er x S => exact fun g' c d e' => h g' c d (e.trans e')
  | bad => exact h
theorem Post.imp {α : Type} {K : PySem.W.Frag} {W : WX'} {g : G} {r : R α} {σ : St} {k k' : α → G → Prop} (h : Post K W g r σ k) (f : ∀ a g', Ext g g' → Rep K g' → k a g' → k' a g') : Post K W g r σ k' := by
  cases r with
  | ok a S => exact fun g' e s rp => f a g' e rp (h g' e s rp)
  | er x S => exact h
  | bad => exact h
theorem Post.bind {α β : Type} {K : PySem.W.Frag} {W : WX'} {g : G} {r : R α} {f : α → List O → R β} {σ : St} {k : β → G → Prop} (h : Post K W g (r.bind f) σ k) :
    Post K W g r σ fun a g1 => Ext g g1 ∧ Rep K g1 ∧ Post K W g1 (f a g1.S) σ k := by
  cases r with
  | ok a S =>
    intro g1 e s rp
    subst s
    exact ⟨e, rp, Post.mono e h⟩
  | er x S => exact h
  | bad => exact h
theorem Post.here {α : Type} {K : PySem.W.Frag} {W : WX'} {g : G} {a : α} {σ : St} {k : α → G → Prop} (rp : Rep K g) (h : Post K W g (.ok a g.S) σ k) : k a g := h g (Ext.refl g) rfl rp

/-! ### readings -/
section
variable (K : PySem.W.Frag) (W : WX')
def tE (m : ME) : TE := fun σ H Q => ∃ g e, g.H = H ∧ Rep K g ∧ RE K g e σ ∧ Post K W g (m e g.S) σ fun d g' => ∀ v, RD K g' d v → Q v g'.H
def tT (m : MT) : TT := fun σ H Q => ∃ g e, g.H = H ∧ Rep K g ∧ RE K g e σ ∧ Post K W g (m e g.S) σ fun b g' => Q b g'.H
def tA (m : MA) : TA := fun σ H Q => ∃ g e, g.H = H ∧ Rep K g ∧ RE K g e σ ∧ Post K W g (m e g.S) σ fun l g' => ∀ vs, RDs K g' l vs → Q vs g'.H
/-- behind a statement -/
def PostS (g : G) (r : RS) (D : Ends) : Prop := match r with
  | .nx e S' => ∀ g' σ, Ext g g' → g'.S = S' → Rep K g' → RE K g' e σ → D.nx σ g'.H
  | .bk e S' => ∀ g' σ, Ext g g' → g'.S = S' → Rep K g' → RE K g' e σ → D.bk σ g'.H
  | .ct e S' => ∀ g' σ, Ext g g' → g'.S = S' → Rep K g' → RE K g' e σ → D.ct σ g'.H
  | .rt d S' => ∀ g' v, Ext g g' → g'.S = S' → Rep K g' → RD K g' d v → D.rt v g'.H
  | .er x e S' => ∀ g' σ cls d, Ext g g' → g'.S = S' → Rep K g' → RE K g' e σ → RX K g' x cls d → W cls d σ g'.H
  | .bad => False
def tS (m : MS) : TS := fun D σ H => ∃ g e, g.H = H ∧ Rep K g ∧ RE K g e σ ∧ PostS K W g (m e g.S) D
end
theorem PostS.mono {K : PySem.W.Frag} {W : WX'} {g g1 : G} {r : RS} {D : Ends} (e : Ext g g1) (h : PostS K W g r D) : PostS K W g1 r D := by
  cases r with
  | nx en S => exact fun g' σ e' => h g' σ (e.trans e')
  | bk en S => exact fun g' σ e' => h g' σ (e.trans e')
  | ct en S => exact fun g' σ e' => h g' σ (e.trans e')
  | rt d S => exact fun g' σ e' => h g' σ (e.trans e')
  | er x en S => exact fun g' σ c d e' => h g' σ c d (e.trans e')
  | bad => exact h
theorem tE.of {K : PySem.W.Frag} {W : WX'} {m : ME} {g : G} {e : Env} {σ : St} {Q : VK} (rp : Rep K g) (re : RE K g e σ) (h : Post K W g (m e g.S) σ fun d g' => ∀ v, RD K g' d v → Q v g'.H) : tE K W m σ g.H Q := ⟨g, e, rfl, rp, re, h⟩
/-- the state that an error carries out of an expression -/
theorem PostS.of_er {α : Type} {K : PySem.W.Frag} {W : WX'} {g : G} {r : R α} {σ : St} {e : Env} {D : Ends} {f : α → List O → RS} (re : RE K g e σ)
    (h : PostS K W g (match r with | .ok a S => f a S | .er x S => .er x e S | .bad => .bad) D) :
    Post K W g r σ fun a g1 => Ext g g1 ∧ Rep K g1 ∧ PostS K W g1 (f a g1.S) D := by
  cases r with
  | ok a S =>
    intro g1 e1 s rp
    subst s
    exact ⟨e1, rp, PostS.mono e1 h⟩
  | er x S => exact fun g' c d e1 s rp rx => h g' σ c d e1 s rp (re.mono e1) rx
  | bad => exact h
end Mo

namespace Mo
open PySem L2

/-! ### what implies what -/
section
variable {X : Cx}
theorem PE.imp {e : Expr} {t t' : TE} (h : PE X e t) (f : ∀ σ H Q, t' σ H Q → t σ H Q) : PE X e t' := ⟨fun p s σ H Q I q => h.run p s σ H Q I (f σ H Q q)⟩
theorem PT.imp {e : Expr} {t t' : TT} (h : PT X e t) (f : ∀ σ H Q, t' σ H Q → t σ H Q) : PT X e t' := ⟨fun p s σ H Q I q => h.run p s σ H Q I (f σ H Q q)⟩
theorem PW.imp {e : Expr} {t t' : TT} (h : PW X e t) (f : ∀ σ H Q, t' σ H Q → t σ H Q) : PW X e t' := ⟨fun w p s σ H Q I q => h.run w p s σ H Q I (f σ H Q q)⟩
theorem PA.imp {e : List Expr} {t t' : TA} (h : PA X e t) (f : ∀ σ H Q, t' σ H Q → t σ H Q) : PA X e t' := ⟨fun o p s σ H Q I q => h.run o p s σ H Q I (f σ H Q q)⟩
theorem PS.imp {e : Stmt} {t t' : TS} (h : PS X e t) (f : ∀ D σ H, t' D σ H → t D σ H) : PS X e t' := ⟨fun p s σ H D I q => h.run p s σ H D I (f D σ H q)⟩
theorem PSs.imp {e : List Stmt} {t t' : TS} (h : PSs X e t) (f : ∀ D σ H, t' D σ H → t D σ H) : PSs X e t' := ⟨fun p s σ H D I q => h.run p s σ H D I (f D σ H q)⟩
end
def sz : Nat := 16777216
theorem sz_eq : sz = sizeLine := sizeLine_eq.symm

/-! ### expressions as functions -/
def mC (d : D) : ME := fun _ S => .ok d S
def mVar (i : Nat) : ME := fun e S => match e[i]? with
  | some (some d) => .ok d S
  | _ => .bad
abbrev Op2 := List O → D → D → Option D
abbrev Op1 := List O → D → Option D
def R.ofO (S : List O) : Option D → R D
  | some d => .ok d S
  | none => .bad
def mBin (f : Op2) (ma mb : ME) : ME := fun e S => (ma e S).bind fun a S1 => (mb e S1).bind fun b S2 => R.ofO S2 (f S2 a b)
def mUn (f : Op1) (ma : ME) : ME := fun e S => (ma e S).bind fun a S1 => R.ofO S1 (f S1 a)
def mNil : MA := fun _ S => .ok [] S
def mCons (ma : ME) (mr : MA) : MA := fun e S => (ma e S).bind fun a S1 => (mr e S1).bind fun l S2 => .ok (a :: l) S2
/-- a value as a truth: it is a bool -/
def asB (S : List O) : D → R Bool
  | .bl b => .ok b S
  | _ => .bad
def mTB (m : ME) : MT := fun e S => (m e S).bind fun d S1 => asB S1 d
def mAnd (t u : MT) : MT := fun e S => (t e S).bind fun b S1 => if b then u e S1 else .ok false S1
def mOr (t u : MT) : MT := fun e S => (t e S).bind fun b S1 => if b then .ok true S1 else u e S1
def mNot (t : MT) : MT := fun e S => (t e S).bind fun b S1 => .ok (!b) S1
def mIf (t : MT) (ma mb : ME) : ME := fun e S => (t e S).bind fun b S1 => if b then ma e S1 else mb e S1
def mAndV (ma mb : ME) : ME := fun e S => (ma e S).bind fun d S1 => (asB S1 d).bind fun b S2 => if b then mb e S2 else .ok (.bl false) S2
def mOrV (ma mb : ME) : ME := fun e S => (ma e S).bind fun d S1 => (asB S1 d).bind fun b S2 => if b then .ok (.bl true) S2 else mb e S2
def mNotV (ma : ME) : ME := fun e S => (ma e S).bind fun d S1 => (asB S1 d).bind fun b S2 => .ok (.bl (!b)) S2

/-- an operation of two values, one, many, by the data -/
def rOp (K : PySem.W.Frag) (f : Op2) : R2 := fun x y H Q => ∃ g a b d, g.H = H ∧ Rep K g ∧ RD K g a x ∧ RD K g b y ∧ f g.S a b = some d ∧ ∀ g' v, Ext g g' → g'.S = g.S → Rep K g' → RD K g' d v → Q v g'.H
def rUn (K : PySem.W.Frag) (f : Op1) : V → Hp → VK → Prop := fun x H Q => ∃ g a d, g.H = H ∧ Rep K g ∧ RD K g a x ∧ f g.S a = some d ∧ ∀ g' v, Ext g g' → g'.S = g.S → Rep K g' → RD K g' d v → Q v g'.H

section
variable {K : PySem.W.Frag} {W : WX'} {σ : St} {H : Hp} {Q : VK}
theorem i_C {d : D} {v : V} (r : ∀ g, RD K g d v) (h : tE K W (mC d) σ H Q) : tC v σ H Q := by
  obtain ⟨g, e, rfl, rp, re, p⟩ := h
  exact Post.here rp p v (r g)
theorem i_var {i : Nat} (h : tE K W (mVar i) σ H Q) : tVar i σ H Q := by
  obtain ⟨g, e, rfl, rp, re, p⟩ := h
  unfold mVar at p
  split at p
  · rename_i d q
    obtain ⟨v, a, b⟩ := re.2 i d q
    exact ⟨v, a, Post.here rp p v b⟩
  · exact False.elim p
theorem i_bin {f : Op2} {ma mb : ME} (h : tE K W (mBin f ma mb) σ H Q) : tOp (rOp K f) (tE K W ma) (tE K W mb) σ H Q := by
  obtain ⟨g, e, rfl, rp, re, p⟩ := h
  refine ⟨g, e, rfl, rp, re, (Post.bind p).imp fun a g1 e1 r1 ⟨_, _, p1⟩ v rv => ?_⟩
  refine ⟨g1, e, rfl, r1, re.mono e1, (Post.bind p1).imp fun b g2 e2 r2 ⟨_, _, p2⟩ u ru => ?_⟩
  cases q : f g2.S a b with
  | none => rw [q] at p2; exact False.elim p2
  | some d =>
    rw [q] at p2
    exact ⟨g2, a, b, d, rfl, r2, rv.mono e2, ru, q, fun g' w x s r rw' => p2 g' x s r w rw'⟩
theorem i_un {f : Op1} {ma : ME} (h : tE K W (mUn f ma) σ H Q) : tUn (rUn K f) (tE K W ma) σ H Q := by
  obtain ⟨g, e, rfl, rp, re, p⟩ := h
  refine ⟨g, e, rfl, rp, re, (Post.bind p).imp fun a g1 e1 r1 ⟨_, _, p1⟩ v rv => ?_⟩
  cases q : f g1.S a with
  | none => rw [q] at p1; exact False.elim p1
  | some d =>
    rw [q] at p1
    exact ⟨g1, a, d, rfl, r1, rv, q, fun g' w x s r rw' => p1 g' x s r w rw'⟩
theorem i_nil {Q : List V → Hp → Prop} (h : tA K W mNil σ H Q) : tNil σ H Q := by
  obtain ⟨g, e, rfl, rp, re, p⟩ := h
  exact Post.here rp p [] RDs.nil
theorem i_cons {ma : ME} {mr : MA} {Q : List V → Hp → Prop} (h : tA K W (mCons ma mr) σ H Q) : tCons (tE K W ma) (tA K W mr) σ H Q := by
  obtain ⟨g, e, rfl, rp, re, p⟩ := h
  refine ⟨g, e, rfl, rp, re, (Post.bind p).imp fun a g1 e1 r1 ⟨_, _, p1⟩ v rv => ?_⟩
  refine ⟨g1, e, rfl, r1, re.mono e1, (Post.bind p1).imp fun l g2 e2 r2 ⟨_, _, p2⟩ vs rs => ?_⟩
  exact Post.here r2 p2 (v :: vs) (RDs.cons (rv.mono e2) rs)
theorem asB_post {g : G} {d : D} {σ : St} {k : Bool → G → Prop} (rp : Rep K g) (h : Post K W g (asB g.S d) σ k) {v : V} (r : RD K g d v) : ∃ b, v = .bl b ∧ k b g := by
  cases d with
  | bl b =>
    rw [RD] at r
    exact ⟨b, r, Post.here rp h⟩
  | _ => exact False.elim h
theorem i_tTest {m : ME} {Q : Bool → Hp → Prop} (h : tT K W (mTB m) σ H Q) : tTest (tE K W m) σ H Q := by
  obtain ⟨g, e, rfl, rp, re, p⟩ := h
  refine ⟨g, e, rfl, rp, re, (Post.bind p).imp fun a g1 e1 r1 ⟨_, _, p1⟩ v rv => asB_post r1 p1 rv⟩
theorem i_tB {m : ME} {Q : Bool → Hp → Prop} (h : tT K W (mTB m) σ H Q) : tB (tE K W m) σ H Q := i_tTest h
theorem i_and {t u : MT} {Q : Bool → Hp → Prop} (h : tT K W (mAnd t u) σ H Q) : tAnd (tT K W t) (tT K W u) σ H Q := by
  obtain ⟨g, e, rfl, rp, re, p⟩ := h
  refine ⟨g, e, rfl, rp, re, (Post.bind p).imp fun b g1 e1 r1 ⟨_, _, p1⟩ => ?_⟩
  cases b with
  | true => exact ⟨g1, e, rfl, r1, re.mono e1, p1⟩
  | false => exact Post.here r1 p1
theorem i_or {t u : MT} {Q : Bool → Hp → Prop} (h : tT K W (mOr t u) σ H Q) : tOr (tT K W t) (tT K W u) σ H Q := by
  obtain ⟨g, e, rfl, rp, re, p⟩ := h
  refine ⟨g, e, rfl, rp, re, (Post.bind p).imp fun b g1 e1 r1 ⟨_, _, p1⟩ => ?_⟩
  cases b with
  | false => exact ⟨g1, e, rfl, r1, re.mono e1, p1⟩
  | true => exact Post.here r1 p1
theorem i_not {t : MT} {Q : Bool → Hp → Prop} (h : tT K W (mNot t) σ H Q) : tNot (tT K W t) σ H Q := by
  obtain ⟨g, e, rfl, rp, re, p⟩ := h
  exact ⟨g, e, rfl, rp, re, (Post.bind p).imp fun b g1 e1 r1 ⟨_, _, p1⟩ => Post.here r1 p1⟩
theorem i_if {t : MT} {ma mb : ME} (h : tE K W (mIf t ma mb) σ H Q) : tIf (tT K W t) (tE K W ma) (tE K W mb) σ H Q := by
  obtain ⟨g, e, rfl, rp, re, p⟩ := h
  refine ⟨g, e, rfl, rp, re, (Post.bind p).imp fun b g1 e1 r1 ⟨_, _, p1⟩ => ?_⟩
  cases b with
  | true => exact ⟨g1, e, rfl, r1, re.mono e1, p1⟩
  | false => exact ⟨g1, e, rfl, r1, re.mono e1, p1⟩
theorem i_andV {ma mb : ME} (h : tE K W (mAndV ma mb) σ H Q) : tAndV (tE K W ma) (tE K W mb) σ H Q := by
  obtain ⟨g, e, rfl, rp, re, p⟩ := h
  refine ⟨g, e, rfl, rp, re, (Post.bind p).imp fun a g1 e1 r1 ⟨_, _, p1⟩ v rv => ?_⟩
  obtain ⟨b, hb, _, _, p2⟩ := asB_post r1 (Post.bind p1) rv
  refine ⟨b, hb, ?_⟩
  cases b with
  | true => exact ⟨g1, e, rfl, r1, re.mono e1, p2⟩
  | false => exact Post.here r1 p2 _ (by rw [RD])
theorem i_orV {ma mb : ME} (h : tE K W (mOrV ma mb) σ H Q) : tOrV (tE K W ma) (tE K W mb) σ H Q := by
  obtain ⟨g, e, rfl, rp, re, p⟩ := h
  refine ⟨g, e, rfl, rp, re, (Post.bind p).imp fun a g1 e1 r1 ⟨_, _, p1⟩ v rv => ?_⟩
  obtain ⟨b, hb, _, _, p2⟩ := asB_post r1 (Post.bind p1) rv
  refine ⟨b, hb, ?_⟩
  cases b with
  | false => exact ⟨g1, e, rfl, r1, re.mono e1, p2⟩
  | true => exact Post.here r1 p2 _ (by rw [RD])
theorem i_notV {ma : ME} (h : tE K W (mNotV ma) σ H Q) : tNotV (tE K W ma) σ H Q := by
  obtain ⟨g, e, rfl, rp, re, p⟩ := h
  refine ⟨g, e, rfl, rp, re, (Post.bind p).imp fun a g1 e1 r1 ⟨_, _, p1⟩ v rv => ?_⟩
  obtain ⟨b, hb, _, _, p2⟩ := asB_post r1 (Post.bind p1) rv
  exact ⟨b, hb, Post.here r1 p2 _ (by rw [RD])⟩
end

section
variable {X : Cx} {W : WX'} {a b c : Expr} {ma mb mc : ME} {ta tb tc : MT} {pos : Pos} {rest : List Expr}
theorem pm_var (i : Nat) {x : Str} {pos : Pos} (hN : X.N[i]? = some x := by rfl) (hv : Vis X.env.scope x := by first | exact Or.inl rfl | exact Or.inr (Or.inl rfl) | exact Or.inr (Or.inr rfl)) (hd : (x == ("__debug__" : Str)) = false := by decide)
    (hcd : (x == ("__classdict__" : Str)) = false := by decide) : PE X (.Name x pos) (tE X.K W (mVar i)) := PE.imp (pe_var hN hv hd hcd) fun _ _ _ => i_var
theorem pm_int {i j pos} : PE X (.Constant (.int i) j pos) (tE X.K W (mC (.int i))) := PE.imp pe_int fun _ _ _ => i_C fun g => by rw [RD]
theorem pm_bl {i j pos} : PE X (.Constant (.bool i) j pos) (tE X.K W (mC (.bl i))) := PE.imp pe_bl fun _ _ _ => i_C fun g => by rw [RD]
theorem pm_non {j pos} : PE X (.Constant .none j pos) (tE X.K W (mC .non)) := PE.imp pe_non fun _ _ _ => i_C fun g => by rw [RD]
theorem pm_str {i j pos} : PE X (.Constant (.str i) j pos) (tE X.K W (mC (.str i))) := PE.imp pe_str fun _ _ _ => i_C fun g => by rw [RD]
theorem pm_bltn {x : Str} {n : String} {pos : Pos} (hg : Gl X x) (hm : X.mg x = none) (hv : bootBuiltins x = some (.type n)) (hn : x ≠ "__name__" := by decide) (hd : (x == ("__debug__" : Str)) = false := by decide) : PE X (.Name x pos) (tE X.K W (mC (.ty n))) :=
  PE.imp (pe_bltn (v := .ty n) hg hm hv rfl hn hd) fun _ _ _ => i_C fun g => by rw [RD]
theorem pm_glob {x : Str} {p : Addr} {pos : Pos} (hg : Gl X x) (hm : X.mg x = some (.ref p)) (hd : (x == ("__debug__" : Str)) = false := by decide) : PE X (.Name x pos) (tE X.K W (mC (.adr p))) :=
  PE.imp (pe_glob (v := .ref p) hg hm rfl hd) fun _ _ _ => i_C fun g => by rw [RD]
theorem pm_bin {op : Operator} {f : Op2} (ho : OpR X (binaryOp op) (rOp X.K f)) (ha : PE X a (tE X.K W ma)) (hb : PE X b (tE X.K W mb)) : PE X (.BinOp a op b pos) (tE X.K W (mBin f ma mb)) := PE.imp (pe_op ho ha hb) fun _ _ _ => i_bin
theorem pm_un {op : UnaryOp} {f : Op1} (ho : UnR X (unaryOp op) (rUn X.K f)) (ha : PE X a (tE X.K W ma)) : PE X (.UnaryOp op a pos) (tE X.K W (mUn f ma)) := PE.imp (pe_un ho ha) fun _ _ _ => i_un
theorem pm_cmp {op : CmpOp} {f : Op2} (ho : OpR X (compareOp op) (rOp X.K f)) (ha : PE X a (tE X.K W ma)) (hb : PE X b (tE X.K W mb)) (hm : behindInMarks op b = false := by first | exact nomark _ | rfl | with_unfolding_all rfl) :
    PE X (.Compare a [op] [b] pos) (tE X.K W (mBin f ma mb)) := PE.imp (pe_cmpR ho ha hb hm) fun _ _ _ => i_bin
theorem qm_cmp {op : CmpOp} {f : Op2} (ho : OpR X (compareOp op) (rOp X.K f)) (ha : PE X a (tE X.K W ma)) (hb : PE X b (tE X.K W mb)) (hm : behindInMarks op b = false := by first | exact nomark _ | rfl | with_unfolding_all rfl) :
    PT X (.Compare a [op] [b] pos) (tT X.K W (mTB (mBin f ma mb))) := PT.imp (pt_cmpR ho ha hb hm) fun σ H Q h => by
  obtain ⟨g, e, rfl, rp, re, p⟩ := i_tTest h
  exact i_bin ⟨g, e, rfl, rp, re, p⟩
/-- any expression that gives a bool, as a test -/
theorem qm_val (ha : PE X a (tE X.K W ma)) (he : ∀ whole, isTrue a X.env whole = (do let v ← whole; standAt a.pos; holding [v] (truthy v)) := by intro _; rfl) : PT X a (tT X.K W (mTB ma)) := PT.imp (pt_val ha he) fun _ _ _ => i_tB
theorem qm_and1 (ha : PT X a (tT X.K W ta)) : PW X (.BoolOp .And [a] pos) (tT X.K W ta) := pw_and1 ha
theorem qm_or1 (ha : PT X a (tT X.K W ta)) : PW X (.BoolOp .Or [a] pos) (tT X.K W ta) := pw_or1 ha
theorem qm_and (ha : PT X a (tT X.K W ta)) (hb : PW X (.BoolOp .And (b :: rest) pos) (tT X.K W tb)) : PW X (.BoolOp .And (a :: b :: rest) pos) (tT X.K W (mAnd ta tb)) := PW.imp (pw_and ha hb) fun _ _ _ => i_and
theorem qm_or (ha : PT X a (tT X.K W ta)) (hb : PW X (.BoolOp .Or (b :: rest) pos) (tT X.K W tb)) : PW X (.BoolOp .Or (a :: b :: rest) pos) (tT X.K W (mOr ta tb)) := PW.imp (pw_or ha hb) fun _ _ _ => i_or
theorem qm_not (ha : PT X a (tT X.K W ta)) : PT X (.UnaryOp .Not a pos) (tT X.K W (mNot ta)) := PT.imp (pt_not ha) fun _ _ _ => i_not
theorem pm_if (hc : PT X c (tT X.K W tc)) (ha : PE X a (tE X.K W ma)) (hb : PE X b (tE X.K W mb)) : PE X (.IfExp c a b pos) (tE X.K W (mIf tc ma mb)) := PE.imp (pe_ifExp hc ha hb) fun _ _ _ => i_if
theorem pm_one {op} (h : PE X a (tE X.K W ma)) : PE X (.BoolOp op [a] pos) (tE X.K W ma) := pe_one h
theorem pm_and (ha : PE X a (tE X.K W ma)) (hb : PE X (.BoolOp .And (b :: rest) pos) (tE X.K W mb)) : PE X (.BoolOp .And (a :: b :: rest) pos) (tE X.K W (mAndV ma mb)) := PE.imp (pe_and ha hb) fun _ _ _ => i_andV
theorem pm_or (ha : PE X a (tE X.K W ma)) (hb : PE X (.BoolOp .Or (b :: rest) pos) (tE X.K W mb)) : PE X (.BoolOp .Or (a :: b :: rest) pos) (tE X.K W (mOrV ma mb)) := PE.imp (pe_or ha hb) fun _ _ _ => i_orV
theorem pm_not (ha : PE X a (tE X.K W ma)) : PE X (.UnaryOp .Not a pos) (tE X.K W (mNotV ma)) := PE.imp (pe_not ha) fun _ _ _ => i_notV
theorem am_nil : PA X [] (tA X.K W mNil) := PA.imp pa_nil fun _ _ _ => i_nil
theorem am_cons {mr : MA} {es : List Expr} (ha : PE X a (tE X.K W ma)) (hr : PA X es (tA X.K W mr)) (hs : starEach (a :: es) X.env = (false, eval a X.env) :: starEach es X.env := by rfl) : PA X (a :: es) (tA X.K W (mCons ma mr)) :=
  PA.imp (pa_cons ha hr hs) fun _ _ _ => i_cons
end

/-! ### new sequences -/
def mTup (m : MA) : ME := fun e S => (m e S).bind fun l S1 => if l.length ≤ sz then .ok (.tup l) S1 else .bad
/-- a list that is never changed again -/
def mLst (m : MA) : ME := fun e S => (m e S).bind fun l S1 => if l.length ≤ sz then .ok (.lst l) S1 else .bad
/-- a list that is changed later -/
def mNew (m : MA) : ME := fun e S => (m e S).bind fun l S1 => if l.length ≤ sz then .ok (.ref S1.length) (S1 ++ [.lst l]) else .bad
section
variable {K : PySem.W.Frag} {g : G} {p : Addr}
theorem new_tup (rp : Rep K g) (hp : g.H p = none) {l : List D} {vs : List V} (r : RDs K g l vs) : Ext g { g with H := upd g.H p (.tup vs) } ∧ Rep K { g with H := upd g.H p (.tup vs) } ∧ RD K { g with H := upd g.H p (.tup vs) } (.tup l) (.ref p) := by
  refine ⟨Ext.newv hp, rp.newv hp, ?_⟩
  rw [RD]
  exact ⟨p, vs, rfl, .inl ⟨.inl upd_same, rp.fresh hp⟩, r.mono (Ext.newv hp)⟩
theorem new_lst (rp : Rep K g) (hp : g.H p = none) {l : List D} {vs : List V} (r : RDs K g l vs) : Ext g { g with H := upd g.H p (.lst vs) } ∧ Rep K { g with H := upd g.H p (.lst vs) } ∧ RD K { g with H := upd g.H p (.lst vs) } (.lst l) (.ref p) := by
  refine ⟨Ext.newv hp, rp.newv hp, ?_⟩
  rw [RD]
  exact ⟨p, vs, rfl, ⟨.inl upd_same, rp.fresh hp⟩, r.mono (Ext.newv hp)⟩
theorem new_ref (rp : Rep K g) (hp : g.H p = none) {l : List D} {vs : List V} (r : RDs K g l vs) : Ext g (g.add p (.lst l) (.lst vs)) ∧ Rep K (g.add p (.lst l) (.lst vs)) ∧ RD K (g.add p (.lst l) (.lst vs)) (.ref g.S.length) (.ref p) := by
  refine ⟨Ext.add rp hp, rp.add hp ⟨vs, upd_same, r.mono (Ext.add rp hp)⟩, ?_⟩
  rw [RD]
  exact ⟨by simp, by simp⟩
end
section
variable {K : PySem.W.Frag} {W : WX'} {σ : St} {H : Hp} {Q : VK}
theorem i_tup {m : MA} (h : tE K W (mTup m) σ H Q) : tTup (tA K W m) σ H Q := by
  obtain ⟨g, e, rfl, rp, re, p⟩ := h
  refine ⟨g, e, rfl, rp, re, (Post.bind p).imp fun l g1 e1 r1 ⟨_, _, p1⟩ vs rv => ?_⟩
  by_cases hl : l.length ≤ sz
  · rw [if_pos hl] at p1
    refine ⟨by rw [← rv.length, ← sz_eq]; exact hl, fun q hq => ?_⟩
    obtain ⟨x, y, z⟩ := new_tup r1 hq rv
    exact p1 _ x rfl y _ z
  · rw [if_neg hl] at p1; exact False.elim p1
theorem i_lst {m : MA} (h : tE K W (mLst m) σ H Q) : tLst (tA K W m) σ H Q := by
  obtain ⟨g, e, rfl, rp, re, p⟩ := h
  refine ⟨g, e, rfl, rp, re, (Post.bind p).imp fun l g1 e1 r1 ⟨_, _, p1⟩ vs rv => ?_⟩
  by_cases hl : l.length ≤ sz
  · rw [if_pos hl] at p1
    refine ⟨by rw [← rv.length, ← sz_eq]; exact hl, fun q hq => ?_⟩
    obtain ⟨x, y, z⟩ := new_lst r1 hq rv
    exact p1 _ x rfl y _ z
  · rw [if_neg hl] at p1; exact False.elim p1
theorem i_new {m : MA} (h : tE K W (mNew m) σ H Q) : tLst (tA K W m) σ H Q := by
  obtain ⟨g, e, rfl, rp, re, p⟩ := h
  refine ⟨g, e, rfl, rp, re, (Post.bind p).imp fun l g1 e1 r1 ⟨_, _, p1⟩ vs rv => ?_⟩
  by_cases hl : l.length ≤ sz
  · rw [if_pos hl] at p1
    refine ⟨by rw [← rv.length, ← sz_eq]; exact hl, fun q hq => ?_⟩
    obtain ⟨x, y, z⟩ := new_ref r1 hq rv
    exact p1 _ x rfl y _ z
  · rw [if_neg hl] at p1; exact False.elim p1
end
section
variable {X : Cx} {W : WX'} {es : List Expr} {m : MA} {pos : Pos}
theorem pm_tup {x1} (h : PA X es (tA X.K W m)) : PE X (.Tuple es x1 pos) (tE X.K W (mTup m)) := PE.imp (pe_tup h) fun _ _ _ => i_tup
theorem pm_lst (h : PA X es (tA X.K W m)) : PE X (.List es pos) (tE X.K W (mLst m)) := PE.imp (pe_lst h) fun _ _ _ => i_lst
theorem pm_new (h : PA X es (tA X.K W m)) : PE X (.List es pos) (tE X.K W (mNew m)) := PE.imp (pe_lst h) fun _ _ _ => i_new
end

/-! ### what a sequence holds -/
/-- a list, to be read -/
def seqR (S : List O) : D → Option (List D)
  | .lst l => some l
  | .kl l => some l
  | .ref n => match S[n]? with
    | some (.lst l) => some l
    | _ => none
  | _ => none
/-- a list that the program made -/
def seqP (S : List O) : D → Option (List D)
  | .lst l => some l
  | .ref n => match S[n]? with
    | some (.lst l) => some l
    | _ => none
  | _ => none
section
variable {K : PySem.W.Frag} {g : G}
theorem seqR_at (rp : Rep K g) {d : D} {l : List D} (h : seqR g.S d = some l) {v : V} (r : RD K g d v) : ∃ a vs, v = .ref a ∧ SqL K g.H a vs ∧ RDs K g l vs := by
  cases d with
  | lst m =>
    cases h
    rw [RD] at r
    obtain ⟨a, vs, h1, h2, h3⟩ := r
    exact ⟨a, vs, h1, h2.sq, h3⟩
  | kl m =>
    cases h
    rw [RD] at r
    obtain ⟨a, vs, h1, h2, h3⟩ := r
    exact ⟨a, vs, h1, h2.sq, h3⟩
  | ref n =>
    rw [RD] at r
    unfold seqR at h
    dsimp only at h
    split at h
    · rename_i m q
      cases h
      obtain ⟨vs, h1, h2⟩ := rp.obj n _ q
      exact ⟨_, vs, r.2, .inl (.inl h1), h2⟩
    · cases h
  | _ => cases h
theorem seqP_at (rp : Rep K g) {d : D} {l : List D} (h : seqP g.S d = some l) {v : V} (r : RD K g d v) : ∃ a vs, v = .ref a ∧ Rd g.H a (.lst vs) ∧ RDs K g l vs := by
  cases d with
  | lst m =>
    cases h
    rw [RD] at r
    obtain ⟨a, vs, h1, h2, h3⟩ := r
    exact ⟨a, vs, h1, h2.1, h3⟩
  | ref n =>
    rw [RD] at r
    unfold seqP at h
    dsimp only at h
    split at h
    · rename_i m q
      cases h
      obtain ⟨vs, h1, h2⟩ := rp.obj n _ q
      exact ⟨_, vs, r.2, .inl h1, h2⟩
    · cases h
  | _ => cases h
end
end Mo

namespace Mo
open PySem L2 PyProof.Rows

/-! ### operators -/
/-- x ++ y, by lists -/
def apS (x y : Str) : Str := ⟨⟨x.cps.toList ++ y.cps.toList⟩⟩
theorem apS_eq (x y : Str) : apS x y = x ++ y := by
  show _ = Str.append x y
  unfold apS Str.append
  congr 1
  apply Array.toList_inj.mp
  rw [Array.toList_append]
def gAdd : Op2 := fun S a b => match a, b with
  | .int i, .int j => some (.int (i + j))
  | .int i, .bl k => some (.int (i + b2i k))
  | .str x, .str y => if x.length + y.length ≤ sz then some (.str (apS x y)) else none
  | .tup x, .tup y => if x.length + y.length ≤ sz then some (.tup (x ++ y)) else none
  | a, b => match seqP S a, seqP S b with
    | some x, some y => if x.length + y.length ≤ sz then some (.lst (x ++ y)) else none
    | _, _ => none
def gSub : Op2 := fun _ a b => match a, b with
  | .int i, .int j => some (.int (i - j))
  | _, _ => none
def gMul : Op2 := fun S a b => match a, b with
  | .int i, .int j => if (i.natAbs < 18446744073709551616) ∨ (j.natAbs < 18446744073709551616) then some (.int (i * j)) else none
  | a, .int k => match seqP S a with
    | some x => if x.length * k.toNat ≤ sz ∧ k.natAbs < 9223372036854775808 then some (.lst (List.replicate k.toNat x).flatten) else none
    | none => none
  | _, _ => none
def gDiv : Op2 := fun _ a b => match a, b with
  | .int i, .int j => if 0 < j ∧ j.natAbs.log2 < 9000 then some (.int (i / j)) else none
  | _, _ => none
def gMod : Op2 := fun _ a b => match a, b with
  | .int i, .int j => if 0 < j then some (.int (i % j)) else none
  | _, _ => none
def gPow : Op2 := fun _ a b => match a, b with
  | .int i, .int j => if 0 ≤ j ∧ j ≤ 1000000 ∧ i.natAbs < 18446744073709551616 then some (.int (i ^ j.toNat)) else none
  | _, _ => none
def gShl : Op2 := fun _ a b => match a, b with
  | .int i, .int j => if 0 ≤ j ∧ j ≤ 1000000 ∧ i.natAbs < 18446744073709551616 then some (.int (i * 2 ^ j.toNat)) else none
  | _, _ => none
def gNeg : Op1 := fun _ a => match a with
  | .int i => some (.int (-i))
  | _ => none
def gLt : Op2 := fun _ a b => match a, b with
  | .int i, .int j => some (.bl (decide (i < j)))
  | .str x, .str y => some (.bl (decide (x.cps.toList < y.cps.toList)))
  | _, _ => none
def gLe : Op2 := fun _ a b => match a, b with
  | .int i, .int j => some (.bl (decide (i ≤ j)))
  | _, _ => none
def gGt : Op2 := fun _ a b => match a, b with
  | .int i, .int j => some (.bl (decide (j < i)))
  | _, _ => none
def gGe : Op2 := fun _ a b => match a, b with
  | .int i, .int j => some (.bl (decide (j ≤ i)))
  | _, _ => none
mutual
/-- data without objects of one's own -/
def toPy : D → Option PyData
  | .non => some .none
  | .bl b => some (.bool b)
  | .int i => some (.int i)
  | .str x => some (.str x)
  | .tup l => match toPys l with | some m => some (.tuple m) | none => none
  | .lst l => match toPys l with | some m => some (.list m) | none => none
  | .kl l => match toPys l with | some m => some (.list m) | none => none
  | _ => none
def toPys : List D → Option (List PyData)
  | [] => some []
  | d :: l => match toPy d, toPys l with | some x, some m => some (x :: m) | _, _ => none
end
def toPyS (S : List O) (d : D) : Option PyData := match d with
  | .ref n => match S[n]? with
    | some (.lst l) => (match toPys l with | some m => some (.list m) | none => none)
    | _ => none
  | d => toPy d
/-- scalars that == tells apart -/
def scD : D → D → Option Bool
  | .int i, .int j => some (decide (i = j))
  | .str i, .str j => some (decide (i.cps.toList = j.cps.toList))
  | .bl i, .bl j => some (i == j)
  | .non, .non => some true
  | .int _, .str _ => some false
  | .str _, .int _ => some false
  | .non, .int _ => some false
  | .int _, .non => some false
  | .non, .str _ => some false
  | .str _, .non => some false
  | .non, .bl _ => some false
  | .bl _, .non => some false
  | .bl _, .str _ => some false
  | .str _, .bl _ => some false
  | _, _ => none
def eqB (S : List O) (a b : D) : Option Bool := match scD a b with
  | some k => some k
  | none => match toPyS S a, toPyS S b with
    | some p, some q => if SeqAt.shaped p = true ∧ SeqAt.shaped q = true then some (PyData.eqv p q) else none
    | _, _ => none
def gEq : Op2 := fun S a b => (eqB S a b).map .bl
def gNe : Op2 := fun S a b => (eqB S a b).map fun k => .bl (!k)
def gIsN : Op2 := fun _ a b => match b with
  | .non => some (.bl (decide (a = .non)))
  | _ => none
def gNotN : Op2 := fun _ a b => match b with
  | .non => some (.bl (!decide (a = .non)))
  | _ => none
def flatD : D → Bool
  | .non => true | .bl _ => true | .int _ => true | .str _ => true | _ => false
def eqD : D → D → Bool
  | .non, .non => true
  | .bl a, .bl b => a == b
  | .bl a, .int b => (if a then 1 else 0) == b
  | .int a, .bl b => a == (if b then 1 else 0)
  | .int a, .int b => a == b
  | .str a, .str b => a == b
  | _, _ => false
def inD (x : D) (l : List D) : Bool := l.any fun y => eqD y x
def elemB (S : List O) (a b : D) : Option Bool := match b with
  | .str z => match a with
    | .str y => some (!(Builtin.Str.occurrences z y 0 z.length 1).isEmpty)
    | _ => none
  | .tup l => if flatD a = true ∧ l.all flatD = true then some (inD a l) else none
  | b => match seqR S b with
    | some l => if flatD a = true ∧ l.all flatD = true then some (inD a l) else none
    | none => none
def gIn : Op2 := fun S a b => (elemB S a b).map .bl
def gNin : Op2 := fun S a b => (elemB S a b).map fun k => .bl (!k)

section
variable {K : PySem.W.Frag} {g : G}
theorem rd_sc {d : D} {v : V} (h : flatD d = true) (r : RD K g d v) : flatV v = true := by
  cases d <;> first | (cases h; done) | (simp only [RD] at r; subst r; rfl)
theorem dec_strl {x y : Str} : decide (V.str x = V.str y) = decide (x.cps.toList = y.cps.toList) := by
  by_cases h : x = y
  · subst h; rw [decide_eq_true rfl, decide_eq_true rfl]
  · rw [decide_eq_false (fun z => h (by cases z; rfl)), decide_eq_false (fun z => h (by
      cases x with | mk a => cases y with | mk b => cases a with | mk a => cases b with | mk b => simp at z; subst z; rfl))]
theorem scD_ok {a b : D} {k : Bool} (h : scD a b = some k) {x y : V} (ra : RD K g a x) (rb : RD K g b y) : scal x y = true ∧ decide (x = y) = k := by
  cases a <;> cases b <;> first
    | (cases h; done)
    | (simp only [RD] at ra rb; subst ra; subst rb; cases h; refine ⟨rfl, ?_⟩; first | rfl | exact dec_strl | (simp; done) | exact dec_bl)
mutual
theorem toPy_ok : ∀ {d : D} {p : PyData} {v : V}, toPy d = some p → RD K g d v → Dp K g.H v p
  | .non, p, v, h, r => by rw [RD] at r; subst r; cases h; exact .non
  | .bl b, p, v, h, r => by rw [RD] at r; subst r; cases h; exact .bl b
  | .int i, p, v, h, r => by rw [RD] at r; subst r; cases h; exact .int i
  | .str x, p, v, h, r => by rw [RD] at r; subst r; cases h; exact .str x
  | .tup l, p, v, h, r => by
    rw [toPy] at h
    cases q : toPys l with
    | none => rw [q] at h; cases h
    | some m =>
      rw [q] at h; cases h
      rw [RD] at r
      obtain ⟨a, vs, rfl, h2, h3⟩ := r
      exact .tup h2.sq (toPys_ok q h3)
  | .lst l, p, v, h, r => by
    rw [toPy] at h
    cases q : toPys l with
    | none => rw [q] at h; cases h
    | some m =>
      rw [q] at h; cases h
      rw [RD] at r
      obtain ⟨a, vs, rfl, h2, h3⟩ := r
      exact .lst h2.sq (toPys_ok q h3)
  | .kl l, p, v, h, r => by
    rw [toPy] at h
    cases q : toPys l with
    | none => rw [q] at h; cases h
    | some m =>
      rw [q] at h; cases h
      rw [RD] at r
      obtain ⟨a, vs, rfl, h2, h3⟩ := r
      exact .lst h2.sq (toPys_ok q h3)
  | .ty _, p, v, h, r => by cases h
  | .adr _, p, v, h, r => by cases h
  | .ref _, p, v, h, r => by cases h
theorem toPys_ok : ∀ {l : List D} {m : List PyData} {vs : List V}, toPys l = some m → RDs K g l vs → DpAll K g.H vs m
  | [], m, vs, h, r => by rw [RDs] at r; subst r; cases h; exact .nil
  | d :: l, m, vs, h, r => by
    rw [RDs] at r
    obtain ⟨v, us, rfl, h2, h3⟩ := r
    rw [toPys] at h
    cases q1 : toPy d with
    | none => rw [q1] at h; cases h
    | some p =>
      cases q2 : toPys l with
      | none => rw [q1, q2] at h; cases h
      | some ps =>
        rw [q1, q2] at h; cases h
        exact .cons (toPy_ok q1 h2) (toPys_ok q2 h3)
end
theorem toPyS_ok (rp : Rep K g) {d : D} {p : PyData} {v : V} (h : toPyS g.S d = some p) (r : RD K g d v) : Dp K g.H v p := by
  cases d with
  | ref n =>
    rw [RD] at r
    unfold toPyS at h
    dsimp only at h
    split at h
    · rename_i l q
      cases q2 : toPys l with
      | none => rw [q2] at h; cases h
      | some m =>
        rw [q2] at h; cases h
        obtain ⟨vs, h1, h2⟩ := rp.obj n _ q
        rw [r.2]
        exact .lst (.inl (.inl h1)) (toPys_ok q2 h2)
    · cases h
  | _ => exact toPy_ok h r
theorem rds_flat : ∀ {l : List D} {vs : List V}, l.all flatD = true → RDs K g l vs → vs.all flatV = true
  | [], _, _, r => by rw [RDs] at r; subst r; rfl
  | d :: l, _, h, r => by
    rw [RDs] at r
    obtain ⟨v, us, rfl, h2, h3⟩ := r
    rw [List.all_cons, Bool.and_eq_true] at h ⊢
    exact ⟨rd_sc h.1 h2, rds_flat h.2 h3⟩
theorem eqD_ok {a b : D} {x y : V} (ra : RD K g a x) (rb : RD K g b y) (fa : flatD a = true) (fb : flatD b = true) : eqV x y = eqD a b := by
  cases a <;> first | (cases fa; done) | (cases b <;> first | (cases fb; done) | (simp only [RD] at ra rb; subst ra; subst rb; rfl))
theorem inD_ok {a : D} {x : V} (ra : RD K g a x) (fa : flatD a = true) : ∀ {l : List D} {vs : List V}, l.all flatD = true → RDs K g l vs → inV x vs = inD a l
  | [], _, _, r => by rw [RDs] at r; subst r; rfl
  | d :: l, _, h, r => by
    rw [RDs] at r
    obtain ⟨v, us, rfl, h2, h3⟩ := r
    rw [List.all_cons, Bool.and_eq_true] at h
    have ih := inD_ok ra fa h.2 h3
    unfold inV inD at ih ⊢
    rw [List.any_cons, List.any_cons, ih, eqD_ok h2 ra h.1 fa]
end

section
variable {X : Cx}
theorem rd_lst {pins : List (Addr × Obj)} {σ : L2.St} {H : Hp} {s : Shared} {l : Addr} {xs : List V} (I : Inv X pins σ H s) (h : Rd H l (.lst xs)) :
    xs.length ≤ sizeLine ∧ ∃ (its : List Value) (n : Nat), Vals xs its ∧ xs.length = its.length ∧ s.heap.get? l = some { cls := .type "list", data := .seq its.toArray n } := by
  obtain ⟨z, its, n, r, e⟩ := h.ok I.hok
  exact ⟨z, its, n, r, r.length, e⟩
theorem catR : OpR X (binaryOp .Add) (fun x y H Q => ∃ l b xs zs, x = .ref l ∧ y = .ref b ∧ Rd H l (.lst xs) ∧ Rd H b (.lst zs) ∧ xs.length + zs.length ≤ sizeLine ∧ ∀ p, H p = none → Q (.ref p) (upd H p (.lst (xs ++ zs)))) := by
  intro pins s σ H x y v u Q I rx ry h
  obtain ⟨l, b, xs, zs, rfl, rfl, hH, hB, hz, q⟩ := h
  cases rx
  cases ry
  obtain ⟨_, its, n, r, hl, e⟩ := rd_lst I hH
  obtain ⟨_, jts, m, r2, hl2, e2⟩ := rd_lst I hB
  refine PySem.P.add_list e e2 ?_ (by rw [List.size_toArray, List.size_toArray]; omega)
  rw [show its.toArray ++ jts.toArray = (its ++ jts).toArray by simp]
  exact ⟨.ref _, _, I.lnew (t' := s.toks) (r.append r2) (by rw [List.length_append]; omega), rfl, q _ I.fresh⟩
theorem repR : OpR X (binaryOp .Mult) (fun x y H Q => ∃ l k xs, x = .ref l ∧ y = .int k ∧ Rd H l (.lst xs) ∧ -(2 ^ 63) ≤ k ∧ k < 2 ^ 63 ∧ xs.length * k.toNat ≤ sizeLine ∧
    ∀ p, H p = none → Q (.ref p) (upd H p (.lst (List.replicate k.toNat xs).flatten))) := by
  intro pins s σ H x y v u Q I rx ry h
  obtain ⟨l, k, xs, rfl, rfl, hH, h1, h2, hz, q⟩ := h
  cases rx
  obtain ⟨t, rfl⟩ := ry
  obtain ⟨_, its, n, r, hl, e⟩ := rd_lst I hH
  have hlen : its.toArray.size * k.toNat ≤ sizeLine := by rw [List.size_toArray, ← hl]; exact hz
  have big : ¬ its.toArray.size * k.toNat > (2 ^ 63 - 1) / 8 := by
    have : (sizeLine : Nat) ≤ (2 ^ 63 - 1) / 8 := by decide
    omega
  have fits : ¬ (!Builtin.List.listFitsIndex k) = true := by
    rw [fitsIndex_both h1 h2]
    exact Bool.false_ne_true
  have short : ¬ Builtin.List.listTooLong (its.toArray.size * k.toNat) = true := by
    rw [notLongL hlen]
    exact Bool.false_ne_true
  have made : List.foldl (fun x1 x2 => x1 ++ x2) #[] (List.replicate (if its.toArray.isEmpty = true then 0 else k.toNat) its.toArray) = (List.replicate k.toNat its).flatten.toArray := by
    have any : ∀ m : Nat, List.foldl (fun x1 x2 => x1 ++ x2) #[] (List.replicate m its.toArray) = (List.replicate m its).flatten.toArray := fun m => by
      have z := foldl_rep its m []
      rw [List.nil_append] at z
      exact z
    rw [any]
    cases its with
    | nil => simp
    | cons a r' => rw [if_neg (by simp)]
  refine wpAny_binaryOp_repeat_ref (T := "list") (U := "int") (by decide) ⟨_, e, rfl⟩ (fun s' => typeIs_int s' k t) noFill_list_mul F.fills_int_mul F.slot_int_rmul repeat_list F.slot_int_index.lookup
    (call_meets F.slot_int_rmul (typeIs_int s k t) F.entry_int_rmul (F.args_int_rmul_2 _ _) (int___rmul___int_list k t l its.toArray n)
      ⟨e, rfl, ⟨_, e, rfl⟩, call_meets F.slot_list_mul ⟨_, e, rfl⟩ F.entry_list_mul (F.args_list_mul_2 _ _) (AutoListH.list___mul___list_int_3 l its.toArray n k t fits big short) ⟨e, ?_⟩⟩)
  rw [made]
  exact ⟨.ref _, _, I.lnew (t' := s.toks) (r.rep k.toNat) (by rw [PyProof.Rows.lm_len_rep_flat, Nat.mul_comm]; exact hz), rfl, q _ I.fresh⟩
theorem RDs.rep {K : PySem.W.Frag} {g : G} {l : List D} {vs : List V} (r : RDs K g l vs) : ∀ k : Nat, RDs K g (List.replicate k l).flatten (List.replicate k vs).flatten
  | 0 => RDs.nil
  | k + 1 => by
    rw [List.replicate_succ, List.replicate_succ, List.flatten_cons, List.flatten_cons]
    exact r.append (RDs.rep r k)

theorem o_add : OpR X (binaryOp .Add) (rOp X.K gAdd) := by
  intro pins s σ H x y v u Q I rx ry h
  obtain ⟨g, a, b, d, rfl, rp, ra, rb, hf, q⟩ := h
  have lists : (match seqP g.S a, seqP g.S b with
    | some x, some y => if x.length + y.length ≤ sz then some (D.lst (x ++ y)) else none
    | _, _ => none) = some d → wpAny (model X.prog X.w) X.A (binaryOp .Add v u) (EP X pins σ Q) X.xe s := fun hf => by
    cases e1 : seqP g.S a with
    | none => rw [e1] at hf; cases hf
    | some l1 =>
      cases e2 : seqP g.S b with
      | none => rw [e1, e2] at hf; cases hf
      | some l2 =>
        rw [e1, e2] at hf
        dsimp only at hf
        by_cases hz : l1.length + l2.length ≤ sz
        · rw [if_pos hz] at hf
          cases hf
          obtain ⟨p1, vs1, rfl, h1, r1⟩ := seqP_at rp e1 ra
          obtain ⟨p2, vs2, rfl, h2, r2⟩ := seqP_at rp e2 rb
          refine catR pins s σ _ _ _ v u Q I rx ry ⟨p1, p2, vs1, vs2, rfl, rfl, h1, h2, by rw [← r1.length, ← r2.length, ← sz_eq]; exact hz, fun p hp => ?_⟩
          obtain ⟨x1, x2, x3⟩ := new_lst rp hp (r1.append r2)
          exact q _ _ x1 rfl x2 x3
        · rw [if_neg hz] at hf; cases hf
  unfold gAdd at hf
  split at hf
  · cases hf
    simp only [RD] at ra rb; subst ra; subst rb
    exact op_add pins s σ _ _ _ v u Q I rx ry ⟨_, _, rfl, rfl, q g _ (Ext.refl g) rfl rp (by rw [RD])⟩
  · cases hf
    simp only [RD] at ra rb; subst ra; subst rb
    exact op_add_ib pins s σ _ _ _ v u Q I rx ry ⟨_, _, rfl, rfl, q g _ (Ext.refl g) rfl rp (by rw [RD])⟩
  · rename_i x1 y1
    by_cases hz : x1.length + y1.length ≤ sz
    · rw [if_pos hz] at hf
      cases hf
      simp only [RD] at ra rb; subst ra; subst rb
      exact op_add_str pins s σ _ _ _ v u Q I rx ry ⟨_, _, rfl, rfl, by rw [← sz_eq]; exact hz, q g _ (Ext.refl g) rfl rp (by rw [RD, apS_eq])⟩
    · rw [if_neg hz] at hf; cases hf
  · rename_i x1 y1
    by_cases hz : x1.length + y1.length ≤ sz
    · rw [if_pos hz] at hf
      cases hf
      simp only [RD] at ra rb
      obtain ⟨p1, vs1, rfl, h1, r1⟩ := ra
      obtain ⟨p2, vs2, rfl, h2, r2⟩ := rb
      have e1 := r1.length
      have e2 := r2.length
      refine op_catA pins s σ _ _ _ v u Q I rx ry ⟨p1, p2, vs1, vs2, rfl, rfl, h1.sq, h2.sq, by rw [← e1, ← e2, ← sz_eq]; exact hz, fun z => ?_, fun z z' => ?_, fun z z' p hp => ?_⟩
      · subst z
        have : x1 = [] := List.eq_nil_of_length_eq_zero e1
        subst this
        exact q g _ (Ext.refl g) rfl rp (by rw [RD]; exact ⟨p2, vs2, rfl, h2, r2⟩)
      · subst z'
        have : y1 = [] := List.eq_nil_of_length_eq_zero e2
        subst this
        refine q g _ (Ext.refl g) rfl rp ?_
        rw [List.append_nil, RD]
        exact ⟨p1, vs1, rfl, h1, r1⟩
      · obtain ⟨x1, x2, x3⟩ := new_tup rp hp (r1.append r2)
        exact q _ _ x1 rfl x2 x3
    · rw [if_neg hz] at hf; cases hf
  · exact lists hf
/-- an operation of two ints -/
theorem o_ints {f : Value → Value → Sem Value} {op : Op2} {C : Int → Int → Prop} {fn : Int → Int → D} {vn : Int → Int → V} (h : OpR X f (rI C vn)) (rel : ∀ g i j, RD X.K g (fn i j) (vn i j))
    (inv : ∀ S a b d, op S a b = some d → ∃ i j, a = .int i ∧ b = .int j ∧ C i j ∧ d = fn i j) : OpR X f (rOp X.K op) := by
  intro pins s σ H x y v u Q I rx ry hh
  obtain ⟨g, a, b, d, rfl, rp, ra, rb, hf, q⟩ := hh
  obtain ⟨i, j, rfl, rfl, hc, rfl⟩ := inv _ _ _ _ hf
  simp only [RD] at ra rb; subst ra; subst rb
  exact h pins s σ _ _ _ v u Q I rx ry ⟨i, j, rfl, rfl, hc, q g _ (Ext.refl g) rfl rp (rel g i j)⟩
theorem o_ints0 {f : Value → Value → Sem Value} {op : Op2} {fn : Int → Int → D} {vn : Int → Int → V} (h : OpR X f (rI0 vn)) (rel : ∀ g i j, RD X.K g (fn i j) (vn i j))
    (inv : ∀ S a b d, op S a b = some d → ∃ i j, a = .int i ∧ b = .int j ∧ d = fn i j) : OpR X f (rOp X.K op) := by
  intro pins s σ H x y v u Q I rx ry hh
  obtain ⟨g, a, b, d, rfl, rp, ra, rb, hf, q⟩ := hh
  obtain ⟨i, j, rfl, rfl, rfl⟩ := inv _ _ _ _ hf
  simp only [RD] at ra rb; subst ra; subst rb
  exact h pins s σ _ _ _ v u Q I rx ry ⟨i, j, rfl, rfl, q g _ (Ext.refl g) rfl rp (rel g i j)⟩
theorem o_sub : OpR X (binaryOp .Sub) (rOp X.K gSub) := o_ints0 (fn := fun i j => .int (i - j)) op_sub (fun g i j => by rw [RD]) fun S a b d h => by
  unfold gSub at h
  split at h
  · cases h; exact ⟨_, _, rfl, rfl, rfl⟩
  · cases h
theorem o_div : OpR X (binaryOp .FloorDiv) (rOp X.K gDiv) := o_ints (fn := fun i j => .int (i / j)) op_fdivW (fun g i j => by rw [RD]) fun S a b d h => by
  unfold gDiv at h
  split at h
  · split at h
    · cases h; rename_i q; exact ⟨_, _, rfl, rfl, q, rfl⟩
    · cases h
  · cases h
theorem o_mod : OpR X (binaryOp .Mod) (rOp X.K gMod) := o_ints (fn := fun i j => .int (i % j)) op_mod (fun g i j => by rw [RD]) fun S a b d h => by
  unfold gMod at h
  split at h
  · split at h
    · cases h; rename_i q; exact ⟨_, _, rfl, rfl, q, rfl⟩
    · cases h
  · cases h
theorem o_pow : OpR X (binaryOp .Pow) (rOp X.K gPow) := o_ints (fn := fun i j => .int (i ^ j.toNat)) op_pow (fun g i j => by rw [RD]) fun S a b d h => by
  unfold gPow at h
  split at h
  · split at h
    · cases h; rename_i q; exact ⟨_, _, rfl, rfl, ⟨q.1, q.2.1, q.2.2⟩, rfl⟩
    · cases h
  · cases h
theorem o_shl : OpR X (binaryOp .LShift) (rOp X.K gShl) := o_ints (fn := fun i j => .int (i * 2 ^ j.toNat)) op_shl (fun g i j => by rw [RD]) fun S a b d h => by
  unfold gShl at h
  split at h
  · split at h
    · cases h; rename_i q; exact ⟨_, _, rfl, rfl, ⟨q.1, q.2.1, q.2.2⟩, rfl⟩
    · cases h
  · cases h
theorem o_mul : OpR X (binaryOp .Mult) (rOp X.K gMul) := by
  intro pins s σ H x y v u Q I rx ry h
  obtain ⟨g, a, b, d, rfl, rp, ra, rb, hf, q⟩ := h
  unfold gMul at hf
  split at hf
  · split at hf
    · rename_i i j hc
      cases hf
      simp only [RD] at ra rb; subst ra; subst rb
      refine op_mul pins s σ _ _ _ v u Q I rx ry ⟨i, j, rfl, rfl, ?_, q g _ (Ext.refl g) rfl rp (by rw [RD])⟩
      rcases hc with hc | hc
      · exact .inl ⟨by omega, by omega⟩
      · exact .inr ⟨by omega, by omega⟩
    · cases hf
  · rename_i b' k _
    cases e1 : seqP g.S a with
    | none => rw [e1] at hf; cases hf
    | some l =>
      rw [e1] at hf
      dsimp only at hf
      split at hf
      · rename_i hc
        cases hf
        rw [RD] at rb; subst rb
        obtain ⟨p1, vs1, rfl, h1, r1⟩ := seqP_at rp e1 ra
        refine repR pins s σ _ _ _ v u Q I rx ry ⟨p1, k, vs1, rfl, rfl, h1, by omega, by omega, by rw [← r1.length, ← sz_eq]; exact hc.1, fun p hp => ?_⟩
        obtain ⟨x1, x2, x3⟩ := new_lst rp hp (r1.rep k.toNat)
        exact q _ _ x1 rfl x2 x3
      · cases hf
  · cases hf
theorem o_neg : UnR X (unaryOp .USub) (rUn X.K gNeg) := by
  intro pins s σ H x v Q I rx h
  obtain ⟨g, a, d, rfl, rp, ra, hf, q⟩ := h
  unfold gNeg at hf
  split at hf
  · cases hf
    rw [RD] at ra; subst ra
    exact un_neg pins s σ _ _ v Q I rx ⟨_, rfl, q g _ (Ext.refl g) rfl rp (by rw [RD])⟩
  · cases hf
theorem o_lt : OpR X (compareOp .Lt) (rOp X.K gLt) := by
  intro pins s σ H x y v u Q I rx ry h
  obtain ⟨g, a, b, d, rfl, rp, ra, rb, hf, q⟩ := h
  unfold gLt at hf
  split at hf
  · cases hf
    simp only [RD] at ra rb; subst ra; subst rb
    exact op_lt pins s σ _ _ _ v u Q I rx ry ⟨_, _, rfl, rfl, q g _ (Ext.refl g) rfl rp (by rw [RD])⟩
  · cases hf
    simp only [RD] at ra rb; subst ra; subst rb
    exact op_lt_str pins s σ _ _ _ v u Q I rx ry ⟨_, _, rfl, rfl, q g _ (Ext.refl g) rfl rp (by rw [RD])⟩
  · cases hf
theorem o_le : OpR X (compareOp .LtE) (rOp X.K gLe) := o_ints0 (fn := fun i j => .bl (decide (i ≤ j))) op_le (fun g i j => by rw [RD]) fun S a b d h => by
  unfold gLe at h
  split at h
  · cases h; exact ⟨_, _, rfl, rfl, rfl⟩
  · cases h
theorem o_gt : OpR X (compareOp .Gt) (rOp X.K gGt) := o_ints0 (fn := fun i j => .bl (decide (j < i))) op_gt (fun g i j => by rw [RD]) fun S a b d h => by
  unfold gGt at h
  split at h
  · cases h; exact ⟨_, _, rfl, rfl, rfl⟩
  · cases h
theorem o_ge : OpR X (compareOp .GtE) (rOp X.K gGe) := o_ints0 (fn := fun i j => .bl (decide (j ≤ i))) op_ge (fun g i j => by rw [RD]) fun S a b d h => by
  unfold gGe at h
  split at h
  · cases h; exact ⟨_, _, rfl, rfl, rfl⟩
  · cases h
theorem eqB_cases {S : List O} {a b : D} {k : Bool} (h : eqB S a b = some k) : scD a b = some k ∨ ∃ p q, toPyS S a = some p ∧ toPyS S b = some q ∧ SeqAt.shaped p = true ∧ SeqAt.shaped q = true ∧ PyData.eqv p q = k := by
  unfold eqB at h
  cases e : scD a b with
  | some k' => rw [e] at h; cases h; exact .inl rfl
  | none =>
    rw [e] at h
    dsimp only at h
    cases e1 : toPyS S a with
    | none => rw [e1] at h; cases h
    | some p =>
      cases e2 : toPyS S b with
      | none => rw [e1, e2] at h; cases h
      | some q =>
        rw [e1, e2] at h
        dsimp only at h
        by_cases hc : SeqAt.shaped p = true ∧ SeqAt.shaped q = true
        · rw [if_pos hc] at h
          cases h
          exact .inr ⟨p, q, rfl, rfl, hc.1, hc.2, rfl⟩
        · rw [if_neg hc] at h; cases h
theorem o_eq (hu : X.A.units + 64 < cLine) : OpR X (compareOp .Eq) (rOp X.K gEq) := by
  intro pins s σ H x y v u Q I rx ry h
  obtain ⟨g, a, b, d, rfl, rp, ra, rb, hf, q⟩ := h
  unfold gEq at hf
  cases e : eqB g.S a b with
  | none => rw [e] at hf; cases hf
  | some k =>
    rw [e] at hf; cases hf
    have fin : Q (.bl k) g.H := q g _ (Ext.refl g) rfl rp (by rw [RD])
    rcases eqB_cases e with z | ⟨p1, p2, z1, z2, s1, s2, rfl⟩
    · obtain ⟨w1, w2⟩ := scD_ok z ra rb
      exact L2.op_eq pins s σ _ _ _ v u Q I rx ry ⟨w1, by rw [w2]; exact fin⟩
    · exact op_eqD hu pins s σ _ _ _ v u Q I rx ry ⟨p1, p2, toPyS_ok rp z1 ra, toPyS_ok rp z2 rb, s1, s2, fin⟩
theorem o_ne (hu : X.A.units + 64 < cLine) : OpR X (compareOp .NotEq) (rOp X.K gNe) := by
  intro pins s σ H x y v u Q I rx ry h
  obtain ⟨g, a, b, d, rfl, rp, ra, rb, hf, q⟩ := h
  unfold gNe at hf
  cases e : eqB g.S a b with
  | none => rw [e] at hf; cases hf
  | some k =>
    rw [e] at hf; cases hf
    have fin : Q (.bl (!k)) g.H := q g _ (Ext.refl g) rfl rp (by rw [RD])
    rcases eqB_cases e with z | ⟨p1, p2, z1, z2, s1, s2, rfl⟩
    · obtain ⟨w1, w2⟩ := scD_ok z ra rb
      exact L2.op_ne pins s σ _ _ _ v u Q I rx ry ⟨w1, by rw [w2]; exact fin⟩
    · exact op_neD hu pins s σ _ _ _ v u Q I rx ry ⟨p1, p2, toPyS_ok rp z1 ra, toPyS_ok rp z2 rb, s1, s2, fin⟩
theorem rd_non {K : PySem.W.Frag} {g : G} {d : D} {x : V} (r : RD K g d x) : decide (x = .non) = decide (d = .non) := by
  cases d with
  | non => rw [RD] at r; subst r; rfl
  | bl _ => rw [RD] at r; subst r; rfl
  | int _ => rw [RD] at r; subst r; rfl
  | str _ => rw [RD] at r; subst r; rfl
  | ty _ => rw [RD] at r; subst r; rfl
  | adr _ => rw [RD] at r; subst r; rfl
  | ref _ => rw [RD] at r; rw [r.2]; rfl
  | tup _ => rw [RD] at r; obtain ⟨a, vs, rfl, _⟩ := r; rfl
  | lst _ => rw [RD] at r; obtain ⟨a, vs, rfl, _⟩ := r; rfl
  | kl _ => rw [RD] at r; obtain ⟨a, vs, rfl, _⟩ := r; rfl
theorem o_isN : OpR X (compareOp .Is) (rOp X.K gIsN) := by
  intro pins s σ H x y v u Q I rx ry h
  obtain ⟨g, a, b, d, rfl, rp, ra, rb, hf, q⟩ := h
  unfold gIsN at hf
  split at hf
  · cases hf
    rw [RD] at rb; subst rb
    exact op_isN pins s σ _ _ _ v u Q I rx ry ⟨rfl, by rw [rd_non ra]; exact q g _ (Ext.refl g) rfl rp (by rw [RD])⟩
  · cases hf
theorem o_notN : OpR X (compareOp .IsNot) (rOp X.K gNotN) := by
  intro pins s σ H x y v u Q I rx ry h
  obtain ⟨g, a, b, d, rfl, rp, ra, rb, hf, q⟩ := h
  unfold gNotN at hf
  split at hf
  · cases hf
    rw [RD] at rb; subst rb
    exact op_notN pins s σ _ _ _ v u Q I rx ry ⟨rfl, by rw [rd_non ra]; exact q g _ (Ext.refl g) rfl rp (by rw [RD])⟩
  · cases hf
theorem elemB_cases {K : PySem.W.Frag} {g : G} (rp : Rep K g) {a b : D} {k : Bool} {x y : V} (ra : RD K g a x) (rb : RD K g b y) (h : elemB g.S a b = some k) :
    (∃ i j, x = .str i ∧ y = .str j ∧ (!(Builtin.Str.occurrences j i 0 j.length 1).isEmpty) = k) ∨ (∃ p xs, y = .ref p ∧ (SqL K g.H p xs ∨ SqT K g.H p xs) ∧ flatV x = true ∧ xs.all flatV = true ∧ inV x xs = k) := by
  unfold elemB at h
  split at h
  · rename_i z
    split at h
    · cases h
      simp only [RD] at ra rb; subst ra; subst rb
      exact .inl ⟨_, _, rfl, rfl, rfl⟩
    · cases h
  · rename_i l
    by_cases hc : flatD a = true ∧ l.all flatD = true
    · rw [if_pos hc] at h
      cases h
      rw [RD] at rb
      obtain ⟨p, vs, rfl, h1, h2⟩ := rb
      exact .inr ⟨p, vs, rfl, .inr h1.sq, rd_sc hc.1 ra, rds_flat hc.2 h2, inD_ok ra hc.1 hc.2 h2⟩
    · rw [if_neg hc] at h; cases h
  · cases e : seqR g.S b with
    | none => rw [e] at h; cases h
    | some l =>
      rw [e] at h
      dsimp only at h
      by_cases hc : flatD a = true ∧ l.all flatD = true
      · rw [if_pos hc] at h
        cases h
        obtain ⟨p, vs, rfl, h1, h2⟩ := seqR_at rp e rb
        exact .inr ⟨p, vs, rfl, .inl h1, rd_sc hc.1 ra, rds_flat hc.2 h2, inD_ok ra hc.1 hc.2 h2⟩
      · rw [if_neg hc] at h; cases h
theorem o_in : OpR X (compareOp .In) (rOp X.K gIn) := by
  intro pins s σ H x y v u Q I rx ry h
  obtain ⟨g, a, b, d, rfl, rp, ra, rb, hf, q⟩ := h
  unfold gIn at hf
  cases e : elemB g.S a b with
  | none => rw [e] at hf; cases hf
  | some k =>
    rw [e] at hf; cases hf
    have fin : Q (.bl k) g.H := q g _ (Ext.refl g) rfl rp (by rw [RD])
    rcases elemB_cases rp ra rb e with ⟨i, j, rfl, rfl, z⟩ | ⟨p, xs, rfl, z1, z2, z3, z4⟩
    · exact op_in_str pins s σ _ _ _ v u Q I rx ry ⟨i, j, rfl, rfl, by rw [z]; exact fin⟩
    · exact op_in_seq pins s σ _ _ _ v u Q I rx ry ⟨p, xs, rfl, z1, z2, z3, by rw [z4]; exact fin⟩
theorem o_nin : OpR X (compareOp .NotIn) (rOp X.K gNin) := by
  intro pins s σ H x y v u Q I rx ry h
  obtain ⟨g, a, b, d, rfl, rp, ra, rb, hf, q⟩ := h
  unfold gNin at hf
  cases e : elemB g.S a b with
  | none => rw [e] at hf; cases hf
  | some k =>
    rw [e] at hf; cases hf
    have fin : Q (.bl (!k)) g.H := q g _ (Ext.refl g) rfl rp (by rw [RD])
    rcases elemB_cases rp ra rb e with ⟨i, j, rfl, rfl, z⟩ | ⟨p, xs, rfl, z1, z2, z3, z4⟩
    · exact op_notin_str pins s σ _ _ _ v u Q I rx ry ⟨i, j, rfl, rfl, by rw [z]; exact fin⟩
    · exact op_notIn_seq pins s σ _ _ _ v u Q I rx ry ⟨p, xs, rfl, z1, z2, z3, by rw [z4]; exact fin⟩
end
end Mo

namespace Mo
open PySem L2 PyProof.Rows

/-! ### items -/
def gIx : Op2 := fun S a i => match a, i with
  | .tup l, .int i => atI l i
  | .str z, .int i => if z.length ≤ sz then (match atI z.cps.toList i with | some c => some (.str ⟨#[c]⟩) | none => none) else none
  | a, .int i => match seqR S a with
    | some l => atI l i
    | none => none
  | _, _ => none
theorem RDs.atI {K : PySem.W.Frag} {g : G} {l : List D} {vs : List V} {i : Int} {d : D} (r : RDs K g l vs) (h : L2.atI l i = some d) : ∃ v, L2.atI vs i = some v ∧ RD K g d v := by
  unfold L2.atI at h ⊢
  rw [← r.length]
  cases e : ixN l.length i with
  | none => rw [e] at h; cases h
  | some j =>
    rw [e] at h
    exact RDs.get r h
section
variable {X : Cx}
theorem o_ix : IxR X (rOp X.K gIx) := by
  intro e1 e2 pins s σ H x y v u Q I rx ry h hsub
  obtain ⟨g, a, b, d, rfl, rp, ra, rb, hf, q⟩ := h
  unfold gIx at hf
  split at hf
  · rename_i l i
    simp only [RD] at ra rb
    subst rb
    obtain ⟨p, vs, rfl, h1, r1⟩ := ra
    obtain ⟨w, hw, rw'⟩ := r1.atI hf
    exact ix_tup e1 e2 pins s σ _ _ _ v u Q I rx ry ⟨p, vs, i, w, rfl, rfl, h1.sq, hw, q g w (Ext.refl g) rfl rp rw'⟩ hsub
  · rename_i z i
    split at hf
    · rename_i hz
      split at hf
      · rename_i c hc
        cases hf
        simp only [RD] at ra rb
        subst ra; subst rb
        exact ix_str e1 e2 pins s σ _ _ _ v u Q I rx ry ⟨z, i, c, rfl, rfl, by rw [← sz_eq]; exact hz, hc, q g _ (Ext.refl g) rfl rp (by rw [RD])⟩ hsub
      · cases hf
    · cases hf
  · rename_i i _ _
    cases e : seqR g.S a with
    | none => rw [e] at hf; cases hf
    | some l =>
      rw [e] at hf
      dsimp only at hf
      obtain ⟨p, vs, rfl, h1, r1⟩ := seqR_at rp e ra
      obtain ⟨w, hw, rw'⟩ := r1.atI hf
      simp only [RD] at rb
      subst rb
      exact ix_list e1 e2 pins s σ _ _ _ v u Q I rx ry ⟨p, vs, i, w, rfl, rfl, h1, hw, q g w (Ext.refl g) rfl rp rw'⟩ hsub
  · cases hf
theorem pm_ix {W : WX'} {a b : Expr} {ma mb : ME} {pos : Pos} (ha : PE X a (tE X.K W ma)) (hb : PE X b (tE X.K W mb)) (hs : PlainIx b := by first | (intro _ _; rfl)) : PE X (.Subscript a b pos) (tE X.K W (mBin gIx ma mb)) := PE.imp (pe_ix o_ix ha hb hs) fun _ _ _ => i_bin
end

/-! ### slices -/
abbrev MO := Env → List O → R (Option Int)
def moN : MO := fun _ S => .ok none S
def asI (S : List O) : D → R (Option Int)
  | .int i => .ok (some i) S
  | _ => .bad
def moS (m : ME) : MO := fun e S => (m e S).bind fun d S1 => asI S1 d
def tO (K : PySem.W.Frag) (W : WX') (m : MO) : TO := fun σ H Q => ∃ g e, g.H = H ∧ Rep K g ∧ RE K g e σ ∧ Post K W g (m e g.S) σ fun o g' => Q o g'.H
def cutD {α : Type} (xs : List α) (lo hi : Option Int) : List α := (xs.drop (HT.sIx xs.length 0 lo)).take (HT.sIx xs.length xs.length hi - HT.sIx xs.length 0 lo)
def gSl (S : List O) (a : D) (lo hi : Option Int) : Option D := match a with
  | .tup l => some (.tup (cutD l lo hi))
  | .str z => if z.length ≤ sz then some (.str (cutS z lo hi)) else none
  | a => match seqR S a with
    | some l => some (.lst (cutD l lo hi))
    | none => none
def mSl (m : ME) (l h : MO) : ME := fun e S => (m e S).bind fun a S1 => (l e S1).bind fun lo S2 => (h e S2).bind fun hi S3 => R.ofO S3 (gSl S3 a lo hi)
def rSl (K : PySem.W.Frag) (f : List O → D → Option Int → Option Int → Option D) : V → Option Int → Option Int → Hp → VK → Prop := fun x lo hi H Q =>
  ∃ g a d, g.H = H ∧ Rep K g ∧ RD K g a x ∧ f g.S a lo hi = some d ∧ ∀ g' v, Ext g g' → g'.S = g.S → Rep K g' → RD K g' d v → Q v g'.H
theorem RDs.cut {K : PySem.W.Frag} {g : G} {l : List D} {vs : List V} (r : RDs K g l vs) (lo hi : Option Int) : RDs K g (cutD l lo hi) (cutV vs lo hi) := by
  unfold cutD cutV
  rw [← r.length]
  exact (r.drop _).take _
section
variable {X : Cx} {W : WX'}
theorem o_sl : SlR X (rSl X.K gSl) := by
  intro pins s σ H x v vl vu lo hi sl Q I rx hs pl pu h
  obtain ⟨g, a, d, rfl, rp, ra, hf, q⟩ := h
  unfold gSl at hf
  split at hf
  · rename_i l
    cases hf
    have ra' := ra
    rw [RD] at ra
    obtain ⟨p, vs, rfl, h1, r1⟩ := ra
    have e := r1.length
    refine sl_tupA pins s σ _ _ v vl vu lo hi sl Q I rx hs pl pu ⟨p, vs, rfl, h1.sq, fun z => ?_, fun z w hw => ?_⟩
    · refine q g _ (Ext.refl g) rfl rp ?_
      have : cutD l lo hi = l := by
        unfold cutD
        rw [e, z.1, z.2, List.drop_zero, Nat.sub_zero, ← e, List.take_length]
      rw [this]
      exact ra'
    · obtain ⟨x1, x2, x3⟩ := new_tup rp hw (r1.cut lo hi)
      exact q _ _ x1 rfl x2 x3
  · rename_i z
    split at hf
    · rename_i hz
      cases hf
      rw [RD] at ra; subst ra
      exact sl_str pins s σ _ _ v vl vu lo hi sl Q I rx hs pl pu ⟨z, rfl, by rw [← sz_eq]; exact hz, q g _ (Ext.refl g) rfl rp (by rw [RD])⟩
    · cases hf
  · cases e : seqR g.S a with
    | none => rw [e] at hf; cases hf
    | some l =>
      rw [e] at hf
      cases hf
      obtain ⟨p, vs, rfl, h1, r1⟩ := seqR_at rp e ra
      refine sl_list pins s σ _ _ v vl vu lo hi sl Q I rx hs pl pu ⟨p, vs, rfl, h1, fun w hw => ?_⟩
      obtain ⟨x1, x2, x3⟩ := new_lst rp hw (r1.cut lo hi)
      exact q _ _ x1 rfl x2 x3
theorem i_sl {K : PySem.W.Frag} {σ : L2.St} {H : Hp} {Q : VK} {m : ME} {l h : MO} (hh : tE K W (mSl m l h) σ H Q) : tSl (rSl K gSl) (tE K W m) (tO K W l) (tO K W h) σ H Q := by
  obtain ⟨g, e, rfl, rp, re, p⟩ := hh
  refine ⟨g, e, rfl, rp, re, (Post.bind p).imp fun a g1 e1 r1 ⟨_, _, p1⟩ v rv => ?_⟩
  refine ⟨g1, e, rfl, r1, re.mono e1, (Post.bind p1).imp fun lo g2 e2 r2 ⟨_, _, p2⟩ => ?_⟩
  refine ⟨g2, e, rfl, r2, (re.mono e1).mono e2, (Post.bind p2).imp fun hi g3 e3 r3 ⟨_, _, p3⟩ => ?_⟩
  cases q : gSl g3.S a lo hi with
  | none => rw [q] at p3; exact False.elim p3
  | some d =>
    rw [q] at p3
    exact ⟨g3, a, d, rfl, r3, (rv.mono e2).mono e3, q, fun g' w x s r rw' => p3 g' x s r w rw'⟩
theorem po_n : PO X none (tO X.K W moN) := ⟨fun pins s σ H Q I h => by
  obtain ⟨g, e, rfl, rp, re, p⟩ := h
  exact po_none.run pins s σ _ Q I (Post.here rp p)⟩
theorem po_s {e : Expr} {m : ME} (h : PE X e (tE X.K W m)) : PO X (some e) (tO X.K W (moS m)) := ⟨fun pins s σ H Q I hh => by
  obtain ⟨g, en, rfl, rp, re, p⟩ := hh
  refine (po_some h).run pins s σ _ Q I ⟨g, en, rfl, rp, re, (Post.bind p).imp fun d g1 e1 r1 ⟨_, _, p1⟩ v rv => ?_⟩
  cases d with
  | int i =>
    rw [RD] at rv
    exact ⟨i, rv, Post.here r1 p1⟩
  | _ => exact False.elim p1⟩
theorem pm_sl {a : Expr} {lo hi : Option Expr} {m : ME} {l h : MO} {p2 pos : Pos} (ha : PE X a (tE X.K W m)) (hl : PO X lo (tO X.K W l)) (hh : PO X hi (tO X.K W h)) : PE X (.Subscript a (.Slice lo hi none p2) pos) (tE X.K W (mSl m l h)) :=
  PE.imp (pe_slice o_sl ha hl hh) fun _ _ _ => i_sl
end
/-- the items that a slice with a step picks -/
def pickD {α : Type} (xs : List α) (lo hi : Option Int) (c : Int) : List α :=
  (sliceRange (sliceBounds lo hi (some c) xs.length).1 (sliceBounds lo hi (some c) xs.length).2.1 (sliceBounds lo hi (some c) xs.length).2.2).filterMap (xs[·]?)
theorem pick_vals {xs : List V} {its : List Value} (r : Vals xs its) : ∀ ix : List Nat, Vals (ix.filterMap (xs[·]?)) (ix.filterMap (its[·]?))
  | [] => .nil
  | i :: ix => by
    rw [List.filterMap_cons, List.filterMap_cons]
    cases e : xs[i]? with
    | none => rw [r.none_of e]; exact pick_vals r ix
    | some x =>
      obtain ⟨u, hu, ru⟩ := r.get e
      rw [hu]
      exact .cons ru (pick_vals r ix)
theorem pick_rds {K : PySem.W.Frag} {g : G} {l : List D} {vs : List V} (r : RDs K g l vs) : ∀ ix : List Nat, RDs K g (ix.filterMap (l[·]?)) (ix.filterMap (vs[·]?))
  | [] => RDs.nil
  | i :: ix => by
    rw [List.filterMap_cons, List.filterMap_cons]
    cases e : l[i]? with
    | none =>
      have : vs[i]? = none := by
        rw [List.getElem?_eq_none_iff] at e ⊢
        rw [← r.length]; exact e
      rw [this]; exact pick_rds r ix
    | some d =>
      obtain ⟨v, hv, rv⟩ := r.get e
      rw [hv]
      exact RDs.cons rv (pick_rds r ix)
def gSl3 (S : List O) (a : D) (lo hi st : Option Int) : Option D := match st with
  | some c => if c ≠ 0 then (match seqR S a with
    | some l => some (.lst (pickD l lo hi c))
    | none => none) else none
  | none => none
def mSl3 (m : ME) (l h t : MO) : ME := fun e S => (m e S).bind fun a S1 => (l e S1).bind fun lo S2 => (h e S2).bind fun hi S3 => (t e S3).bind fun st S4 => R.ofO S4 (gSl3 S4 a lo hi st)
section
variable {X : Cx} {W : WX'}
theorem pm_sl3 {a st : Expr} {lo hi : Option Expr} {m : ME} {l h t : MO} {p2 pos : Pos} (ha : PE X a (tE X.K W m)) (hl : PO X lo (tO X.K W l)) (hh : PO X hi (tO X.K W h)) (ht : PO X (some st) (tO X.K W t)) :
    PE X (.Subscript a (.Slice lo hi (some st) p2) pos) (tE X.K W (mSl3 m l h t)) := by
  constructor
  rintro pins s σ H Q I ⟨g, e, rfl, rp, re, p⟩
  refine Subscript_ (thn (ha.run pins s σ _ (fun v H1 => tO X.K W l σ H1 fun lo H2 => tO X.K W h σ H2 fun hi H3 => tO X.K W t σ H3 fun st H4 => ∃ g a d, g.H = H4 ∧ Rep X.K g ∧ RD X.K g a v ∧ gSl3 g.S a lo hi st = some d ∧ ∀ g' w, Ext g g' → g'.S = g.S → Rep X.K g' → RD X.K g' d w → Q w g'.H) I
    ⟨g, e, rfl, rp, re, (Post.bind p).imp fun a g1 e1 r1 ⟨_, _, p1⟩ v rv => ?_⟩) fun v s1 ⟨x, H1, I1, r1, q1⟩ => ?_)
  · refine ⟨g1, e, rfl, r1, re.mono e1, (Post.bind p1).imp fun lo g2 e2 r2 ⟨_, _, p2⟩ => ?_⟩
    refine ⟨g2, e, rfl, r2, (re.mono e1).mono e2, (Post.bind p2).imp fun hi g3 e3 r3 ⟨_, _, p3⟩ => ?_⟩
    refine ⟨g3, e, rfl, r3, ((re.mono e1).mono e2).mono e3, (Post.bind p3).imp fun st g4 e4 r4 ⟨_, _, p4⟩ => ?_⟩
    cases q : gSl3 g4.S a lo hi st with
    | none => rw [q] at p4; exact False.elim p4
    | some d =>
      rw [q] at p4
      exact ⟨g4, a, d, rfl, r4, ((rv.mono e2).mono e3).mono e4, q, fun g' w x s r rw' => p4 g' x s r w rw'⟩
  · refine wpAny_Slice (thn (hl.run pins s1 σ H1 _ I1 q1) fun vl s2 ⟨lo', H2, I2, pl, q2⟩ => thn (hh.run pins s2 σ H2 _ I2 q2) fun vu s3 ⟨hi', H3, I3, pu, q3⟩ => thn (ht.run pins s3 σ H3 _ I3 q3) fun vt s4 ⟨st', H4, I4, pt, q4⟩ => ?_)
    obtain ⟨g4, a4, d, rfl, r4, rv, hf, q⟩ := q4
    unfold gSl3 at hf
    cases st' with
    | none => cases hf
    | some c =>
      dsimp only at hf
      by_cases hc : c ≠ 0
      · rw [if_pos hc] at hf
        cases e5 : seqR g4.S a4 with
        | none => rw [e5] at hf; cases hf
        | some ls =>
          rw [e5] at hf
          cases hf
          obtain ⟨b, vs, rfl, h1, h2⟩ := seqR_at r4 e5 rv
          cases r1
          have I5 : Inv X pins σ g4.H { s4 with heap := s4.heap.push { cls := .type "slice", data := .fields #[vl, vu, vt] } } := I4.kept (t' := s4.toks) fun b ob q => Heap.get?_push_of_some _ q
          obtain ⟨its, rr, hpl, hz⟩ := I5.list h1
          have hlen := rr.length
          show wpAny (model X.prog X.w) X.A (subscriptTail a (.Slice lo hi (some st) p2) (.ref b) (.ref s4.heap.objs.size)) (EP X pins σ Q) X.xe { s4 with heap := s4.heap.push { cls := .type "slice", data := .fields #[vl, vu, vt] } }
          refine tail_any (ops := [.ref b, .ref s4.heap.objs.size]) hpl.isList.typeIs (PySem.slot_list_getitem.lookup) ?_ (by with_unfolding_all rfl)
          refine wpAny_getItem_list_slice hpl.isList (Heap.IsSliceOf.new _ vl vu vt) pl pu pt (by intro z; exact hc (Option.some.inj z)) ?_ (by rw [List.size_toArray]; omega)
          have ev : (slicePick its.toArray lo' hi' (some c)) = (pickD its lo' hi' c).toArray := by
            unfold slicePick pickD
            simp only [List.size_toArray, List.getElem?_toArray]
          have vv : Vals (pickD vs lo' hi' c) (pickD its lo' hi' c) := by
            unfold pickD
            rw [← hlen]
            exact pick_vals rr _
          have dd : RDs X.K g4 (pickD ls lo' hi' c) (pickD vs lo' hi' c) := by
            unfold pickD
            rw [← h2.length]
            exact pick_rds h2 _
          have small : (pickD vs lo' hi' c).length ≤ sizeLine := by
            have z : (slicePick its.toArray lo' hi' (some c)).size ≤ its.toArray.size := PySem.slicePick_size_le _ _ _ _
            rw [ev, List.size_toArray, List.size_toArray, ← vv.length] at z
            omega
          rw [ev]
          have fr := I5.hok.fresh (Nat.le_refl _)
          obtain ⟨x1, x2, x3⟩ := new_lst r4 fr dd
          refine ⟨.ref _, _, I5.laid (t' := s4.toks) (o := .lst (pickD vs lo' hi' c)) (fun b ob q => Heap.get?_push_of_some _ q) (Nat.le_refl _) ?_, rfl, q _ _ x1 rfl x2 x3⟩
          exact ⟨small, _, 0, vv, Heap.get?_push_size _ rfl⟩
      · rw [if_neg hc] at hf; cases hf
end
end Mo

namespace Mo
open PySem PySem.Spec L2 PyProof.Rows

/-! ### built-in functions -/
abbrev OpN := List O → List D → Option D
def mCB (f : OpN) (m : MA) : ME := fun e S => (m e S).bind fun l S1 => R.ofO S1 (f S1 l)
def rN (K : PySem.W.Frag) (f : OpN) : List V → Hp → VK → Prop := fun vs H Q => ∃ g ds d, g.H = H ∧ Rep K g ∧ RDs K g ds vs ∧ f g.S ds = some d ∧ ∀ g' v, Ext g g' → g'.S = g.S → Rep K g' → RD K g' d v → Q v g'.H
theorem i_CB {K : PySem.W.Frag} {W : WX'} {σ : L2.St} {H : Hp} {Q : VK} {f : OpN} {m : MA} (h : tE K W (mCB f m) σ H Q) : tCB (rN K f) (tA K W m) σ H Q := by
  obtain ⟨g, e, rfl, rp, re, p⟩ := h
  refine ⟨g, e, rfl, rp, re, (Post.bind p).imp fun l g1 e1 r1 ⟨_, _, p1⟩ vs rv => ?_⟩
  cases q : f g1.S l with
  | none => rw [q] at p1; exact False.elim p1
  | some d =>
    rw [q] at p1
    exact ⟨g1, l, d, rfl, r1, rv, q, fun g' w x s r rw' => p1 g' x s r w rw'⟩
section
variable {X : Cx} {W : WX'} {e : Expr} {es : List Expr} {m : MA} {x : Str} {p pos : Pos} {id T : String} {f : OpN}
theorem pm_cb (hc : CallR X (.builtin id) (rN X.K f)) (hg : Gl X x) (hm : X.mg x = none) (hv : bootBuiltins x = some (.builtin id)) (ha : PA X (e :: es) (tA X.K W m)) (hn : x ≠ "__name__" := by decide) (hdb : (x == ("__debug__" : Str)) = false := by decide)
    (he : starEach (e :: es) X.env = (false, eval e X.env) :: starEach es X.env := by rfl) (hpl : (backTo pos (starEach es X.env)).any (·.1) = false := by rfl) : PE X (.Call (.Name x p) (e :: es) [] pos) (tE X.K W (mCB f m)) :=
  PE.imp (pe_callB hc hg hm hv ha hn hdb he hpl) fun _ _ _ => i_CB
theorem pm_cty (hc : CallR X (.type T) (rN X.K f)) (hg : Gl X x) (hm : X.mg x = none) (hv : bootBuiltins x = some (.type T)) (ha : PA X (e :: es) (tA X.K W m)) (hn : x ≠ "__name__" := by decide) (hdb : (x == ("__debug__" : Str)) = false := by decide)
    (he : starEach (e :: es) X.env = (false, eval e X.env) :: starEach es X.env := by rfl) (hpl : (backTo pos (starEach es X.env)).any (·.1) = false := by rfl) : PE X (.Call (.Name x p) (e :: es) [] pos) (tE X.K W (mCB f m)) :=
  PE.imp (pe_callTy hc hg hm hv ha hn hdb he hpl) fun _ _ _ => i_CB
end

def gLen : OpN := fun S l => match l with
  | [.str z] => if z.length ≤ sz then some (.int z.length) else none
  | [.tup l] => some (.int l.length)
  | [d] => match seqR S d with
    | some l => some (.int l.length)
    | none => none
  | _ => none
def gInt : OpN := fun _ l => match l with
  | [.int i] => some (.int i)
  | [.bl k] => some (.int (if k then 1 else 0))
  | _ => none
def gAbs : OpN := fun _ l => match l with
  | [.int i] => some (.int (if i < 0 then -i else i))
  | _ => none
def gStr : OpN := fun _ l => match l with
  | [.int i] => if i.natAbs.log2 < 1920 then some (.str (toString i)) else none
  | _ => none
def gMax2 : OpN := fun _ l => match l with
  | [.int i, .int j] => some (.int (if j > i then j else i))
  | _ => none
def gMin2 : OpN := fun _ l => match l with
  | [.int i, .int j] => some (.int (if j < i then j else i))
  | _ => none
mutual
/-- a bound on the length of the text, without the text -/
def lenB : PyData → Nat
  | .none => 4
  | .bool _ => 5
  | .int i => (toString i : Str).length
  | .str x => x.cps.toList.foldl (fun n c => n + (Builtin.Str.reprChar (reprQuote x) c).length) 2
  | .tuple xs => lenBs xs + 4
  | .list xs => (PyData.list xs).shown.length
  | .dict kvs => (PyData.dict kvs).shown.length
def lenBs : List PyData → Nat
  | [] => 0
  | x :: xs => (lenB x + 2) + lenBs xs
end
mutual
theorem lenB_ok : ∀ p : PyData, p.shown.length ≤ lenB p
  | .none => by rw [PyData.shown, lenB]; decide +kernel
  | .bool b => by rw [PyData.shown, lenB]; cases b <;> decide +kernel
  | .int i => by rw [PyData.shown, lenB]; exact Nat.le_refl _
  | .str x => by rw [PyData.shown, lenB, ← reprLen_eq, ← Array.foldl_toList]; exact Nat.le_refl _
  | .list xs => by rw [lenB]; exact Nat.le_refl _
  | .dict kvs => by rw [lenB]; exact Nat.le_refl _
  | .tuple xs => by
    rw [PyData.shown, lenB]
    have h := lenBs_ok xs
    have e : (tupleText (PyData.shownAll xs)).length = 1 + (Str.join ", " (PyData.shownAll xs)).length + (if (PyData.shownAll xs).length == 1 then 2 else 1) := by
      unfold tupleText
      rw [strLen_append, strLen_append]
      congr 1
      split <;> rfl
    have j : (Str.join ", " (PyData.shownAll xs)).length ≤ piled (PyData.shownAll xs) := by
      by_cases q : PyData.shownAll xs = []
      · rw [q]; exact Nat.zero_le _
      · have := join_length_add _ q
        omega
    rw [e]
    split <;> omega
theorem lenBs_ok : ∀ xs : List PyData, piled (PyData.shownAll xs) ≤ lenBs xs
  | [] => by rw [PyData.shownAll, lenBs]; exact Nat.le_refl _
  | x :: xs => by
    rw [PyData.shownAll, lenBs, piled_cons]
    have h1 := lenB_ok x
    have h2 := lenBs_ok xs
    omega
end
/-- the text of some data -/
def shownD (S : List O) (d : D) : Option Str := match toPyS S d with
  | some p => if p.showable = true ∧ p.hasDict = false ∧ p.depth ≤ 64 ∧ lenB p ≤ sz then some p.shown else none
  | none => none
def gRepr : OpN := fun S l => match l with
  | [d] => (shownD S d).map .str
  | _ => none
/-- is the data of that built-in type -/
def isiD (S : List O) (d : D) (n : String) : Option Bool := match d with
  | .non => kitB "NoneType" n
  | .bl _ => kitB "bool" n
  | .int _ => kitB "int" n
  | .str _ => kitB "str" n
  | .tup _ => kitB "tuple" n
  | .lst _ => kitB "list" n
  | .kl _ => kitB "list" n
  | .ref i => match S[i]? with
    | some (.lst _) => kitB "list" n
    | some (.dct _) => kitB "dict" n
    | _ => none
  | _ => none
def gIsi : OpN := fun S l => match l with
  | [d, .ty n] => (isiD S d n).map .bl
  | _ => none
def insI (x : Int) : List Int → List Int
  | [] => [x]
  | y :: r => if x ≤ y then x :: y :: r else y :: insI x r
def sortI : List Int → List Int
  | [] => []
  | x :: r => insI x (sortI r)
def leS (x y : Str) : Bool := !ltCps y.cps.toList x.cps.toList
def insS (x : Str) : List Str → List Str
  | [] => [x]
  | y :: r => if leS x y then x :: y :: r else y :: insS x r
def sortS : List Str → List Str
  | [] => []
  | x :: r => insS x (sortS r)
def intsD : List D → Option (List Int)
  | [] => some []
  | .int i :: l => match intsD l with | some m => some (i :: m) | none => none
  | _ => none
def strsD : List D → Option (List Str)
  | [] => some []
  | .str i :: l => match strsD l with | some m => some (i :: m) | none => none
  | _ => none
def gSorted : OpN := fun S l => match l with
  | [d] => match seqR S d with
    | some l => match intsD l with
      | some ns => some (.lst ((sortI ns).map .int))
      | none => match strsD l with
        | some ss => if ss.length < 64 then some (.lst ((sortS ss).map .str)) else none
        | none => none
    | none => none
  | _ => none
def gList : OpN := fun S l => match l with
  | [.tup l] => some (.lst l)
  | [d] => match seqR S d with
    | some l => some (.lst l)
    | none => none
  | _ => none
def gTuple : OpN := fun S l => match l with
  | [.tup l] => some (.tup l)
  | [d] => match seqR S d with
    | some l => some (.tup l)
    | none => none
  | _ => none
def blsD : List D → Option (List Bool)
  | [] => some []
  | .bl i :: l => match blsD l with | some m => some (i :: m) | none => none
  | _ => none
def gAll : OpN := fun S l => match l with
  | [d] => match seqR S d with
    | some l => match blsD l with
      | some bs => some (.bl (bs.all id))
      | none => none
    | none => none
  | _ => none
def gAny : OpN := fun S l => match l with
  | [d] => match seqR S d with
    | some l => match blsD l with
      | some bs => some (.bl (bs.any id))
      | none => none
    | none => none
  | _ => none
def gSum : OpN := fun S l => match l with
  | [d] => match seqR S d with
    | some l => match intsD l with
      | some bs => some (.int bs.sum)
      | none => none
    | none => none
  | _ => none

theorem insI_perm (x : Int) : ∀ l, (insI x l).Perm (x :: l)
  | [] => .refl _
  | y :: r => by
    unfold insI
    split
    · exact .refl _
    · exact ((insI_perm x r).cons y).trans (.swap x y r)
theorem sortI_perm : ∀ l, (sortI l).Perm l
  | [] => .refl _
  | x :: r => (insI_perm x _).trans ((sortI_perm r).cons x)
theorem insI_sorted (x : Int) : ∀ l, l.Pairwise (· ≤ ·) → (insI x l).Pairwise (· ≤ ·)
  | [], _ => by simp [insI]
  | y :: r, h => by
    unfold insI
    rw [List.pairwise_cons] at h
    split
    · rename_i hx
      refine List.pairwise_cons.mpr ⟨fun z hz => ?_, List.pairwise_cons.mpr h⟩
      rcases List.mem_cons.mp hz with rfl | hz
      · exact hx
      · exact Int.le_trans hx (h.1 z hz)
    · rename_i hx
      refine List.pairwise_cons.mpr ⟨fun z hz => ?_, insI_sorted x r h.2⟩
      have := (insI_perm x r).mem_iff.mp hz
      rcases List.mem_cons.mp this with rfl | hz
      · omega
      · exact h.1 z hz
theorem sortI_sorted : ∀ l, (sortI l).Pairwise (· ≤ ·)
  | [] => .nil
  | x :: r => insI_sorted x _ (sortI_sorted r)
theorem sortI_one {a b : List Int} (hp : a.Perm b) (ha : a.Pairwise (· ≤ ·)) : a = sortI b :=
  List.Perm.eq_of_pairwise (le := (· ≤ ·)) (fun x y _ _ h1 h2 => Int.le_antisymm h1 h2) ha (sortI_sorted b) (hp.trans (sortI_perm b).symm)
/-! texts in order -/
theorem ltCps_irr : ∀ l : List Nat, ltCps l l = false
  | [] => by simp [ltCps]
  | x :: r => by simp [ltCps, ltCps_irr r]
theorem ltCps_anti : ∀ a b : List Nat, ltCps a b = false → ltCps b a = false → a = b
  | [], [], _, _ => rfl
  | [], _ :: _, h, _ => by simp [ltCps] at h
  | _ :: _, [], _, h => by simp [ltCps] at h
  | x :: r, y :: t, h1, h2 => by
    simp [ltCps] at h1 h2
    have e : x = y := by omega
    subst e
    rw [ltCps_anti r t (by simpa using h1) (by simpa using h2)]
theorem ltCps_trans : ∀ a b c : List Nat, ltCps b a = false → ltCps c b = false → ltCps c a = false
  | [], _, [], _, _ => by simp [ltCps]
  | [], _, _ :: _, _, _ => by simp [ltCps]
  | _ :: _, [], _, h, _ => by simp [ltCps] at h
  | _ :: _, _ :: _, [], _, h => by simp [ltCps] at h
  | x :: r, y :: t, z :: u, h1, h2 => by
    simp [ltCps] at h1 h2 ⊢
    refine ⟨by omega, fun e => ?_⟩
    have e1 : y = x := by omega
    have e2 : z = y := by omega
    exact ltCps_trans r t u (h1.2 e1) (h2.2 e2)
theorem str_ext {x y : Str} (h : x.cps.toList = y.cps.toList) : x = y := by
  cases x; cases y
  simp at h
  rw [h]
theorem insS_perm (x : Str) : ∀ l, (insS x l).Perm (x :: l)
  | [] => .refl _
  | y :: r => by
    unfold insS
    split
    · exact .refl _
    · exact ((insS_perm x r).cons y).trans (.swap x y r)
theorem sortS_perm : ∀ l, (sortS l).Perm l
  | [] => .refl _
  | x :: r => (insS_perm x _).trans ((sortS_perm r).cons x)
abbrev LeS (x y : Str) : Prop := ltCps y.cps.toList x.cps.toList = false
theorem leS_total (x y : Str) : LeS x y ∨ LeS y x := by
  unfold LeS
  cases h : ltCps y.cps.toList x.cps.toList with
  | false => exact .inl rfl
  | true =>
    cases h2 : ltCps x.cps.toList y.cps.toList with
    | false => exact .inr rfl
    | true =>
      exfalso
      have key : ∀ a b : List Nat, ltCps a b = true → ltCps b a = true → False := by
        intro a
        induction a with
        | nil => intro b _ h; cases b <;> simp [ltCps] at h
        | cons p r ih =>
          intro b h1 h2
          cases b with
          | nil => simp [ltCps] at h1
          | cons q t =>
            simp [ltCps] at h1 h2
            have e : p = q := by omega
            subst e
            exact ih t (by simpa using h1) (by simpa using h2)
      exact key _ _ h h2
theorem insS_sorted (x : Str) : ∀ l, l.Pairwise LeS → (insS x l).Pairwise LeS
  | [], _ => by simp [insS]
  | y :: r, h => by
    unfold insS
    rw [List.pairwise_cons] at h
    split
    · rename_i hx
      have hx : LeS x y := by simpa [leS, LeS] using hx
      refine List.pairwise_cons.mpr ⟨fun z hz => ?_, List.pairwise_cons.mpr h⟩
      rcases List.mem_cons.mp hz with rfl | hz
      · exact hx
      · exact ltCps_trans _ _ _ hx (h.1 z hz)
    · rename_i hx
      have hx : LeS y x := by
        rcases leS_total y x with z | z
        · exact z
        · exact absurd (by simpa [leS, LeS] using z) hx
      refine List.pairwise_cons.mpr ⟨fun z hz => ?_, insS_sorted x r h.2⟩
      have := (insS_perm x r).mem_iff.mp hz
      rcases List.mem_cons.mp this with rfl | hz
      · exact hx
      · exact h.1 z hz
theorem sortS_sorted : ∀ l, (sortS l).Pairwise LeS
  | [] => .nil
  | x :: r => insS_sorted x _ (sortS_sorted r)
theorem rising_pair : ∀ (l : List Str) (p : Str), risingS p l = true → (p :: l).Pairwise LeS
  | [], p, _ => by simp
  | x :: r, p, h => by
    have h' : LeS p x ∧ risingS x r = true := by simpa [risingS, LeS] using h
    have ih := rising_pair r x h'.2
    refine List.pairwise_cons.mpr ⟨fun z hz => ?_, ih⟩
    rcases List.mem_cons.mp hz with rfl | hz
    · exact h'.1
    · exact ltCps_trans _ _ _ h'.1 ((List.pairwise_cons.mp ih).1 z hz)
theorem sortS_one {a b : List Str} (hp : a.Perm b) (ha : sortedS a = true) : a = sortS b := by
  have hs : a.Pairwise LeS := by
    cases a with
    | nil => exact .nil
    | cons x r => exact rising_pair r x ha
  exact List.Perm.eq_of_pairwise (le := LeS) (fun x y _ _ h1 h2 => str_ext (ltCps_anti _ _ h2 h1)) hs (sortS_sorted b) (hp.trans (sortS_perm b).symm)

section
variable {K : PySem.W.Frag} {g : G}
theorem rds_ints : ∀ {l : List D} {ns : List Int} {vs : List V}, intsD l = some ns → RDs K g l vs → vs = ns.map V.int
  | [], ns, vs, h, r => by rw [RDs] at r; subst r; cases h; rfl
  | .int i :: l, ns, vs, h, r => by
    rw [RDs] at r
    obtain ⟨v, us, rfl, h2, h3⟩ := r
    rw [intsD] at h
    cases q : intsD l with
    | none => rw [q] at h; cases h
    | some m =>
      rw [q] at h; cases h
      rw [RD] at h2; subst h2
      rw [List.map_cons, rds_ints q h3]
  | .non :: _, _, _, h, _ => by simp [intsD] at h
  | .bl _ :: _, _, _, h, _ => by simp [intsD] at h
  | .str _ :: _, _, _, h, _ => by simp [intsD] at h
  | .ty _ :: _, _, _, h, _ => by simp [intsD] at h
  | .adr _ :: _, _, _, h, _ => by simp [intsD] at h
  | .ref _ :: _, _, _, h, _ => by simp [intsD] at h
  | .tup _ :: _, _, _, h, _ => by simp [intsD] at h
  | .lst _ :: _, _, _, h, _ => by simp [intsD] at h
  | .kl _ :: _, _, _, h, _ => by simp [intsD] at h
theorem rds_strs : ∀ {l : List D} {ns : List Str} {vs : List V}, strsD l = some ns → RDs K g l vs → vs = ns.map V.str
  | [], ns, vs, h, r => by rw [RDs] at r; subst r; cases h; rfl
  | .str i :: l, ns, vs, h, r => by
    rw [RDs] at r
    obtain ⟨v, us, rfl, h2, h3⟩ := r
    rw [strsD] at h
    cases q : strsD l with
    | none => rw [q] at h; cases h
    | some m =>
      rw [q] at h; cases h
      rw [RD] at h2; subst h2
      rw [List.map_cons, rds_strs q h3]
  | .non :: _, _, _, h, _ => by simp [strsD] at h
  | .bl _ :: _, _, _, h, _ => by simp [strsD] at h
  | .int _ :: _, _, _, h, _ => by simp [strsD] at h
  | .ty _ :: _, _, _, h, _ => by simp [strsD] at h
  | .adr _ :: _, _, _, h, _ => by simp [strsD] at h
  | .ref _ :: _, _, _, h, _ => by simp [strsD] at h
  | .tup _ :: _, _, _, h, _ => by simp [strsD] at h
  | .lst _ :: _, _, _, h, _ => by simp [strsD] at h
  | .kl _ :: _, _, _, h, _ => by simp [strsD] at h
theorem rds_bls : ∀ {l : List D} {ns : List Bool} {vs : List V}, blsD l = some ns → RDs K g l vs → vs = ns.map V.bl
  | [], ns, vs, h, r => by rw [RDs] at r; subst r; cases h; rfl
  | .bl i :: l, ns, vs, h, r => by
    rw [RDs] at r
    obtain ⟨v, us, rfl, h2, h3⟩ := r
    rw [blsD] at h
    cases q : blsD l with
    | none => rw [q] at h; cases h
    | some m =>
      rw [q] at h; cases h
      rw [RD] at h2; subst h2
      rw [List.map_cons, rds_bls q h3]
  | .non :: _, _, _, h, _ => by simp [blsD] at h
  | .str _ :: _, _, _, h, _ => by simp [blsD] at h
  | .int _ :: _, _, _, h, _ => by simp [blsD] at h
  | .ty _ :: _, _, _, h, _ => by simp [blsD] at h
  | .adr _ :: _, _, _, h, _ => by simp [blsD] at h
  | .ref _ :: _, _, _, h, _ => by simp [blsD] at h
  | .tup _ :: _, _, _, h, _ => by simp [blsD] at h
  | .lst _ :: _, _, _, h, _ => by simp [blsD] at h
  | .kl _ :: _, _, _, h, _ => by simp [blsD] at h
theorem rds_of_ints : ∀ ns : List Int, RDs K g (ns.map D.int) (ns.map V.int)
  | [] => RDs.nil
  | n :: r => RDs.cons (by rw [RD]) (rds_of_ints r)
theorem rds_of_strs : ∀ ns : List Str, RDs K g (ns.map D.str) (ns.map V.str)
  | [] => RDs.nil
  | n :: r => RDs.cons (by rw [RD]) (rds_of_strs r)
theorem RDs.one {d : D} {vs : List V} (r : RDs K g [d] vs) : ∃ v, vs = [v] ∧ RD K g d v := by
  rw [RDs] at r
  obtain ⟨v, us, rfl, h2, h3⟩ := r
  rw [RDs] at h3
  subst h3
  exact ⟨v, rfl, h2⟩
theorem RDs.two {d d2 : D} {vs : List V} (r : RDs K g [d, d2] vs) : ∃ v u, vs = [v, u] ∧ RD K g d v ∧ RD K g d2 u := by
  rw [RDs] at r
  obtain ⟨v, us, rfl, h2, h3⟩ := r
  obtain ⟨u, rfl, h4⟩ := h3.one
  exact ⟨v, u, rfl, h2, h4⟩
theorem ty_of {d : D} {n : String} {b : Bool} (rp : Rep K g) (h : isiD g.S d n = some b) {v : V} (r : RD K g d v) : ∃ t, TyX K g.H v (.type t) ∧ kitB t n = some b := by
  have tl : ∀ {a : Addr} {vs : List V}, SqL K g.H a vs → TyX K g.H (.ref a) (.type "list") := fun {a vs} q => by
    rcases q with (q | ⟨o, q⟩) | ⟨o, its, k, q, c, _⟩
    · exact .base (.lst q)
    · exact .base (.frz q)
    · exact .kList q c
  have tt : ∀ {a : Addr} {vs : List V}, SqT K g.H a vs → TyX K g.H (.ref a) (.type "tuple") := fun {a vs} q => by
    rcases q with (q | ⟨o, q⟩) | ⟨o, its, k, q, c, _⟩
    · exact .base (.tup q)
    · exact .fTuple q
    · exact .kTuple q c
  cases d with
  | non => rw [RD] at r; subst r; exact ⟨_, .base .non, h⟩
  | bl k => rw [RD] at r; subst r; exact ⟨_, .base (.bl k), h⟩
  | int k => rw [RD] at r; subst r; exact ⟨_, .base (.int k), h⟩
  | str k => rw [RD] at r; subst r; exact ⟨_, .base (.str k), h⟩
  | tup l =>
    rw [RD] at r
    obtain ⟨a, vs, rfl, h1, _⟩ := r
    exact ⟨_, tt h1.sq, h⟩
  | lst l =>
    rw [RD] at r
    obtain ⟨a, vs, rfl, h1, _⟩ := r
    exact ⟨_, tl h1.sq, h⟩
  | kl l =>
    rw [RD] at r
    obtain ⟨a, vs, rfl, h1, _⟩ := r
    exact ⟨_, tl h1.sq, h⟩
  | ref i =>
    rw [RD] at r
    unfold isiD at h
    dsimp only at h
    split at h
    · rename_i l q
      obtain ⟨vs, h1, _⟩ := rp.obj i _ q
      rw [r.2]
      exact ⟨_, .base (.lst h1), h⟩
    · rename_i l q
      obtain ⟨vs, h1, _⟩ := rp.obj i _ q
      rw [r.2]
      exact ⟨_, .base (.dK h1), h⟩
    · cases h
  | _ => cases h
end

section
variable {X : Cx}
theorem c_len : CallR X (.builtin "len") (rN X.K gLen) := by
  intro pins s σ H xs us Q I r h
  obtain ⟨g, ds, d, rfl, rp, rv, hf, q⟩ := h
  unfold gLen at hf
  split at hf
  · split at hf
    · rename_i z hz
      cases hf
      obtain ⟨v, rfl, h1⟩ := rv.one
      rw [RD] at h1; subst h1
      exact call_len pins s σ _ _ us Q I r ⟨_, _, rfl, ⟨by rw [← sz_eq]; exact hz, rfl⟩, q g _ (Ext.refl g) rfl rp (by rw [RD])⟩
    · cases hf
  · rename_i l
    cases hf
    obtain ⟨v, rfl, h1⟩ := rv.one
    rw [RD] at h1
    obtain ⟨a, vs, rfl, h2, h3⟩ := h1
    exact call_len pins s σ _ _ us Q I r ⟨_, _, rfl, .inr ⟨vs, h2.sq, h3.length⟩, q g _ (Ext.refl g) rfl rp (by rw [RD])⟩
  · rename_i d' _ _
    cases e : seqR g.S d' with
    | none => rw [e] at hf; cases hf
    | some l =>
      rw [e] at hf; cases hf
      obtain ⟨v, rfl, h1⟩ := rv.one
      obtain ⟨a, vs, rfl, h2, h3⟩ := seqR_at rp e h1
      exact call_len pins s σ _ _ us Q I r ⟨_, _, rfl, .inl ⟨vs, h2, h3.length⟩, q g _ (Ext.refl g) rfl rp (by rw [RD])⟩
  · cases hf
theorem c_int : CallR X (.type "int") (rN X.K gInt) := by
  intro pins s σ H xs us Q I r h
  obtain ⟨g, ds, d, rfl, rp, rv, hf, q⟩ := h
  unfold gInt at hf
  split at hf
  · cases hf
    obtain ⟨v, rfl, h1⟩ := rv.one
    rw [RD] at h1; subst h1
    exact call_int1 pins s σ _ _ us Q I r (.inl ⟨_, rfl, q g _ (Ext.refl g) rfl rp (by rw [RD])⟩)
  · cases hf
    obtain ⟨v, rfl, h1⟩ := rv.one
    rw [RD] at h1; subst h1
    exact call_int1 pins s σ _ _ us Q I r (.inr ⟨_, rfl, q g _ (Ext.refl g) rfl rp (by rw [RD])⟩)
  · cases hf
theorem c_abs : CallR X (.builtin "abs") (rN X.K gAbs) := by
  intro pins s σ H xs us Q I r h
  obtain ⟨g, ds, d, rfl, rp, rv, hf, q⟩ := h
  unfold gAbs at hf
  split at hf
  · cases hf
    obtain ⟨v, rfl, h1⟩ := rv.one
    rw [RD] at h1; subst h1
    exact call_abs pins s σ _ _ us Q I r ⟨_, rfl, q g _ (Ext.refl g) rfl rp (by rw [RD])⟩
  · cases hf
theorem c_str : CallR X (.type "str") (rN X.K gStr) := by
  intro pins s σ H xs us Q I r h
  obtain ⟨g, ds, d, rfl, rp, rv, hf, q⟩ := h
  unfold gStr at hf
  split at hf
  · split at hf
    · rename_i hz
      cases hf
      obtain ⟨v, rfl, h1⟩ := rv.one
      rw [RD] at h1; subst h1
      exact call_str_int pins s σ _ _ us Q I r ⟨_, rfl, hz, q g _ (Ext.refl g) rfl rp (by rw [RD])⟩
    · cases hf
  · cases hf
theorem c_max2 (hc : X.calm = true) : CallR X (.builtin "max") (rN X.K gMax2) := by
  intro pins s σ H xs us Q I r h
  obtain ⟨g, ds, d, rfl, rp, rv, hf, q⟩ := h
  unfold gMax2 at hf
  split at hf
  · cases hf
    obtain ⟨v, u, rfl, h1, h2⟩ := rv.two
    rw [RD] at h1 h2; subst h1; subst h2
    exact call_max2 hc pins s σ _ _ us Q I r ⟨_, _, rfl, q g _ (Ext.refl g) rfl rp (by rw [RD])⟩
  · cases hf
theorem c_min2 (hc : X.calm = true) : CallR X (.builtin "min") (rN X.K gMin2) := by
  intro pins s σ H xs us Q I r h
  obtain ⟨g, ds, d, rfl, rp, rv, hf, q⟩ := h
  unfold gMin2 at hf
  split at hf
  · cases hf
    obtain ⟨v, u, rfl, h1, h2⟩ := rv.two
    rw [RD] at h1 h2; subst h1; subst h2
    exact call_min2 hc pins s σ _ _ us Q I r ⟨_, _, rfl, q g _ (Ext.refl g) rfl rp (by rw [RD])⟩
  · cases hf
theorem c_isi : CallR X (.builtin "isinstance") (rN X.K gIsi) := by
  intro pins s σ H xs us Q I r h
  obtain ⟨g, ds, d, rfl, rp, rv, hf, q⟩ := h
  unfold gIsi at hf
  split at hf
  · rename_i d' n
    cases e : isiD g.S d' n with
    | none => rw [e] at hf; cases hf
    | some b =>
      rw [e] at hf; cases hf
      obtain ⟨v, u, rfl, h1, h2⟩ := rv.two
      rw [RD] at h2; subst h2
      obtain ⟨t, ht, hk⟩ := ty_of rp e h1
      exact call_isi pins s σ _ _ us Q I r ⟨_, _, .type t, .type n, b, rfl, .ty n, ht, kit_ty hk, q g _ (Ext.refl g) rfl rp (by rw [RD])⟩
  · cases hf
theorem c_sorted : CallR X (.builtin "sorted") (rN X.K gSorted) := by
  intro pins s σ H xs us Q I r h
  obtain ⟨g, ds, d, rfl, rp, rv, hf, q⟩ := h
  unfold gSorted at hf
  split at hf
  · rename_i d'
    cases e : seqR g.S d' with
    | none => rw [e] at hf; cases hf
    | some l =>
      rw [e] at hf
      dsimp only at hf
      obtain ⟨v, rfl, h1⟩ := rv.one
      obtain ⟨a, vs, rfl, h2, h3⟩ := seqR_at rp e h1
      cases ei : intsD l with
      | some ns =>
        rw [ei] at hf; cases hf
        rw [rds_ints ei h3] at h2
        refine cr_sortedI pins s σ _ _ us Q I r ⟨a, ns, rfl, h2, fun ns' p hp hs hn => ?_⟩
        rw [sortI_one hp hs]
        obtain ⟨x1, x2, x3⟩ := new_lst rp hn (rds_of_ints (K := X.K) (g := g) (sortI ns))
        exact q _ _ x1 rfl x2 x3
      | none =>
        rw [ei] at hf
        dsimp only at hf
        cases es : strsD l with
        | none => rw [es] at hf; cases hf
        | some ss =>
          rw [es] at hf
          dsimp only at hf
          split at hf
          · rename_i hz
            cases hf
            rw [rds_strs es h3] at h2
            refine cr_sortedS pins s σ _ _ us Q I r ⟨a, ss, rfl, h2, hz, fun ns' p hp hs hn => ?_⟩
            rw [sortS_one hp hs]
            obtain ⟨x1, x2, x3⟩ := new_lst rp hn (rds_of_strs (K := X.K) (g := g) (sortS ss))
            exact q _ _ x1 rfl x2 x3
          · cases hf
  · cases hf
theorem c_list : CallR X (.type "list") (rN X.K gList) := by
  intro pins s σ H xs us Q I r h
  obtain ⟨g, ds, d, rfl, rp, rv, hf, q⟩ := h
  unfold gList at hf
  split at hf
  · cases hf
    obtain ⟨v, rfl, h1⟩ := rv.one
    rw [RD] at h1
    obtain ⟨a, vs, rfl, h2, h3⟩ := h1
    refine call_list_of pins s σ _ _ us Q I r ⟨a, vs, rfl, .inr h2.sq, fun p hn => ?_⟩
    obtain ⟨x1, x2, x3⟩ := new_lst rp hn h3
    exact q _ _ x1 rfl x2 x3
  · rename_i d' _
    cases e : seqR g.S d' with
    | none => rw [e] at hf; cases hf
    | some l =>
      rw [e] at hf; cases hf
      obtain ⟨v, rfl, h1⟩ := rv.one
      obtain ⟨a, vs, rfl, h2, h3⟩ := seqR_at rp e h1
      refine call_list_of pins s σ _ _ us Q I r ⟨a, vs, rfl, .inl h2, fun p hn => ?_⟩
      obtain ⟨x1, x2, x3⟩ := new_lst rp hn h3
      exact q _ _ x1 rfl x2 x3
  · cases hf
theorem c_tuple : CallR X (.type "tuple") (rN X.K gTuple) := by
  intro pins s σ H xs us Q I r h
  obtain ⟨g, ds, d, rfl, rp, rv, hf, q⟩ := h
  unfold gTuple at hf
  split at hf
  · cases hf
    obtain ⟨v, rfl, h1⟩ := rv.one
    have h0 := h1
    rw [RD] at h1
    obtain ⟨a, vs, rfl, h2, h3⟩ := h1
    exact call_tuple_of pins s σ _ _ us Q I r ⟨a, vs, rfl, .inr ⟨h2.sq, q g _ (Ext.refl g) rfl rp h0⟩⟩
  · rename_i d' _
    cases e : seqR g.S d' with
    | none => rw [e] at hf; cases hf
    | some l =>
      rw [e] at hf; cases hf
      obtain ⟨v, rfl, h1⟩ := rv.one
      obtain ⟨a, vs, rfl, h2, h3⟩ := seqR_at rp e h1
      refine call_tuple_of pins s σ _ _ us Q I r ⟨a, vs, rfl, .inl ⟨h2, fun p hn => ?_⟩⟩
      obtain ⟨x1, x2, x3⟩ := new_tup rp hn h3
      exact q _ _ x1 rfl x2 x3
  · cases hf
theorem c_all (hc : X.calm = true) : CallR X (.builtin "all") (rN X.K gAll) := by
  intro pins s σ H xs us Q I r h
  obtain ⟨g, ds, d, rfl, rp, rv, hf, q⟩ := h
  unfold gAll at hf
  split at hf
  · rename_i d'
    cases e : seqR g.S d' with
    | none => rw [e] at hf; cases hf
    | some l =>
      rw [e] at hf
      dsimp only at hf
      cases eb : blsD l with
      | none => rw [eb] at hf; cases hf
      | some bs =>
        rw [eb] at hf; cases hf
        obtain ⟨v, rfl, h1⟩ := rv.one
        obtain ⟨a, vs, rfl, h2, h3⟩ := seqR_at rp e h1
        rw [rds_bls eb h3] at h2
        exact cr_all hc pins s σ _ _ us Q I r ⟨a, bs, rfl, h2, q g _ (Ext.refl g) rfl rp (by rw [RD])⟩
  · cases hf
theorem c_any (hc : X.calm = true) : CallR X (.builtin "any") (rN X.K gAny) := by
  intro pins s σ H xs us Q I r h
  obtain ⟨g, ds, d, rfl, rp, rv, hf, q⟩ := h
  unfold gAny at hf
  split at hf
  · rename_i d'
    cases e : seqR g.S d' with
    | none => rw [e] at hf; cases hf
    | some l =>
      rw [e] at hf
      dsimp only at hf
      cases eb : blsD l with
      | none => rw [eb] at hf; cases hf
      | some bs =>
        rw [eb] at hf; cases hf
        obtain ⟨v, rfl, h1⟩ := rv.one
        obtain ⟨a, vs, rfl, h2, h3⟩ := seqR_at rp e h1
        rw [rds_bls eb h3] at h2
        exact cr_any hc pins s σ _ _ us Q I r ⟨a, bs, rfl, h2, q g _ (Ext.refl g) rfl rp (by rw [RD])⟩
  · cases hf
theorem c_sum (hc : X.calm = true) : CallR X (.builtin "sum") (rN X.K gSum) := by
  intro pins s σ H xs us Q I r h
  obtain ⟨g, ds, d, rfl, rp, rv, hf, q⟩ := h
  unfold gSum at hf
  split at hf
  · rename_i d'
    cases e : seqR g.S d' with
    | none => rw [e] at hf; cases hf
    | some l =>
      rw [e] at hf
      dsimp only at hf
      cases eb : intsD l with
      | none => rw [eb] at hf; cases hf
      | some bs =>
        rw [eb] at hf; cases hf
        obtain ⟨v, rfl, h1⟩ := rv.one
        obtain ⟨a, vs, rfl, h2, h3⟩ := seqR_at rp e h1
        rw [rds_ints eb h3] at h2
        exact cr_sum hc pins s σ _ _ us Q I r ⟨a, bs, rfl, h2, q g _ (Ext.refl g) rfl rp (by rw [RD])⟩
  · cases hf
theorem c_repr (hg : X.A.guards = some []) (hu : X.A.units + 100 < cLine) : CallR X (.builtin "repr") (rN X.K gRepr) := by
  intro pins s σ H xs us Q I r h
  obtain ⟨g, ds, d, rfl, rp, rv, hf, q⟩ := h
  unfold gRepr at hf
  split at hf
  · rename_i d'
    cases e : shownD g.S d' with
    | none => rw [e] at hf; cases hf
    | some t =>
      rw [e] at hf; cases hf
      obtain ⟨v, rfl, h1⟩ := rv.one
      obtain ⟨u, rfl, ru⟩ := vals1 r
      unfold shownD at e
      cases ep : toPyS g.S d' with
      | none => rw [ep] at e; cases e
      | some p =>
        rw [ep] at e
        dsimp only at e
        split at e
        · rename_i hc
          cases e
          obtain ⟨hs, hd, hdep, hl⟩ := hc
          have dp := toPyS_ok rp ep h1
          obtain ⟨as, rd⟩ := Dp.reads I p v u dp ru
          have hl' : p.shown.length ≤ sizeLine := by rw [← sz_eq]; exact Nat.le_trans (lenB_ok p) hl
          have fin : ∀ (h' : Heap) (t' : Tok) (tk : Nat), (∀ b o, s.heap.get? b = some o → h'.get? b = some o) → EP X pins σ Q (.str p.shown t') { s with heap := h', toks := tk } :=
            fun h' t' tk k => ⟨.str p.shown, g.H, I.kept k, ⟨_, rfl⟩, q g _ (Ext.refl g) rfl rp (by rw [RD])⟩
          cases rd with
          | none => exact PySem.P.repr_of_none (fin s.heap _ _ fun _ _ z => z)
          | bool b => exact PySem.P.repr_of_bool (fin s.heap _ _ fun _ _ z => z)
          | int i t => exact PySem.P.repr_of_int (by simpa [PyData.showable] using hs) (fin s.heap _ _ fun _ _ z => z)
          | str x t => exact PySem.P.repr_of_str (fin s.heap _ _ fun _ _ z => z) hl'
          | list a1 a2 a3 a4 => exact repr_of_reads' (.list a1 a2 a3 a4) hs (fun z => by rw [hd] at z; cases z) hg (by omega) (fun _ _ z => z) (fun h' u' tk k => fin h' u' tk k) hl'
          | tuple a1 a2 a3 a4 => exact repr_of_reads' (.tuple a1 a2 a3 a4) hs (fun z => by rw [hd] at z; cases z) hg (by omega) (fun _ _ z => z) (fun h' u' tk k => fin h' u' tk k) hl'
          | dict a1 a2 a3 a4 a5 => simp [PyData.hasDict] at hd
        · cases e
  · cases hf
end
end Mo

namespace Mo
open PySem PySem.Spec L2 PyProof.Rows

/-! ### methods of built-in types -/
abbrev OpM := List O → D → List D → Option (D × List O)
def R.ofM : Option (D × List O) → R D
  | some (d, S) => .ok d S
  | none => .bad
def mMt (ty : List O → D → Bool) (f : OpM) (mo : ME) (m : MA) : ME := fun e S => (mo e S).bind fun a S1 => if ty S1 a = true then (m e S1).bind fun l S2 => R.ofM (f S2 a l) else .bad
def rMt (K : PySem.W.Frag) (f : OpM) : V → List V → Hp → VK → Prop := fun x vs H Q => ∃ g a ds d S', g.H = H ∧ Rep K g ∧ RD K g a x ∧ RDs K g ds vs ∧ f g.S a ds = some (d, S') ∧ ∀ g' v, Ext g g' → g'.S = S' → Rep K g' → RD K g' d v → Q v g'.H
def isL (S : List O) (a : D) : Bool := (seqR S a).isSome
def isS (_ : List O) (a : D) : Bool := match a with
  | .str _ => true
  | _ => false
section
variable {X : Cx} {W : WX'} {o e : Expr} {es : List Expr} {mo : ME} {m : MA} {name : Str} {apos cpos : Pos} {T id : String} {f : OpM} {ty : List O → D → Bool}
theorem i_mt {K : PySem.W.Frag} {σ : L2.St} {H : Hp} {Q : VK} (hty : ∀ g a v, Rep K g → RD K g a v → ty g.S a = true → tyV K T v g.H) (h : tE K W (mMt ty f mo m) σ H Q) : tBM K T (rMt K f) (tE K W mo) (tA K W m) σ H Q := by
  obtain ⟨g, e, rfl, rp, re, p⟩ := h
  refine ⟨g, e, rfl, rp, re, (Post.bind p).imp fun a g1 e1 r1 ⟨_, _, p1⟩ v rv => ?_⟩
  by_cases ht : ty g1.S a = true
  · rw [if_pos ht] at p1
    refine ⟨hty g1 a v r1 rv ht, g1, e, rfl, r1, re.mono e1, (Post.bind p1).imp fun l g2 e2 r2 ⟨_, _, p2⟩ vs rvs => ?_⟩
    cases q : f g2.S a l with
    | none => rw [q] at p2; exact False.elim p2
    | some dS =>
      obtain ⟨d, S'⟩ := dS
      rw [q] at p2
      exact ⟨g2, a, l, d, S', rfl, r2, rv.mono e2, rvs, q, fun g' w x s r rw' => p2 g' x s r w rw'⟩
  · rw [if_neg ht] at p1; exact False.elim p1
theorem i_mt0 {K : PySem.W.Frag} {σ : L2.St} {H : Hp} {Q : VK} (hty : ∀ g a v, Rep K g → RD K g a v → ty g.S a = true → tyV K T v g.H) (h : tE K W (mMt ty f mo mNil) σ H Q) : tBM0 K T (rMt K f) (tE K W mo) σ H Q := by
  obtain ⟨g, e, rfl, rp, re, p⟩ := h
  refine ⟨g, e, rfl, rp, re, (Post.bind p).imp fun a g1 e1 r1 ⟨_, _, p1⟩ v rv => ?_⟩
  by_cases ht : ty g1.S a = true
  · rw [if_pos ht] at p1
    refine ⟨hty g1 a v r1 rv ht, ?_⟩
    have p2 : Post K W g1 (R.ofM (f g1.S a [])) σ fun d g' => ∀ v, RD K g' d v → Q v g'.H := p1
    cases q : f g1.S a [] with
    | none => rw [q] at p2; exact False.elim p2
    | some dS =>
      obtain ⟨d, S'⟩ := dS
      rw [q] at p2
      exact ⟨g1, a, [], d, S', rfl, r1, rv, RDs.nil, q, fun g' w x s r rw' => p2 g' x s r w rw'⟩
  · rw [if_neg ht] at p1; exact False.elim p1
theorem pm_mt (pa : PlainAttrs T) (slot : Slot T name id) (hty : typeOf (.builtin id) = pure (.type "method_descriptor")) (hm : MtM X id (rMt X.K f)) (ht : ∀ g a v, Rep X.K g → RD X.K g a v → ty g.S a = true → tyV X.K T v g.H)
    (ho : PE X o (tE X.K W mo)) (ha : PA X (e :: es) (tA X.K W m)) (hbase : attributeBase o name X.env (eval o X.env) = eval o X.env := by rfl)
    (hfew : ((backTo cpos (starEach (e :: es) X.env)).all (fun x => !x.1) && (backToKw cpos (keywordEach [] X.env)).all (fun x => x.1.isSome)
      && decide ((e :: es).length + ([] : List Keyword).length + (if ([] : List Keyword).isEmpty then 0 else 1) < 30)) = true := by rfl)
    (hline : (apos.endLine == cpos.line) = true := by rfl) (hs : starEach (e :: es) X.env = (false, eval e X.env) :: starEach es X.env := by rfl) (hplain : (backTo cpos (starEach es X.env)).any (·.1) = false := by rfl) :
    PE X (.Call (.Attribute o name apos) (e :: es) [] cpos) (tE X.K W (mMt ty f mo m)) := PE.imp (pe_bm pa slot hty hm ho ha hbase hfew hline hs hplain) fun _ _ _ => i_mt ht
theorem pm_mt0 (pa : PlainAttrs T) (slot : Slot T name id) (hty : typeOf (.builtin id) = pure (.type "method_descriptor")) (hm : MtM X id (rMt X.K f)) (ht : ∀ g a v, Rep X.K g → RD X.K g a v → ty g.S a = true → tyV X.K T v g.H)
    (ho : PE X o (tE X.K W mo)) (hbase : attributeBase o name X.env (eval o X.env) = eval o X.env := by rfl) (hline : (apos.endLine == cpos.line) = true := by rfl) :
    PE X (.Call (.Attribute o name apos) [] [] cpos) (tE X.K W (mMt ty f mo mNil)) := PE.imp (pe_bm0 pa slot hty hm ho hbase hline) fun _ _ _ => i_mt0 ht
theorem isL_ok {K : PySem.W.Frag} : ∀ g a v, Rep K g → RD K g a v → isL g.S a = true → tyV K "list" v g.H := fun g a v rp r h => by
  unfold isL at h
  obtain ⟨l, hl⟩ := Option.isSome_iff_exists.mp h
  obtain ⟨p, vs, rfl, h1, _⟩ := seqR_at rp hl r
  exact .inl ⟨rfl, vs, h1⟩
theorem isS_ok {K : PySem.W.Frag} : ∀ g a v, Rep K g → RD K g a v → isS g.S a = true → tyV K "str" v g.H := fun g a v rp r h => by
  cases a <;> first | (cases h; done) | (rw [RD] at r; subst r; rfl)
end
/-- one's own list is written anew -/
theorem put_lst {K : PySem.W.Frag} {g : G} (rp : Rep K g) {n : Nat} {l l' : List D} {vs : List V} (hi : g.S[n]? = some (.lst l)) (r : RDs K g l' vs) :
    Ext g (g.put n (.lst l') (.lst vs)) ∧ Rep K (g.put n (.lst l') (.lst vs)) := by
  have x := Ext.put (o' := .lst l') (u := .lst vs) hi rfl
  exact ⟨x, rp.put hi rfl ⟨vs, upd_same, r.mono x⟩⟩
def gAppend : OpM := fun S a l => match a, l with
  | .ref n, [d] => match S[n]? with
    | some (.lst l) => if l.length < sz then some (.non, S.set n (.lst (l ++ [d]))) else none
    | _ => none
  | _, _ => none
def gPop : OpM := fun S a l => match a, l with
  | .ref n, [] => match S[n]? with
    | some (.lst l) => match l[l.length - 1]? with
      | some d => some (d, S.set n (.lst l.dropLast))
      | none => none
    | _ => none
  | _, _ => none
def gJoin : OpM := fun S a l => match a, l with
  | .str z, [.tup l] => match strsD l with
    | some ss => if (ss.map (·.length)).sum + ss.length * z.length ≤ 16777216 then some (.str (Txt.join z ss), S) else none
    | none => none
  | .str z, [d] => match seqR S d with
    | some l => match strsD l with
      | some ss => if (ss.map (·.length)).sum + ss.length * z.length ≤ 16777216 then some (.str (Txt.join z ss), S) else none
      | none => none
    | none => none
  | _, _ => none
section
variable {X : Cx}
theorem RDs.dropLast {K : PySem.W.Frag} {g : G} {l : List D} {vs : List V} (r : RDs K g l vs) : RDs K g l.dropLast vs.dropLast := by
  rw [List.dropLast_eq_take, List.dropLast_eq_take, ← r.length]
  exact r.take _
theorem t_append : MtM X "list.append" (rMt X.K gAppend) := by
  intro pins s σ H x vs v us Q I rx rv h
  obtain ⟨g, a, ds, d, S', rfl, rp, ra, rds, hf, q⟩ := h
  unfold gAppend at hf
  split at hf
  · rename_i n y
    split at hf
    · rename_i l hn
      split at hf
      · rename_i hz
        cases hf
        rw [RD] at ra
        obtain ⟨w, rfl, rw'⟩ := rds.one
        obtain ⟨ws, h1, h2⟩ := rp.obj n _ hn
        obtain ⟨e1, e2⟩ := put_lst rp hn (h2.append (RDs.cons rw' RDs.nil))
        exact mt_append pins s σ _ _ _ v us Q I rx rv ⟨g.ρ n, ws, w, ra.2, rfl, h1, by rw [← h2.length, ← sz_eq]; exact hz, q _ .non e1 rfl e2 (by rw [RD])⟩
      · cases hf
    · cases hf
  · cases hf
theorem t_pop : MtM X "list.pop" (rMt X.K gPop) := by
  intro pins s σ H x vs v us Q I rx rv h
  obtain ⟨g, a, ds, d, S', rfl, rp, ra, rds, hf, q⟩ := h
  unfold gPop at hf
  split at hf
  · rename_i n
    split at hf
    · rename_i l hn
      split at hf
      · rename_i y hy
        cases hf
        rw [RD] at ra
        rw [RDs] at rds; subst rds
        obtain ⟨ws, h1, h2⟩ := rp.obj n _ hn
        obtain ⟨w, hw, rw'⟩ := h2.get hy
        obtain ⟨e1, e2⟩ := put_lst rp hn h2.dropLast
        exact mt_pop pins s σ _ _ _ v us Q I rx rv ⟨g.ρ n, ws, w, ra.2, rfl, h1, by rw [← h2.length]; exact hw, q _ w e1 rfl e2 (rw'.mono e1)⟩
      · cases hf
    · cases hf
  · cases hf
theorem t_join : MtM X "str.join" (rMt X.K gJoin) := by
  intro pins s σ H x vs v us Q I rx rv h
  obtain ⟨g, a, ds, d, S', rfl, rp, ra, rds, hf, q⟩ := h
  unfold gJoin at hf
  split at hf
  · rename_i z l
    cases e : strsD l with
    | none => rw [e] at hf; cases hf
    | some ss =>
      rw [e] at hf
      dsimp only at hf
      split at hf
      · rename_i hz
        cases hf
        rw [RD] at ra; subst ra
        obtain ⟨w, rfl, h1⟩ := rds.one
        rw [RD] at h1
        obtain ⟨b, ws, rfl, h2, h3⟩ := h1
        have h2' := h2.sq
        rw [rds_strs e h3] at h2'
        exact mt_join pins s σ _ _ _ v us Q I rx rv ⟨z, b, ss, rfl, rfl, .inr h2', hz, q g _ (Ext.refl g) rfl rp (by rw [RD])⟩
      · cases hf
  · rename_i z d' _
    cases e0 : seqR g.S d' with
    | none => rw [e0] at hf; cases hf
    | some l =>
      rw [e0] at hf
      dsimp only at hf
      cases e : strsD l with
      | none => rw [e] at hf; cases hf
      | some ss =>
        rw [e] at hf
        dsimp only at hf
        split at hf
        · rename_i hz
          cases hf
          rw [RD] at ra; subst ra
          obtain ⟨w, rfl, h1⟩ := rds.one
          obtain ⟨b, ws, rfl, h2, h3⟩ := seqR_at rp e0 h1
          rw [rds_strs e h3] at h2
          exact mt_join pins s σ _ _ _ v us Q I rx rv ⟨z, b, ss, rfl, rfl, .inl h2, hz, q g _ (Ext.refl g) rfl rp (by rw [RD])⟩
        · cases hf
  · cases hf
end

/-! ### statements -/
def R.st {α : Type} (r : R α) (e : Env) (f : α → List O → RS) : RS := match r with
  | .ok a S => f a S
  | .er x S => .er x e S
  | .bad => .bad
def sNil : MS := fun e S => .nx e S
def sSeq (a b : MS) : MS := fun e S => match a e S with
  | .nx e' S' => b e' S'
  | r => r
def sRet (m : ME) : MS := fun e S => (m e S).st e fun d S1 => .rt d S1
def sRetN : MS := fun _ S => .rt .non S
def sAsg (i : Nat) (m : ME) : MS := fun e S => (m e S).st e fun d S1 => .nx (e.set i (some d)) S1
def sExpr (m : ME) : MS := fun e S => (m e S).st e fun _ S1 => .nx e S1
def sIf (t : MT) (a b : MS) : MS := fun e S => (t e S).st e fun k S1 => if k then a e S1 else b e S1
def sBrk : MS := fun e S => .bk e S
def sCnt : MS := fun e S => .ct e S
def sPar (i j : Nat) (m : MA) : MS := fun e S => (m e S).st e fun l S1 => match l with
  | [a, b] => .nx ((e.set i (some a)).set j (some b)) S1
  | _ => .bad
/-- xs[i] = .. -/
def fSet (S : List O) (a i d : D) : Option (List O) := match a, i with
  | .ref n, .int k => match S[n]? with
    | some (.lst l) => match ixN l.length k with
      | some j => some (S.set n (.lst (l.set j d)))
      | none => none
    | _ => none
  | _, _ => none
theorem fSet_inv {S : List O} {a i d : D} {S4 : List O} (q : fSet S a i d = some S4) : ∃ n k l j, a = .ref n ∧ i = .int k ∧ S[n]? = some (.lst l) ∧ ixN l.length k = some j ∧ S4 = S.set n (.lst (l.set j d)) := by
  unfold fSet at q
  split at q
  · split at q
    · rename_i hn
      split at q
      · rename_i hj
        cases q
        exact ⟨_, _, _, _, rfl, rfl, hn, hj, rfl⟩
      · cases q
    · cases q
  · cases q
def sSet (mv mo mi : ME) : MS := fun e S => (mv e S).st e fun d S1 => (mo e S1).st e fun a S2 => (mi e S2).st e fun i S3 => match fSet S3 a i d with
  | some S4 => .nx e S4
  | none => .bad
section
variable {K : PySem.W.Frag} {W : WX'} {g : G} {σ : L2.St} {H : Hp} {e : Env} {D : Ends}
theorem PostS.of_st {α : Type} {r : R α} {f : α → List O → RS} (re : RE K g e σ) (h : PostS K W g (r.st e f) D) : Post K W g r σ fun a g1 => Ext g g1 ∧ Rep K g1 ∧ PostS K W g1 (f a g1.S) D := PostS.of_er re h
theorem i_seq {a b : MS} (h : tS K W (sSeq a b) D σ H) : tSeq (tS K W a) (tS K W b) D σ H := by
  obtain ⟨g, e, rfl, rp, re, p⟩ := h
  refine ⟨g, e, rfl, rp, re, ?_⟩
  unfold sSeq at p
  cases q : a e g.S with
  | nx e' S' =>
    rw [q] at p
    intro g' σ' x s r re'
    subst s
    exact ⟨g', e', rfl, r, re', PostS.mono x p⟩
  | rt d S' => rw [q] at p; exact p
  | bk e' S' => rw [q] at p; exact p
  | ct e' S' => rw [q] at p; exact p
  | er x' e' S' => rw [q] at p; exact p
  | bad => rw [q] at p; exact p
theorem i_snil (h : tS K W sNil D σ H) : tNext D σ H := by
  obtain ⟨g, e, rfl, rp, re, p⟩ := h
  exact p g σ (Ext.refl g) rfl rp re
theorem i_ret {m : ME} (h : tS K W (sRet m) D σ H) : tRet (tE K W m) D σ H := by
  obtain ⟨g, e, rfl, rp, re, p⟩ := h
  exact ⟨g, e, rfl, rp, re, (PostS.of_st re p).imp fun d g1 e1 r1 ⟨_, _, p1⟩ v rv => p1 g1 v (Ext.refl g1) rfl r1 rv⟩
theorem i_retN (h : tS K W sRetN D σ H) : tRetN D σ H := by
  obtain ⟨g, e, rfl, rp, re, p⟩ := h
  exact p g .non (Ext.refl g) rfl rp (by rw [RD])
theorem i_asg {i : Nat} {m : ME} (h : tS K W (sAsg i m) D σ H) : tAsg (tE K W m) (gName i) D σ H := by
  obtain ⟨g, e, rfl, rp, re, p⟩ := h
  exact ⟨g, e, rfl, rp, re, (PostS.of_st re p).imp fun d g1 e1 r1 ⟨_, _, p1⟩ v rv => p1 g1 _ (Ext.refl g1) rfl r1 ((re.mono e1).set rv)⟩
theorem i_expr {m : ME} (h : tS K W (sExpr m) D σ H) : tDrop (tE K W m) D σ H := by
  obtain ⟨g, e, rfl, rp, re, p⟩ := h
  exact ⟨g, e, rfl, rp, re, (PostS.of_st re p).imp fun d g1 e1 r1 ⟨_, _, p1⟩ v rv => p1 g1 _ (Ext.refl g1) rfl r1 (re.mono e1)⟩
theorem i_ifs {t : MT} {a b : MS} (h : tS K W (sIf t a b) D σ H) : tIfS (tT K W t) (tS K W a) (tS K W b) D σ H := by
  obtain ⟨g, e, rfl, rp, re, p⟩ := h
  refine ⟨g, e, rfl, rp, re, (PostS.of_st re p).imp fun k g1 e1 r1 ⟨_, _, p1⟩ => ?_⟩
  cases k with
  | true => exact ⟨g1, e, rfl, r1, re.mono e1, p1⟩
  | false => exact ⟨g1, e, rfl, r1, re.mono e1, p1⟩
theorem i_brk (h : tS K W sBrk D σ H) : tBreak D σ H := by
  obtain ⟨g, e, rfl, rp, re, p⟩ := h
  exact p g σ (Ext.refl g) rfl rp re
theorem i_cnt (h : tS K W sCnt D σ H) : tCont D σ H := by
  obtain ⟨g, e, rfl, rp, re, p⟩ := h
  exact p g σ (Ext.refl g) rfl rp re
theorem i_par {i j : Nat} {m : MA} (h : tS K W (sPar i j m) D σ H) : tPar i j (tA K W m) D σ H := by
  obtain ⟨g, e, rfl, rp, re, p⟩ := h
  refine ⟨g, e, rfl, rp, re, (PostS.of_st re p).imp fun l g1 e1 r1 ⟨_, _, p1⟩ vs rv => ?_⟩
  split at p1
  · obtain ⟨v, u, rfl, h1, h2⟩ := rv.two
    exact ⟨v, u, rfl, p1 g1 _ (Ext.refl g1) rfl r1 (((re.mono e1).set h1).set h2)⟩
  · exact False.elim p1
theorem i_set {mv mo mi : ME} (h : tS K W (sSet mv mo mi) D σ H) : tAsg (tE K W mv) (L2.gSub (tE K W mo) (tE K W mi) rSetL) D σ H := by
  obtain ⟨g, e, rfl, rp, re, p⟩ := h
  refine ⟨g, e, rfl, rp, re, (PostS.of_st re p).imp fun d g1 e1 r1 ⟨_, _, p1⟩ v rv => ?_⟩
  refine ⟨g1, e, rfl, r1, re.mono e1, (PostS.of_st (re.mono e1) p1).imp fun a g2 e2 r2 ⟨_, _, p2⟩ w rw' => ?_⟩
  refine ⟨g2, e, rfl, r2, (re.mono e1).mono e2, (PostS.of_st ((re.mono e1).mono e2) p2).imp fun i g3 e3 r3 ⟨_, _, p3⟩ u ru => ?_⟩
  cases q : fSet g3.S a i d with
  | none => rw [q] at p3; exact False.elim p3
  | some S4 =>
    rw [q] at p3
    dsimp only at p3
    obtain ⟨n, k, l, j, rfl, rfl, hn, hj, rfl⟩ := fSet_inv q
    have rn := rw'.mono e3
    simp only [RD] at rn ru
    obtain ⟨ws, h1, h2⟩ := r3.obj n _ hn
    have rv3 := (rv.mono e2).mono e3
    obtain ⟨x1, x2⟩ := put_lst r3 hn (RDs.set rv3 j h2)
    exact ⟨g3.ρ n, ws, k, j, rn.2, ru, h1, by rw [← h2.length]; exact hj, p3 _ σ x1 rfl x2 ((((re.mono e1).mono e2).mono e3).mono x1)⟩
end
section
variable {X : Cx} {W : WX'} {st : Stmt} {rest a b : List Stmt} {ma mb : MS} {e c : Expr} {m : ME} {t : MT} {pos : Pos}
theorem sm_nil : PSs X [] (tS X.K W sNil) := PSs.imp pss_nil fun _ _ _ => i_snil
theorem sm_cons (h1 : PS X st (tS X.K W ma)) (h2 : PSs X rest (tS X.K W mb)) : PSs X (st :: rest) (tS X.K W (sSeq ma mb)) := PSs.imp (pss_cons h1 h2) fun _ _ _ => i_seq
theorem sm_one (h1 : PS X st (tS X.K W ma)) : PSs X [st] (tS X.K W ma) := pss_one h1
theorem sm_ret (h : PE X e (tE X.K W m)) : PS X (.Return (some e) pos) (tS X.K W (sRet m)) := PS.imp (ps_ret h) fun _ _ _ => i_ret
theorem sm_retN : PS X (.Return none pos) (tS X.K W sRetN) := PS.imp ps_retN fun _ _ _ => i_retN
theorem sm_set {i : Nat} {x : Str} {pos' : Pos} (hN : X.N.Nodup) (hi : X.N[i]? = some x) (hx : Loc X.env.scope x) (he : PE X e (tE X.K W m)) (hs : swapsWith e (some (.Name x pos')) pos.line X.env = pure false := by rfl) (hf : X.fn x = true ∨ X.env.scope.names.lookup x = some .local := by first | exact .inl rfl | exact .inr rfl | assumption) :
    PS X (.Assign [.Name x pos'] e pos) (tS X.K W (sAsg i m)) := PS.imp (ps_set hN hi hx he hs hf) fun _ _ _ => i_asg
theorem sm_expr (h : PE X e (tE X.K W m)) (hs : swapsWith e none pos.line X.env = pure false := by rfl) : PS X (.Expr e pos) (tS X.K W (sExpr m)) := PS.imp (ps_expr h hs) fun _ _ _ => i_expr
theorem sm_if (hc : PT X c (tT X.K W t)) (ha : PSs X a (tS X.K W ma)) (hb : PSs X b (tS X.K W mb)) : PS X (.If c a b pos) (tS X.K W (sIf t ma mb)) := PS.imp (ps_if hc ha hb) fun _ _ _ => i_ifs
theorem sm_pass : PS X (.Pass pos) (tS X.K W sNil) := PS.imp ps_pass fun _ _ _ => i_snil
theorem sm_brk : PS X (.Break pos) (tS X.K W sBrk) := PS.imp ps_break fun _ _ _ => i_brk
theorem sm_cnt : PS X (.Continue pos) (tS X.K W sCnt) := PS.imp ps_continue fun _ _ _ => i_cnt
theorem sm_par {i j : Nat} {x y : Str} {a b : Expr} {mm : MA} {px py pt : Pos} {kt k2 pt2} (hc : X.calm = true) (hN : X.N.Nodup) (hi : X.N[i]? = some x) (hj : X.N[j]? = some y) (hij : i ≠ j)
    (hx : X.env.scope.names.lookup x = some .local) (hy : X.env.scope.names.lookup y = some .local) (ha : PA X [a, b] (tA X.K W mm))
    (hw : swappedStores [.Tuple [.Name x px, .Name y py] kt pt] (.Tuple [a, b] k2 pt2) X.env = pure (some [x, y]))
    (hs : swapsWithSole [.Tuple [.Name x px, .Name y py] kt pt] (.Tuple [a, b] k2 pt2) pos.line X.env = pure false := by rfl) :
    PS X (.Assign [.Tuple [.Name x px, .Name y py] kt pt] (.Tuple [a, b] k2 pt2) pos) (tS X.K W (sPar i j mm)) := PS.imp (ps_par hc hN hi hj hij hx hy ha hw hs) fun _ _ _ => i_par
theorem sm_item {o i : Expr} {mo mi : ME} {ipos : Pos} (he : PE X e (tE X.K W m)) (ho : PE X o (tE X.K W mo)) (hi : PE X i (tE X.K W mi)) (ha : ∀ v, assign (.Subscript o i ipos) X.env v = (do
      let ov ← holding [v] (eval o X.env)
      let iv ← holding [v, ov] (eval i X.env)
      standAt ipos
      holding [v, ov, iv] (setItem ov iv v)
      release [v, ov, iv] []) := by intro _; rfl) (hs : swapsWithSole [.Subscript o i ipos] e pos.line X.env = pure false := by rfl) (hw : swappedStores [.Subscript o i ipos] e X.env = pure none := by rfl)
    (h1 : (assignEach [.Subscript o i ipos] X.env).map (·.2) = [assign (.Subscript o i ipos) X.env] := by rfl) : PS X (.Assign [.Subscript o i ipos] e pos) (tS X.K W (sSet m mo mi)) :=
  PS.imp (ps_asg he (pg_sub ho hi set_list ha) hs hw h1) fun _ _ _ => i_set
end

/-! ### targets -/
structure Tg where
  f : D → Env → Option Env
  sl : List Nat
def tgN (i : Nat) : Tg := ⟨fun d e => some (e.set i (some d)), [i]⟩
structure Tgs where
  f : List D → Env → Option Env
  sl : List Nat
def tgsN : Tgs := ⟨fun l e => match l with | [] => some e | _ => none, []⟩
def tgsC (t : Tg) (u : Tgs) : Tgs := ⟨fun l e => match l with
  | d :: r => match t.f d e with
    | some e' => u.f r e'
    | none => none
  | [] => none, t.sl ++ u.sl⟩
def tgT (n : Nat) (u : Tgs) : Tg := ⟨fun d e => match d with
  | .tup l => if l.length = n then u.f l e else none
  | _ => none, u.sl⟩
def Off (sl : List Nat) (σ σ' : L2.St) : Prop := σ'.length = σ.length ∧ ∀ j : Nat, j ∉ sl → σ'[j]? = σ[j]?
def tG (K : PySem.W.Frag) (t : Tg) : TG := fun v σ H Q => ∃ g e d e', g.H = H ∧ Rep K g ∧ RE K g e σ ∧ RD K g d v ∧ t.f d e = some e' ∧ ∀ σ', RE K g e' σ' → Off t.sl σ σ' → Q σ' H
def tGs (K : PySem.W.Frag) (t : Tgs) : TGs := fun vs σ H Q => ∃ g e l e', g.H = H ∧ Rep K g ∧ RE K g e σ ∧ RDs K g l vs ∧ t.f l e = some e' ∧ ∀ σ', RE K g e' σ' → Off t.sl σ σ' → Q σ' H
section
variable {X : Cx} {pos : Pos}
theorem PG.imp {tg : Expr} {t t' : TG} (h : PG X tg t) (f : ∀ v σ H Q, t' v σ H Q → t v σ H Q) : PG X tg t' := ⟨fun p s σ H v u Q I r q => h.run p s σ H v u Q I r (f v σ H Q q)⟩
theorem PGs.imp {tg : List Expr} {t t' : TGs} (h : PGs X tg t) (f : ∀ v σ H Q, t' v σ H Q → t v σ H Q) : PGs X tg t' := ⟨fun p s σ H v u Q I r q => h.run p s σ H v u Q I r (f v σ H Q q)⟩
theorem gm_name {i : Nat} {x : Str} (hN : X.N.Nodup) (hi : X.N[i]? = some x) (hx : Loc X.env.scope x) (hf : X.fn x = true ∨ X.env.scope.names.lookup x = some .local := by first | exact .inl rfl | exact .inr rfl | assumption) : PG X (.Name x pos) (tG X.K (tgN i)) :=
  PG.imp (pg_name hN hi hx hf) fun v σ H Q ⟨g, e, d, e', h1, rp, re, rd, hf, q⟩ => by
    cases hf
    exact q _ (re.set rd) ⟨by rw [List.length_set], fun j hj => List.getElem?_set_ne (fun z => hj (by simp [tgN, z]))⟩
theorem gms_nil : PGs X [] (tGs X.K tgsN) := PGs.imp pgs_nil fun v σ H Q ⟨g, e, l, e', h1, rp, re, rd, hf, q⟩ => by
  cases l with
  | nil =>
    cases hf
    rw [RDs] at rd
    exact ⟨rd, q σ re ⟨rfl, fun _ _ => rfl⟩⟩
  | cons _ _ => cases hf
theorem gms_cons {e : Expr} {es : List Expr} {t : Tg} {u : Tgs} (h1 : PG X e (tG X.K t)) (h2 : PGs X es (tGs X.K u))
    (hs : (assignEach (e :: es) X.env).map (·.2) = assign e X.env :: (assignEach es X.env).map (·.2) := by rfl) : PGs X (e :: es) (tGs X.K (tgsC t u)) := PGs.imp (pgs_cons h1 h2 hs) fun v σ H Q ⟨g, e, l, e', hH, rp, re, rd, hf, q⟩ => by
  cases l with
  | nil => cases hf
  | cons d r =>
    rw [RDs] at rd
    obtain ⟨v1, vr, rfl, rd1, rd2⟩ := rd
    unfold tgsC at hf
    dsimp only at hf
    cases q1 : t.f d e with
    | none => rw [q1] at hf; cases hf
    | some e1 =>
      rw [q1] at hf
      refine ⟨v1, vr, rfl, g, e, d, e1, hH, rp, re, rd1, q1, fun σ1 re1 o1 => ?_⟩
      refine ⟨g, e1, r, e', hH, rp, re1, rd2, hf, fun σ2 re2 o2 => q σ2 re2 ⟨o2.1.trans o1.1, fun j hj => ?_⟩⟩
      have hj' : j ∉ t.sl ∧ j ∉ u.sl := by simpa [tgsC] using hj
      exact (o2.2 j hj'.2).trans (o1.2 j hj'.1)
theorem gm_tup {es : List Expr} {k : Nat} {t : Tgs} {n : Nat} (hc : X.calm = true) (h : PGs X es (tGs X.K t))
    (hn : (assignEach es X.env).length = n := by rfl) (hst : (assignEach es X.env).findIdx? (·.1) = none := by rfl) : PG X (.Tuple es k pos) (tG X.K (tgT n t)) := PG.imp (pg_tup hc h hn hst) fun v σ H Q ⟨g, e, d, e', hH, rp, re, rd, hf, q⟩ => by
  cases d with
  | tup l =>
    unfold tgT at hf
    dsimp only at hf
    split at hf
    · rename_i hl
      rw [RD] at rd
      obtain ⟨a, vs, rfl, h1, h2⟩ := rd
      refine ⟨a, vs, rfl, by rw [← hH]; exact h1.sq, by rw [← h2.length]; exact hl, g, e, l, e', hH, rp, re, h2, hf, q⟩
    · cases hf
  | _ => cases hf
/-- a, b = e -/
def sUnp (t : Tg) (m : ME) : MS := fun e S => (m e S).st e fun d S1 => match t.f d e with
  | some e' => .nx e' S1
  | none => .bad
theorem sm_unp {W : WX'} {tg e : Expr} {m : ME} {t : Tg} (he : PE X e (tE X.K W m)) (hg : PG X tg (tG X.K t)) (hs : swapsWithSole [tg] e pos.line X.env = pure false := by rfl) (hw : swappedStores [tg] e X.env = pure none := by rfl)
    (h1 : (assignEach [tg] X.env).map (·.2) = [assign tg X.env] := by rfl) : PS X (.Assign [tg] e pos) (tS X.K W (sUnp t m)) := PS.imp (ps_asg he hg hs hw h1) fun D σ H ⟨g, e, hH, rp, re, p⟩ => by
  subst hH
  refine ⟨g, e, rfl, rp, re, (PostS.of_st re p).imp fun d g1 e1 r1 ⟨_, _, p1⟩ v rv => ?_⟩
  cases q : t.f d e with
  | none => rw [q] at p1; exact False.elim p1
  | some e' =>
    rw [q] at p1
    exact ⟨g1, e, d, e', rfl, r1, re.mono e1, rv, q, fun σ' re' _ => p1 g1 σ' (Ext.refl g1) rfl r1 re'⟩
end
end Mo

namespace Mo
open PySem PySem.Spec L2 PyProof.Rows

theorem Sim.refl (g : G) : Sim g g := (Ext.refl g).sim
theorem Sim.trans {g g1 g2 : G} (a : Sim g g1) (b : Sim g1 g2) : Sim g g2 :=
  ⟨⟨fun x vs h p => let ⟨h1, p1⟩ := a.tu x vs h p; b.tu x vs h1 p1, fun x vs h p => let ⟨h1, p1⟩ := a.ls x vs h p; b.ls x vs h1 p1⟩, Nat.le_trans a.len b.len, fun i h => (b.ag i (Nat.lt_of_lt_of_le h a.len)).trans (a.ag i h)⟩

/-! ### what a loop walks -/
abbrev MI := Env → List O → R (List D × (List O → Bool))
/-- what nobody may change stays -/
abbrev Kpt (g g' : G) : Prop := ∀ a o, g.H a = some o → ¬ g.Live a → g'.H a = some o ∧ ¬ g'.Live a
def Jok (K : PySem.W.Frag) (g : G) (J : It) (l : List D) (chk : List O → Bool) : Prop := ∀ g', Sim g g' → Kpt g g' → Rep K g' → chk g'.S = true → ∀ i, (l.length ≤ i → J.stop i g'.H) ∧ ∀ d, l[i]? = some d → J.go i g'.H ∧
  ∀ x H', J.yld i g'.H x H' → ∃ g2, Ext g' g2 ∧ g2.S = g'.S ∧ g2.H = H' ∧ Rep K g2 ∧ RD K g2 d x
def tI (K : PySem.W.Frag) (W : WX') (m : MI) : TI := fun σ H R' => ∃ g e, g.H = H ∧ Rep K g ∧ RE K g e σ ∧ Post K W g (m e g.S) σ fun lc g' => ∀ J, Jok K g' J lc.1 lc.2 → R' J g'.H
def anyS : List O → Bool := fun _ => true
def srcD (S : List O) (d : D) : Option (List D × (List O → Bool)) := match d with
  | .tup l => some (l, anyS)
  | .lst l => some (l, anyS)
  | .kl l => some (l, anyS)
  | .ref n => match S[n]? with
    | some (.lst l) => some (l, fun S' => decide (S'[n]? = some (.lst l)))
    | _ => none
  | _ => none
def miSeq (m : ME) : MI := fun e S => (m e S).bind fun d S1 => match srcD S1 d with
  | some r => .ok r S1
  | none => .bad
/-- a range's items -/
def rangeD (a c : Int) (n : Nat) : List D := (List.range n).map fun i => .int (a + (i : Nat) * c)
def rangeA1 (l : List D) : Option (List D) := match l with
  | [.int b] => if b.natAbs < 4611686018427387904 then some (rangeD 0 1 b.toNat) else none
  | _ => none
def rangeA2 (l : List D) : Option (List D) := match l with
  | [.int a, .int b] => if a.natAbs < 4611686018427387904 ∧ b.natAbs < 4611686018427387904 then some (rangeD a 1 (b - a).toNat) else none
  | _ => none
def rangeA3 (l : List D) : Option (List D) := match l with
  | [.int a, .int b, .int c] => if c ≠ 0 ∧ c.natAbs < 1073741824 ∧ Builtin.Range.small a b c = true ∧ 0 ≤ Builtin.Range.rangeSize a b c then some (rangeD a c (Builtin.Range.rangeSize a b c).toNat) else none
  | _ => none
def miRange (f : List D → Option (List D)) (m : MA) : MI := fun e S => (m e S).bind fun l S1 => match f l with
  | some r => .ok (r, anyS) S1
  | none => .bad
section
variable {K : PySem.W.Frag} {g : G}
theorem jok_list {a : Addr} {vs : List V} {l : List D} {chk : List O → Bool} (h : ∀ g', Sim g g' → Rep K g' → chk g'.S = true → ∃ vs, SqL K g'.H a vs ∧ RDs K g' l vs) : Jok K g (Itl K a) l chk := fun g' s _ rp c i => by
  obtain ⟨vs, h1, h2⟩ := h g' s rp c
  refine ⟨fun hi => ⟨vs, h1, by rw [← h2.length]; exact hi⟩, fun d hd => ?_⟩
  obtain ⟨v, hv, rv⟩ := h2.get hd
  refine ⟨⟨vs, v, h1, hv⟩, fun x H' y => ?_⟩
  obtain ⟨rfl, y⟩ := y
  have e : some x = some v := (y vs h1).symm.trans hv
  cases e
  exact ⟨g', Ext.refl g', rfl, rfl, rp, rv⟩
theorem jok_tup {a : Addr} {l : List D} {chk : List O → Bool} (h : ∀ g', Sim g g' → Rep K g' → chk g'.S = true → ∃ vs, SqT K g'.H a vs ∧ RDs K g' l vs) : Jok K g (Itt K a) l chk := fun g' s _ rp c i => by
  obtain ⟨vs, h1, h2⟩ := h g' s rp c
  refine ⟨fun hi => ⟨vs, h1, by rw [← h2.length]; exact hi⟩, fun d hd => ?_⟩
  obtain ⟨v, hv, rv⟩ := h2.get hd
  refine ⟨⟨vs, v, h1, hv⟩, fun x H' y => ?_⟩
  obtain ⟨rfl, y⟩ := y
  have e : some x = some v := (y vs h1).symm.trans hv
  cases e
  exact ⟨g', Ext.refl g', rfl, rfl, rp, rv⟩
theorem range_get {a c : Int} {n i : Nat} {d : D} (h : (rangeD a c n)[i]? = some d) : i < n ∧ d = .int (a + (i : Nat) * c) := by
  unfold rangeD at h
  rw [List.getElem?_map] at h
  cases e : (List.range n)[i]? with
  | none => rw [e] at h; cases h
  | some j =>
    rw [e] at h
    have hi : i < n := by
      have := (List.getElem?_eq_some_iff.mp e).1
      rwa [List.length_range] at this
    rw [List.getElem?_range hi] at e
    cases e
    cases h
    exact ⟨hi, rfl⟩
theorem range_len (a c : Int) (n : Nat) : (rangeD a c n).length = n := by
  unfold rangeD
  rw [List.length_map, List.length_range]
theorem jok_range {lo : Int} {n : Nat} : Jok K g (Itr lo n) (rangeD lo 1 n) anyS := fun g' s _ rp c i => by
  refine ⟨fun hi => by rw [range_len] at hi; exact hi, fun d hd => ?_⟩
  obtain ⟨h1, rfl⟩ := range_get hd
  refine ⟨h1, fun x H' y => ?_⟩
  obtain ⟨rfl, rfl⟩ := y
  exact ⟨g', Ext.refl g', rfl, rfl, rp, by rw [RD, Int.mul_one]⟩
theorem jok_rangeC {lo c : Int} {n : Nat} : Jok K g (Itc lo c n) (rangeD lo c n) anyS := fun g' s _ rp ch i => by
  refine ⟨fun hi => by rw [range_len] at hi; exact hi, fun d hd => ?_⟩
  obtain ⟨h1, rfl⟩ := range_get hd
  refine ⟨h1, fun x H' y => ?_⟩
  obtain ⟨rfl, rfl⟩ := y
  exact ⟨g', Ext.refl g', rfl, rfl, rp, by rw [RD]⟩
end
section
variable {X : Cx} {tg : Expr} {W : WX'}
theorem PI.imp {tg e : Expr} {t t' : TI} (h : PI X tg e t) (f : ∀ σ H Q, t' σ H Q → t σ H Q) : PI X tg e t' := ⟨fun p s σ H Q I q => h.run p s σ H Q I (f σ H Q q)⟩
/-- a list or a tuple, walked -/
theorem pi_seq {e : Expr} {te : TE} (he : PE X e te) : PI X tg e (fun σ H R' => te σ H fun x H1 => ∃ a, x = .ref a ∧ ((∃ xs, SqL X.K H1 a xs ∧ R' (Itl X.K a) H1) ∨ (∃ xs, SqT X.K H1 a xs ∧ R' (Itt X.K a) H1))) := by
  constructor
  intro pins s σ H R' I h
  refine thn (he.run pins s σ H _ I h) fun v s1 ⟨x, H1, I1, r1, a, ex, q1⟩ => ?_
  subst ex
  cases r1
  have own : FpOk X pins H1 s1.heap.objs.size := I1.fpOk (Nat.le_refl _) (I1.hok.fresh (Nat.le_refl _))
  rcases q1 with ⟨xs, hq, q⟩ | ⟨xs, hq, q⟩
  · obtain ⟨its, rv, p, hz⟩ := I1.list hq
    refine wpAny_pyIter_list p.isList ⟨s1.heap.objs.size, [s1.heap.objs.size], _, _, H1, rfl, I1.kept (t' := s1.toks) fun b o e => Heap.get?_push_of_some _ e, turn_list a _, ⟨_, Heap.get?_push_size _ rfl, rfl, rfl⟩, fun b hb => ?_, q⟩
    rw [show b = s1.heap.objs.size by simpa using hb]
    exact own
  · obtain ⟨its, rv, p, hz⟩ := I1.tuple hq
    refine wpAny_pyIter_tuple (show s1.heap.IsTuple a its.toArray from p) ⟨s1.heap.objs.size, [s1.heap.objs.size], _, _, H1, rfl, I1.kept (t' := s1.toks) fun b o e => Heap.get?_push_of_some _ e, turn_tuple a _, ⟨_, Heap.get?_push_size _ rfl, rfl, rfl⟩, fun b hb => ?_, q⟩
    rw [show b = s1.heap.objs.size by simpa using hb]
    exact own
theorem im_seq {e : Expr} {m : ME} (he : PE X e (tE X.K W m)) : PI X tg e (tI X.K W (miSeq m)) := PI.imp (pi_seq he) fun σ H R' ⟨g, e, hH, rp, re, p⟩ => by
  subst hH
  refine ⟨g, e, rfl, rp, re, (Post.bind p).imp fun d g1 e1 r1 ⟨_, _, p1⟩ v rv => ?_⟩
  cases d with
  | tup l =>
    have p1' : Post X.K W g1 (.ok (l, anyS) g1.S) σ _ := p1
    rw [RD] at rv
    obtain ⟨a, vs, rfl, h1, h2⟩ := rv
    exact ⟨a, rfl, .inr ⟨vs, h1.sq, Post.here r1 p1' _ (jok_tup fun g' s _ _ => ⟨vs, (h1.sim s.toSim0).sq, h2.sim s⟩)⟩⟩
  | lst l =>
    have p1' : Post X.K W g1 (.ok (l, anyS) g1.S) σ _ := p1
    rw [RD] at rv
    obtain ⟨a, vs, rfl, h1, h2⟩ := rv
    exact ⟨a, rfl, .inl ⟨vs, h1.sq, Post.here r1 p1' _ (jok_list (vs := vs) fun g' s _ _ => ⟨vs, (h1.sim s.toSim0).sq, h2.sim s⟩)⟩⟩
  | kl l =>
    have p1' : Post X.K W g1 (.ok (l, anyS) g1.S) σ _ := p1
    rw [RD] at rv
    obtain ⟨a, vs, rfl, h1, h2⟩ := rv
    exact ⟨a, rfl, .inl ⟨vs, h1.sq, Post.here r1 p1' _ (jok_list (vs := vs) fun g' s _ _ => ⟨vs, (h1.sim s.toSim0).sq, h2.sim s⟩)⟩⟩
  | ref n =>
    rw [RD] at rv
    cases q : g1.S[n]? with
    | none => simp only [srcD, q] at p1; exact False.elim p1
    | some o =>
      cases o with
      | lst l =>
        simp only [srcD, q] at p1
        obtain ⟨vs, h1, h2⟩ := r1.obj n _ q
        refine ⟨g1.ρ n, rv.2, .inl ⟨vs, .inl (.inl h1), Post.here r1 p1 _ (jok_list (vs := vs) fun g' s rp' c => ?_)⟩⟩
        have c' := of_decide_eq_true c
        obtain ⟨ws, k1, k2⟩ := rp'.obj n _ c'
        rw [s.ag n rv.1] at k1
        exact ⟨ws, .inl (.inl k1), k2⟩
      | _ => simp only [srcD, q] at p1; exact False.elim p1
  | _ => exact False.elim p1
theorem i_range {K : PySem.W.Frag} {σ : L2.St} {H : Hp} {R' : It → Hp → Prop} {f : List D → Option (List D)} {m : MA} {k : List V → Hp → Prop} (h : tI K W (miRange f m) σ H R')
    (hk : ∀ g l vs r, Rep K g → RDs K g l vs → f l = some r → (∀ J, Jok K g J r anyS → R' J g.H) → k vs g.H) : tA K W m σ H k := by
  obtain ⟨g, e, hH, rp, re, p⟩ := h
  subst hH
  refine ⟨g, e, rfl, rp, re, (Post.bind p).imp fun l g1 e1 r1 ⟨_, _, p1⟩ vs rv => ?_⟩
  cases q : f l with
  | none => rw [q] at p1; exact False.elim p1
  | some r =>
    rw [q] at p1
    exact hk g1 l vs r r1 rv q (Post.here r1 p1)
theorem im_range1 {a : Expr} {m : MA} {p pos : Pos} (hg : Gl X "range") (hm : X.mg "range" = none) (ha : PA X [a] (tA X.K W m)) (hs : starEach [a] X.env = [(false, eval a X.env)] := by rfl) : PI X tg (.Call (.Name "range" p) [a] [] pos) (tI X.K W (miRange rangeA1 m)) :=
  PI.imp (pi_range1 hg hm ha hs) fun σ H R' h => i_range h fun g l vs r rp rv q hR => by
  unfold rangeA1 at q
  split at q
  · split at q
    · rename_i b hc
      cases q
      obtain ⟨v, rfl, h1⟩ := rv.one
      rw [RD] at h1; subst h1
      exact ⟨b, rfl, by omega, by omega, hR _ jok_range⟩
    · cases q
  · cases q
theorem im_range2 {a b : Expr} {m : MA} {p pos : Pos} (hg : Gl X "range") (hm : X.mg "range" = none) (ha : PA X [a, b] (tA X.K W m)) (hs : starEach [a, b] X.env = [(false, eval a X.env), (false, eval b X.env)] := by rfl) (hs2 : starEach [b] X.env = [(false, eval b X.env)] := by rfl) :
    PI X tg (.Call (.Name "range" p) [a, b] [] pos) (tI X.K W (miRange rangeA2 m)) :=
  PI.imp (pi_range2 hg hm ha hs hs2) fun σ H R' h => i_range h fun g l vs r rp rv q hR => by
  unfold rangeA2 at q
  split at q
  · split at q
    · rename_i i j hc
      cases q
      obtain ⟨v, u, rfl, h1, h2⟩ := rv.two
      simp only [RD] at h1 h2; subst h1; subst h2
      exact ⟨i, j, rfl, by omega, hR _ jok_range⟩
    · cases q
  · cases q
theorem im_range3 {a b c : Expr} {m : MA} {p pos : Pos} (hg : Gl X "range") (hm : X.mg "range" = none) (ha : PA X [a, b, c] (tA X.K W m)) (hs : starEach [a, b, c] X.env = (false, eval a X.env) :: starEach [b, c] X.env := by rfl) (hpl : (backTo pos (starEach [b, c] X.env)).any (·.1) = false := by rfl) :
    PI X tg (.Call (.Name "range" p) [a, b, c] [] pos) (tI X.K W (miRange rangeA3 m)) :=
  PI.imp (pi_range3 hg hm ha hs hpl) fun σ H R' h => i_range h fun g l vs r rp rv q hR => by
  unfold rangeA3 at q
  split at q
  · split at q
    · rename_i i j k hc
      cases q
      rw [RDs] at rv
      obtain ⟨v, vs', rfl, h1, h2⟩ := rv
      obtain ⟨u, w, rfl, h3, h4⟩ := h2.two
      simp only [RD] at h1 h3 h4; subst h1; subst h3; subst h4
      exact ⟨i, j, k, _, rfl, ⟨hc.1, hc.2.1, hc.2.2.1, by omega⟩, hR _ jok_rangeC⟩
    · cases q
  · cases q
end

/-! ### for -/
/-- a loop's turns -/
def loopL (chk : List O → Bool) (t : Tg) (b : MS) : List D → MS
  | [], e, S => if chk S = true then .nx e S else .bad
  | d :: l, e, S => if chk S = true then (match t.f d e with
    | some e' => (match b e' S with
      | .nx e1 S1 => loopL chk t b l e1 S1
      | .ct e1 S1 => loopL chk t b l e1 S1
      | .bk e1 S1 => .nx e1 S1
      | r => r)
    | none => .bad) else .bad
def sFor (m : MI) (t : Tg) (b : MS) : MS := fun e S => (m e S).st e fun lc S1 => loopL lc.2 t b lc.1 e S1
/-- while, at most n turns -/
def loopW (t : MT) (b : MS) : Nat → MS
  | 0, _, _ => .bad
  | n + 1, e, S => (t e S).st e fun k S1 => if k then (match b e S1 with
    | .nx e1 S2 => loopW t b n e1 S2
    | .ct e1 S2 => loopW t b n e1 S2
    | .bk e1 S2 => .nx e1 S2
    | r => r) else .nx e S1
section
variable {K : PySem.W.Frag} {W : WX'} {σ : L2.St} {H : Hp} {D : Ends}
theorem i_for {m : MI} {t : Tg} {b : MS} (h : tS K W (sFor m t b) D σ H) : tFor (tI K W m) (tG K t) (tS K W b) D σ H := by
  obtain ⟨g, e, hH, rp, re, p⟩ := h
  subst hH
  refine ⟨g, e, rfl, rp, re, (PostS.of_st re p).imp fun lc g1 e1 r1 ⟨_, _, p1⟩ J hJ => ?_⟩
  obtain ⟨l, chk⟩ := lc
  let At : Nat → L2.St → Hp → Prop := fun i σ H => i ≤ l.length ∧ ∃ g' e, g'.H = H ∧ Sim g1 g' ∧ Kpt g1 g' ∧ Rep K g' ∧ RE K g' e σ ∧ PostS K W g' (loopL chk t b (l.drop i) e g'.S) D
  refine ⟨fun i m σ H => m = l.length - i ∧ At i σ H, ⟨l.length, by simp, Nat.zero_le _, g1, e, rfl, Sim.refl g1, fun _ _ q nl => ⟨q, nl⟩, r1, re.mono e1, p1⟩, ?_⟩
  rintro i m σ H ⟨rfl, hi, g', e', rfl, s', keep, rp', re', p'⟩
  by_cases hlt : i < l.length
  · obtain ⟨d, hd⟩ : ∃ d, l[i]? = some d := ⟨l[i], by simp [hlt]⟩
    have hdrop : l.drop i = d :: l.drop (i + 1) := by
      rw [List.drop_eq_getElem_cons hlt]
      congr 1
      exact Option.some.inj ((List.getElem?_eq_getElem hlt).symm.trans hd)
    rw [hdrop, loopL] at p'
    by_cases hc : chk g'.S = true
    · rw [if_pos hc] at p'
      obtain ⟨go, yl⟩ := (hJ g' s' keep rp' hc i).2 d hd
      refine .inr ⟨go, fun σ H => At (i + 1) σ H, fun σ2 H2 h2 => ⟨l.length - (i + 1), by omega, rfl, h2⟩, fun x H' y => ?_⟩
      obtain ⟨g2, x2, s2, rfl, rp2, rd2⟩ := yl x H' y
      cases q : t.f d e' with
      | none => rw [q] at p'; exact False.elim p'
      | some e2 =>
        rw [q] at p'
        dsimp only at p'
        refine ⟨g2, e', d, e2, rfl, rp2, re'.mono x2, rd2, q, fun σ2 re2 _ => ⟨g2, e2, rfl, rp2, re2, ?_⟩⟩
        rw [s2]
        cases qb : b e2 g'.S with
        | nx e3 S3 =>
          rw [qb] at p'
          exact fun g3 σ3 x3 hs rp3 re3 => ⟨hlt, g3, e3, rfl, (s'.trans x2.sim).trans x3.sim, fun a o q nl => (x2.trans x3).kp a o (keep a o q nl).1 (keep a o q nl).2, rp3, re3, by rw [hs]; exact PostS.mono (x2.trans x3) p'⟩
        | ct e3 S3 =>
          rw [qb] at p'
          exact fun g3 σ3 x3 hs rp3 re3 => ⟨hlt, g3, e3, rfl, (s'.trans x2.sim).trans x3.sim, fun a o q nl => (x2.trans x3).kp a o (keep a o q nl).1 (keep a o q nl).2, rp3, re3, by rw [hs]; exact PostS.mono (x2.trans x3) p'⟩
        | bk e3 S3 =>
          rw [qb] at p'
          exact fun g3 σ3 x3 hs rp3 re3 => p' g3 σ3 (x2.trans x3) hs rp3 re3
        | rt d3 S3 =>
          rw [qb] at p'
          exact fun g3 v3 x3 hs rp3 rd3 => p' g3 v3 (x2.trans x3) hs rp3 rd3
        | er x3 e3 S3 =>
          rw [qb] at p'
          exact fun g3 σ3 c d3 x3 hs rp3 re3 rx3 => p' g3 σ3 c d3 (x2.trans x3) hs rp3 re3 rx3
        | bad => rw [qb] at p'; exact False.elim p'
    · rw [if_neg hc] at p'; exact False.elim p'
  · have hl : l.drop i = [] := List.drop_eq_nil_of_le (by omega)
    rw [hl, loopL] at p'
    by_cases hc : chk g'.S = true
    · rw [if_pos hc] at p'
      exact .inl ⟨(hJ g' s' keep rp' hc i).1 (Nat.le_of_not_lt hlt), p' g' _ (Ext.refl g') rfl rp' re'⟩
    · rw [if_neg hc] at p'; exact False.elim p'
theorem i_while {t : MT} {b : MS} {n : Nat} (h : tS K W (loopW t b n) D σ H) : tWhile (tT K W t) (tS K W b) D σ H := by
  obtain ⟨g, e, hH, rp, re, p⟩ := h
  subst hH
  refine ⟨fun m σ H => ∃ g' e, g'.H = H ∧ Rep K g' ∧ RE K g' e σ ∧ PostS K W g' (loopW t b m e g'.S) D, ⟨n, g, e, rfl, rp, re, p⟩, ?_⟩
  rintro m σ H ⟨g', e', rfl, rp', re', p'⟩
  cases m with
  | zero => exact False.elim p'
  | succ m =>
    rw [loopW] at p'
    refine ⟨g', e', rfl, rp', re', (PostS.of_st re' p').imp fun k g1 e1 r1 ⟨_, _, p1⟩ => ?_⟩
    cases k with
    | false => exact p1 g1 _ (Ext.refl g1) rfl r1 (re'.mono e1)
    | true =>
      rw [if_pos rfl] at p1
      refine ⟨_, fun σ2 H2 h2 => ⟨m, Nat.lt_succ_self m, h2⟩, g1, e', rfl, r1, re'.mono e1, ?_⟩
      cases qb : b e' g1.S with
      | nx e3 S3 =>
        rw [qb] at p1
        exact fun g3 σ3 x3 hs rp3 re3 => ⟨g3, e3, rfl, rp3, re3, by rw [hs]; exact PostS.mono x3 p1⟩
      | ct e3 S3 =>
        rw [qb] at p1
        exact fun g3 σ3 x3 hs rp3 re3 => ⟨g3, e3, rfl, rp3, re3, by rw [hs]; exact PostS.mono x3 p1⟩
      | bk e3 S3 => rw [qb] at p1; exact p1
      | rt d3 S3 => rw [qb] at p1; exact p1
      | er x3 e3 S3 => rw [qb] at p1; exact p1
      | bad => rw [qb] at p1; exact False.elim p1
end
section
variable {X : Cx} {W : WX'} {tg iter c : Expr} {body : List Stmt} {m : MI} {t : Tg} {b : MS} {mt : MT} {pos : Pos}
theorem sm_for (hp : PassesOwn (model X.prog X.w) X.A X.env X.xe) (hc : X.calm = true) (hi : PI X tg iter (tI X.K W m)) (hg : PG X tg (tG X.K t)) (hb : PSs X body (tS X.K W b))
    (hs : ∀ x, foldedSetIterable iter X.env x = pure x := by intro _; rfl) : PS X (.For tg iter body [] pos) (tS X.K W (sFor m t b)) := PS.imp (ps_for hp hc hi hg hb hs) fun _ _ _ => i_for
theorem sm_while (n : Nat) (hp : PassesOwn (model X.prog X.w) X.A X.env X.xe) (hc : PT X c (tT X.K W mt)) (hb : PSs X body (tS X.K W b)) : PS X (.While c body [] pos) (tS X.K W (loopW mt b n)) := PS.imp (ps_while hp hc hb) fun _ _ _ => i_while
end
end Mo

namespace Mo
open PySem PySem.Spec L2 PyProof.Rows

/-! ### comprehensions -/
def wipeE (e : Env) : List Nat → Env
  | [] => e
  | v :: vs => (wipeE e vs).set v none
def mYes : MT := fun _ S => .ok true S
/-- an error cannot leave here -/
def R.nb {α : Type} (r : R α) : R α := match r with
  | .ok a S => .ok a S
  | _ => .bad
abbrev WF : WX' := fun _ _ _ _ => False
def compL (chk : List O → Bool) (t : Tg) (tt : MT) (te : ME) (e : Env) : List D → List D → List O → R (List D)
  | acc, [], S => if chk S = true then .ok acc S else .bad
  | acc, d :: l, S => if chk S = true then (match t.f d e with
    | some e' => (tt e' S).nb.bind fun k S1 => if k then (te e' S1).nb.bind fun y S2 => (if acc.length < sz then compL chk t tt te e (acc ++ [y]) l S2 else .bad) else compL chk t tt te e acc l S1
    | none => .bad) else .bad
def mComp (m : MI) (t : Tg) (tt : MT) (te : ME) (vs : List Nat) : ME := fun e S => (m e S).bind fun lc S1 => (compL lc.2 t tt te (wipeE e vs) [] lc.1 S1).bind fun acc S2 => .ok (.lst acc) S2
/-- .. as a list that is changed later -/
def mCompN (m : MI) (t : Tg) (tt : MT) (te : ME) (vs : List Nat) : ME := fun e S => (m e S).bind fun lc S1 => (compL lc.2 t tt te (wipeE e vs) [] lc.1 S1).bind fun acc S2 => .ok (.ref S2.length) (S2 ++ [.lst acc])
theorem RE.wipes {K : PySem.W.Frag} {g : G} {e : Env} {σ : L2.St} (h : RE K g e σ) : ∀ vs, RE K g (wipeE e vs) (L2.wipe σ vs)
  | [] => h
  | v :: vs => (RE.wipes h vs).wipe
theorem wipe_get {σ : L2.St} {j : Nat} : ∀ {vs : List Nat}, j ∉ vs → (wipe σ vs)[j]? = σ[j]?
  | [], _ => rfl
  | v :: vs, h => by
    have h' : ¬ j = v ∧ j ∉ vs := by simpa using h
    unfold wipe
    rw [List.getElem?_set_ne (fun z => h'.1 z.symm), wipe_get h'.2]
theorem wipe_in {σ : L2.St} {j : Nat} : ∀ {vs : List Nat}, j ∈ vs → j < σ.length → (wipe σ vs)[j]? = some none
  | v :: vs, h, hl => by
    unfold wipe
    by_cases e : v = j
    · subst e
      exact List.getElem?_set_self (by rw [wipe_length]; exact hl)
    · rw [List.getElem?_set_ne e]
      rcases List.mem_cons.mp h with z | z
      · exact absurd z.symm e
      · exact wipe_in z hl
theorem wipe_same {σ σ' : L2.St} {sl vs : List Nat} (o : Off sl (wipe σ vs) σ') (hs : ∀ j ∈ sl, j ∈ vs) : wipe σ' vs = wipe σ vs := by
  have hl : σ'.length = σ.length := by rw [o.1, wipe_length]
  refine List.ext_getElem? fun j => ?_
  by_cases hj : j ∈ vs
  · by_cases hlt : j < σ.length
    · rw [wipe_in hj hlt, wipe_in hj (by omega)]
    · rw [List.getElem?_eq_none (by rw [wipe_length]; omega), List.getElem?_eq_none (by rw [wipe_length]; omega)]
  · rw [wipe_get hj, o.2 j fun z => hj (hs j z)]
/-- a list under way, kept from everybody -/
abbrev G.guard (g : G) (p : Addr) (u : HO) : G := { g with N := fun a => g.N a ∨ a = p, H := upd g.H p u }
section
variable {K : PySem.W.Frag} {g : G} {p : Addr} {u : HO}
theorem rd_upd {H : Hp} {a p : Addr} {u o : HO} (h : Rd H a u) (ne : a ≠ p) : Rd (upd H p o) a u := by
  rcases h with h | ⟨x, h⟩
  · exact .inl ((upd_ne ne).trans h)
  · exact .inr ⟨x, (upd_ne ne).trans h⟩
theorem rd_some {H : Hp} {a : Addr} {u : HO} (h : Rd H a u) : ∃ o, H a = some o := by
  rcases h with h | ⟨x, h⟩ <;> exact ⟨_, h⟩
theorem Sim.guard (hp : g.H p = none) : Sim g (g.guard p u) := by
  have key : ∀ (a : Addr) (w : HO), Rd g.H a w → g.Pr a → Rd (g.guard p u).H a w ∧ (g.guard p u).Pr a := fun a w h q => by
    have ne : a ≠ p := by
      obtain ⟨o, ho⟩ := rd_some h
      exact ne_of_none ho hp
    exact ⟨rd_upd h ne, fun z => z.elim q.1 ne, q.2⟩
  exact ⟨⟨fun a vs h q => key a _ h q, fun a vs h q => key a _ h q⟩, Nat.le_refl _, fun _ _ => rfl⟩
theorem Rep.guard (rp : Rep K g) (hp : g.H p = none) : Rep K (g.guard p u) := by
  refine ⟨fun a z => ?_, rp.inj, fun i o q => (rp.obj i o q).sim (Sim.guard hp) fun n => ?_⟩
  · rcases z with z | z
    · obtain ⟨o, e⟩ := rp.nd a z
      exact ⟨o, (show upd g.H p u a = g.H a from upd_ne (ne_of_none e hp)).trans e⟩
    · subst z; exact ⟨u, upd_same⟩
  · obtain ⟨w, e⟩ := (rp.obj i o q).at_ n
    exact upd_ne (ne_of_none e hp)
/-- the list under way grows -/
abbrev G.grow (g : G) (p : Addr) (u : HO) : G := { g with H := upd g.H p u }
theorem Sim.grow (hN : g.N p) : Sim g (g.grow p u) := by
  have key : ∀ (a : Addr) (w : HO), Rd g.H a w → g.Pr a → Rd (g.grow p u).H a w ∧ (g.grow p u).Pr a := fun a w h q => by
    have ne : a ≠ p := fun z => q.1 (z ▸ hN)
    exact ⟨rd_upd h ne, q⟩
  exact ⟨⟨fun a vs h q => key a _ h q, fun a vs h q => key a _ h q⟩, Nat.le_refl _, fun _ _ => rfl⟩
theorem Rep.grow {ws : List V} (rp : Rep K g) (hN : g.N p) (nl : ¬ g.Live p) (hz : g.H p = some (.lst ws)) : Rep K (g.grow p u) := by
  refine ⟨fun a z => ?_, rp.inj, fun i o q => (rp.obj i o q).sim (Sim.grow hN) fun n => ?_⟩
  · by_cases h : a = p
    · subst h; exact ⟨u, upd_same⟩
    · obtain ⟨o, e⟩ := rp.nd a z
      exact ⟨o, (show upd g.H p u a = g.H a from upd_ne h).trans e⟩
  · refine upd_ne fun z => ?_
    by_cases ha : o.act = true
    · exact nl ⟨i, o, q, ha, z⟩
    · cases o with
      | gone => exact n rfl
      | fdct l =>
        obtain ⟨od, vs, q1, _⟩ := rp.obj i _ q
        rw [z, hz] at q1
        cases q1
      | lst l => exact ha rfl
      | dct l => exact ha rfl
      | ins C l => exact ha rfl
/-- .. and is let go -/
theorem Sim.free (N : Addr → Prop) (h : ∀ a, N a → g.N a) : Sim g { g with N := N } :=
  ⟨⟨fun a vs r q => ⟨r, fun z => q.1 (h a z), q.2⟩, fun a vs r q => ⟨r, fun z => q.1 (h a z), q.2⟩⟩, Nat.le_refl _, fun _ _ => rfl⟩
theorem Rep.free (rp : Rep K g) (N : Addr → Prop) (h : ∀ a, N a → g.N a) : Rep K { g with N := N } :=
  ⟨fun a z => rp.nd a (h a z), rp.inj, fun i o q => (rp.obj i o q).sim (Sim.free N h) fun _ => rfl⟩
end
section
variable {K : PySem.W.Frag} {W : WX'} {σ : L2.St} {H : Hp} {Q : VK}
theorem i_comp {m : MI} {t : Tg} {tt : MT} {te : ME} {vs : List Nat} (hsl : ∀ j ∈ t.sl, j ∈ vs) (h : tE K W (mComp m t tt te vs) σ H Q) : tLc (tI K W m) (tG K t) (tT K WF tt) (tE K WF te) vs σ H Q := by
  obtain ⟨g, e, hH, rp, re, p⟩ := h
  subst hH
  refine ⟨g, e, rfl, rp, re, (Post.bind p).imp fun lc g1 e1 r1 ⟨_, _, p1⟩ J hJ => ?_⟩
  obtain ⟨l, chk⟩ := lc
  have p1 : Post K W g1 ((compL chk t tt te (wipeE e vs) [] l g1.S).bind fun acc S2 => .ok (.lst acc) S2) σ fun d g' => ∀ v, RD K g' d v → Q v g'.H := p1
  intro Dl hD
  let At : Nat → Hp → Prop := fun i H => i ≤ l.length ∧ ∃ g' acc vs', g'.H = H ∧ Sim g1 g' ∧ Rep K g' ∧ g'.H Dl = some (.lst vs') ∧ RDs K g' acc vs' ∧ (∀ a, g'.N a ↔ (g1.N a ∨ a = Dl)) ∧ ¬ g'.Live Dl ∧
    (∀ a o, g1.H a = some o → ¬ g1.Live a → g'.H a = some o ∧ ¬ g'.Live a) ∧ compL chk t tt te (wipeE e vs) [] l g1.S = compL chk t tt te (wipeE e vs) acc (l.drop i) g'.S
  have rew : RE K g1 (wipeE e vs) (L2.wipe σ vs) := (re.mono e1).wipes vs
  refine ⟨fun i m H => m = l.length - i ∧ At i H, ⟨l.length, by simp, Nat.zero_le _, g1.guard Dl (.lst []), [], [], rfl, Sim.guard hD, r1.guard hD, upd_same, RDs.nil, fun _ => Iff.rfl, (r1.fresh hD).2, fun a o ho nl => ⟨?_, nl⟩, rfl⟩, ?_⟩
  · exact (show upd g1.H Dl (.lst []) a = g1.H a from upd_ne (ne_of_none ho hD)).trans ho
  rintro i m H ⟨rfl, hi, g', acc, vs', rfl, s', rp', hDl, racc, hN, nlive, keep, hR⟩
  have hND : g'.N Dl := (hN Dl).mpr (.inr rfl)
  by_cases hlt : i < l.length
  · obtain ⟨d, hd⟩ : ∃ d, l[i]? = some d := ⟨l[i], by simp [hlt]⟩
    have hdrop : l.drop i = d :: l.drop (i + 1) := by
      rw [List.drop_eq_getElem_cons hlt]
      congr 1
      exact Option.some.inj ((List.getElem?_eq_getElem hlt).symm.trans hd)
    rw [hdrop, compL] at hR
    have nobad : compL chk t tt te (wipeE e vs) [] l g1.S ≠ .bad := fun z => by rw [z] at p1; exact p1
    by_cases hc : chk g'.S = true
    · rw [if_pos hc] at hR
      obtain ⟨go, yl⟩ := (hJ g' s' keep rp' hc i).2 d hd
      refine .inr ⟨go, fun H => At (i + 1) H, fun H2 h2 => ⟨l.length - (i + 1), by omega, rfl, h2⟩, fun x H' y => ?_⟩
      obtain ⟨g2, x2, s2, rfl, rp2, rd2⟩ := yl x H' y
      cases q : t.f d (wipeE e vs) with
      | none => rw [q] at hR; exact absurd hR nobad
      | some e2 =>
        rw [q] at hR
        dsimp only at hR
        refine ⟨g2, wipeE e vs, d, e2, rfl, rp2, rew.sim (s'.trans x2.sim), rd2, q, fun σ2 re2 off => ⟨wipe_same off hsl, g2, e2, rfl, rp2, re2, ?_⟩⟩
        rw [s2]
        cases qt : tt e2 g'.S with
        | er x3 S3 => rw [qt] at hR; exact absurd hR nobad
        | bad => rw [qt] at hR; exact absurd hR nobad
        | ok k S3 =>
          rw [qt] at hR
          have hR : compL chk t tt te (wipeE e vs) [] l g1.S = if k then (te e2 S3).nb.bind fun y S2 => (if acc.length < sz then compL chk t tt te (wipeE e vs) (acc ++ [y]) (l.drop (i + 1)) S2 else .bad) else compL chk t tt te (wipeE e vs) acc (l.drop (i + 1)) S3 := hR
          intro g3 x3 hs3 rp3
          have x23 := x2.trans x3
          have keep3 : ∀ a o, g1.H a = some o → ¬ g1.Live a → g3.H a = some o ∧ ¬ g3.Live a := fun a o ho nl =>
            let ⟨k1, k2⟩ := keep a o ho nl
            x23.kp a o k1 k2
          have dl3 := x23.kp Dl _ hDl nlive
          have hN3 : ∀ a, g3.N a ↔ (g1.N a ∨ a = Dl) := fun a => by rw [x23.n]; exact hN a
          cases k with
          | false => exact ⟨hlt, g3, acc, vs', rfl, s'.trans x23.sim, rp3, dl3.1, racc.sim x23.sim, hN3, dl3.2, keep3, by rw [hs3]; exact hR⟩
          | true =>
            rw [if_pos rfl] at hR
            refine ⟨g3, e2, rfl, rp3, re2.mono x3, ?_⟩
            rw [hs3]
            cases qe : te e2 S3 with
            | er x4 S4 => rw [qe] at hR; exact absurd hR nobad
            | bad => rw [qe] at hR; exact absurd hR nobad
            | ok y S4 =>
              rw [qe] at hR
              have hR : compL chk t tt te (wipeE e vs) [] l g1.S = (if acc.length < sz then compL chk t tt te (wipeE e vs) (acc ++ [y]) (l.drop (i + 1)) S4 else .bad) := hR
              by_cases hz : acc.length < sz
              · rw [if_pos hz] at hR
                intro g4 x4 hs4 rp4 v4 rv4
                have x24 := x23.trans x4
                have dl4 := x24.kp Dl _ hDl nlive
                have hN4 : ∀ a, g4.N a ↔ (g1.N a ∨ a = Dl) := fun a => by rw [x24.n]; exact hN a
                have hND4 : g4.N Dl := (hN4 Dl).mpr (.inr rfl)
                refine ⟨vs', dl4.1, by rw [← racc.length, ← sz_eq]; exact hz, hlt, g4.grow Dl (.lst (vs' ++ [v4])), acc ++ [y], vs' ++ [v4], rfl, (s'.trans x24.sim).trans (Sim.grow hND4), rp4.grow hND4 dl4.2 dl4.1, upd_same,
                  ((racc.sim x24.sim).append (RDs.cons rv4 RDs.nil)).sim (Sim.grow hND4), hN4, dl4.2, fun a o ho nl => ?_, by rw [show (g4.grow Dl (.lst (vs' ++ [v4]))).S = S4 from hs4]; exact hR⟩
                obtain ⟨k1, k2⟩ := keep a o ho nl
                obtain ⟨k3, k4⟩ := x24.kp a o k1 k2
                exact ⟨(show upd g4.H Dl (.lst (vs' ++ [v4])) a = g4.H a from upd_ne (ne_of_none ho hD)).trans k3, k4⟩
              · rw [if_neg hz] at hR; exact absurd hR nobad
    · rw [if_neg hc] at hR; exact absurd hR nobad
  · have hl : l.drop i = [] := List.drop_eq_nil_of_le (Nat.le_of_not_lt hlt)
    rw [hl, compL] at hR
    have nobad : compL chk t tt te (wipeE e vs) [] l g1.S ≠ .bad := fun z => by rw [z] at p1; exact p1
    by_cases hc : chk g'.S = true
    · rw [if_pos hc] at hR
      refine .inl ⟨(hJ g' s' keep rp' hc i).1 (Nat.le_of_not_lt hlt), ?_⟩
      rw [hR] at p1
      have hsub : ∀ a, g1.N a → g'.N a := fun a z => (hN a).mpr (.inl z)
      refine p1 { g' with N := g1.N } ⟨rfl, s'.len, s'.ag, keep⟩ rfl (rp'.free _ hsub) (.ref Dl) ?_
      rw [RD]
      refine ⟨Dl, vs', rfl, ⟨.inl hDl, fun z => ?_, nlive⟩, racc.sim (Sim.free _ hsub)⟩
      obtain ⟨o, ho⟩ := r1.nd Dl z
      rw [hD] at ho; cases ho
    · rw [if_neg hc] at hR; exact absurd hR nobad
theorem i_compN {m : MI} {t : Tg} {tt : MT} {te : ME} {vs : List Nat} (hsl : ∀ j ∈ t.sl, j ∈ vs) (h : tE K W (mCompN m t tt te vs) σ H Q) : tLc (tI K W m) (tG K t) (tT K WF tt) (tE K WF te) vs σ H Q := by
  obtain ⟨g, e, hH, rp, re, p⟩ := h
  subst hH
  refine ⟨g, e, rfl, rp, re, (Post.bind p).imp fun lc g1 e1 r1 ⟨_, _, p1⟩ J hJ => ?_⟩
  obtain ⟨l, chk⟩ := lc
  have p1 : Post K W g1 ((compL chk t tt te (wipeE e vs) [] l g1.S).bind fun acc S2 => .ok (.ref S2.length) (S2 ++ [.lst acc])) σ fun d g' => ∀ v, RD K g' d v → Q v g'.H := p1
  intro Dl hD
  let At : Nat → Hp → Prop := fun i H => i ≤ l.length ∧ ∃ g' acc vs', g'.H = H ∧ Sim g1 g' ∧ Rep K g' ∧ g'.H Dl = some (.lst vs') ∧ RDs K g' acc vs' ∧ (∀ a, g'.N a ↔ (g1.N a ∨ a = Dl)) ∧ ¬ g'.Live Dl ∧
    (∀ a o, g1.H a = some o → ¬ g1.Live a → g'.H a = some o ∧ ¬ g'.Live a) ∧ compL chk t tt te (wipeE e vs) [] l g1.S = compL chk t tt te (wipeE e vs) acc (l.drop i) g'.S
  have rew : RE K g1 (wipeE e vs) (L2.wipe σ vs) := (re.mono e1).wipes vs
  refine ⟨fun i m H => m = l.length - i ∧ At i H, ⟨l.length, by simp, Nat.zero_le _, g1.guard Dl (.lst []), [], [], rfl, Sim.guard hD, r1.guard hD, upd_same, RDs.nil, fun _ => Iff.rfl, (r1.fresh hD).2, fun a o ho nl => ⟨?_, nl⟩, rfl⟩, ?_⟩
  · exact (show upd g1.H Dl (.lst []) a = g1.H a from upd_ne (ne_of_none ho hD)).trans ho
  rintro i m H ⟨rfl, hi, g', acc, vs', rfl, s', rp', hDl, racc, hN, nlive, keep, hR⟩
  have hND : g'.N Dl := (hN Dl).mpr (.inr rfl)
  by_cases hlt : i < l.length
  · obtain ⟨d, hd⟩ : ∃ d, l[i]? = some d := ⟨l[i], by simp [hlt]⟩
    have hdrop : l.drop i = d :: l.drop (i + 1) := by
      rw [List.drop_eq_getElem_cons hlt]
      congr 1
      exact Option.some.inj ((List.getElem?_eq_getElem hlt).symm.trans hd)
    rw [hdrop, compL] at hR
    have nobad : compL chk t tt te (wipeE e vs) [] l g1.S ≠ .bad := fun z => by rw [z] at p1; exact p1
    by_cases hc : chk g'.S = true
    · rw [if_pos hc] at hR
      obtain ⟨go, yl⟩ := (hJ g' s' keep rp' hc i).2 d hd
      refine .inr ⟨go, fun H => At (i + 1) H, fun H2 h2 => ⟨l.length - (i + 1), by omega, rfl, h2⟩, fun x H' y => ?_⟩
      obtain ⟨g2, x2, s2, rfl, rp2, rd2⟩ := yl x H' y
      cases q : t.f d (wipeE e vs) with
      | none => rw [q] at hR; exact absurd hR nobad
      | some e2 =>
        rw [q] at hR
        dsimp only at hR
        refine ⟨g2, wipeE e vs, d, e2, rfl, rp2, rew.sim (s'.trans x2.sim), rd2, q, fun σ2 re2 off => ⟨wipe_same off hsl, g2, e2, rfl, rp2, re2, ?_⟩⟩
        rw [s2]
        cases qt : tt e2 g'.S with
        | er x3 S3 => rw [qt] at hR; exact absurd hR nobad
        | bad => rw [qt] at hR; exact absurd hR nobad
        | ok k S3 =>
          rw [qt] at hR
          have hR : compL chk t tt te (wipeE e vs) [] l g1.S = if k then (te e2 S3).nb.bind fun y S2 => (if acc.length < sz then compL chk t tt te (wipeE e vs) (acc ++ [y]) (l.drop (i + 1)) S2 else .bad) else compL chk t tt te (wipeE e vs) acc (l.drop (i + 1)) S3 := hR
          intro g3 x3 hs3 rp3
          have x23 := x2.trans x3
          have keep3 : ∀ a o, g1.H a = some o → ¬ g1.Live a → g3.H a = some o ∧ ¬ g3.Live a := fun a o ho nl =>
            let ⟨k1, k2⟩ := keep a o ho nl
            x23.kp a o k1 k2
          have dl3 := x23.kp Dl _ hDl nlive
          have hN3 : ∀ a, g3.N a ↔ (g1.N a ∨ a = Dl) := fun a => by rw [x23.n]; exact hN a
          cases k with
          | false => exact ⟨hlt, g3, acc, vs', rfl, s'.trans x23.sim, rp3, dl3.1, racc.sim x23.sim, hN3, dl3.2, keep3, by rw [hs3]; exact hR⟩
          | true =>
            rw [if_pos rfl] at hR
            refine ⟨g3, e2, rfl, rp3, re2.mono x3, ?_⟩
            rw [hs3]
            cases qe : te e2 S3 with
            | er x4 S4 => rw [qe] at hR; exact absurd hR nobad
            | bad => rw [qe] at hR; exact absurd hR nobad
            | ok y S4 =>
              rw [qe] at hR
              have hR : compL chk t tt te (wipeE e vs) [] l g1.S = (if acc.length < sz then compL chk t tt te (wipeE e vs) (acc ++ [y]) (l.drop (i + 1)) S4 else .bad) := hR
              by_cases hz : acc.length < sz
              · rw [if_pos hz] at hR
                intro g4 x4 hs4 rp4 v4 rv4
                have x24 := x23.trans x4
                have dl4 := x24.kp Dl _ hDl nlive
                have hN4 : ∀ a, g4.N a ↔ (g1.N a ∨ a = Dl) := fun a => by rw [x24.n]; exact hN a
                have hND4 : g4.N Dl := (hN4 Dl).mpr (.inr rfl)
                refine ⟨vs', dl4.1, by rw [← racc.length, ← sz_eq]; exact hz, hlt, g4.grow Dl (.lst (vs' ++ [v4])), acc ++ [y], vs' ++ [v4], rfl, (s'.trans x24.sim).trans (Sim.grow hND4), rp4.grow hND4 dl4.2 dl4.1, upd_same,
                  ((racc.sim x24.sim).append (RDs.cons rv4 RDs.nil)).sim (Sim.grow hND4), hN4, dl4.2, fun a o ho nl => ?_, by rw [show (g4.grow Dl (.lst (vs' ++ [v4]))).S = S4 from hs4]; exact hR⟩
                obtain ⟨k1, k2⟩ := keep a o ho nl
                obtain ⟨k3, k4⟩ := x24.kp a o k1 k2
                exact ⟨(show upd g4.H Dl (.lst (vs' ++ [v4])) a = g4.H a from upd_ne (ne_of_none ho hD)).trans k3, k4⟩
              · rw [if_neg hz] at hR; exact absurd hR nobad
    · rw [if_neg hc] at hR; exact absurd hR nobad
  · have hl : l.drop i = [] := List.drop_eq_nil_of_le (Nat.le_of_not_lt hlt)
    rw [hl, compL] at hR
    have nobad : compL chk t tt te (wipeE e vs) [] l g1.S ≠ .bad := fun z => by rw [z] at p1; exact p1
    by_cases hc : chk g'.S = true
    · rw [if_pos hc] at hR
      refine .inl ⟨(hJ g' s' keep rp' hc i).1 (Nat.le_of_not_lt hlt), ?_⟩
      rw [hR] at p1
      have hsub : ∀ a, g1.N a → g'.N a := fun a z => (hN a).mpr (.inl z)
      let g2 : G := { N := g1.N, ρ := fun i => if i = g'.S.length then Dl else g'.ρ i, S := g'.S ++ [.lst acc], H := g'.H }
      have live2 : ∀ a, g2.Live a → g'.Live a ∨ a = Dl := fun a ⟨i, o, q, n, e⟩ => by
        have q' : (g'.S ++ [O.lst acc])[i]? = some o := q
        have e' : (if i = g'.S.length then Dl else g'.ρ i) = a := e
        by_cases hi : i < g'.S.length
        · rw [List.getElem?_append_left hi] at q'
          rw [if_neg (Nat.ne_of_lt hi)] at e'
          exact .inl ⟨i, o, q', n, e'⟩
        · have e2 : i = g'.S.length := by
            rcases Nat.lt_or_ge i (g'.S.length + 1) with z | z
            · omega
            · rw [List.getElem?_eq_none (by simpa using z)] at q'; cases q'
          rw [if_pos e2] at e'
          exact .inr e'.symm
      have pr2 : ∀ a, g'.Pr a → g2.Pr a := fun a q => ⟨fun z => q.1 (hsub a z), fun z => (live2 a z).elim q.2 fun e => q.1 ((hN a).mpr (.inr e))⟩
      have s2 : Sim g' g2 := ⟨⟨fun a vs r q => ⟨r, pr2 a q⟩, fun a vs r q => ⟨r, pr2 a q⟩⟩, by show _ ≤ (g'.S ++ [O.lst acc]).length; simp, fun i hi => if_neg (Nat.ne_of_lt hi)⟩
      have at2 : ∀ i o, g2.S[i]? = some o → (i < g'.S.length ∧ g'.S[i]? = some o ∧ g2.ρ i = g'.ρ i) ∨ (i = g'.S.length ∧ o = .lst acc ∧ g2.ρ i = Dl) := fun i o q => by
        have q' : (g'.S ++ [O.lst acc])[i]? = some o := q
        by_cases hi : i < g'.S.length
        · rw [List.getElem?_append_left hi] at q'
          exact .inl ⟨hi, q', if_neg (Nat.ne_of_lt hi)⟩
        · have e2 : i = g'.S.length := by
            rcases Nat.lt_or_ge i (g'.S.length + 1) with z | z
            · omega
            · rw [List.getElem?_eq_none (by simpa using z)] at q'; cases q'
          subst e2
          rw [List.getElem?_append_right (Nat.le_refl _), Nat.sub_self] at q'
          exact .inr ⟨rfl, (Option.some.inj q').symm, if_pos rfl⟩
      have hne : ∀ i o, g'.S[i]? = some o → o ≠ .gone → g'.ρ i ≠ Dl := fun i o q n e => by
        cases o with
        | gone => exact n rfl
        | fdct l =>
          obtain ⟨od, ws, h1, _⟩ := rp'.obj i _ q
          rw [e, hDl] at h1
          cases h1
        | lst l => exact nlive ⟨i, _, q, rfl, e⟩
        | dct l => exact nlive ⟨i, _, q, rfl, e⟩
        | ins C l => exact nlive ⟨i, _, q, rfl, e⟩
      refine p1 g2 ⟨rfl, Nat.le_trans s'.len s2.len, fun i hi => ?_, fun a o ho nl => ?_⟩ rfl ⟨fun a z => rp'.nd a (hsub a z), fun i j o u q1 n1 q2 n2 e => ?_, fun i o q => ?_⟩ (.ref Dl) ?_
      · rw [s2.ag i (Nat.lt_of_lt_of_le hi s'.len)]; exact s'.ag i hi
      · obtain ⟨k1, k2⟩ := keep a o ho nl
        exact ⟨k1, fun z => (live2 a z).elim k2 fun e => by rw [e, hD] at ho; cases ho⟩
      · rcases at2 i o q1 with ⟨a1, a2, a3⟩ | ⟨a1, a2, a3⟩ <;> rcases at2 j u q2 with ⟨b1, b2, b3⟩ | ⟨b1, b2, b3⟩
        · rw [a3, b3] at e; exact rp'.inj i j o u a2 n1 b2 n2 e
        · rw [a3, b3] at e; exact absurd e (hne i o a2 n1)
        · rw [a3, b3] at e; exact absurd e.symm (hne j u b2 n2)
        · rw [a1, b1]
      · rcases at2 i o q with ⟨a1, a2, a3⟩ | ⟨a1, a2, a3⟩
        · rw [a3]; exact (rp'.obj i o a2).sim s2 fun _ => rfl
        · rw [a3, a2]; exact ⟨vs', hDl, racc.sim s2⟩
      · rw [RD]
        exact ⟨by show g'.S.length < (g'.S ++ [O.lst acc]).length; simp, by rw [show g2.ρ g'.S.length = Dl from if_pos rfl]⟩
    · rw [if_neg hc] at hR; exact absurd hR nobad
end
section
variable {X : Cx} {W : WX'} {m : MI} {t : Tg} {tt : MT} {te : ME}
theorem PTs.imp {X : Cx} {ifs : List Expr} {t t' : TT} (h : PTs X ifs t) (f : ∀ σ H Q, t' σ H Q → t σ H Q) : PTs X ifs t' := ⟨fun p s σ H Q I q => h.run p s σ H Q I (f σ H Q q)⟩
theorem qms_nil : PTs X [] (tT X.K WF mYes) := PTs.imp pts_nil fun σ H Q ⟨g, e, hH, rp, re, p⟩ => by
  subst hH
  exact Post.here rp p
theorem qms_one {c : Expr} (h : PT X c (tT X.K WF tt)) : PTs X [c] (tT X.K WF tt) := pts_one h
theorem pm_comp {elt tg iter : Expr} {ifs : List Expr} {scope : Scope} {own : List (Str × Nat)} {pos : Pos} (hc : X.calm = true) (hN : X.N.Nodup) (hi : PI X tg iter (tI X.K W m)) (ok : BlkOk X.N X.env.scope scope own)
    (hg : ∀ (s : Shared) (H : Hp) (C : Addr) (cl : List (Str × Addr)) (fp : List Addr), PG (X.blk s H scope (compEnvC scope cl C X.env) fp) tg (tG X.K t)) (ht : ∀ (s : Shared) (H : Hp) (C : Addr) (cl : List (Str × Addr)) (fp : List Addr), PTs (X.blk s H scope (compEnvC scope cl C X.env) fp) ifs (tT X.K WF tt))
    (he : ∀ (s : Shared) (H : Hp) (C : Addr) (cl : List (Str × Addr)) (fp : List Addr), PE (X.blk s H scope (compEnvC scope cl C X.env) fp) elt (tE X.K WF te)) (hsl : ∀ j ∈ t.sl, j ∈ own.map (·.2) := by decide) (hs : ∀ x, foldedSetIterable iter X.env x = pure x := by intro _; rfl) :
    PE X (.ListComp elt [⟨tg, iter, ifs, 0⟩] scope pos) (tE X.K W (mComp m t tt te (own.map (·.2)))) := PE.imp (pe_lc hc hN hi ok hg ht he hs) fun _ _ _ => i_comp hsl
theorem sm_comp {i : Nat} {y : Str} {py : Pos} {elt tg iter : Expr} {ifs : List Expr} {scope : Scope} {own : List (Str × Nat)} {pos spos : Pos} (hc : X.calm = true) (hN : X.N.Nodup) (hy : X.N[i]? = some y) (hyl : X.env.scope.names.lookup y = some .local)
    (hsw : swapsWith (.ListComp elt [⟨tg, iter, ifs, 0⟩] scope pos) (some (.Name y py)) spos.line X.env = pure true) (hi : PI X tg iter (tI X.K W m)) (ok : BlkOk X.N X.env.scope scope own)
    (hg : ∀ (s : Shared) (H : Hp) (C : Addr) (cl : List (Str × Addr)) (fp : List Addr), PG (X.blk s H scope (compEnvC scope cl C X.env) fp) tg (tG X.K t)) (ht : ∀ (s : Shared) (H : Hp) (C : Addr) (cl : List (Str × Addr)) (fp : List Addr), PTs (X.blk s H scope (compEnvC scope cl C X.env) fp) ifs (tT X.K WF tt))
    (he : ∀ (s : Shared) (H : Hp) (C : Addr) (cl : List (Str × Addr)) (fp : List Addr), PE (X.blk s H scope (compEnvC scope cl C X.env) fp) elt (tE X.K WF te)) (hsl : ∀ j ∈ t.sl, j ∈ own.map (·.2) := by decide) (hs : ∀ x, foldedSetIterable iter X.env x = pure x := by intro _; rfl) :
    PS X (.Assign [.Name y py] (.ListComp elt [⟨tg, iter, ifs, 0⟩] scope pos) spos) (tS X.K W (sAsg i (mComp m t tt te (own.map (·.2))))) := PS.imp (ps_setLc hc hN hy hyl hsw hi ok hg ht he hs) fun D σ H ⟨g, e, hH, rp, re, p⟩ => by
  subst hH
  exact i_comp hsl ⟨g, e, rfl, rp, re, (PostS.of_st re p).imp fun d g1 e1 r1 ⟨_, _, p1⟩ v rv => p1 g1 _ (Ext.refl g1) rfl r1 ((re.mono e1).set rv)⟩
theorem pm_compN {elt tg iter : Expr} {ifs : List Expr} {scope : Scope} {own : List (Str × Nat)} {pos : Pos} (hc : X.calm = true) (hN : X.N.Nodup) (hi : PI X tg iter (tI X.K W m)) (ok : BlkOk X.N X.env.scope scope own)
    (hg : ∀ (s : Shared) (H : Hp) (C : Addr) (cl : List (Str × Addr)) (fp : List Addr), PG (X.blk s H scope (compEnvC scope cl C X.env) fp) tg (tG X.K t)) (ht : ∀ (s : Shared) (H : Hp) (C : Addr) (cl : List (Str × Addr)) (fp : List Addr), PTs (X.blk s H scope (compEnvC scope cl C X.env) fp) ifs (tT X.K WF tt))
    (he : ∀ (s : Shared) (H : Hp) (C : Addr) (cl : List (Str × Addr)) (fp : List Addr), PE (X.blk s H scope (compEnvC scope cl C X.env) fp) elt (tE X.K WF te)) (hsl : ∀ j ∈ t.sl, j ∈ own.map (·.2) := by decide) (hs : ∀ x, foldedSetIterable iter X.env x = pure x := by intro _; rfl) :
    PE X (.ListComp elt [⟨tg, iter, ifs, 0⟩] scope pos) (tE X.K W (mCompN m t tt te (own.map (·.2)))) := PE.imp (pe_lc hc hN hi ok hg ht he hs) fun _ _ _ => i_compN hsl
theorem sm_compN {i : Nat} {y : Str} {py : Pos} {elt tg iter : Expr} {ifs : List Expr} {scope : Scope} {own : List (Str × Nat)} {pos spos : Pos} (hc : X.calm = true) (hN : X.N.Nodup) (hy : X.N[i]? = some y) (hyl : X.env.scope.names.lookup y = some .local)
    (hsw : swapsWith (.ListComp elt [⟨tg, iter, ifs, 0⟩] scope pos) (some (.Name y py)) spos.line X.env = pure true) (hi : PI X tg iter (tI X.K W m)) (ok : BlkOk X.N X.env.scope scope own)
    (hg : ∀ (s : Shared) (H : Hp) (C : Addr) (cl : List (Str × Addr)) (fp : List Addr), PG (X.blk s H scope (compEnvC scope cl C X.env) fp) tg (tG X.K t)) (ht : ∀ (s : Shared) (H : Hp) (C : Addr) (cl : List (Str × Addr)) (fp : List Addr), PTs (X.blk s H scope (compEnvC scope cl C X.env) fp) ifs (tT X.K WF tt))
    (he : ∀ (s : Shared) (H : Hp) (C : Addr) (cl : List (Str × Addr)) (fp : List Addr), PE (X.blk s H scope (compEnvC scope cl C X.env) fp) elt (tE X.K WF te)) (hsl : ∀ j ∈ t.sl, j ∈ own.map (·.2) := by decide) (hs : ∀ x, foldedSetIterable iter X.env x = pure x := by intro _; rfl) :
    PS X (.Assign [.Name y py] (.ListComp elt [⟨tg, iter, ifs, 0⟩] scope pos) spos) (tS X.K W (sAsg i (mCompN m t tt te (own.map (·.2))))) := PS.imp (ps_setLc hc hN hy hyl hsw hi ok hg ht he hs) fun D σ H ⟨g, e, hH, rp, re, p⟩ => by
  subst hH
  exact i_compN hsl ⟨g, e, rfl, rp, re, (PostS.of_st re p).imp fun d g1 e1 r1 ⟨_, _, p1⟩ v rv => p1 g1 _ (Ext.refl g1) rfl r1 ((re.mono e1).set rv)⟩
end
end Mo

namespace Mo
open PySem PySem.Spec L2 PyProof.Rows

/-! ### functions: their promise, their body, their call -/
structure RoomG (k : Nat) (A : Around) : Prop where
  r : Room k A
  g : A.guards = some []
theorem RoomG.mono {j k : Nat} {A : Around} (h : RoomG k A) (le : j ≤ k) : RoomG j A := ⟨h.r.mono le, h.g⟩
theorem RoomG.deeper {k : Nat} {A : Around} (h : RoomG (k + 1) A) (env : PySem.Env) : RoomG k (A.deeper env) := ⟨h.r.deeper env, h.g⟩
theorem RoomG.u64 {k : Nat} {A : Around} (h : RoomG k A) : A.units + 64 < cLine := h.r.units
theorem RoomG.u100 {k : Nat} {A : Around} (h : RoomG k A) : A.units + 100 < cLine := by have := h.r.un; omega
structure FnG (P : Program) (w : World) (K : PySem.W.Frag) (mg : Str → Option Value) (base : Heap) (CX : CXT) (k : Nat) (f : Addr) (fd : FuncData) (ps : List Str) (sp : Sp) : Prop where
  len : ∀ vs H Q E, sp vs H Q E → vs.length = ps.length
  run : ∀ (A : Around) (outer : List PySem.Env) (s : Shared) (H : Hp) (args : Args) (us : List Value) (vs : List V) (Q : VK) (E : XK), RoomG k A → Env0 P w K mg base A outer s H → BindsTo s fd args (ps.zip us) → Vals vs us → sp vs H Q E →
    codeAny (model P w) A (.call (.ref f) args) (CR CX outer P w H s Q E) s
theorem FnG.mono {P : Program} {w : World} {K : PySem.W.Frag} {mg : Str → Option Value} {base : Heap} {CX : CXT} {j k : Nat} {f : Addr} {fd : FuncData} {ps : List Str} {sp : Sp} (F : FnG P w K mg base CX j f fd ps sp) (h : j ≤ k) : FnG P w K mg base CX k f fd ps sp :=
  ⟨F.len, fun A outer s H args us vs Q E hr => F.run A outer s H args us vs Q E (hr.mono h)⟩

/-- what is left of the objects behind a function: its own ones go, where nothing else names them -/
def trimS (ok : Bool) (S S' : List O) : List O := if (ok && ((S'.take S.length).zip S).all fun p => p.1 == p.2 || O.lo S.length p.1) = true then S'.take S.length else S'
def Xc.lo (n : Nat) (x : Xc) : Bool := match x.fs with
  | none => true
  | some l => belowP n l
/-- a body as a function of its arguments; n: how many names -/
def fnM (np n : Nat) (b : MS) : List D → List O → R D := fun ds S => if ds.length = np then (match b (ds.map some ++ List.replicate (n - ds.length) none) S with
  | .rt d S' => .ok d (trimS (D.lo S.length d) S S')
  | .nx _ S' => .ok .non (trimS true S S')
  | .er x _ S' => .er x (trimS (x.lo S.length) S S')
  | _ => .bad) else .bad
theorem fnM_len {np n : Nat} {b : MS} {ds : List D} {S : List O} (h : fnM np n b ds S ≠ .bad) : ds.length = np := by
  unfold fnM at h
  by_cases e : ds.length = np
  · exact e
  · rw [if_neg e] at h; exact absurd rfl h
abbrev ofX (E : XK) : WX' := fun cls d _ H => E cls d H
def spM (K : PySem.W.Frag) (n : Nat) (f : List D → List O → R D) : Sp := fun vs H Q E => vs.length = n ∧ ∃ g ds, g.H = H ∧ Rep K g ∧ RDs K g ds vs ∧ Post K (ofX E) g (f ds g.S) [] fun d g' => ∀ v, RD K g' d v → Q v g'.H

mutual
theorem RD.lo_of {K : PySem.W.Frag} {g : G} : ∀ {d : D} {v : V}, RD K g d v → D.lo g.S.length d = true
  | .non, _, _ => by simp [D.lo]
  | .bl _, _, _ => by simp [D.lo]
  | .int _, _, _ => by simp [D.lo]
  | .str _, _, _ => by simp [D.lo]
  | .ty _, _, _ => by simp [D.lo]
  | .adr _, _, _ => by simp [D.lo]
  | .ref i, _, h => by
    rw [RD] at h
    rw [D.lo]
    exact decide_eq_true h.1
  | .tup l, _, h => by
    rw [RD] at h
    obtain ⟨a, vs, _, _, h3⟩ := h
    rw [D.lo]
    exact RDs.lo_of h3
  | .lst l, _, h => by
    rw [RD] at h
    obtain ⟨a, vs, _, _, h3⟩ := h
    rw [D.lo]
    exact RDs.lo_of h3
  | .kl l, _, h => by
    rw [RD] at h
    obtain ⟨a, vs, _, _, h3⟩ := h
    rw [D.lo]
    exact RDs.lo_of h3
theorem RDs.lo_of {K : PySem.W.Frag} {g : G} : ∀ {l : List D} {vs : List V}, RDs K g l vs → D.los g.S.length l = true
  | [], _, _ => by simp [D.los]
  | d :: l, _, h => by
    rw [RDs] at h
    obtain ⟨v, r, _, h2, h3⟩ := h
    rw [D.los, RD.lo_of h2, RDs.lo_of h3]
    rfl
end
theorem RPs.lo_of {K : PySem.W.Frag} {g : G} {α : Type} : ∀ {l : List (α × D)} {vs : List (α × V)}, RPs K g l vs → belowP g.S.length l = true
  | [], _, _ => rfl
  | (k, d) :: l, _, h => by
    rw [RPs] at h
    obtain ⟨v, r, _, h2, h3⟩ := h
    rw [belowP, List.all_cons, Bool.and_eq_true]
    exact ⟨h2.lo_of, RPs.lo_of h3⟩
theorem RO.lo_of {K : PySem.W.Frag} {g : G} {o : O} {a : Addr} (h : RO K g o a) : O.lo g.S.length o = true := by
  cases o with
  | gone => rfl
  | fdct l => obtain ⟨_, vs, _, h2⟩ := h; exact h2.lo_of
  | lst l => obtain ⟨vs, _, h2⟩ := h; exact h2.lo_of
  | dct l => obtain ⟨vs, _, h2⟩ := h; exact h2.lo_of
  | ins C l => obtain ⟨dx, vs, _, h2⟩ := h; exact h2.lo_of
/-- behind a call with its own objects gone -/
theorem trim_ok {K : PySem.W.Frag} {g g' : G} (rp : Rep K g) (x : Ext g g') (rp' : Rep K g') (b : Bool) :
    ∃ g2, g2.H = g'.H ∧ g2.S = trimS b g.S g'.S ∧ Ext g g2 ∧ Rep K g2 ∧ (∀ d v, (b = true → D.lo g.S.length d = true) → RD K g' d v → RD K g2 d v) ∧
      (∀ {α : Type} (l : List (α × D)) (vs : List (α × V)), (b = true → belowP g.S.length l = true) → RPs K g' l vs → RPs K g2 l vs) ∧ ∀ a, g'.Pr a → g2.Pr a := by
  unfold trimS
  by_cases hc : (b && ((g'.S.take g.S.length).zip g.S).all fun p => p.1 == p.2 || O.lo g.S.length p.1) = true
  · rw [if_pos hc]
    rw [Bool.and_eq_true] at hc
    have hlen : (g'.S.take g.S.length).length = g.S.length := by rw [List.length_take]; exact Nat.min_eq_left x.len
    have get : ∀ i o, (g'.S.take g.S.length)[i]? = some o → i < g.S.length ∧ g'.S[i]? = some o := fun i o q => by
      have hi : i < g.S.length := by rw [← hlen]; exact (List.getElem?_eq_some_iff.mp q).1
      rw [List.getElem?_take_of_lt hi] at q
      exact ⟨hi, q⟩
    have lows : ∀ i o, (g'.S.take g.S.length)[i]? = some o → O.lo g.S.length o = true := fun i o q => by
      obtain ⟨hi, _⟩ := get i o q
      obtain ⟨o0, h0⟩ : ∃ o0, g.S[i]? = some o0 := ⟨g.S[i], by simp [hi]⟩
      have hm : (o, o0) ∈ (g'.S.take g.S.length).zip g.S := by
        refine List.mem_of_getElem? (i := i) ?_
        rw [List.getElem?_zip_eq_some]
        exact ⟨q, h0⟩
      have := List.all_eq_true.mp hc.2 _ hm
      rw [Bool.or_eq_true] at this
      rcases this with z | z
      · have e : o = o0 := by simpa using z
        rw [e]
        exact (rp.obj i o0 h0).lo_of
      · exact z
    let g2 : G := { g' with S := g'.S.take g.S.length }
    have live : ∀ a, g2.Live a → g'.Live a := fun a ⟨i, o, q, n, e⟩ => ⟨i, o, (get i o q).2, n, e⟩
    have pr : ∀ a, g'.Pr a → g2.Pr a := fun a h => ⟨h.1, fun z => h.2 (live a z)⟩
    have s0 : Sim0 g' g2 := ⟨fun a vs r q => ⟨r, pr a q⟩, fun a vs r q => ⟨r, pr a q⟩⟩
    have un : ∀ i, i < g.S.length → i < g'.S.length → i < g2.S.length ∧ g2.ρ i = g'.ρ i := fun i hi _ => ⟨by rw [show g2.S.length = g.S.length from hlen]; exact hi, rfl⟩
    refine ⟨g2, rfl, rfl, ⟨x.n, Nat.le_of_eq hlen.symm, x.ag, fun a o h l => ⟨(x.kp a o h l).1, fun z => (x.kp a o h l).2 (live a z)⟩⟩, ⟨rp'.nd, fun i j o u q1 n1 q2 n2 e => rp'.inj i j o u (get i o q1).2 n1 (get j u q2).2 n2 e, fun i o q => (rp'.obj i o (get i o q).2).under s0 un (lows i o q) fun _ => rfl⟩, fun d v hd r => r.under s0 un (hd hc.1), fun l vs hl r => r.under s0 un (hl hc.1), pr⟩
  · rw [if_neg hc]
    exact ⟨g', rfl, rfl, x, rp', fun _ _ _ r => r, fun _ _ _ r => r, fun _ h => h⟩
theorem RDs.all_get {K : PySem.W.Frag} {g : G} {l : List D} {vs : List V} (r : RDs K g l vs) (n : Nat) : RE K g (l.map some ++ List.replicate (n - l.length) none) (vs.map some ++ List.replicate (n - vs.length) none) := by
  refine ⟨by simp [r.length], fun i d q => ?_⟩
  by_cases hi : i < l.length
  · rw [List.getElem?_append_left (by simpa using hi), List.getElem?_map] at q
    cases e : l[i]? with
    | none => rw [e] at q; cases q
    | some d' =>
      rw [e] at q
      cases q
      obtain ⟨v, hv, rv⟩ := r.get e
      refine ⟨v, ?_, rv⟩
      rw [List.getElem?_append_left (by rw [List.length_map, ← r.length]; exact hi), List.getElem?_map, hv]
      rfl
  · rw [List.getElem?_append_right (by simpa using hi), List.getElem?_replicate] at q
    split at q <;> cases q

/-- from a function's promise to its body's reading -/
theorem body_of {K : PySem.W.Frag} {n np : Nat} {b : MS} {vs : List V} {H : Hp} {Q : VK} {E : XK} {N : List Str} (hn : N.length = n) (h : spM K np (fnM np n b) vs H Q E) :
    tS K (ofX E) b { nx := fun _ H' => Q .non H', rt := Q } (L2.start N vs) H := by
  obtain ⟨hl, g, ds, rfl, rp, rds, p⟩ := h
  refine ⟨g, _, rfl, rp, by unfold L2.start; rw [hn]; exact rds.all_get n, ?_⟩
  unfold fnM at p
  rw [if_pos (rds.length.trans hl)] at p
  cases q : b (ds.map some ++ List.replicate (n - ds.length) none) g.S with
  | rt d S' =>
    rw [q] at p
    intro g' v x s rp' rd
    obtain ⟨g2, e1, e2, e3, e4, e5, _⟩ := trim_ok rp x rp' (D.lo g.S.length d)
    rw [← e1]
    exact p g2 e3 (by rw [e2, s]) e4 v (e5 d v (fun z => z) rd)
  | nx e' S' =>
    rw [q] at p
    intro g' σ' x s rp' _
    obtain ⟨g2, e1, e2, e3, e4, e5, _⟩ := trim_ok rp x rp' true
    show Q .non g'.H
    rw [← e1]
    exact p g2 e3 (by rw [e2, s]) e4 .non (by rw [RD])
  | er x' e' S' =>
    rw [q] at p
    intro g' σ' cls da x s rp' _ rx
    obtain ⟨g2, e1, e2, e3, e4, e5, e6, e7⟩ := trim_ok rp x rp' (x'.lo g.S.length)
    show E cls da g'.H
    rw [← e1]
    refine p g2 cls da e3 (by rw [e2, s]) e4 ⟨rx.1, ?_⟩
    have r2 := rx.2
    cases h1 : x'.fs with
    | none =>
      rw [h1] at r2
      cases da with
      | none => trivial
      | some a => exact r2
    | some fs =>
      rw [h1] at r2
      cases da with
      | none => exact r2
      | some a =>
        obtain ⟨ws, k1, k2, k3⟩ := r2
        exact ⟨ws, by rw [e1]; exact k1, e7 a k2, e6 fs ws (fun z => by simpa [Xc.lo, h1] using z) k3⟩
  | bk e' S' => rw [q] at p; exact False.elim p
  | ct e' S' => rw [q] at p; exact False.elim p
  | bad => rw [q] at p; exact False.elim p

section
variable {P : Program} {w : World} {K : PySem.W.Frag} {mg : Str → Option Value} {base : Heap} {CX : CXT}
/-- a def, by its body -/
theorem Fun.okG {x qual : Str} {st : Stmt} {f : Addr} {fd : FuncData} {N ps : List Str} {k : Nat} {sp : Sp} (F : Fun K x qual st f fd) (S : FnScope N ps (defScope st)) (len : ∀ vs H Q E, sp vs H Q E → vs.length = ps.length)
    (hbody : ∀ (cdv : Value) (A : Around) (outer : List PySem.Env) (s : Shared) (H : Hp) (vs : List V) (Q : VK) (E : XK), RoomG k (A.deeper (envOfC qual (defScope st) s.heap.objs.size f cdv)) → sp vs H Q E →
      ∃ t, PSs (cxOf CX P w K mg base N qual (defScope st) f cdv A outer s H E) (defBody st) t ∧ t { nx := fun _ H' => Q .non H', rt := Q } (L2.start N vs) H) : FnG P w K mg base CX (k + 1) f fd ps sp := by
  obtain ⟨oc, od, kV, doc, pm, an, cdv, ct, osl, rfl, lk, hcd⟩ := F.ex
  refine ⟨len, fun A outer s H args us vs Q E hr e0 hb r hsp => ?_⟩
  have hl := len _ _ _ _ hsp
  have KX : K.In s.heap := e0.mod.kin.keeps fun b o e => (e0.bs b o e).1
  have lim : s.heap.NoLimit := e0.mod.nolimit.keeps fun b o e => (e0.bs b o e).1
  have kinds : ∀ y ∈ ps.zip us, (defScope st).names.lookup y.1 = some .local ∨ ((defScope st).names.lookup y.1 = some .cell ∧ ((cellsFrom (s.heap.objs.size + 1) (defScope st).names []).lookup y.1).isSome = true) := fun y hy => by
    rcases S.par y.1 (List.of_mem_zip (a := y.1) (b := y.2) hy).1 with q | q
    · exact .inl q
    · exact .inr ⟨q, PySem.W.cellsFrom_some _ _ _ (.inl q)⟩
  refine codeAny_call_function hr.r.depth (KX _ _ lk) rfl S.co S.gen rfl (PySem.W.codeRec_of KX hcd) (hb _ _ _ _ ?_)
  refine wpAny_newFunctionEnv_cells S.kind kinds fun env he s1 x => ?_
  subst he
  refine ⟨lim.keeps x.toInCall.keep, codeAny_func ?_⟩
  obtain ⟨t, ht, hq⟩ := hbody cdv A outer s H vs Q E (hr.deeper _) hsp
  have I : L2.Inv (cxOf CX P w K mg base N qual (defScope st) f cdv A outer s H E) [] (L2.start N vs) H s1 := inv_start S hr.r.hd e0 hl r x
  refine wpAny_mono (ht.run [] s1 (L2.start N vs) H _ I hq) (fun fl s' hs => ?_) fun e s' hs => hs
  cases fl with
  | ret u =>
    obtain ⟨v, σ', H', J, rv, q⟩ := hs
    exact ⟨v, H', J.os, J.bare, J.base, J.hok, rv, q⟩
  | next =>
    obtain ⟨σ', H', J, q⟩ := hs
    exact ⟨.non, H', J.os, J.bare, J.base, J.hok, rfl, q⟩
  | brk =>
    obtain ⟨_, _, _, q⟩ := hs
    exact False.elim q
  | cont =>
    obtain ⟨_, _, _, q⟩ := hs
    exact False.elim q
/-- a def that raises nothing, by its body's function -/
theorem fn_m {x qual : Str} {st : Stmt} {f : Addr} {fd : FuncData} {N ps : List Str} {k n np : Nat} {b : MS} (F : Fun K x qual st f fd) (S : FnScope N ps (defScope st)) (hn : N.length = n) (hp : ps.length = np)
    (body : ∀ (cdv : Value) (A : Around) (outer : List PySem.Env) (s : Shared) (H : Hp) (E : XK), RoomG k (A.deeper (envOfC qual (defScope st) s.heap.objs.size f cdv)) →
      PSs (cxOf CX0 P w K mg base N qual (defScope st) f cdv A outer s H E).nox (defBody st) (tS K WF b)) :
    FnG P w K mg base CX0 (k + 1) f fd ps fun vs H Q _ => spM K np (fnM np n b) vs H Q E0 :=
  Fun.okG F S (fun vs H Q E h => by rw [hp]; exact h.1) fun cdv A outer s H vs Q E hr h => ⟨_, (body cdv A outer s H E hr).nox, body_of hn h⟩
end

/-! ### calls -/
def mCall (f : List D → List O → R D) (m : MA) : ME := fun e S => (m e S).bind fun l S1 => f l S1
/-- .. of a function that sees no object of ours -/
def pureR (r : R D) (S : List O) : R D := match r with
  | .ok d _ => if D.lo 0 d = true then .ok d S else .bad
  | .er x _ => if x.lo 0 = true then .er x S else .bad
  | .bad => .bad
def mCallP (f : List D → List O → R D) (m : MA) : ME := fun e S => (m e S).bind fun l S1 => if D.los 0 l = true then pureR (f l []) S1 else .bad
section
variable {X : Cx} {CX : CXT} {k : Nat} {f : Addr} {fd : FuncData} {ps : List Str} {sp : Sp} {W : WX'} {x : Str} {p pos : Pos} {e : Expr} {es : List Expr} {t : TA} {m : MA} {ff : List D → List O → R D} {n : Nat}
theorem run_g {pins : List (Addr × Obj)} {σ : L2.St} {H : Hp} {s : Shared} {Q : VK} {E : XK} {args : Args} {us : List Value} {vs : List V} (F : FnG X.prog X.w X.K X.mg X.base CX k f fd ps sp) (hr : RoomG k X.A) (hb : us.length = ps.length → BindsTo s fd args (ps.zip us))
    (hx : ∀ e s', CX X.stack H s E e s' → X.xe e s') (I : L2.Inv X pins σ H s) (r : Vals vs us) (h : sp vs H Q E) : codeAny (model X.prog X.w) X.A (.call (.ref f) args) (fun r s' => match r with
      | .ok (.ret u) => EP X pins σ Q u s'
      | .ok _ => False
      | .error e => X.xe e s') s := by
  have hl : us.length = ps.length := by rw [← r.length]; exact F.len _ _ _ _ h
  refine codeAny_mono (F.run X.A X.stack s H args us vs Q E hr I.env0 (hb hl) r h) fun r s' hq => ?_
  cases r with
  | error e => exact hx e s' hq
  | ok fl =>
    cases fl with
    | ret u => exact I.after hq
    | next => exact hq
    | brk => exact hq
    | cont => exact hq
/-- the call of a def by name -/
def tCallG (sp : Sp) (W : WX') (t : TA) : TE := fun σ H Q => t σ H fun vs H1 => sp vs H1 Q fun cls d H' => W cls d σ H'
abbrev PassG (CX : CXT) (X : Cx) (W : WX') : Prop := ∀ (pins : List (Addr × Obj)) (σ : L2.St) (H : Hp) (s : Shared) (e : Value) (s' : Shared), L2.Inv X pins σ H s → CX X.stack H s (fun cls d H' => W cls d σ H') e s' → X.xe e s'
theorem passG0 : PassG CX0 X W := fun _ _ _ _ _ _ _ h => h.elim
theorem pe_callG (F : FnG X.prog X.w X.K X.mg X.base CX k f fd ps sp) (hr : RoomG k X.A) (hg : Gl X x) (hm : X.mg x = some (.ref f)) (hk : PySem.W.keepIn X.K (.ref f) = true) (hb : Binds X.K fd ps []) (hx : PassG CX X W)
    (ha : PA X (e :: es) t) (hdb : (x == ("__debug__" : Str)) = false := by decide) (he : starEach (e :: es) X.env = (false, eval e X.env) :: starEach es X.env := by rfl) (hpl : (backTo pos (starEach es X.env)).any (·.1) = false := by rfl) :
    PE X (.Call (.Name x p) (e :: es) [] pos) (tCallG sp W t) := by
  constructor
  intro pins s σ H Q I h
  refine wpAny_Call_Name_kw (ld_glob I hg hm ?_ hdb)
  refine PySem.W.callWith_K (h₀ := X.base) I.ok.mod.kin hk (thn (ha.run pos pins s σ H _ I h) fun us s1 ⟨vs, H1, I1, r, q⟩ => ⟨I1.kIn, ?_⟩) he hpl
  refine wpAny_call (codeAny_mono (run_g F hr (fun hl => by have := hb s1 us I1.kIn (by simpa using hl); simpa using this) (fun e s' hc => hx pins σ H1 s1 e s' I1 hc) I1 r q) fun r s' hq => ?_)
  cases r with
  | error e => exact hq
  | ok fl => cases fl <;> exact hq
theorem pe_callG0 (F : FnG X.prog X.w X.K X.mg X.base CX k f fd ps sp) (hr : RoomG k X.A) (hg : Gl X x) (hm : X.mg x = some (.ref f)) (hk : PySem.W.keepIn X.K (.ref f) = true) (hb : Binds X.K fd ps []) (hx : PassG CX X W)
    (hdb : (x == ("__debug__" : Str)) = false := by decide) : PE X (.Call (.Name x p) [] [] pos) (tCallG sp W tNil) := by
  constructor
  intro pins s σ H Q I h
  refine wpAny_Call_Name_kw (ld_glob I hg hm ?_ hdb)
  refine PySem.W.callWith_K0 I.kIn hk (wpAny_call (codeAny_mono (run_g F hr (us := []) (fun hl => by have := hb s [] I.kIn (by simpa using hl); simpa using this) (fun e s' hc => hx pins σ H s e s' I hc) I .nil h) fun r s' hq => ?_))
  cases r with
  | error e => exact hq
  | ok fl => cases fl <;> exact hq
theorem i_call {K : PySem.W.Frag} {σ : L2.St} {H : Hp} {Q : VK} {np nn : Nat} {b : MS} {sp : Sp} (hsp : ∀ vs H Q, spM K np (fnM np nn b) vs H Q (fun cls d H' => W cls d σ H') → sp vs H Q fun cls d H' => W cls d σ H') (h : tE K W (mCall (fnM np nn b) m) σ H Q) : tCallG sp W (tA K W m) σ H Q := by
  obtain ⟨g, e, hH, rp, re, p⟩ := h
  subst hH
  refine ⟨g, e, rfl, rp, re, (Post.bind p).imp fun l g1 e1 r1 ⟨_, _, p1⟩ vs rv => hsp _ _ _ ?_⟩
  refine ⟨?_, g1, l, rfl, r1, rv, ?_⟩
  · rw [← rv.length]
    exact fnM_len (S := g1.S) fun z => by rw [z] at p1; exact p1
  · cases q : fnM np nn b l g1.S with
    | ok d S => rw [q] at p1; exact p1
    | er x S => rw [q] at p1; exact p1
    | bad => rw [q] at p1; exact p1
/-- the ground of a callee that sees no object of ours -/
abbrev G.bare (g : G) : G := { N := fun a => g.N a ∨ g.Live a, ρ := g.ρ, S := [], H := g.H }
theorem not_live_nil {g : G} (h : g.S = []) {a : Addr} : ¬ g.Live a := fun ⟨i, o, q, _, _⟩ => by rw [h] at q; simp at q
theorem sim_bare (g : G) : Sim0 g g.bare := ⟨fun a vs r q => ⟨r, fun z => z.elim q.1 q.2, not_live_nil rfl⟩, fun a vs r q => ⟨r, fun z => z.elim q.1 q.2, not_live_nil rfl⟩⟩
theorem Rep.bare {K : PySem.W.Frag} {g : G} (rp : Rep K g) : Rep K g.bare := by
  refine ⟨fun a z => ?_, fun i j o u q => by simp at q, fun i o q => by simp at q⟩
  rcases z with z | ⟨i, o, q, n, e⟩
  · exact rp.nd a z
  · obtain ⟨u, h⟩ := (rp.obj i o q).at_ (O.act_ne n)
    exact ⟨u, by rw [← e]; exact h⟩
theorem back_bare {K : PySem.W.Frag} {g g' : G} (rp : Rep K g) (x : Ext g.bare g') (rp' : Rep K g') : Ext g { g with H := g'.H } ∧ Rep K { g with H := g'.H } ∧ Sim0 g' { g with H := g'.H } := by
  have e1 : Ext g { g with H := g'.H } := ⟨rfl, Nat.le_refl _, fun _ _ => rfl, fun a o h l => ⟨(x.kp a o h (not_live_nil rfl)).1, l⟩⟩
  have hN : ∀ a, g'.N a ↔ (g.N a ∨ g.Live a) := fun a => by rw [x.n]
  refine ⟨e1, ⟨fun a z => rp'.nd a ((hN a).mpr (.inl z)), rp.inj, fun i o q => (rp.obj i o q).mono e1 fun n => ?_⟩, ?_⟩
  · obtain ⟨u, h⟩ := (rp.obj i o q).at_ n
    exact (x.kp _ u h (not_live_nil rfl)).1.trans h.symm
  · exact ⟨fun a vs r q => ⟨r, fun z => q.1 ((hN a).mpr (.inl z)), fun z => q.1 ((hN a).mpr (.inr z))⟩, fun a vs r q => ⟨r, fun z => q.1 ((hN a).mpr (.inl z)), fun z => q.1 ((hN a).mpr (.inr z))⟩⟩
theorem i_callP {K : PySem.W.Frag} {σ : L2.St} {H : Hp} {Q : VK} {np nn : Nat} {b : MS} {sp : Sp} (hsp : ∀ vs H Q, spM K np (fnM np nn b) vs H Q (fun cls d H' => W cls d σ H') → sp vs H Q fun cls d H' => W cls d σ H') (h : tE K W (mCallP (fnM np nn b) m) σ H Q) : tCallG sp W (tA K W m) σ H Q := by
  obtain ⟨g, e, hH, rp, re, p⟩ := h
  subst hH
  refine ⟨g, e, rfl, rp, re, (Post.bind p).imp fun l g1 e1 r1 ⟨_, _, p1⟩ vs rv => hsp _ _ _ ?_⟩
  by_cases hlo : D.los 0 l = true
  · rw [if_pos hlo] at p1
    refine ⟨?_, g1.bare, l, rfl, r1.bare, rv.under (sim_bare g1) (fun i hi => absurd hi (Nat.not_lt_zero i)) hlo, ?_⟩
    · rw [← rv.length]
      exact fnM_len (S := []) fun z => by rw [z] at p1; exact p1
    · show Post K (ofX _) g1.bare (fnM np nn b l []) [] _
      cases q : fnM np nn b l [] with
      | ok d S =>
        rw [q] at p1
        have p1 : Post K W g1 (if D.lo 0 d = true then .ok d g1.S else .bad) σ fun d g' => ∀ v, RD K g' d v → Q v g'.H := p1
        by_cases hd : D.lo 0 d = true
        · rw [if_pos hd] at p1
          intro g' x s rp' v rdv
          obtain ⟨y1, y2, y3⟩ := back_bare r1 x rp'
          exact p1 _ y1 rfl y2 v (rdv.under y3 (fun i hi => absurd hi (Nat.not_lt_zero i)) hd)
        · rw [if_neg hd] at p1; exact False.elim p1
      | er xx S =>
        rw [q] at p1
        have p1 : Post K W g1 (if xx.lo 0 = true then .er xx g1.S else .bad) σ fun d g' => ∀ v, RD K g' d v → Q v g'.H := p1
        by_cases hd : xx.lo 0 = true
        · rw [if_pos hd] at p1
          intro g' cls da x s rp' rx
          obtain ⟨y1, y2, y3⟩ := back_bare r1 x rp'
          refine p1 { g1 with H := g'.H } cls da y1 rfl y2 ⟨rx.1, ?_⟩
          have r2 := rx.2
          cases h1 : xx.fs with
          | none =>
            rw [h1] at r2
            cases da with
            | none => trivial
            | some a => exact r2
          | some fs =>
            rw [h1] at r2
            cases da with
            | none => exact r2
            | some a =>
              obtain ⟨ws, k1, k2, k3⟩ := r2
              have hN : ∀ a, g'.N a ↔ (g1.N a ∨ g1.Live a) := fun a => by rw [x.n]
              exact ⟨ws, k1, ⟨fun z => k2.1 ((hN a).mpr (.inl z)), fun z => k2.1 ((hN a).mpr (.inr z))⟩, k3.under y3 (fun i hi => absurd hi (Nat.not_lt_zero i)) (by simpa [Xc.lo, h1] using hd)⟩
        · rw [if_neg hd] at p1; exact False.elim p1
      | bad => rw [q] at p1; exact False.elim p1
  · rw [if_neg hlo] at p1; exact False.elim p1
/-- a function that raises nothing -/
def nbF (f : List D → List O → R D) : List D → List O → R D := fun l S => (f l S).nb
theorem nb_post {α : Type} {K : PySem.W.Frag} {W W2 : WX'} {g : G} {r : R α} {σ σ2 : L2.St} {k : α → G → Prop} (h : Post K W g r.nb σ k) : Post K W2 g r σ2 k := by
  cases r with
  | ok a S => exact h
  | er x S => exact False.elim h
  | bad => exact False.elim h
theorem i_callN {K : PySem.W.Frag} {σ : L2.St} {H : Hp} {Q : VK} {np nn : Nat} {b : MS} (h : tE K W (mCall (nbF (fnM np nn b)) m) σ H Q) : tCallG (fun vs H Q _ => spM K np (fnM np nn b) vs H Q E0) W (tA K W m) σ H Q := by
  obtain ⟨g, e, hH, rp, re, p⟩ := h
  subst hH
  refine ⟨g, e, rfl, rp, re, (Post.bind p).imp fun l g1 e1 r1 ⟨_, _, p1⟩ vs rv => ⟨?_, g1, l, rfl, r1, rv, nb_post p1⟩⟩
  rw [← rv.length]
  exact fnM_len (S := g1.S) fun z => by rw [nbF, z] at p1; exact p1
theorem i_callPN {K : PySem.W.Frag} {σ : L2.St} {H : Hp} {Q : VK} {np nn : Nat} {b : MS} (h : tE K W (mCallP (nbF (fnM np nn b)) m) σ H Q) : tCallG (fun vs H Q _ => spM K np (fnM np nn b) vs H Q E0) W (tA K W m) σ H Q := by
  obtain ⟨g, e, hH, rp, re, p⟩ := h
  subst hH
  refine ⟨g, e, rfl, rp, re, (Post.bind p).imp fun l g1 e1 r1 ⟨_, _, p1⟩ vs rv => ?_⟩
  by_cases hlo : D.los 0 l = true
  · rw [if_pos hlo] at p1
    refine ⟨?_, g1.bare, l, rfl, r1.bare, rv.under (sim_bare g1) (fun i hi => absurd hi (Nat.not_lt_zero i)) hlo, ?_⟩
    · rw [← rv.length]
      exact fnM_len (S := []) fun z => by rw [nbF, z] at p1; exact p1
    · show Post K (ofX _) g1.bare (fnM np nn b l []) [] _
      cases q : fnM np nn b l [] with
      | ok d S =>
        rw [nbF, q] at p1
        have p1 : Post K W g1 (if D.lo 0 d = true then .ok d g1.S else .bad) σ fun d g' => ∀ v, RD K g' d v → Q v g'.H := p1
        by_cases hd : D.lo 0 d = true
        · rw [if_pos hd] at p1
          intro g' x s rp' v rdv
          obtain ⟨y1, y2, y3⟩ := back_bare r1 x rp'
          exact p1 _ y1 rfl y2 v (rdv.under y3 (fun i hi => absurd hi (Nat.not_lt_zero i)) hd)
        · rw [if_neg hd] at p1; exact False.elim p1
      | er xx S => rw [nbF, q] at p1; exact False.elim p1
      | bad => rw [nbF, q] at p1; exact False.elim p1
  · rw [if_neg hlo] at p1; exact False.elim p1
/-- f(e, ..), f a def that raises nothing -/
theorem pm_call {np nn : Nat} {b : MS} (F : FnG X.prog X.w X.K X.mg X.base CX0 k f fd ps fun vs H Q _ => spM X.K np (fnM np nn b) vs H Q E0) (hr : RoomG k X.A) (hg : Gl X x) (hm : X.mg x = some (.ref f)) (hk : PySem.W.keepIn X.K (.ref f) = true) (hb : Binds X.K fd ps [])
    (ha : PA X (e :: es) (tA X.K W m)) (hdb : (x == ("__debug__" : Str)) = false := by decide) (he : starEach (e :: es) X.env = (false, eval e X.env) :: starEach es X.env := by rfl) (hpl : (backTo pos (starEach es X.env)).any (·.1) = false := by rfl) :
    PE X (.Call (.Name x p) (e :: es) [] pos) (tE X.K W (mCall (nbF (fnM np nn b)) m)) := PE.imp (pe_callG F hr hg hm hk hb passG0 ha hdb he hpl) fun σ H Q h => i_callN h
theorem pm_callP {np nn : Nat} {b : MS} (F : FnG X.prog X.w X.K X.mg X.base CX0 k f fd ps fun vs H Q _ => spM X.K np (fnM np nn b) vs H Q E0) (hr : RoomG k X.A) (hg : Gl X x) (hm : X.mg x = some (.ref f)) (hk : PySem.W.keepIn X.K (.ref f) = true) (hb : Binds X.K fd ps [])
    (ha : PA X (e :: es) (tA X.K W m)) (hdb : (x == ("__debug__" : Str)) = false := by decide) (he : starEach (e :: es) X.env = (false, eval e X.env) :: starEach es X.env := by rfl) (hpl : (backTo pos (starEach es X.env)).any (·.1) = false := by rfl) :
    PE X (.Call (.Name x p) (e :: es) [] pos) (tE X.K W (mCallP (nbF (fnM np nn b)) m)) := PE.imp (pe_callG F hr hg hm hk hb passG0 ha hdb he hpl) fun σ H Q h => i_callPN h
end
end Mo

namespace Mo
open PySem PySem.Spec L2 PyProof.Rows

/-! ### calls by names -/
def permL {α : Type} (ix : List Nat) (l : List α) : List α := ix.filterMap (l[·]?)
def KBindsG (K : PySem.W.Frag) (fd : FuncData) (ps ks : List Str) (nu : Nat) (ix : List Nat) : Prop :=
  ∀ (s : Shared) (us ws : List Value), K.In s.heap → us.length = nu → ws.length = ks.length → BindsTo s fd ⟨us, ks.zip ws⟩ (ps.zip (permL ix (us ++ ws)))
def mCallK (nu nk : Nat) (ix : List Nat) (f : List D → List O → R D) (m mk : MA) : ME := fun e S => (m e S).bind fun l S1 => (mk e S1).bind fun l2 S2 => if l.length = nu ∧ l2.length = nk then f (permL ix (l ++ l2)) S2 else .bad
def mCallKP (nu nk : Nat) (ix : List Nat) (f : List D → List O → R D) (m mk : MA) : ME := fun e S => (m e S).bind fun l S1 => (mk e S1).bind fun l2 S2 => if l.length = nu ∧ l2.length = nk ∧ D.los 0 (permL ix (l ++ l2)) = true then pureR (f (permL ix (l ++ l2)) []) S2 else .bad
def tCallKG (sp : Sp) (nu nk : Nat) (ix : List Nat) (W : WX') (t tk : TA) : TE := fun σ H Q => t σ H fun vs H1 => tk σ H1 fun zs H2 => vs.length = nu ∧ zs.length = nk ∧ sp (permL ix (vs ++ zs)) H2 Q fun cls d H' => W cls d σ H'
structure KAt (X : Cx) (kws : List Keyword) (ks : List Str) : Prop where
  names : ∀ pos, (backToKw pos (keywordEach kws X.env)).filterMap (·.1) = ks
  all : ∀ pos, (backToKw pos (keywordEach kws X.env)).all (·.1.isSome) = true
  none : ∀ pos, (backToKw pos (keywordEach kws X.env)).any (·.1.isNone) = false
section
variable {X : Cx} {CX : CXT} {k : Nat} {f : Addr} {fd : FuncData} {ps ks : List Str} {sp : Sp} {W : WX'} {x : Str} {p pos : Pos} {e : Expr} {es : List Expr} {kws : List Keyword} {t tk : TA} {m mk : MA} {nu nk : Nat} {ix : List Nat}
theorem PK.imp {X : Cx} {kws : List Keyword} {t t' : TA} (h : PK X kws t) (f : ∀ σ H Q, t' σ H Q → t σ H Q) : PK X kws t' := ⟨fun o p s σ H Q I q => h.run o p s σ H Q I (f σ H Q q)⟩
theorem km_nil : PK X [] (tA X.K W mNil) := PK.imp pk_nil fun _ _ _ => i_nil
theorem km_cons {nm : Option Str} {kpos : Pos} {ma : ME} {mr : MA} (ha : PE X e (tE X.K W ma)) (hr : PK X kws (tA X.K W mr)) : PK X (⟨nm, e, kpos⟩ :: kws) (tA X.K W (mCons ma mr)) := PK.imp (pk_cons ha hr) fun _ _ _ => i_cons
theorem pe_callKG0 (F : FnG X.prog X.w X.K X.mg X.base CX k f fd ps sp) (hr : RoomG k X.A) (hg : Gl X x) (hm : X.mg x = some (.ref f)) (hk : PySem.W.keepIn X.K (.ref f) = true) (hb : KBindsG X.K fd ps ks 0 ix) (hx : PassG CX X W) (hnk : ks.length = nk)
    (hkw : PK X kws tk) (ka : KAt X kws ks) (hdb : (x == ("__debug__" : Str)) = false := by decide) : PE X (.Call (.Name x p) [] kws pos) (tCallKG sp 0 nk ix W tNil tk) := by
  constructor
  intro pins s σ H Q I h
  refine wpAny_Call_Name_kw (ld_glob I hg hm ?_ hdb)
  refine PySem.W.callWith_KW0 (h₀ := X.base) I.ok.mod.kin hk (ka.all pos) ?_ (by
    show (([] : List (Bool × Sem Value)).any (·.1) || _) = false
    rw [ka.none pos] <;> rfl)
  refine thn (hkw.run pos pins s σ H _ I h) fun ws s2 ⟨zs, H2, I2, rz, h1, h2, q2⟩ => ⟨I2.kIn, ?_⟩
  rw [ka.names pos]
  have hz : ws.length = ks.length := by rw [← rz.length, h2, hnk]
  refine wpAny_call (codeAny_mono (run_g F hr (args := ⟨[], ks.zip ws⟩) (us := permL ix ([] ++ ws)) (fun _ => hb s2 [] ws I2.kIn rfl hz) (fun e s' hc => hx pins σ H2 s2 e s' I2 hc) I2 (pick_vals (xs := [] ++ zs) (its := [] ++ ws) rz ix) q2) fun r s' hq => ?_)
  cases r with
  | error e => exact hq
  | ok fl => cases fl <;> exact hq
theorem pe_callKG (F : FnG X.prog X.w X.K X.mg X.base CX k f fd ps sp) (hr : RoomG k X.A) (hg : Gl X x) (hm : X.mg x = some (.ref f)) (hk : PySem.W.keepIn X.K (.ref f) = true) (hb : KBindsG X.K fd ps ks nu ix) (hx : PassG CX X W) (hnk : ks.length = nk)
    (ha : PA X (e :: es) t) (hkw : PK X kws tk) (ka : KAt X kws ks) (hdb : (x == ("__debug__" : Str)) = false := by decide) (he : starEach (e :: es) X.env = (false, eval e X.env) :: starEach es X.env := by rfl)
    (hpl : (backTo pos (starEach (e :: es) X.env)).any (·.1) = false := by rfl) : PE X (.Call (.Name x p) (e :: es) kws pos) (tCallKG sp nu nk ix W t tk) := by
  constructor
  intro pins s σ H Q I h
  refine wpAny_Call_Name_kw (ld_glob I hg hm ?_ hdb)
  refine PySem.W.callWith_KW (h₀ := X.base) I.ok.mod.kin hk (ka.all pos) (thn (ha.run pos pins s σ H _ I h) fun us s1 ⟨vs, H1, I1, r, q⟩ => ?_) (by rw [hpl, ka.none pos] <;> rfl) he
  refine thn (hkw.run pos pins s1 σ H1 _ I1 q) fun ws s2 ⟨zs, H2, I2, rz, h1, h2, q2⟩ => ⟨I2.kIn, ?_⟩
  rw [ka.names pos]
  have hz : ws.length = ks.length := by rw [← rz.length, h2, hnk]
  refine wpAny_call (codeAny_mono (run_g F hr (args := ⟨us, ks.zip ws⟩) (us := permL ix (us ++ ws)) (fun _ => hb s2 us ws I2.kIn (by rw [← r.length]; exact h1) hz) (fun e s' hc => hx pins σ H2 s2 e s' I2 hc) I2 (pick_vals (r.append rz) ix) q2) fun r s' hq => ?_)
  cases r with
  | error e => exact hq
  | ok fl => cases fl <;> exact hq
theorem i_callK {K : PySem.W.Frag} {σ : L2.St} {H : Hp} {Q : VK} {np nn : Nat} {b : MS} (h : tE K W (mCallK nu nk ix (nbF (fnM np nn b)) m mk) σ H Q) : tCallKG (fun vs H Q _ => spM K np (fnM np nn b) vs H Q E0) nu nk ix W (tA K W m) (tA K W mk) σ H Q := by
  obtain ⟨g, e, hH, rp, re, p⟩ := h
  subst hH
  refine ⟨g, e, rfl, rp, re, (Post.bind p).imp fun l g1 e1 r1 ⟨_, _, p1⟩ vs rv => ?_⟩
  refine ⟨g1, e, rfl, r1, re.mono e1, (Post.bind p1).imp fun l2 g2 e2 r2 ⟨_, _, p2⟩ zs rz => ?_⟩
  by_cases hc : l.length = nu ∧ l2.length = nk
  · rw [if_pos hc] at p2
    have ra := pick_rds ((rv.mono e2).append rz) ix
    refine ⟨by rw [← rv.length]; exact hc.1, by rw [← rz.length]; exact hc.2, ?_, g2, permL ix (l ++ l2), rfl, r2, ra, nb_post p2⟩
    rw [show (permL ix (vs ++ zs)).length = (permL ix (l ++ l2)).length from ra.length.symm]
    exact fnM_len (S := g2.S) fun z => by rw [nbF, z] at p2; exact p2
  · rw [if_neg hc] at p2; exact False.elim p2
theorem i_callKP {K : PySem.W.Frag} {σ : L2.St} {H : Hp} {Q : VK} {np nn : Nat} {b : MS} (h : tE K W (mCallKP nu nk ix (nbF (fnM np nn b)) m mk) σ H Q) : tCallKG (fun vs H Q _ => spM K np (fnM np nn b) vs H Q E0) nu nk ix W (tA K W m) (tA K W mk) σ H Q := by
  obtain ⟨g, e, hH, rp, re, p⟩ := h
  subst hH
  refine ⟨g, e, rfl, rp, re, (Post.bind p).imp fun l g1 e1 r1 ⟨_, _, p1⟩ vs rv => ?_⟩
  refine ⟨g1, e, rfl, r1, re.mono e1, (Post.bind p1).imp fun l2 g2 e2 r2 ⟨_, _, p2⟩ zs rz => ?_⟩
  by_cases hc : l.length = nu ∧ l2.length = nk ∧ D.los 0 (permL ix (l ++ l2)) = true
  · rw [if_pos hc] at p2
    have ra : RDs K g2 (permL ix (l ++ l2)) (permL ix (vs ++ zs)) := pick_rds ((rv.mono e2).append rz) ix
    refine ⟨by rw [← rv.length]; exact hc.1, by rw [← rz.length]; exact hc.2.1, ?_, g2.bare, permL ix (l ++ l2), rfl, r2.bare, ra.under (sim_bare g2) (fun i hi => absurd hi (Nat.not_lt_zero i)) hc.2.2, ?_⟩
    · rw [show (permL ix (vs ++ zs)).length = (permL ix (l ++ l2)).length from ra.length.symm]
      exact fnM_len (S := []) fun z => by rw [nbF, z] at p2; exact p2
    · show Post K (ofX _) g2.bare (fnM np nn b (permL ix (l ++ l2)) []) [] _
      cases q : fnM np nn b (permL ix (l ++ l2)) [] with
      | ok d S =>
        rw [nbF, q] at p2
        have p2 : Post K W g2 (if D.lo 0 d = true then .ok d g2.S else .bad) σ fun d g' => ∀ v, RD K g' d v → Q v g'.H := p2
        by_cases hd : D.lo 0 d = true
        · rw [if_pos hd] at p2
          intro g' x s rp' v rdv
          obtain ⟨y1, y2, y3⟩ := back_bare r2 x rp'
          exact p2 _ y1 rfl y2 v (rdv.under y3 (fun i hi => absurd hi (Nat.not_lt_zero i)) hd)
        · rw [if_neg hd] at p2; exact False.elim p2
      | er xx S => rw [nbF, q] at p2; exact False.elim p2
      | bad => rw [nbF, q] at p2; exact False.elim p2
  · rw [if_neg hc] at p2; exact False.elim p2
theorem pm_callK0 {np nn : Nat} {b : MS} (F : FnG X.prog X.w X.K X.mg X.base CX0 k f fd ps fun vs H Q _ => spM X.K np (fnM np nn b) vs H Q E0) (hr : RoomG k X.A) (hg : Gl X x) (hm : X.mg x = some (.ref f)) (hk : PySem.W.keepIn X.K (.ref f) = true) (hb : KBindsG X.K fd ps ks 0 ix) (hnk : ks.length = nk)
    (hkw : PK X kws (tA X.K W mk)) (ka : KAt X kws ks) (hdb : (x == ("__debug__" : Str)) = false := by decide) : PE X (.Call (.Name x p) [] kws pos) (tE X.K W (mCallK 0 nk ix (nbF (fnM np nn b)) mNil mk)) :=
  PE.imp (pe_callKG0 (W := W) F hr hg hm hk hb passG0 hnk hkw ka hdb) fun σ H Q h => i_nil (i_callK h)
theorem pm_callKP0 {np nn : Nat} {b : MS} (F : FnG X.prog X.w X.K X.mg X.base CX0 k f fd ps fun vs H Q _ => spM X.K np (fnM np nn b) vs H Q E0) (hr : RoomG k X.A) (hg : Gl X x) (hm : X.mg x = some (.ref f)) (hk : PySem.W.keepIn X.K (.ref f) = true) (hb : KBindsG X.K fd ps ks 0 ix) (hnk : ks.length = nk)
    (hkw : PK X kws (tA X.K W mk)) (ka : KAt X kws ks) (hdb : (x == ("__debug__" : Str)) = false := by decide) : PE X (.Call (.Name x p) [] kws pos) (tE X.K W (mCallKP 0 nk ix (nbF (fnM np nn b)) mNil mk)) :=
  PE.imp (pe_callKG0 (W := W) F hr hg hm hk hb passG0 hnk hkw ka hdb) fun σ H Q h => i_nil (i_callKP h)
theorem pm_callK {np nn : Nat} {b : MS} (F : FnG X.prog X.w X.K X.mg X.base CX0 k f fd ps fun vs H Q _ => spM X.K np (fnM np nn b) vs H Q E0) (hr : RoomG k X.A) (hg : Gl X x) (hm : X.mg x = some (.ref f)) (hk : PySem.W.keepIn X.K (.ref f) = true) (hb : KBindsG X.K fd ps ks nu ix) (hnk : ks.length = nk)
    (ha : PA X (e :: es) (tA X.K W m)) (hkw : PK X kws (tA X.K W mk)) (ka : KAt X kws ks) (hdb : (x == ("__debug__" : Str)) = false := by decide) (he : starEach (e :: es) X.env = (false, eval e X.env) :: starEach es X.env := by rfl)
    (hpl : (backTo pos (starEach (e :: es) X.env)).any (·.1) = false := by rfl) : PE X (.Call (.Name x p) (e :: es) kws pos) (tE X.K W (mCallK nu nk ix (nbF (fnM np nn b)) m mk)) :=
  PE.imp (pe_callKG (W := W) F hr hg hm hk hb passG0 hnk ha hkw ka hdb he hpl) fun σ H Q h => i_callK h
theorem pm_callKP {np nn : Nat} {b : MS} (F : FnG X.prog X.w X.K X.mg X.base CX0 k f fd ps fun vs H Q _ => spM X.K np (fnM np nn b) vs H Q E0) (hr : RoomG k X.A) (hg : Gl X x) (hm : X.mg x = some (.ref f)) (hk : PySem.W.keepIn X.K (.ref f) = true) (hb : KBindsG X.K fd ps ks nu ix) (hnk : ks.length = nk)
    (ha : PA X (e :: es) (tA X.K W m)) (hkw : PK X kws (tA X.K W mk)) (ka : KAt X kws ks) (hdb : (x == ("__debug__" : Str)) = false := by decide) (he : starEach (e :: es) X.env = (false, eval e X.env) :: starEach es X.env := by rfl)
    (hpl : (backTo pos (starEach (e :: es) X.env)).any (·.1) = false := by rfl) : PE X (.Call (.Name x p) (e :: es) kws pos) (tE X.K W (mCallKP nu nk ix (nbF (fnM np nn b)) m mk)) :=
  PE.imp (pe_callKG (W := W) F hr hg hm hk hb passG0 hnk ha hkw ka hdb he hpl) fun σ H Q h => i_callKP h
end

/-! ### list(range(..)) -/
def mListR (f : List D → Option (List D)) (m : MA) : ME := fun e S => (m e S).bind fun l S1 => match f l with
  | some r => if r.length ≤ sz then .ok (.lst r) S1 else .bad
  | none => .bad
def mListRN (f : List D → Option (List D)) (m : MA) : ME := fun e S => (m e S).bind fun l S1 => match f l with
  | some r => if r.length ≤ sz then .ok (.ref S1.length) (S1 ++ [.lst r]) else .bad
  | none => .bad
/-- list(..) of a list or a tuple, changed later -/
def mListN (m : ME) : ME := fun e S => (m e S).bind fun d S1 => match gList S1 [d] with
  | some (.lst r) => .ok (.ref S1.length) (S1 ++ [.lst r])
  | _ => .bad
theorem range_rds {K : PySem.W.Frag} {g : G} (a c : Int) (n : Nat) : RDs K g (rangeD a c n) ((List.range n).map fun i => V.int (a + (i : Nat) * c)) := by
  unfold rangeD
  generalize List.range n = l
  induction l with
  | nil => exact RDs.nil
  | cons i r ih => exact RDs.cons (by rw [RD]) ih
/-- a range object, made for the call at hand -/
def PRgC (X : Cx) (e : Expr) (t : L2.St → Hp → (Int → Int → Int → Hp → Prop) → Prop) : Prop :=
  ∀ (pins : List (Addr × Obj)) (s : Shared) (σ : L2.St) (H : Hp) (Q : Int → Int → Int → Hp → Prop), L2.Inv X pins σ H s → t σ H Q →
    wpAny (model X.prog X.w) X.A (eval e X.env) (fun x s' => ∃ r a b c t u v H', x = .ref r ∧ IsRange s'.heap r a b c t u v ∧ L2.Inv X pins σ H' s' ∧ Q a b c H') X.xe s
section
variable {X : Cx} {W : WX'} {ta : TA} {p pos : Pos}
theorem prgC_1 {a : Expr} (hg : Gl X "range") (hm : X.mg "range" = none) (ha : PA X [a] ta) (hs : starEach [a] X.env = [(false, eval a X.env)] := by rfl) : PRgC X (.Call (.Name "range" p) [a] [] pos) fun σ H Q => ta σ H fun vs H1 => ∃ b : Int, vs = [.int b] ∧ Q 0 b 1 H1 := by
  intro pins s σ H Q I h
  refine Call_ (ld_blt I hg hm boot_range (PyProof.Rows.callWith_type1 (thn (ha.run pos pins s σ H _ I h) fun us s1 ⟨vs, H1, I1, r1, b, e, q⟩ => ?_) hs rfl))
  subst e
  obtain ⟨u, rfl, t, rfl⟩ := vals1 r1
  exact call_range_1 ⟨_, 0, b, 1, _, _, _, H1, rfl, IsRange.new _ _ _ _ _ _ _, I1.kept fun b u e => Heap.get?_push_of_some _ e, q⟩
theorem prgC_2 {a b : Expr} (hg : Gl X "range") (hm : X.mg "range" = none) (ha : PA X [a, b] ta) (hs : starEach [a, b] X.env = [(false, eval a X.env), (false, eval b X.env)] := by rfl) (hs2 : starEach [b] X.env = [(false, eval b X.env)] := by rfl) :
    PRgC X (.Call (.Name "range" p) [a, b] [] pos) fun σ H Q => ta σ H fun vs H1 => ∃ i j : Int, vs = [.int i, .int j] ∧ Q i j 1 H1 := by
  intro pins s σ H Q I h
  refine Call_ (ld_blt I hg hm boot_range (PyProof.Rows.callWith_type1 (thn (ha.run pos pins s σ H _ I h) fun us s1 ⟨vs, H1, I1, r1, i, j, e, q⟩ => ?_) (by rw [hs, hs2]) (by rw [hs2]; rfl)))
  subst e
  obtain ⟨u, w', rfl, ⟨t, rfl⟩, ⟨t', rfl⟩⟩ := vals2 r1
  exact call_range_2 ⟨_, i, j, 1, _, _, _, H1, rfl, IsRange.new _ _ _ _ _ _ _, I1.kept fun b u e => Heap.get?_push_of_some _ e, q⟩
theorem prgC_3 {a b c : Expr} (hg : Gl X "range") (hm : X.mg "range" = none) (ha : PA X [a, b, c] ta) (hs : starEach [a, b, c] X.env = (false, eval a X.env) :: starEach [b, c] X.env := by rfl) (hpl : (backTo pos (starEach [b, c] X.env)).any (·.1) = false := by rfl) :
    PRgC X (.Call (.Name "range" p) [a, b, c] [] pos) fun σ H Q => ta σ H fun vs H1 => ∃ i j k : Int, vs = [.int i, .int j, .int k] ∧ k ≠ 0 ∧ k.natAbs < 1073741824 ∧ Q i j k H1 := by
  intro pins s σ H Q I h
  refine Call_ (ld_blt I hg hm boot_range (PyProof.Rows.callWith_type1 (thn (ha.run pos pins s σ H _ I h) fun us s1 ⟨vs, H1, I1, r1, i, j, k, e, c0, c1, q⟩ => ?_) hs hpl))
  subst e
  cases r1 with
  | cons r rr =>
    obtain ⟨u, w', rfl, ⟨t', rfl⟩, ⟨t'', rfl⟩⟩ := vals2 rr
    obtain ⟨t, rfl⟩ := r
    exact call_range_3 c0 ⟨_, i, j, k, _, _, _, H1, rfl, IsRange.new _ _ _ _ _ _ _, I1.kept (t' := s1.toks) fun b u e => Heap.get?_push_of_some _ e, q⟩ (.inl (PyProof.noPylong_small c1))
theorem vals_rgC {a c : Int} {n : Nat} {acc : Array Value} (h : ItemsOf (fun i v => ∃ t, v = .int (a + i * c) t) acc n) : Vals ((List.range n).map fun i => V.int (a + (i : Nat) * c)) acc.toList := by
  have e : acc.toList.length = n := by rw [Array.length_toList]; exact h.1
  rw [← e]
  refine vals_of_get acc.toList _ fun j u hj => ?_
  obtain ⟨t, rfl⟩ := h.2 j u (by rw [← hj, Array.getElem?_toList])
  exact ⟨t, rfl⟩
theorem pe_listRgC {e : Expr} {te : L2.St → Hp → (Int → Int → Int → Hp → Prop) → Prop} (hc : X.calm = true) (hg : Gl X "list") (hm : X.mg "list" = none) (he : PRgC X e te) (na : starEach [e] X.env = (false, eval e X.env) :: starEach [] X.env := by rfl) :
    PE X (.Call (.Name "list" p) [e] [] pos) fun σ H Q => te σ H fun a b c H1 => ∃ n : Nat, Builtin.Range.small a b c = true ∧ Builtin.Range.rangeSize a b c = n ∧ n ≤ 16777216 ∧ ∀ q, H1 q = none → Q (.ref q) (upd H1 q (.lst ((List.range n).map fun i => V.int (a + (i : Nat) * c)))) := by
  constructor
  intro pins s σ H Q I h
  refine Call_ (ld_blt I hg hm boot_list (PyProof.Rows.callWith_type1 (args_cons (thn (he pins s σ H _ I h) fun x s1 ⟨r, a, b, c, t, u, v, H1, ex, hr, I1, n, b1, b2, b3, q⟩ => args_nil ?_) na) na))
  subst ex
  refine call_list_range (n := n) (I1.ok.hd hc) hr b1 b2 b3 fun h' tk acc c' hk e' hi => ?_
  refine ⟨.ref s1.heap.objs.size, _, I1.laid hk (Nat.le_refl _) (show ObjOk X.prog X.w _ _ _ (.lst ((List.range n).map fun i => V.int (a + (i : Nat) * c))) from ⟨?_, acc.toList, c', vals_rgC hi, ?_⟩), rfl, q _ (I1.hok.fresh (Nat.le_refl _))⟩
  · rw [List.length_map, List.length_range, sizeLine_eq]; exact b3
  · rw [Array.toArray_toList]; exact e'
theorem range1_fact (b : Int) (h : b.natAbs < 4611686018427387904) : Builtin.Range.small 0 b 1 = true ∧ Builtin.Range.rangeSize 0 b 1 = b.toNat := by
  refine ⟨small_one (by omega) (by omega) (by omega) (by omega), ?_⟩
  rw [rangeSize_nat, Int.sub_zero]
theorem range2_fact (a b : Int) (h : a.natAbs < 4611686018427387904) (h2 : b.natAbs < 4611686018427387904) : Builtin.Range.small a b 1 = true ∧ Builtin.Range.rangeSize a b 1 = (b - a).toNat :=
  ⟨small_one (by omega) (by omega) (by omega) (by omega), rangeSize_nat a b⟩
/-- what a list of a range asks, by the data -/
theorem i_listR {K : PySem.W.Frag} {σ : L2.St} {H : Hp} {Q : VK} {f : List D → Option (List D)} {m : MA} {k : List V → Hp → Prop} (h : tE K W (mListR f m) σ H Q)
    (hk : ∀ g l vs r, Rep K g → RDs K g l vs → f l = some r → r.length ≤ sz → (∀ us q, RDs K g r us → g.H q = none → Q (.ref q) (upd g.H q (.lst us))) → k vs g.H) : tA K W m σ H k := by
  obtain ⟨g, e, hH, rp, re, p⟩ := h
  subst hH
  refine ⟨g, e, rfl, rp, re, (Post.bind p).imp fun l g1 e1 r1 ⟨_, _, p1⟩ vs rv => ?_⟩
  cases q : f l with
  | none => rw [q] at p1; exact False.elim p1
  | some r =>
    rw [q] at p1
    dsimp only at p1
    by_cases hz : r.length ≤ sz
    · rw [if_pos hz] at p1
      refine hk g1 l vs r r1 rv q hz fun us a ru ha => ?_
      obtain ⟨x1, x2, x3⟩ := new_lst r1 ha ru
      exact p1 _ x1 rfl x2 _ x3
    · rw [if_neg hz] at p1; exact False.elim p1
theorem i_listRN {K : PySem.W.Frag} {σ : L2.St} {H : Hp} {Q : VK} {f : List D → Option (List D)} {m : MA} {k : List V → Hp → Prop} (h : tE K W (mListRN f m) σ H Q)
    (hk : ∀ g l vs r, Rep K g → RDs K g l vs → f l = some r → r.length ≤ sz → (∀ us q, RDs K g r us → g.H q = none → Q (.ref q) (upd g.H q (.lst us))) → k vs g.H) : tA K W m σ H k := by
  obtain ⟨g, e, hH, rp, re, p⟩ := h
  subst hH
  refine ⟨g, e, rfl, rp, re, (Post.bind p).imp fun l g1 e1 r1 ⟨_, _, p1⟩ vs rv => ?_⟩
  cases q : f l with
  | none => rw [q] at p1; exact False.elim p1
  | some r =>
    rw [q] at p1
    dsimp only at p1
    by_cases hz : r.length ≤ sz
    · rw [if_pos hz] at p1
      refine hk g1 l vs r r1 rv q hz fun us a ru ha => ?_
      obtain ⟨x1, x2, x3⟩ := new_ref r1 ha ru
      exact p1 _ x1 rfl x2 _ x3
    · rw [if_neg hz] at p1; exact False.elim p1
theorem rangeA1_inv {K : PySem.W.Frag} {g : G} {l r : List D} {vs : List V} (rv : RDs K g l vs) (q : rangeA1 l = some r) : ∃ b : Int, vs = [.int b] ∧ b.natAbs < 4611686018427387904 ∧ r = rangeD 0 1 b.toNat := by
  unfold rangeA1 at q
  split at q
  · split at q
    · rename_i b hc
      cases q
      obtain ⟨v, rfl, h1⟩ := rv.one
      rw [RD] at h1; subst h1
      exact ⟨b, rfl, hc, rfl⟩
    · cases q
  · cases q
theorem rangeA2_inv {K : PySem.W.Frag} {g : G} {l r : List D} {vs : List V} (rv : RDs K g l vs) (q : rangeA2 l = some r) : ∃ a b : Int, vs = [.int a, .int b] ∧ a.natAbs < 4611686018427387904 ∧ b.natAbs < 4611686018427387904 ∧ r = rangeD a 1 (b - a).toNat := by
  unfold rangeA2 at q
  split at q
  · split at q
    · rename_i i j hc
      cases q
      obtain ⟨v, u, rfl, h1, h2⟩ := rv.two
      simp only [RD] at h1 h2; subst h1; subst h2
      exact ⟨i, j, rfl, hc.1, hc.2, rfl⟩
    · cases q
  · cases q
theorem rangeA3_inv {K : PySem.W.Frag} {g : G} {l r : List D} {vs : List V} (rv : RDs K g l vs) (q : rangeA3 l = some r) : ∃ a b c : Int, vs = [.int a, .int b, .int c] ∧ c ≠ 0 ∧ c.natAbs < 1073741824 ∧ Builtin.Range.small a b c = true ∧ 0 ≤ Builtin.Range.rangeSize a b c ∧ r = rangeD a c (Builtin.Range.rangeSize a b c).toNat := by
  unfold rangeA3 at q
  split at q
  · split at q
    · rename_i i j k hc
      cases q
      rw [RDs] at rv
      obtain ⟨v, vs', rfl, h1, h2⟩ := rv
      obtain ⟨u, w, rfl, h3, h4⟩ := h2.two
      simp only [RD] at h1 h3 h4; subst h1; subst h3; subst h4
      exact ⟨i, j, k, rfl, hc.1, hc.2.1, hc.2.2.1, hc.2.2.2, rfl⟩
    · cases q
  · cases q
theorem sz16 {n : Nat} (h : n ≤ sz) : n ≤ 16777216 := h
section
variable {a b c e0 : Expr} {m : MA} {p2 pos2 : Pos}
theorem pm_listR1 (hc : X.calm = true) (hl : Gl X "list") (hlm : X.mg "list" = none) (hg : Gl X "range") (hm : X.mg "range" = none) (ha : PA X [a] (tA X.K W m)) (hs : starEach [a] X.env = [(false, eval a X.env)] := by rfl)
    (na : starEach [.Call (.Name "range" p2) [a] [] pos2] X.env = (false, eval (.Call (.Name "range" p2) [a] [] pos2) X.env) :: starEach [] X.env := by rfl) : PE X (.Call (.Name "list" p) [.Call (.Name "range" p2) [a] [] pos2] [] pos) (tE X.K W (mListR rangeA1 m)) :=
  PE.imp (pe_listRgC hc hl hlm (prgC_1 hg hm ha hs) na) fun σ H Q h => i_listR h fun g l vs r rp rv q hz k => by
    obtain ⟨b, rfl, h1, rfl⟩ := rangeA1_inv rv q
    obtain ⟨f1, f2⟩ := range1_fact b h1
    rw [range_len] at hz
    exact ⟨b, rfl, b.toNat, f1, f2, sz16 hz, fun q hq => k _ q (range_rds 0 1 _) hq⟩
theorem pm_listRN1 (hc : X.calm = true) (hl : Gl X "list") (hlm : X.mg "list" = none) (hg : Gl X "range") (hm : X.mg "range" = none) (ha : PA X [a] (tA X.K W m)) (hs : starEach [a] X.env = [(false, eval a X.env)] := by rfl)
    (na : starEach [.Call (.Name "range" p2) [a] [] pos2] X.env = (false, eval (.Call (.Name "range" p2) [a] [] pos2) X.env) :: starEach [] X.env := by rfl) : PE X (.Call (.Name "list" p) [.Call (.Name "range" p2) [a] [] pos2] [] pos) (tE X.K W (mListRN rangeA1 m)) :=
  PE.imp (pe_listRgC hc hl hlm (prgC_1 hg hm ha hs) na) fun σ H Q h => i_listRN h fun g l vs r rp rv q hz k => by
    obtain ⟨b, rfl, h1, rfl⟩ := rangeA1_inv rv q
    obtain ⟨f1, f2⟩ := range1_fact b h1
    rw [range_len] at hz
    exact ⟨b, rfl, b.toNat, f1, f2, sz16 hz, fun q hq => k _ q (range_rds 0 1 _) hq⟩
theorem pm_listR2 (hc : X.calm = true) (hl : Gl X "list") (hlm : X.mg "list" = none) (hg : Gl X "range") (hm : X.mg "range" = none) (ha : PA X [a, b] (tA X.K W m)) (hs : starEach [a, b] X.env = [(false, eval a X.env), (false, eval b X.env)] := by rfl) (hs2 : starEach [b] X.env = [(false, eval b X.env)] := by rfl)
    (na : starEach [.Call (.Name "range" p2) [a, b] [] pos2] X.env = (false, eval (.Call (.Name "range" p2) [a, b] [] pos2) X.env) :: starEach [] X.env := by rfl) : PE X (.Call (.Name "list" p) [.Call (.Name "range" p2) [a, b] [] pos2] [] pos) (tE X.K W (mListR rangeA2 m)) :=
  PE.imp (pe_listRgC hc hl hlm (prgC_2 hg hm ha hs hs2) na) fun σ H Q h => i_listR h fun g l vs r rp rv q hz k => by
    obtain ⟨i, j, rfl, h1, h2, rfl⟩ := rangeA2_inv rv q
    obtain ⟨f1, f2⟩ := range2_fact i j h1 h2
    rw [range_len] at hz
    exact ⟨i, j, rfl, (j - i).toNat, f1, f2, sz16 hz, fun q hq => k _ q (range_rds i 1 _) hq⟩
theorem pm_listR3 (hc : X.calm = true) (hl : Gl X "list") (hlm : X.mg "list" = none) (hg : Gl X "range") (hm : X.mg "range" = none) (ha : PA X [a, b, c] (tA X.K W m)) (hs : starEach [a, b, c] X.env = (false, eval a X.env) :: starEach [b, c] X.env := by rfl) (hpl : (backTo pos2 (starEach [b, c] X.env)).any (·.1) = false := by rfl)
    (na : starEach [.Call (.Name "range" p2) [a, b, c] [] pos2] X.env = (false, eval (.Call (.Name "range" p2) [a, b, c] [] pos2) X.env) :: starEach [] X.env := by rfl) : PE X (.Call (.Name "list" p) [.Call (.Name "range" p2) [a, b, c] [] pos2] [] pos) (tE X.K W (mListR rangeA3 m)) :=
  PE.imp (pe_listRgC hc hl hlm (prgC_3 hg hm ha hs hpl) na) fun σ H Q h => i_listR h fun g l vs r rp rv q hz k => by
    obtain ⟨i, j, c, rfl, h1, h2, h3, h4, rfl⟩ := rangeA3_inv rv q
    rw [range_len] at hz
    exact ⟨i, j, c, rfl, h1, h2, _, h3, by omega, sz16 hz, fun q hq => k _ q (range_rds i c _) hq⟩
end
end

/-! ### the law's end -/
/-- the law's call, from its promise -/
theorem law_callG {P : Program} {w : World} {K : PySem.W.Frag} {mg mb : Str → Option Value} {CX : CXT} {k : Nat} {fa a : Addr} {fd : FuncData} {x : Str} {sp : Sp} {s₁ : Shared} {vs : List Value} {ns : List Int}
    (KX : K.In s₁.heap) (hns : s₁.heap.Ns mainGlobals mg) (hb : s₁.heap.Ns builtinsNs mb) (hbb : ∀ x : Str, x ≠ "__name__" → mb x = bootBuiltins x) (hlim : s₁.heap.NoLimit) (hg : s₁.gens = #[])
    (ha : s₁.heap.get? a = some { cls := .type "list", data := .seq vs.toArray }) (hi : IntsAre vs ns) (hl : ns.length ≤ sizeLine) (hr : RoomG k callerA)
    (F : ∀ base : Heap, K.In base → base.Ns mainGlobals mg → FnG P w K mg base CX k fa fd [x] sp) (hbind : ∀ (s : Shared) (u : Value), BindsTo s fd ⟨[u], []⟩ [(x, u)])
    (hsp : ∀ H : Hp, Only H → SqL K H a (ns.map V.int) → sp [.ref a] H (fun v _ => v = .bl true) fun _ _ _ => False)
    (hCX : ∀ H e s', CX [] H s₁ (fun _ _ _ => False) e s' → False) :
    codeAny (model P w) callerA (.call (.ref fa) ⟨[.ref a], []⟩) (fun r s' => r = .ok (.ret (.bool true)) ∧ OldK s₁.heap s'.heap ∧ s'.os = s₁.os ∧ AllBare s'.gens) s₁ := by
  have rv := vals_ints hi
  have lenV := hi.length
  -- nothing is tracked but the script, where it isn't one of the module's own objects
  have go : ∀ H : Hp, Only H → SqL K H a (ns.map V.int) → HOk P w H s₁.heap → (∀ b, H b ≠ none → b = a) → (H a ≠ none → K.lookup a = none) →
      codeAny (model P w) callerA (.call (.ref fa) ⟨[.ref a], []⟩) (fun r s' => r = .ok (.ret (.bool true)) ∧ OldK s₁.heap s'.heap ∧ s'.os = s₁.os ∧ AllBare s'.gens) s₁ := by
    intro H hO hS hok hA hK
    have untracked : ∀ {b : Addr} {o : Obj} {es : Array DictEntry} {ep : Nat}, s₁.heap.get? b = some o → o.data = .dict es ep → H b = none := fun {b o es ep} e d => by
      cases q : H b with
      | none => rfl
      | some u =>
        exfalso
        have e' : b = a := hA b (by rw [q]; simp)
        rw [e', ha] at e
        cases e
        cases d
    have nsOf : ∀ {b : Addr} {m : Str → Option Value}, s₁.heap.Ns b m → (hidT s₁.heap H).Ns b m := fun {b m} ⟨o, es, ep, e, d, r⟩ => ⟨o, es, ep, hidT_get e (untracked e d), d, r⟩
    have hKb : K.In (hidT s₁.heap H) := fun b o e => hidT_get (KX b o e) (by
      cases q : H b with
      | none => rfl
      | some u =>
        exfalso
        have e' : b = a := hA b (by rw [q]; simp)
        have z := hK (by rw [← e', q]; simp)
        rw [← e', e] at z
        cases z)
    have hM : Mod K mg (hidT s₁.heap H) := ⟨hKb, nsOf hns, ⟨mb, nsOf hb, hbb⟩, let ⟨mc, h1, h2⟩ := hlim; ⟨mc, nsOf h1, h2⟩⟩
    have none_in : ∀ b : Addr, b ∉ frs ([] : List PySem.Env) := fun b z => absurd (show b ∈ ([] : List Addr) from z) (by simp)
    have e0 : Env0 P w K mg (hidT s₁.heap H) callerA [] s₁ H := ⟨rfl, hM, fun b o e => of_hidT e, Nat.le_of_eq (hidT_size _ _), trivial, fun b z => absurd z (none_in b), hok, .of_eq hg⟩
    refine codeAny_mono ((F _ hKb (nsOf hns)).run callerA [] s₁ H ⟨[.ref a], []⟩ [.ref a] [.ref a] _ _ hr e0 (hbind s₁ (.ref a)) (.cons rfl .nil) (hsp H hO hS)) fun r s' h => ?_
    cases r with
    | error e => exact (hCX H e s' h).elim
    | ok fl =>
      cases fl with
      | ret u =>
        obtain ⟨v, H', os, bare, un, hok', r', q⟩ := h
        have q' : v = .bl true := q
        subst q'
        obtain rfl : u = Value.bool true := r'
        refine ⟨rfl, OldK.of_keep fun b o e => ?_, os, bare⟩
        cases q : H b with
        | none => exact un.keep b o e q (none_in b) (by simp)
        | some u =>
          rcases hO b with z | ⟨ob, xs, z⟩
          · rw [q] at z; cases z
          · obtain ⟨e1, _⟩ := hok b _ z
            obtain ⟨e2, _⟩ := hok' b _ (un.frzs b ob _ z)
            rw [e] at e1; cases e1
            exact e2
      | next => exact False.elim h
      | brk => exact False.elim h
      | cont => exact False.elim h
  cases hk : K.lookup a with
  | some o =>
    have e := KX a o hk
    rw [ha] at e
    cases e
    exact go (fun _ => none) (fun _ => .inl rfl) (.inr ⟨_, vs.toArray, _, hk, rfl, rfl, rfl, by rw [List.size_toArray, lenV]; exact hl, by simpa using rv⟩) (fun b u z => by cases z) (fun b z => absurd rfl z) fun z => absurd rfl z
  | none =>
    let own : Hp := fun b => if b = a then some (.frz { cls := .type "list", data := .seq vs.toArray } (.lst (ns.map V.int))) else none
    have at1 : own a = some (.frz { cls := .type "list", data := .seq vs.toArray } (.lst (ns.map V.int))) := if_pos rfl
    have off1 : ∀ b, b ≠ a → own b = none := fun b h => if_neg h
    refine go own (fun b => ?_) (.inl (.inr ⟨_, at1⟩)) (fun b u z => ?_) (fun b z => ?_) fun _ => hk
    · by_cases h : b = a
      · subst h; exact .inr ⟨_, _, at1⟩
      · exact .inl (off1 b h)
    · by_cases h : b = a
      · subst h
        rw [at1] at z
        cases z
        exact ⟨ha, by rw [List.length_map]; exact hl, vs, _, rv, ha⟩
      · rw [off1 b h] at z; cases z
    · by_cases h : b = a
      · exact h
      · exact absurd (off1 b h) z
theorem walk_G {l : PySem.W.OpenLaw} {k np nn : Nat} {q : Program} {loose : List Str} {XP : (Str → Option Value) → Heap → Prop} {YP : World → Heap → Prop} {d : DefRec} {K : Params → PySem.W.Frag} {x : Str}
    (hn : l.most = some 63) (hdf : d.params.defaults = []) (hr : Room k callerA) (hY : ∀ (w : World) (h : Heap), YP w h → (K w.params).In h)
    (F : ∀ (w : World) (mg : Str → Option Value) (fa : Addr) (h : Heap), (K w.params).In h → h.Ns mainGlobals mg → mg d.name = some (.ref fa) →
      ∃ fd : FuncData, (∀ (s : Shared) (u : Value), BindsTo s fd ⟨[u], []⟩ [(x, u)]) ∧ ∃ b : MS, (∀ ns : List Int, ns.length ≤ 63 → ∃ S, fnM np nn b [.kl (ns.map D.int)] [] = .ok (.bl true) S) ∧
        ∀ base : Heap, (K w.params).In base → base.Ns mainGlobals mg → FnG l.prog w (K w.params) mg base CX0 k fa fd [x] fun vs H Q _ => spM (K w.params) np (fnM np nn b) vs H Q E0) :
    PySem.W.WalkO q loose XP YP l.row.toRowW d [] (fun f vs => PySem.call f vs) := by
  refine Att.attach_call hn hdf fun w s₀ s₁ mg mb fa o pm cd doc a vs ns G Y ho hd hcd hmg hobj hints hlen hg => ?_
  have KX := hY w _ Y
  obtain ⟨fd, hb, b, hlaw, hF⟩ := F w mg fa _ KX G.T.g hmg
  refine law_callG KX G.T.g G.T.b G.T.builtins G.T.nolimit hg hobj hints (Nat.le_trans hlen (by decide)) ⟨hr, rfl⟩ hF hb (fun H hO hS => ?_) fun H e s' h => h
  obtain ⟨S', hS'⟩ := hlaw ns hlen
  have hnp := fnM_len (ds := [.kl (ns.map D.int)]) (S := []) fun z => by rw [hS'] at z; cases z
  refine ⟨hnp, { N := fun _ => False, ρ := fun _ => 0, S := [], H := H }, [.kl (ns.map D.int)], rfl, ⟨fun _ z => z.elim, fun i j o u q => by simp at q, fun i o q => by simp at q⟩, RDs.cons ?_ RDs.nil, ?_⟩
  · rw [RD]
    refine ⟨a, ns.map V.int, rfl, ?_, rds_of_ints ns⟩
    rcases hS with h | h
    · exact .inl ⟨h, fun z => z, not_live_nil rfl⟩
    · exact .inr (.inr h)
  · show Post _ _ _ (fnM np nn b [.kl (ns.map D.int)] []) [] _
    rw [hS']
    intro g' _ _ _ v rv
    rw [RD] at rv
    exact rv
end Mo

namespace Mo
open PySem PySem.Spec L2 PyProof.Rows

/-! ### another mirror of the same text -/
theorem tE_ref {K : PySem.W.Frag} {W : WX'} {m m' : ME} {σ : L2.St} {H : Hp} {Q : VK} (h : ∀ e S, m' e S ≠ .bad → m e S = m' e S) (q : tE K W m' σ H Q) : tE K W m σ H Q := by
  obtain ⟨g, e, hH, rp, re, p⟩ := q
  refine ⟨g, e, hH, rp, re, ?_⟩
  rw [h e g.S fun z => by rw [z] at p; exact p]
  exact p
theorem tT_ref {K : PySem.W.Frag} {W : WX'} {m m' : MT} {σ : L2.St} {H : Hp} {Q : Bool → Hp → Prop} (h : ∀ e S, m' e S ≠ .bad → m e S = m' e S) (q : tT K W m' σ H Q) : tT K W m σ H Q := by
  obtain ⟨g, e, hH, rp, re, p⟩ := q
  refine ⟨g, e, hH, rp, re, ?_⟩
  rw [h e g.S fun z => by rw [z] at p; exact p]
  exact p
/-- repr(a) == repr(b), without the texts where the data are alike -/
def okRepr (S : List O) (d : D) : Bool := match toPyS S d with
  | some p => p.showable && !p.hasDict && decide (p.depth ≤ 64) && decide (lenB p ≤ sz)
  | none => false
def offS : D → Bool
  | .ref _ => false
  | _ => true
def mReprEq (f : Op2) (ma mb : ME) : ME := fun e S => (ma e S).bind fun a S1 => if okRepr S1 a = true then (mb e S1).bind fun b S2 =>
  if offS a = true ∧ a = b then R.ofO S2 (f S2 (.int 0) (.int 0)) else R.ofO S2 ((gRepr S1 [a]).bind fun x => (gRepr S2 [b]).bind fun y => f S2 x y) else .bad
theorem okRepr_at {S : List O} {d : D} (h : okRepr S d = true) : ∃ x, gRepr S [d] = some (.str x) ∧ ∀ S', offS d = true → gRepr S' [d] = some (.str x) := by
  unfold okRepr at h
  cases e : toPyS S d with
  | none => rw [e] at h; cases h
  | some p =>
    rw [e] at h
    simp only [Bool.and_eq_true, decide_eq_true_eq, Bool.not_eq_true'] at h
    obtain ⟨⟨⟨h1, h2⟩, h3⟩, h4⟩ := h
    have key : ∀ S', toPyS S' d = some p → gRepr S' [d] = some (.str p.shown) := fun S' e' => by
      show (shownD S' d).map D.str = _
      unfold shownD
      rw [e']
      show (if _ then _ else _ : Option Str).map D.str = _
      rw [if_pos ⟨h1, h2, h3, h4⟩]
      rfl
    refine ⟨p.shown, key S e, fun S' ho => key S' ?_⟩
    cases d <;> first | (cases ho; done) | exact e
theorem reprEq_ref {f : Op2} {ma mb : ME} (hf : ∀ S x, f S (.str x) (.str x) = f S (.int 0) (.int 0)) (e : Env) (S : List O) (h : mReprEq f ma mb e S ≠ .bad) : mBin f (mCB gRepr (mCons ma mNil)) (mCB gRepr (mCons mb mNil)) e S = mReprEq f ma mb e S := by
  unfold mReprEq at h ⊢
  unfold mBin mCB mCons mNil
  cases ha : ma e S with
  | er x S1 => rfl
  | bad => rfl
  | ok a S1 =>
    rw [ha] at h
    simp only [R.bind] at h ⊢
    by_cases ho : okRepr S1 a = true
    · rw [if_pos ho] at h ⊢
      obtain ⟨x, h1, h2⟩ := okRepr_at ho
      rw [h1]
      simp only [R.ofO]
      cases hb : mb e S1 with
      | er x S1 => rfl
      | bad => rfl
      | ok b S2 =>
        simp only []
        by_cases hc : offS a = true ∧ a = b
        · rw [if_pos hc, ← hc.2, h2 S2 hc.1]
          simp only []
          rw [hf]
        · rw [if_neg hc]
          simp only [Option.bind]
          cases hy : gRepr S2 [b] <;> rfl
    · rw [if_neg ho] at h
      exact absurd rfl h
section
variable {X : Cx} {W : WX'} {a b : Expr} {ma mb : ME} {pos : Pos}
theorem pm_reprEq (h : PE X a (tE X.K W (mBin gEq (mCB gRepr (mCons ma mNil)) (mCB gRepr (mCons mb mNil))))) : PE X a (tE X.K W (mReprEq gEq ma mb)) := PE.imp h fun σ H Q => tE_ref (reprEq_ref fun S x => by unfold gEq eqB scD; simp)
theorem qm_reprEq (h : PT X a (tT X.K W (mTB (mBin gEq (mCB gRepr (mCons ma mNil)) (mCB gRepr (mCons mb mNil)))))) : PT X a (tT X.K W (mTB (mReprEq gEq ma mb))) := PT.imp h fun σ H Q => tT_ref fun e S hh => by
  unfold mTB at hh ⊢
  rw [reprEq_ref (fun S x => by unfold gEq eqB scD; simp) e S fun z => hh (by rw [z]; rfl)]
theorem qm_reprNe (h : PT X a (tT X.K W (mTB (mBin gNe (mCB gRepr (mCons ma mNil)) (mCB gRepr (mCons mb mNil)))))) : PT X a (tT X.K W (mTB (mReprEq gNe ma mb))) := PT.imp h fun σ H Q => tT_ref fun e S hh => by
  unfold mTB at hh ⊢
  rw [reprEq_ref (fun S x => by unfold gNe eqB scD; simp) e S fun z => hh (by rw [z]; rfl)]
end

/-! ### running a mirror: one rule for each combinator -/
section
variable {e e1 e2 : Env} {S S1 S2 S3 S4 : List O} {a b d i : D} {ma mb mc m mo mi mv : ME} {mr : MA} {r : RS} {t u : MT} {k : Bool} {l : List D} {n : Nat}
theorem v_C : mC d e S = .ok d S := rfl
theorem v_var (h : e[n]? = some (some d)) : mVar n e S = .ok d S := by unfold mVar; rw [h]
theorem v_bin {f : Op2} (h1 : ma e S = .ok a S1) (h2 : mb e S1 = .ok b S2) (h3 : f S2 a b = some d) : mBin f ma mb e S = .ok d S2 := by
  unfold mBin; rw [h1]; show (mb e S1).bind _ = _; rw [h2]; show R.ofO S2 (f S2 a b) = _; rw [h3]; rfl
theorem v_un {f : Op1} (h1 : ma e S = .ok a S1) (h3 : f S1 a = some d) : mUn f ma e S = .ok d S1 := by
  unfold mUn; rw [h1]; show R.ofO S1 (f S1 a) = _; rw [h3]; rfl
theorem v_nil : mNil e S = .ok [] S := rfl
theorem v_cons (h1 : ma e S = .ok a S1) (h2 : mr e S1 = .ok l S2) : mCons ma mr e S = .ok (a :: l) S2 := by
  unfold mCons; rw [h1]; show (mr e S1).bind _ = _; rw [h2]; rfl
theorem v_cb {f : OpN} (h1 : mr e S = .ok l S1) (h2 : f S1 l = some d) : mCB f mr e S = .ok d S1 := by
  unfold mCB; rw [h1]; show R.ofO S1 (f S1 l) = _; rw [h2]; rfl
theorem v_tup (h1 : mr e S = .ok l S1) (h2 : l.length ≤ sz) : mTup mr e S = .ok (.tup l) S1 := by
  unfold mTup; rw [h1]; show (if _ then _ else _) = _; rw [if_pos h2]
theorem v_lst (h1 : mr e S = .ok l S1) (h2 : l.length ≤ sz) : mLst mr e S = .ok (.lst l) S1 := by
  unfold mLst; rw [h1]; show (if _ then _ else _) = _; rw [if_pos h2]
theorem v_new (h1 : mr e S = .ok l S1) (h2 : l.length ≤ sz) : mNew mr e S = .ok (.ref S1.length) (S1 ++ [.lst l]) := by
  unfold mNew; rw [h1]; show (if _ then _ else _) = _; rw [if_pos h2]
theorem v_call {f : List D → List O → R D} (h1 : mr e S = .ok l S1) {x : R D} (h2 : f l S1 = x) : mCall f mr e S = x := by
  unfold mCall; rw [h1]; exact h2
theorem v_tb (h1 : m e S = .ok (.bl k) S1) : mTB m e S = .ok k S1 := by unfold mTB; rw [h1]; rfl
theorem v_and (h1 : t e S = .ok k S1) {x : R Bool} (h2 : (if k then u e S1 else .ok false S1) = x) : mAnd t u e S = x := by unfold mAnd; rw [h1]; exact h2
theorem v_or (h1 : t e S = .ok k S1) {x : R Bool} (h2 : (if k then .ok true S1 else u e S1) = x) : mOr t u e S = x := by unfold mOr; rw [h1]; exact h2
theorem v_not (h1 : t e S = .ok k S1) : mNot t e S = .ok (!k) S1 := by unfold mNot; rw [h1]; rfl
theorem v_if (h1 : t e S = .ok k S1) {x : R D} (h2 : (if k then ma e S1 else mb e S1) = x) : mIf t ma mb e S = x := by unfold mIf; rw [h1]; exact h2
theorem w_seq {x y : MS} (h1 : x e S = .nx e1 S1) (h2 : y e1 S1 = r) : sSeq x y e S = r := by unfold sSeq; rw [h1]; exact h2
theorem w_seqR {x y : MS} (h1 : x e S = .rt d S1) : sSeq x y e S = .rt d S1 := by unfold sSeq; rw [h1]
theorem w_asg (h1 : m e S = .ok d S1) : sAsg n m e S = .nx (e.set n (some d)) S1 := by unfold sAsg; rw [h1]; rfl
theorem w_expr (h1 : m e S = .ok d S1) : sExpr m e S = .nx e S1 := by unfold sExpr; rw [h1]; rfl
theorem w_ret (h1 : m e S = .ok d S1) : sRet m e S = .rt d S1 := by unfold sRet; rw [h1]; rfl
theorem w_if {x y : MS} (h1 : t e S = .ok k S1) (h2 : (if k then x e S1 else y e S1) = r) : sIf t x y e S = r := by unfold sIf; rw [h1]; exact h2
theorem w_set (h1 : mv e S = .ok d S1) (h2 : mo e S1 = .ok a S2) (h3 : mi e S2 = .ok i S3) (h4 : fSet S3 a i d = some S4) : sSet mv mo mi e S = .nx e S4 := by
  unfold sSet; rw [h1]; show (mo e S1).st _ _ = _; rw [h2]; show (mi e S2).st _ _ = _; rw [h3]; show (match fSet S3 a i d with | some S4 => RS.nx e S4 | none => .bad) = _; rw [h4]
theorem x_ix {j : Nat} {l : List D} {i : Int} (h : S[j]? = some (.lst l)) (h2 : atI l i = some d) : gIx S (.ref j) (.int i) = some d := by
  show (match seqR S (.ref j) with | some l => atI l i | none => none) = _
  rw [show seqR S (.ref j) = some l by unfold seqR; simp only [h]]
  exact h2
theorem x_ixl {l : List D} {i : Int} (h2 : atI l i = some d) : gIx S (.lst l) (.int i) = some d := h2
theorem x_set {j q : Nat} {l : List D} {i : Int} (h : S[j]? = some (.lst l)) (h2 : ixN l.length i = some q) : fSet S (.ref j) (.int i) d = some (S.set j (.lst (l.set q d))) := by
  unfold fSet; simp only [h, h2]
theorem x_addI {i j : Int} : gAdd S (.int i) (.int j) = some (.int (i + j)) := rfl
theorem x_gt {i j : Int} : gGt S (.int i) (.int j) = some (.bl (decide (j < i))) := rfl
theorem x_ge {i j : Int} : gGe S (.int i) (.int j) = some (.bl (decide (j ≤ i))) := rfl
theorem x_le {i j : Int} : gLe S (.int i) (.int j) = some (.bl (decide (i ≤ j))) := rfl
theorem x_mod {i j : Int} (h : 0 < j) : gMod S (.int i) (.int j) = some (.int (i % j)) := by unfold gMod; simp only [h, if_true]
theorem log2_20 {j : Int} (h : 0 < j) (h2 : j < 100000000000000000000) : j.natAbs.log2 < 9000 := (Nat.log2_lt (by omega)).mpr (Nat.lt_of_lt_of_le (show j.natAbs < 100000000000000000000 by omega) (by decide +kernel))
theorem x_div {i j : Int} (h : 0 < j) (h2 : j < 100000000000000000000) : gDiv S (.int i) (.int j) = some (.int (i / j)) := by unfold gDiv; simp only [h, log2_20 h h2, and_self, if_true]
theorem x_mul {i j : Int} (h : i.natAbs < 18446744073709551616) : gMul S (.int i) (.int j) = some (.int (i * j)) := by unfold gMul; simp only [h, true_or, if_true]
theorem x_pow {i j : Int} (h : 0 ≤ j) (h1 : j ≤ 1000000) (h2 : i.natAbs < 18446744073709551616) : gPow S (.int i) (.int j) = some (.int (i ^ j.toNat)) := by unfold gPow; simp only [h, h1, h2, and_self, if_true]
theorem x_int {i : Int} : gInt S [.int i] = some (.int i) := rfl
theorem x_intB {k : Bool} : gInt S [.bl k] = some (.int (if k then 1 else 0)) := rfl
theorem x_lenL {l : List D} : gLen S [.lst l] = some (.int l.length) := rfl
end
theorem toPys_ints : ∀ cs : List Int, toPys (cs.map D.int) = some (cs.map PyData.int)
  | [] => rfl
  | c :: cs => by
    rw [List.map_cons, toPys, toPys_ints cs]
    rfl
theorem trim_same {b : Bool} {S S' : List O} (h : S'.length = S.length) : trimS b S S' = S' := by
  unfold trimS
  split
  · rw [← h, List.take_length]
  · rfl
theorem canLay_ints : ∀ cs : List Int, PyData.canLayAll0 (cs.map PyData.int) = true ∧ PyData.depthAll (cs.map PyData.int) = 0
  | [] => ⟨rfl, rfl⟩
  | c :: cs => by
    obtain ⟨h1, h2⟩ := canLay_ints cs
    constructor
    · rw [List.map_cons, PyData.canLayAll0, h1]; rfl
    · rw [List.map_cons, PyData.depthAll, h2]; rfl
theorem shaped_ints (cs : List Int) : SeqAt.shaped (.list (cs.map PyData.int)) = true := by
  unfold SeqAt.shaped
  rw [PyData.canLay0, (canLay_ints cs).1, PyData.depth, (canLay_ints cs).2]
  decide
/-- xs == [] -/
theorem x_eqNil {S : List O} {cs : List Int} : gEq S (.lst (cs.map .int)) (.lst []) = some (.bl (decide (cs = []))) := by
  unfold gEq eqB
  rw [show scD (.lst (cs.map .int)) (.lst []) = none by rfl]
  dsimp only
  rw [show toPyS S (.lst (cs.map .int)) = some (.list (cs.map PyData.int)) by
    show toPy (.lst (cs.map .int)) = _
    rw [toPy, toPys_ints]]
  rw [show toPyS S (.lst []) = some (.list []) by rfl]
  dsimp only
  rw [if_pos ⟨shaped_ints cs, by decide +kernel⟩]
  cases cs with
  | nil => rfl
  | cons c cs => rfl
/-! ### the numbers that a script gives -/
def bFeed : MS :=
  sRet (mNew (mCons (mC (.int 0)) (mCons (mComp (miSeq (mSl (mVar 0) moN (moS (mC (.int 63))))) (tgN 1) mYes (mCB gAbs (mCons (mVar 1) mNil)) [1]) (mCons (mC (.int 0)) (mCons (mC (.int 0)) mNil)))))
def bDraw : MS :=
  sSeq (sSet (mBin gAdd (mBin gIx (mVar 0) (mC (.int 3))) (mC (.int 1))) (mVar 0) (mC (.int 3))) (
  sSeq (sIf (mTB (mBin gGt (mBin gIx (mVar 0) (mC (.int 0))) (mC (.int 0)))) (
  sSeq (sAsg 2 (mBin gMod (mCB gInt (mCons (mBin gIx (mVar 0) (mC (.int 0))) mNil)) (mVar 1))) (
  sSeq (sSet (mBin gDiv (mBin gIx (mVar 0) (mC (.int 0))) (mVar 1)) (mVar 0) (mC (.int 0))) (
  sRet (mVar 2)))) (
  sNil)) (
  sSeq (sAsg 3 (mBin gAdd (mBin gIx (mVar 0) (mC (.int 1))) (mBin gMul (mLst (mCons (mC (.int 7)) mNil)) (mCB gInt (mCons (mBin gEq (mBin gIx (mVar 0) (mC (.int 1))) (mLst mNil)) mNil))))) (
  sSeq (sAsg 4 (mBin gIx (mVar 3) (mBin gMod (mCB gInt (mCons (mBin gIx (mVar 0) (mC (.int 2))) mNil)) (mCB gLen (mCons (mVar 3) mNil))))) (
  sSeq (sSet (mBin gAdd (mBin gIx (mVar 0) (mC (.int 2))) (mC (.int 1))) (mVar 0) (mC (.int 2))) (
  sSeq (sIf (mAnd (mTB (mBin gGe (mVar 4) (mBin gPow (mC (.int 10)) (mC (.int 18))))) (mTB (mBin gLe (mBin gIx (mVar 0) (mC (.int 2))) (mCB gLen (mCons (mVar 3) mNil))))) (
  sSeq (sSet (mBin gDiv (mVar 4) (mVar 1)) (mVar 0) (mC (.int 0))) (
  sRet (mBin gMod (mCB gInt (mCons (mVar 4) mNil)) (mVar 1)))) (
  sNil)) (
  sSeq (sAsg 5 (mBin gMod (mCB gInt (mCons (mBin gPow (mBin gAdd (mBin gMod (mCB gInt (mCons (mVar 4) mNil)) (mC (.int 2147483629))) (mBin gMul (mC (.int 99991)) (mBin gIx (mVar 0) (mC (.int 3))))) (mC (.int 5))) mNil)) (mC (.int 2305843009213693951)))) (
  sSeq (sAsg 5 (mBin gMod (mCB gInt (mCons (mBin gPow (mBin gAdd (mBin gAdd (mVar 5) (mBin gMul (mC (.int 7)) (mBin gIx (mVar 0) (mC (.int 3))))) (mC (.int 1))) (mC (.int 3))) mNil)) (mC (.int 2305843009213693921)))) (
  sRet (mBin gMod (mCB gInt (mCons (mBin gDiv (mVar 5) (mC (.int 1024))) mNil)) (mVar 1))))))))))
abbrev feedO (l : Int) (cs : List Int) (p c : Int) : O := .lst [.int l, .lst (cs.map .int), .int p, .int c]
/-- the feed stands in slot j, c draws behind it -/
structure FeedAt (S : List O) (j : Nat) (l : Int) (cs : List Int) (p c : Int) : Prop where
  at_ : S[j]? = some (feedO l cs p c)
  l0 : 0 ≤ l
  cs0 : ∀ x ∈ cs, 0 ≤ x
  csl : cs.length ≤ 63
  p0 : 0 ≤ p
  c0 : 0 ≤ c
def drawV (cs : List Int) : List Int := if cs = [] then [7] else cs
theorem drawV_eq {S : List O} {cs : List Int} (h : cs.length ≤ 63) : ∃ x, gMul S (.lst [.int 7]) (.int (if decide (cs = []) then 1 else 0)) = some x ∧ gAdd S (.lst (cs.map .int)) x = some (.lst ((drawV cs).map .int)) := by
  cases cs with
  | nil => exact ⟨.lst [.int 7], rfl, rfl⟩
  | cons c cs =>
    refine ⟨.lst [], rfl, ?_⟩
    show (if _ then _ else _) = _
    rw [if_pos (by simp [sz] at h ⊢; omega), List.append_nil]
    rfl
theorem drawV_len {cs : List Int} (h : cs.length ≤ 63) : 0 < (drawV cs).length ∧ (drawV cs).length ≤ 63 := by
  unfold drawV
  split
  · decide
  · rename_i hc
    exact ⟨List.length_pos_iff.mpr hc, h⟩
theorem drawV_pos {cs : List Int} (h : ∀ x ∈ cs, 0 ≤ x) : ∀ x ∈ drawV cs, 0 ≤ x := by
  unfold drawV
  split
  · intro x hx
    simp at hx
    omega
  · exact h
theorem draw_run {S : List O} {j : Nat} {l p c many : Int} {cs : List Int} (F : FeedAt S j l cs p c) (hm : 0 < many) (hm2 : many < 100000000000000000000) (hc : c < 1000000000) :
    ∃ d l' p', bDraw [some (.ref j), some (.int many), none, none, none, none] S = .rt (.int d) (S.set j (feedO l' cs p' (c + 1))) ∧ 0 ≤ d ∧ d < many ∧ 0 ≤ l' ∧ 0 ≤ p' := by
  obtain ⟨h, l0, cs0, csl, p0, c0⟩ := F
  have hj : j < S.length := (List.getElem?_eq_some_iff.mp h).1
  have at1 : ∀ (T : List O) o, T.length = S.length → (T.set j o)[j]? = some o := fun T o e => List.getElem?_set_self (by omega)
  obtain ⟨x7, hx7, hV⟩ := drawV_eq (S := S.set j (feedO l cs p (c + 1))) csl
  obtain ⟨v0, v63⟩ := drawV_len csl
  have vpos := drawV_pos cs0
  unfold bDraw
  have s1 := at1 S (feedO l cs p (c + 1)) rfl
  by_cases hl : 0 < l
  · refine ⟨l % many, l / many, p, ?_, Int.emod_nonneg _ (by omega), Int.emod_lt_of_pos _ hm, Int.ediv_nonneg l0 (by omega), p0⟩
    refine w_seq (w_set (v_bin (v_bin (v_var rfl) v_C (x_ix h rfl)) v_C x_addI) (v_var rfl) v_C (x_set h rfl)) ?_
    refine w_seqR (w_if (k := true) (v_tb (v_bin (v_bin (v_var rfl) v_C (x_ix s1 rfl)) v_C (by rw [x_gt, decide_eq_true hl]))) ?_)
    refine w_seq (w_asg (v_bin (v_cb (v_cons (v_bin (v_var rfl) v_C (x_ix s1 rfl)) v_nil) x_int) (v_var rfl) (x_mod hm))) ?_
    refine w_seq (w_set (v_bin (v_bin (v_var rfl) v_C (x_ix s1 rfl)) (v_var rfl) (x_div hm hm2)) (v_var rfl) v_C (x_set s1 rfl)) ?_
    rw [List.set_set]
    exact w_ret (v_var rfl)
  · -- the cell
    have hq : 0 ≤ p % ((drawV cs).length : Int) ∧ p % ((drawV cs).length : Int) < ((drawV cs).length : Int) := ⟨Int.emod_nonneg _ (by omega), Int.emod_lt_of_pos _ (by omega)⟩
    obtain ⟨cell, hcell, cpos⟩ : ∃ cell : Int, atI ((drawV cs).map D.int) (p % ((drawV cs).length : Int)) = some (.int cell) ∧ 0 ≤ cell := by
      have hn : (p % ((drawV cs).length : Int)).toNat < (drawV cs).length := by omega
      refine ⟨(drawV cs)[(p % ((drawV cs).length : Int)).toNat], ?_, vpos _ (List.getElem_mem hn)⟩
      unfold atI ixN
      rw [List.length_map, if_pos hq.1, if_pos hq.2]
      show ((drawV cs).map D.int)[(p % ((drawV cs).length : Int)).toNat]? = _
      rw [List.getElem?_map, List.getElem?_eq_getElem hn]
      rfl
    have s2 := at1 (S.set j (feedO l cs p (c + 1))) (feedO l cs (p + 1) (c + 1)) (by rw [List.length_set])
    have pre : ∀ r, (∀ (z : D), sSeq (sIf (mAnd (mTB (mBin gGe (mVar 4) (mBin gPow (mC (.int 10)) (mC (.int 18))))) (mTB (mBin gLe (mBin gIx (mVar 0) (mC (.int 2))) (mCB gLen (mCons (mVar 3) mNil))))) (
  sSeq (sSet (mBin gDiv (mVar 4) (mVar 1)) (mVar 0) (mC (.int 0))) (
  sRet (mBin gMod (mCB gInt (mCons (mVar 4) mNil)) (mVar 1)))) (
  sNil)) (
  sSeq (sAsg 5 (mBin gMod (mCB gInt (mCons (mBin gPow (mBin gAdd (mBin gMod (mCB gInt (mCons (mVar 4) mNil)) (mC (.int 2147483629))) (mBin gMul (mC (.int 99991)) (mBin gIx (mVar 0) (mC (.int 3))))) (mC (.int 5))) mNil)) (mC (.int 2305843009213693951)))) (
  sSeq (sAsg 5 (mBin gMod (mCB gInt (mCons (mBin gPow (mBin gAdd (mBin gAdd (mVar 5) (mBin gMul (mC (.int 7)) (mBin gIx (mVar 0) (mC (.int 3))))) (mC (.int 1))) (mC (.int 3))) mNil)) (mC (.int 2305843009213693921)))) (
  sRet (mBin gMod (mCB gInt (mCons (mBin gDiv (mVar 5) (mC (.int 1024))) mNil)) (mVar 1)))))
      [some (.ref j), some (.int many), none, some (.lst ((drawV cs).map .int)), some (.int cell), none] (S.set j (feedO l cs (p + 1) (c + 1))) = r) → bDraw [some (.ref j), some (.int many), none, none, none, none] S = r := by
      intro r hr
      refine w_seq (w_set (v_bin (v_bin (v_var rfl) v_C (x_ix h rfl)) v_C x_addI) (v_var rfl) v_C (x_set h rfl)) ?_
      refine w_seq (w_if (k := false) (v_tb (v_bin (v_bin (v_var rfl) v_C (x_ix s1 rfl)) v_C (by rw [x_gt, decide_eq_false hl]))) rfl) ?_
      refine w_seq (w_asg (v_bin (v_bin (v_var rfl) v_C (x_ix s1 rfl)) (v_bin (v_lst (v_cons v_C v_nil) (by decide)) (v_cb (v_cons (v_bin (v_bin (v_var rfl) v_C (x_ix s1 rfl)) (v_lst v_nil (by decide)) x_eqNil) v_nil) x_intB) hx7) hV)) ?_
      refine w_seq (w_asg (v_bin (v_var rfl) (v_bin (v_cb (v_cons (v_bin (v_var rfl) v_C (x_ix s1 rfl)) v_nil) x_int) (v_cb (v_cons (v_var rfl) v_nil) x_lenL) (x_mod (by rw [List.length_map]; omega))) (x_ixl (by rw [List.length_map]; exact hcell)))) ?_
      refine w_seq (w_set (v_bin (v_bin (v_var rfl) v_C (x_ix s1 rfl)) v_C x_addI) (v_var rfl) v_C (x_set s1 rfl)) ?_
      rw [List.set_set]
      exact hr .non
    have s3 := at1 S (feedO l cs (p + 1) (c + 1)) rfl
    have e18 : ∀ (T : List O), mBin gPow (mC (.int 10)) (mC (.int 18)) [some (.ref j), some (.int many), none, some (.lst ((drawV cs).map .int)), some (.int cell), none] T = .ok (.int 1000000000000000000) T := fun T => v_bin v_C v_C (x_pow (by decide) (by decide) (by decide))
    by_cases hb : 1000000000000000000 ≤ cell ∧ p + 1 ≤ ((drawV cs).length : Int)
    · refine ⟨cell % many, cell / many, p + 1, pre _ fun z => ?_, Int.emod_nonneg _ (by omega), Int.emod_lt_of_pos _ hm, Int.ediv_nonneg cpos (by omega), by omega⟩
      refine w_seqR (w_if (k := true) (v_and (k := true) (v_tb (v_bin (v_var rfl) (e18 _) (by rw [x_ge, decide_eq_true hb.1]))) (v_tb (v_bin (v_bin (v_var rfl) v_C (x_ix s3 rfl)) (v_cb (v_cons (v_var rfl) v_nil) x_lenL) (by rw [x_le, List.length_map, decide_eq_true hb.2])))) ?_)
      refine w_seq (w_set (v_bin (v_var rfl) (v_var rfl) (x_div hm hm2)) (v_var rfl) v_C (x_set s3 rfl)) ?_
      rw [List.set_set]
      exact w_ret (v_bin (v_cb (v_cons (v_var rfl) v_nil) x_int) (v_var rfl) (x_mod hm))
    · have m1 : 0 ≤ cell % 2147483629 ∧ cell % 2147483629 < 2147483629 := ⟨Int.emod_nonneg _ (by decide), Int.emod_lt_of_pos _ (by decide)⟩
      let y := (cell % 2147483629 + 99991 * (c + 1)) ^ (5 : Int).toNat % 2305843009213693951
      have hy : 0 ≤ y ∧ y < 2305843009213693951 := ⟨Int.emod_nonneg _ (by decide), Int.emod_lt_of_pos _ (by decide)⟩
      let y2 := (y + 7 * (c + 1) + 1) ^ (3 : Int).toNat % 2305843009213693921
      refine ⟨y2 / 1024 % many, l, p + 1, pre _ fun z => ?_, Int.emod_nonneg _ (by omega), Int.emod_lt_of_pos _ hm, l0, by omega⟩
      refine w_seq (S1 := S.set j (feedO l cs (p + 1) (c + 1))) (w_if (k := false) ?_ rfl) ?_
      · by_cases h1 : 1000000000000000000 ≤ cell
        · exact v_and (k := true) (v_tb (v_bin (v_var rfl) (e18 _) (by rw [x_ge, decide_eq_true h1]))) (v_tb (v_bin (v_bin (v_var rfl) v_C (x_ix s3 rfl)) (v_cb (v_cons (v_var rfl) v_nil) x_lenL) (by rw [x_le, List.length_map, decide_eq_false (fun q => hb ⟨h1, q⟩)])))
        · exact v_and (k := false) (v_tb (v_bin (v_var rfl) (e18 _) (by rw [x_ge, decide_eq_false h1]))) rfl
      refine w_seq (w_asg (v_bin (v_cb (v_cons (v_bin (v_bin (v_bin (v_cb (v_cons (v_var rfl) v_nil) x_int) v_C (x_mod (by decide))) (v_bin v_C (v_bin (v_var rfl) v_C (x_ix s3 rfl)) (x_mul (by decide))) x_addI) v_C (x_pow (by decide) (by decide) (by omega))) v_nil) x_int) v_C (x_mod (by decide)))) ?_
      refine w_seq (w_asg (v_bin (v_cb (v_cons (v_bin (v_bin (v_bin (v_var rfl) (v_bin v_C (v_bin (v_var rfl) v_C (x_ix s3 rfl)) (x_mul (by decide))) x_addI) v_C x_addI) v_C (x_pow (by decide) (by decide) (by show (y + 7 * (c + 1) + 1).natAbs < _; omega))) v_nil) x_int) v_C (x_mod (by decide)))) ?_
      exact w_ret (v_bin (v_cb (v_cons (v_bin (v_var rfl) v_C (x_div (by decide) (by decide))) v_nil) x_int) (v_var rfl) (x_mod hm))
theorem feed_set {S : List O} {j : Nat} {l p c l' p' : Int} {cs : List Int} (F : FeedAt S j l cs p c) (h1 : 0 ≤ l') (h2 : 0 ≤ p') : FeedAt (S.set j (feedO l' cs p' (c + 1))) j l' cs p' (c + 1) :=
  ⟨List.getElem?_set_self (List.getElem?_eq_some_iff.mp F.at_).1, h1, F.cs0, F.csl, h2, by have := F.c0; omega⟩
theorem fn_rt {np n : Nat} {b : MS} {ds : List D} {S S' : List O} {d : D} (hl : ds.length = np) (h : b (ds.map some ++ List.replicate (n - ds.length) none) S = .rt d S') : fnM np n b ds S = .ok d (trimS (D.lo S.length d) S S') := by
  unfold fnM
  rw [if_pos hl, h]
theorem nb_ok {f : List D → List O → R D} {ds : List D} {S S' : List O} {d : D} (h : f ds S = .ok d S') : nbF f ds S = .ok d S' := by
  unfold nbF
  rw [h]
  rfl
/-- one draw, as a call -/
theorem draw_call {S : List O} {j : Nat} {l p c many : Int} {cs : List Int} (F : FeedAt S j l cs p c) (hm : 0 < many) (hm2 : many < 100000000000000000000) (hc : c < 1000000000) :
    ∃ d l' p', nbF (fnM 2 6 bDraw) [.ref j, .int many] S = .ok (.int d) (S.set j (feedO l' cs p' (c + 1))) ∧ 0 ≤ d ∧ d < many ∧ FeedAt (S.set j (feedO l' cs p' (c + 1))) j l' cs p' (c + 1) := by
  obtain ⟨d, l', p', h1, h2, h3, h4, h5⟩ := draw_run F hm hm2 hc
  refine ⟨d, l', p', nb_ok ?_, h2, h3, feed_set F h4 h5⟩
  refine (fn_rt (S' := S.set j (feedO l' cs p' (c + 1))) (d := .int d) rfl h1).trans ?_
  rw [trim_same (by rw [List.length_set])]
theorem compL_map {chk : List O → Bool} {t : Tg} {te : ME} {e : Env} {S : List O} {f : D → D} (hc : chk S = true) : ∀ {l acc : List D}, (∀ d ∈ l, ∃ e', t.f d e = some e' ∧ te e' S = .ok (f d) S) → acc.length + l.length ≤ sz → compL chk t mYes te e acc l S = .ok (acc ++ l.map f) S
  | [], acc, _, _ => by
    unfold compL
    rw [if_pos hc, List.map_nil, List.append_nil]
  | d :: l, acc, h, hs => by
    obtain ⟨e', h1, h2⟩ := h d List.mem_cons_self
    unfold compL
    rw [if_pos hc, h1]
    show R.bind (te e' S).nb _ = _
    rw [h2]
    show (if acc.length < sz then compL chk t mYes te e (acc ++ [f d]) l S else .bad) = _
    rw [List.length_cons] at hs
    rw [if_pos (by omega), compL_map hc (fun x hx => h x (List.mem_cons_of_mem _ hx)) (by rw [List.length_append]; simp; omega)]
    simp
theorem feed_call (ns : List Int) : ∃ cs, nbF (fnM 1 2 bFeed) [.kl (ns.map .int)] [] = .ok (.ref 0) [feedO 0 cs 0 0] ∧ FeedAt [feedO 0 cs 0 0] 0 0 cs 0 0 := by
  let cs : List Int := (cutD ns none (some 63)).map fun i => if i < 0 then -i else i
  have hcut : cutD (ns.map D.int) none (some 63) = (cutD ns none (some 63)).map D.int := by
    unfold cutD
    rw [List.length_map, List.map_take, List.map_drop]
  have hl : (cutD ns none (some 63)).length ≤ 63 := by
    unfold cutD
    rw [List.length_take]
    refine Nat.le_trans (Nat.min_le_left _ _) ?_
    show (min (Int.toNat 63) ns.length) - 0 ≤ 63
    omega
  refine ⟨cs, nb_ok ?_, rfl, Int.le_refl _, ?_, by simpa [cs] using hl, Int.le_refl _, Int.le_refl _⟩
  · refine (fn_rt (S' := [feedO 0 cs 0 0]) (d := .ref 0) rfl ?_).trans ?_
    · refine w_ret (v_new (S1 := []) (l := [.int 0, .lst (cs.map .int), .int 0, .int 0]) (v_cons v_C (v_cons ?_ (v_cons v_C (v_cons v_C v_nil)))) (show 4 ≤ 16777216 by decide))
      show (miSeq (mSl (mVar 0) moN (moS (mC (.int 63)))) [some (.kl (ns.map D.int)), none] []).bind _ = _
      rw [show miSeq (mSl (mVar 0) moN (moS (mC (.int 63)))) [some (.kl (ns.map D.int)), none] [] = .ok ((cutD ns none (some 63)).map D.int, anyS) [] by
        rw [← hcut]
        rfl]
      show (compL anyS (tgN 1) mYes (mCB gAbs (mCons (mVar 1) mNil)) [some (.kl (ns.map D.int)), none] [] ((cutD ns none (some 63)).map D.int) []).bind _ = _
      rw [compL_map (f := fun d => match d with | .int i => .int (if i < 0 then -i else i) | d => d) rfl ?_ ?_]
      · rw [List.nil_append, List.map_map]
        show R.ok _ _ = _
        congr 2
        simp [cs]
      · intro d hd
        obtain ⟨i, _, rfl⟩ := List.mem_map.mp hd
        exact ⟨_, rfl, v_cb (v_cons (v_var rfl) v_nil) rfl⟩
      · simp [sz]
        omega
    · rfl
  · intro x hx
    obtain ⟨i, _, rfl⟩ := List.mem_map.mp hx
    split <;> omega
theorem loop_inv {t : Tg} {b : MS} {I : Nat → Env → List O → Prop} {n : Nat} (h : ∀ (i : Nat), i < n → ∀ (d : D) (e : Env) (S : List O), I i e S → ∃ e' e1 S1, t.f d e = some e' ∧ b e' S = .nx e1 S1 ∧ I (i + 1) e1 S1) :
    ∀ {l : List D} {i : Nat} {e : Env} {S : List O}, i + l.length = n → I i e S → ∃ e1 S1, loopL anyS t b l e S = .nx e1 S1 ∧ I n e1 S1
  | [], i, e, S, hl, hI => ⟨e, S, by unfold loopL; rw [if_pos (show anyS S = true from rfl)], by simp at hl; exact hl ▸ hI⟩
  | d :: l, i, e, S, hl, hI => by
    rw [List.length_cons] at hl
    obtain ⟨e', e1, S1, h1, h2, h3⟩ := h i (by omega) d e S hI
    obtain ⟨e2, S2, h4, h5⟩ := loop_inv h (l := l) (i := i + 1) (by omega) h3
    refine ⟨e2, S2, ?_, h5⟩
    unfold loopL
    rw [if_pos (show anyS S = true from rfl), h1]
    dsimp only
    rw [h2]
    exact h4
theorem w_for {m : MI} {t : Tg} {b : MS} {e : Env} {S S1 : List O} {l : List D} {chk : List O → Bool} (h : m e S = .ok (l, chk) S1) : sFor m t b e S = loopL chk t b l e S1 := by unfold sFor; rw [h]; rfl
end Mo

namespace Mo
open PySem PySem.Spec L2 PyProof.Rows

/-! ### dicts, by number; keys ints or texts -/
def keyD : D → Option Key
  | .int i => some (.inl i)
  | .str x => some (.inr x)
  | _ => none
def kD : Key → D
  | .inl i => .int i
  | .inr x => .str x
def valP : List (Key × D) → Key → Option D
  | [], _ => none
  | (j, d) :: l, k => if j = k then some d else valP l k
def putP (l : List (Key × D)) (k : Key) (d : D) : List (Key × D) := if (l.any fun p => decide (p.1 = k)) = true then l.map (fun p => if p.1 = k then (p.1, d) else p) else l ++ [(k, d)]
section
variable {K : PySem.W.Frag} {g : G}
theorem RPs.val : ∀ {l : List (Key × D)} {vs : List (Key × V)} (k : Key), RPs K g l vs → (∀ d, valP l k = some d → ∃ v, valV vs k = some v ∧ RD K g d v) ∧ (valP l k = none → valV vs k = none)
  | [], vs, k, h => by
    rw [RPs] at h
    subst h
    exact ⟨fun d q => (nomatch q), fun _ => rfl⟩
  | (j, x) :: l, vs, k, h => by
    rw [RPs] at h
    obtain ⟨v, r, rfl, h2, h3⟩ := h
    have ih := RPs.val k h3
    unfold valP
    by_cases e : j = k
    · rw [if_pos e, valV_pos (p := (j, v)) e]
      exact ⟨fun d q => by cases q; exact ⟨v, rfl, h2⟩, fun q => by cases q⟩
    · rw [if_neg e, valV_neg (p := (j, v)) e]
      exact ih
theorem RPs.any : ∀ {l : List (Key × D)} {vs : List (Key × V)} (k : Key), RPs K g l vs → (vs.any fun kv => decide (kv.1 = k)) = l.any fun p => decide (p.1 = k)
  | [], vs, k, h => by rw [RPs] at h; subst h; rfl
  | (j, x) :: l, vs, k, h => by
    rw [RPs] at h
    obtain ⟨v, r, rfl, h2, h3⟩ := h
    rw [List.any_cons, List.any_cons, RPs.any k h3]
theorem RPs.map : ∀ {l : List (Key × D)} {vs : List (Key × V)} {k : Key} {d : D} {y : V}, RPs K g l vs → RD K g d y → RPs K g (l.map fun p => if p.1 = k then (p.1, d) else p) (vs.map fun kv => if kv.1 = k then (kv.1, y) else kv)
  | [], vs, k, d, y, h, _ => by rw [RPs] at h; subst h; rw [List.map_nil, List.map_nil, RPs]
  | (j, x) :: l, vs, k, d, y, h, hd => by
    rw [RPs] at h
    obtain ⟨v, r, rfl, h2, h3⟩ := h
    rw [List.map_cons, List.map_cons]
    by_cases e : j = k
    · simp only [e, if_true]
      rw [RPs]
      exact ⟨y, _, rfl, hd, RPs.map h3 hd⟩
    · simp only [e, if_false]
      rw [RPs]
      exact ⟨v, _, rfl, h2, RPs.map h3 hd⟩
theorem RPs.snoc : ∀ {l : List (Key × D)} {vs : List (Key × V)} {k : Key} {d : D} {y : V}, RPs K g l vs → RD K g d y → RPs K g (l ++ [(k, d)]) (vs ++ [(k, y)])
  | [], vs, k, d, y, h, hd => by
    rw [RPs] at h
    subst h
    show RPs K g [(k, d)] [(k, y)]
    rw [RPs]
    exact ⟨y, [], rfl, hd, by rw [RPs]⟩
  | (j, x) :: l, vs, k, d, y, h, hd => by
    rw [RPs] at h
    obtain ⟨v, r, rfl, h2, h3⟩ := h
    rw [List.cons_append, List.cons_append, RPs]
    exact ⟨v, _, rfl, h2, RPs.snoc h3 hd⟩
theorem RPs.put {l : List (Key × D)} {vs : List (Key × V)} {k : Key} {d : D} {y : V} (h : RPs K g l vs) (hd : RD K g d y) : RPs K g (putP l k d) (putK vs k y) := by
  unfold putP putK
  rw [RPs.any k h]
  split
  · exact h.map hd
  · exact h.snoc hd
theorem RPs.length : ∀ {l : List (Key × D)} {vs : List (Key × V)}, RPs K g l vs → l.length = vs.length
  | [], vs, h => by rw [RPs] at h; subst h; rfl
  | (j, x) :: l, vs, h => by
    rw [RPs] at h
    obtain ⟨v, r, rfl, h2, h3⟩ := h
    rw [List.length_cons, List.length_cons, RPs.length h3]
theorem RPs.getK : ∀ {l : List (Key × D)} {vs : List (Key × V)} {i : Nat} {k : Key} {v : V}, RPs K g l vs → vs[i]? = some (k, v) → ∃ d, l[i]? = some (k, d) ∧ RD K g d v
  | [], vs, i, k, v, h, q => by rw [RPs] at h; subst h; simp at q
  | (j, x) :: l, vs, 0, k, v, h, q => by
    rw [RPs] at h
    obtain ⟨w, r, rfl, h2, h3⟩ := h
    simp at q
    obtain ⟨rfl, rfl⟩ := q
    exact ⟨x, rfl, h2⟩
  | (j, x) :: l, vs, i + 1, k, v, h, q => by
    rw [RPs] at h
    obtain ⟨w, r, rfl, h2, h3⟩ := h
    obtain ⟨d, e1, e2⟩ := RPs.getK h3 (i := i) (by simpa using q)
    exact ⟨d, by simpa using e1, e2⟩
theorem keyD_at {d : D} {k : Key} {v : V} (h : keyD d = some k) (r : RD K g d v) : v = kV k := by
  cases d <;> first | (cases h; done) | (cases h; rw [RD] at r; exact r)
theorem kD_rd (k : Key) : RD K g (kD k) (kV k) := by
  cases k <;> (unfold kD kV; rw [RD])
end
def dctR (S : List O) (d : D) : Option (List (Key × D)) := match d with
  | .ref n => match S[n]? with
    | some (.dct l) => some l
    | some (.fdct l) => some l
    | _ => none
  | _ => none
theorem dctR_at {K : PySem.W.Frag} {g : G} (rp : Rep K g) {d : D} {l : List (Key × D)} {v : V} (h : dctR g.S d = some l) (r : RD K g d v) : ∃ a vs, v = .ref a ∧ Rd g.H a (.dK vs) ∧ RPs K g l vs := by
  unfold dctR at h
  split at h
  · rename_i n
    rw [RD] at r
    split at h
    · rename_i l' hn
      cases h
      obtain ⟨vs, h1, h2⟩ := rp.obj n _ hn
      exact ⟨_, vs, r.2, .inl h1, h2⟩
    · rename_i l' hn
      cases h
      obtain ⟨od, vs, h1, h2⟩ := rp.obj n _ hn
      exact ⟨_, vs, r.2, .inr ⟨od, h1⟩, h2⟩
    · cases h
  · cases h
def gDGet : Op2 := fun S a i => match dctR S a, keyD i with
  | some l, some k => valP l k
  | _, _ => none
/-- k in d -/
def gDIn : Op2 := fun S i a => match keyD i, dctR S a with
  | some k, some l => some (.bl (valP l k).isSome)
  | _, _ => none
def gDNin : Op2 := fun S i a => match keyD i, dctR S a with
  | some k, some l => some (.bl (!(valP l k).isSome))
  | _, _ => none
theorem dget_at {H : Hp} {vs : List (Key × V)} {a : Addr} {k : Key} (h : Rd H a (.dK vs)) : DGet H a (kV k) (valV vs k) := .inl ⟨vs, k, h, rfl, rfl⟩
section
variable {X : Cx} {W : WX'} {a b e f o i : Expr} {ma mb mf m mo mi : ME} {pos pos' apos cpos : Pos}
theorem pm_dget (hu : X.A.units + 64 < cLine) (ha : PE X a (tE X.K W ma)) (hb : PE X b (tE X.K W mb)) (hs : NoSl b := by first | rfl | (intro _ _; rfl) | exact trivial) : PE X (.Subscript a b pos) (tE X.K W (mBin gDGet ma mb)) :=
  PE.imp (pe_dget (by omega) ha hb hs) fun σ H Q h => by
    obtain ⟨g, e, hH, rp, re, p⟩ := h
    subst hH
    refine ⟨g, e, rfl, rp, re, (Post.bind p).imp fun d g1 e1 r1 ⟨_, _, p1⟩ v rv => ?_⟩
    refine ⟨g1, e, rfl, r1, re.mono e1, (Post.bind p1).imp fun i g2 e2 r2 ⟨_, _, p2⟩ w rw' => ?_⟩
    cases q : gDGet g2.S d i with
    | none => rw [q] at p2; exact False.elim p2
    | some x =>
      rw [q] at p2
      unfold gDGet at q
      cases hl : dctR g2.S d with
      | none => rw [hl] at q; cases q
      | some l =>
        cases hk : keyD i with
        | none => rw [hl, hk] at q; cases q
        | some k =>
          rw [hl, hk] at q
          obtain ⟨a, vs, rfl, h1, h2⟩ := dctR_at r2 hl (rv.mono e2)
          obtain ⟨y, hy, ry⟩ := (RPs.val k h2).1 x q
          rw [keyD_at hk rw']
          exact ⟨a, y, rfl, by rw [← hy]; exact dget_at h1, p2 g2 (Ext.refl _) rfl r2 y ry⟩
theorem i_din {K : PySem.W.Frag} {σ : L2.St} {H : Hp} {Q : VK} (h : tE K W (mBin gDIn ma mb) σ H Q) : tDIn (tE K W ma) (tE K W mb) σ H Q := by
  obtain ⟨g, e, hH, rp, re, p⟩ := h
  subst hH
  refine ⟨g, e, rfl, rp, re, (Post.bind p).imp fun d g1 e1 r1 ⟨_, _, p1⟩ v rv => ?_⟩
  refine ⟨g1, e, rfl, r1, re.mono e1, (Post.bind p1).imp fun i g2 e2 r2 ⟨_, _, p2⟩ w rw' => ?_⟩
  cases q : gDIn g2.S d i with
  | none => rw [q] at p2; exact False.elim p2
  | some x =>
    rw [q] at p2
    unfold gDIn at q
    cases hk : keyD d with
    | none => rw [hk] at q; cases q
    | some k =>
      cases hl : dctR g2.S i with
      | none => rw [hk, hl] at q; cases q
      | some l =>
        rw [hk, hl] at q
        cases q
        obtain ⟨a, vs, rfl, h1, h2⟩ := dctR_at r2 hl rw'
        rw [keyD_at hk (rv.mono e2)]
        refine ⟨a, valV vs k, rfl, dget_at h1, p2 g2 (Ext.refl _) rfl r2 _ ?_⟩
        rw [RD]
        cases hv : valP l k with
        | none => rw [(RPs.val k h2).2 hv]; rfl
        | some x => obtain ⟨y, hy, _⟩ := (RPs.val k h2).1 x hv; rw [hy]; rfl
theorem i_dnin {K : PySem.W.Frag} {σ : L2.St} {H : Hp} {Q : VK} (h : tE K W (mBin gDNin ma mb) σ H Q) : tDNotIn (tE K W ma) (tE K W mb) σ H Q := by
  obtain ⟨g, e, hH, rp, re, p⟩ := h
  subst hH
  refine ⟨g, e, rfl, rp, re, (Post.bind p).imp fun d g1 e1 r1 ⟨_, _, p1⟩ v rv => ?_⟩
  refine ⟨g1, e, rfl, r1, re.mono e1, (Post.bind p1).imp fun i g2 e2 r2 ⟨_, _, p2⟩ w rw' => ?_⟩
  cases q : gDNin g2.S d i with
  | none => rw [q] at p2; exact False.elim p2
  | some x =>
    rw [q] at p2
    unfold gDNin at q
    cases hk : keyD d with
    | none => rw [hk] at q; cases q
    | some k =>
      cases hl : dctR g2.S i with
      | none => rw [hk, hl] at q; cases q
      | some l =>
        rw [hk, hl] at q
        cases q
        obtain ⟨a, vs, rfl, h1, h2⟩ := dctR_at r2 hl rw'
        rw [keyD_at hk (rv.mono e2)]
        refine ⟨a, valV vs k, rfl, dget_at h1, p2 g2 (Ext.refl _) rfl r2 _ ?_⟩
        rw [RD]
        cases hv : valP l k with
        | none => rw [(RPs.val k h2).2 hv]; rfl
        | some x => obtain ⟨y, hy, _⟩ := (RPs.val k h2).1 x hv; rw [hy]; rfl
theorem pm_din (hu : X.A.units + 64 < cLine) (ha : PE X a (tE X.K W ma)) (hb : PE X b (tE X.K W mb)) (hm : behindInMarks .In b = false := by first | exact nomark _ | rfl | with_unfolding_all rfl) : PE X (.Compare a [.In] [b] pos) (tE X.K W (mBin gDIn ma mb)) := PE.imp (pe_cmp (pc_din (by omega) ha hb) hm) fun _ _ _ => i_din
theorem pm_dnin (hu : X.A.units + 64 < cLine) (ha : PE X a (tE X.K W ma)) (hb : PE X b (tE X.K W mb)) (hm : behindInMarks .NotIn b = false := by first | exact nomark _ | rfl | with_unfolding_all rfl) : PE X (.Compare a [.NotIn] [b] pos) (tE X.K W (mBin gDNin ma mb)) := PE.imp (pe_cmp (pc_dnotin (by omega) ha hb) hm) fun _ _ _ => i_dnin
theorem qm_din (hu : X.A.units + 64 < cLine) (ha : PE X a (tE X.K W ma)) (hb : PE X b (tE X.K W mb)) (hm : behindInMarks .In b = false := by first | exact nomark _ | rfl | with_unfolding_all rfl) : PT X (.Compare a [.In] [b] pos) (tT X.K W (mTB (mBin gDIn ma mb))) := PT.imp (pt_cmp (pc_din (by omega) ha hb) hm) fun σ H Q h => by
  obtain ⟨g, e, rfl, rp, re, p⟩ := i_tTest h
  exact i_din ⟨g, e, rfl, rp, re, p⟩
theorem qm_dnin (hu : X.A.units + 64 < cLine) (ha : PE X a (tE X.K W ma)) (hb : PE X b (tE X.K W mb)) (hm : behindInMarks .NotIn b = false := by first | exact nomark _ | rfl | with_unfolding_all rfl) : PT X (.Compare a [.NotIn] [b] pos) (tT X.K W (mTB (mBin gDNin ma mb))) := PT.imp (pt_cmp (pc_dnotin (by omega) ha hb) hm) fun σ H Q h => by
  obtain ⟨g, e, rfl, rp, re, p⟩ := i_tTest h
  exact i_dnin ⟨g, e, rfl, rp, re, p⟩
/-- {} -/
def mDNew : ME := fun _ S => .ok (.ref S.length) (S ++ [.dct []])
theorem pm_dnew : PE X (.Dict [] [] pos) (tE X.K W mDNew) := PE.imp pe_dnewK fun σ H Q ⟨g, e, hH, rp, re, p⟩ => by
  subst hH
  intro q hq
  have x := Ext.add rp (o := .dct []) (u := .dK []) hq
  have p1 : ∀ g', Ext g g' → g'.S = g.S ++ [.dct []] → Rep X.K g' → ∀ v, RD X.K g' (.ref g.S.length) v → Q v g'.H := p
  refine p1 _ x rfl (rp.add hq ⟨[], upd_same, by rw [RPs]⟩) _ ?_
  rw [RD]
  exact ⟨by simp, by simp⟩
/-- d[k] = v -/
def fDSet (S : List O) (a i d : D) : Option (List O) := match a, keyD i with
  | .ref n, some k => match S[n]? with
    | some (.dct l) => if l.length < sz then some (S.set n (.dct (putP l k d))) else none
    | _ => none
  | _, _ => none
theorem fDSet_inv {S : List O} {a i d : D} {S4 : List O} (q : fDSet S a i d = some S4) : ∃ n k l, a = .ref n ∧ keyD i = some k ∧ S[n]? = some (.dct l) ∧ l.length < sz ∧ S4 = S.set n (.dct (putP l k d)) := by
  unfold fDSet at q
  cases a with
  | ref n =>
    cases hk : keyD i with
    | none => rw [hk] at q; cases q
    | some k =>
      rw [hk] at q
      dsimp only at q
      split at q
      · rename_i l hn
        by_cases hl : l.length < sz
        · rw [if_pos hl] at q
          cases q
          exact ⟨n, k, l, rfl, rfl, hn, hl, rfl⟩
        · rw [if_neg hl] at q; cases q
      · cases q
  | _ => cases q
def sDSet (mv mo mi : ME) : MS := fun e S => (mv e S).st e fun d S1 => (mo e S1).st e fun a S2 => (mi e S2).st e fun i S3 => match fDSet S3 a i d with
  | some S4 => .nx e S4
  | none => .bad
theorem sm_dset {mv : ME} (hu : X.A.units + 64 < cLine) (hv : PE X e (tE X.K W mv)) (ho : PE X o (tE X.K W mo)) (hi : PE X i (tE X.K W mi)) (hs : swapsWith e (some (.Subscript o i pos')) pos.line X.env = pure false := by rfl) :
    PS X (.Assign [.Subscript o i pos'] e pos) (tS X.K W (sDSet mv mo mi)) := PS.imp (ps_dput (by omega) ho hi hv hs) fun D σ H ⟨g, e, hH, rp, re, p⟩ => by
  subst hH
  refine ⟨g, e, rfl, rp, re, (PostS.of_st re p).imp fun d g1 e1 r1 ⟨_, _, p1⟩ v rv => ?_⟩
  refine ⟨g1, e, rfl, r1, re.mono e1, (PostS.of_st (re.mono e1) p1).imp fun a g2 e2 r2 ⟨_, _, p2⟩ w rw' => ?_⟩
  refine ⟨g2, e, rfl, r2, (re.mono e1).mono e2, (PostS.of_st ((re.mono e1).mono e2) p2).imp fun i g3 e3 r3 ⟨_, _, p3⟩ u ru => ?_⟩
  cases q : fDSet g3.S a i d with
  | none => rw [q] at p3; exact False.elim p3
  | some S4 =>
    rw [q] at p3
    dsimp only at p3
    obtain ⟨n, k, l, rfl, hk, hn, hl, rfl⟩ := fDSet_inv q
    have rn := rw'.mono e3
    rw [RD] at rn
    obtain ⟨vs, h1, h2⟩ := r3.obj n _ hn
    have rv3 := (rv.mono e2).mono e3
    have x := Ext.put (o' := .dct (putP l k d)) (u := .dK (putK vs k v)) hn rfl
    have y := r3.put hn rfl (o' := .dct (putP l k d)) (u := .dK (putK vs k v)) ⟨_, upd_same, (h2.put rv3).mono x⟩
    rw [keyD_at hk ru]
    exact ⟨g3.ρ n, _, rn.2, .inl ⟨vs, k, h1, rfl, by rw [← h2.length, ← sz_eq]; exact hl, rfl⟩, p3 _ σ x rfl y ((((re.mono e1).mono e2).mono e3).mono x)⟩
/-- d.get(k, x) -/
def mDGet2 (ma mb mf : ME) : ME := fun e S => (ma e S).bind fun a S1 => if (dctR S1 a).isSome = true then (mb e S1).bind fun i S2 => (mf e S2).bind fun z S3 => match dctR S3 a, keyD i with
  | some l, some k => .ok ((valP l k).getD z) S3
  | _, _ => .bad else .bad
theorem pm_dget2 (hu : X.A.units + 64 < cLine) (ho : PE X o (tE X.K W mo)) (he : PE X e (tE X.K W m)) (hf : PE X f (tE X.K W mf)) (hm : M2 X o "get" apos e f cpos := by exact ⟨rfl, rfl, rfl, rfl⟩) : PE X (.Call (.Attribute o "get" apos) [e, f] [] cpos) (tE X.K W (mDGet2 mo m mf)) :=
  PE.imp (pe_dget2 (by omega) ho he hf hm) fun σ H Q ⟨g, e, hH, rp, re, p⟩ => by
    subst hH
    refine ⟨g, e, rfl, rp, re, (Post.bind p).imp fun a g1 e1 r1 ⟨_, _, p1⟩ v rv => ?_⟩
    cases h0 : dctR g1.S a with
    | none => rw [h0] at p1; exact False.elim p1
    | some l0 =>
      rw [h0] at p1
      obtain ⟨ad, vs0, rfl, k1, k2⟩ := dctR_at r1 h0 rv
      refine ⟨ad, rfl, .inl ⟨vs0, k1⟩, ?_⟩
      refine ⟨g1, e, rfl, r1, re.mono e1, (Post.bind p1).imp fun i g2 e2 r2 ⟨_, _, p2⟩ w rw' => ?_⟩
      refine ⟨g2, e, rfl, r2, (re.mono e1).mono e2, (Post.bind p2).imp fun z g3 e3 r3 ⟨_, _, p3⟩ y ry => ?_⟩
      cases hl : dctR g3.S a with
      | none => rw [hl] at p3; exact False.elim p3
      | some l =>
        cases hk : keyD i with
        | none => rw [hl, hk] at p3; exact False.elim p3
        | some k =>
          rw [hl, hk] at p3
          obtain ⟨a', vs, ea, h1, h2⟩ := dctR_at r3 hl ((rv.mono e2).mono e3)
          cases ea
          rw [keyD_at hk rw']
          refine ⟨valV vs k, dget_at h1, p3 g3 (Ext.refl _) rfl r3 _ ?_⟩
          cases hv : valP l k with
          | none => rw [(RPs.val k h2).2 hv]; exact ry
          | some x => obtain ⟨y', hy, rx⟩ := (RPs.val k h2).1 x hv; rw [hy]; exact rx
/-- the statement runs while the dict of the i-th name is locked -/
def sLock (j : Nat) (b : MS) : MS := fun e S => match e[j]? with
  | some (some (.ref n)) => match S[n]? with
    | some (.dct l) => match b e (S.set n (.fdct l)) with
      | .nx e' S' => if S'[n]? = some (.fdct l) then .nx e' (S'.set n (.dct l)) else .bad
      | .rt d S' => if S'[n]? = some (.fdct l) then .rt d (S'.set n (.dct l)) else .bad
      | .bk e' S' => if S'[n]? = some (.fdct l) then .bk e' (S'.set n (.dct l)) else .bad
      | .ct e' S' => if S'[n]? = some (.fdct l) then .ct e' (S'.set n (.dct l)) else .bad
      | _ => .bad
    | _ => .bad
  | _ => .bad
end
section
variable {K : PySem.W.Frag} {g g' : G} {n : Nat} {l : List (Key × D)} {vs : List (Key × V)}
abbrev G.locked (g : G) (n : Nat) (l : List (Key × D)) (od : Obj) (vs : List (Key × V)) : G := g.put n (.fdct l) (.frz od (.dK vs))
theorem lock_rep (rp : Rep K g) (hn : g.S[n]? = some (.dct l)) (od : Obj) (h2 : RPs K g l vs) : Ext g (g.locked n l od vs) ∧ Rep K (g.locked n l od vs) ∧ ¬ (g.locked n l od vs).Live (g.ρ n) := by
  have x := Ext.put (o' := .fdct l) (u := .frz od (.dK vs)) hn rfl
  refine ⟨x, rp.put hn rfl ⟨od, vs, upd_same, h2.mono x⟩, ?_⟩
  rintro ⟨j, y, h1, h2, h3⟩
  have h1' : (g.S.set n (.fdct l))[j]? = some y := h1
  by_cases hj : n = j
  · subst hj
    rw [List.getElem?_set_self (List.getElem?_eq_some_iff.mp hn).1] at h1'
    rw [← Option.some.inj h1'] at h2
    cases h2
  · rw [List.getElem?_set_ne hj] at h1'
    exact hj (rp.inj n j _ y hn (O.act_ne rfl) h1' (O.act_ne h2) h3.symm)
/-- back from the lock -/
theorem unlock_rep (rp : Rep K g) (hn : g.S[n]? = some (.dct l)) (od : Obj) (h1 : g.H (g.ρ n) = some (.dK vs)) (h2 : RPs K g l vs) (x : Ext (g.locked n l od vs) g') (rp' : Rep K g') (hs : g'.S[n]? = some (.fdct l)) :
    g'.H (g.ρ n) = some (.frz od (.dK vs)) ∧ ∃ g2 : G, g2.H = upd g'.H (g.ρ n) (.dK vs) ∧ g2.S = g'.S.set n (.dct l) ∧ Ext g g2 ∧ Rep K g2 ∧ Sim g' g2 := by
  obtain ⟨y1, y2, y3⟩ := lock_rep rp hn od h2
  have hnl : n < g.S.length := (List.getElem?_eq_some_iff.mp hn).1
  obtain ⟨z1, z2⟩ := x.kp (g.ρ n) _ (show upd g.H (g.ρ n) _ (g.ρ n) = some (.frz od (.dK vs)) from upd_same) y3
  have hρ : g'.ρ n = g.ρ n := x.ag n (by show n < (g.S.set n _).length; rw [List.length_set]; exact hnl)
  let g2 : G := { N := g'.N, ρ := g'.ρ, S := g'.S.set n (.dct l), H := upd g'.H (g.ρ n) (.dK vs) }
  have live2 : ∀ a, g2.Live a → g'.Live a ∨ a = g.ρ n := fun a ⟨j, y, q1, q2, q3⟩ => by
    have q1' : (g'.S.set n (.dct l))[j]? = some y := q1
    by_cases hj : n = j
    · subst hj; exact .inr (by rw [← hρ]; exact q3.symm)
    · rw [List.getElem?_set_ne hj] at q1'
      exact .inl ⟨j, y, q1', q2, q3⟩
  have key : ∀ (a : Addr) (w : HO), (∀ o r, w ≠ .frz o r) → (∀ r, w ≠ .dK r) → Rd g'.H a w → g'.Pr a → Rd g2.H a w ∧ g2.Pr a := fun a w w1 w2 h q => by
    have ne : a ≠ g.ρ n := fun z => by
      subst z
      rcases h with h | ⟨o, h⟩
      · rw [z1] at h; cases h; exact w1 _ _ rfl
      · rw [z1] at h; cases h; exact w2 _ rfl
    refine ⟨?_, q.1, fun z => (live2 a z).elim q.2 ne⟩
    rcases h with h | ⟨o, h⟩
    · exact .inl ((upd_ne ne).trans h)
    · exact .inr ⟨o, (upd_ne ne).trans h⟩
  have s2 : Sim g' g2 := ⟨⟨fun a vs h q => key a _ (fun _ _ z => by cases z) (fun _ z => by cases z) h q, fun a vs h q => key a _ (fun _ _ z => by cases z) (fun _ z => by cases z) h q⟩, by show g'.S.length ≤ (g'.S.set n _).length; rw [List.length_set]; exact Nat.le_refl _, fun _ _ => rfl⟩
  have lng : g.Live (g.ρ n) := ⟨n, _, hn, rfl, rfl⟩
  have e2 : Ext g g2 := by
    refine ⟨x.n, ?_, fun i hi => x.ag i (by show i < (g.S.set n _).length; rw [List.length_set]; exact hi), fun a o q nl => ?_⟩
    · have := x.len
      show g.S.length ≤ (g'.S.set n _).length
      rw [List.length_set]
      rw [show (g.locked n l od vs).S.length = g.S.length from List.length_set ..] at this
      exact this
    · have ne : a ≠ g.ρ n := fun z => nl (z ▸ lng)
      obtain ⟨k1, k2⟩ := x.kp a o ((show upd g.H (g.ρ n) _ a = g.H a from upd_ne ne).trans q) fun z => nl (live_put hn rfl z)
      exact ⟨(show upd g'.H (g.ρ n) _ a = g'.H a from upd_ne ne).trans k1, fun z => (live2 a z).elim k2 ne⟩
  have vsl : RPs K g' l vs := (h2.mono y1).mono x
  refine ⟨z1, g2, rfl, rfl, e2, ⟨fun a z => ?_, fun i j y w q1 n1 q2 n2 e => ?_, fun i y q => ?_⟩, s2⟩
  · obtain ⟨o, ho⟩ := rp'.nd a z
    by_cases ha : a = g.ρ n
    · exact ⟨_, by rw [ha]; exact upd_same⟩
    · exact ⟨o, (show upd g'.H (g.ρ n) _ a = g'.H a from upd_ne ha).trans ho⟩
  · have at2 : ∀ (i : Nat) (y : O), (g'.S.set n (.dct l))[i]? = some y → y ≠ .gone → i = n ∨ (g'.S[i]? = some y ∧ g'.ρ i ≠ g.ρ n) := fun i y q m => by
      by_cases hi : n = i
      · exact .inl hi.symm
      · rw [List.getElem?_set_ne hi] at q
        exact .inr ⟨q, fun z => hi (rp'.inj i n y _ q m hs (by intro z; cases z) (by rw [hρ]; exact z)).symm⟩
    have e' : g'.ρ i = g'.ρ j := e
    rcases at2 i y q1 n1 with a | ⟨a, a'⟩ <;> rcases at2 j w q2 n2 with b | ⟨b, b'⟩
    · rw [a, b]
    · rw [a, hρ] at e'; exact absurd e'.symm b'
    · rw [b, hρ] at e'; exact absurd e' a'
    · exact rp'.inj i j y w a n1 b n2 e'
  · have q' : (g'.S.set n (.dct l))[i]? = some y := q
    by_cases hi : n = i
    · subst hi
      rw [List.getElem?_set_self (List.getElem?_eq_some_iff.mp hs).1] at q'
      cases q'
      refine ⟨vs, ?_, vsl.sim s2⟩
      show upd g'.H (g.ρ n) (.dK vs) (g'.ρ n) = _
      rw [hρ]
      exact upd_same
    · rw [List.getElem?_set_ne hi] at q'
      by_cases hy : g'.ρ i = g.ρ n
      · -- only what is locked, too, stands there
        have ro := rp'.obj i y q'
        cases y with
        | gone => trivial
        | lst l2 => exact absurd ⟨i, _, q', rfl, hy⟩ z2
        | dct l2 => exact absurd ⟨i, _, q', rfl, hy⟩ z2
        | ins C l2 => exact absurd ⟨i, _, q', rfl, hy⟩ z2
        | fdct l2 => exact absurd (rp'.inj i n _ _ q' (by intro z; cases z) hs (by intro z; cases z) (by rw [hρ]; exact hy)).symm hi
      · exact (rp'.obj i y q').sim s2 fun _ => upd_ne hy
end
section
variable {X : Cx} {W : WX'} {st : Stmt} {b : MS} {j : Nat}
theorem i_lock {K : PySem.W.Frag} {D : Ends} {σ : L2.St} {H : Hp} (h : tS K W (sLock j b) D σ H) : tLock (tS K W b) D σ H := by
  obtain ⟨g, e, hH, rp, re, p⟩ := h
  subst hH
  unfold sLock at p
  cases he : e[j]? with
  | none => rw [he] at p; exact False.elim p
  | some od => cases od with
    | none => rw [he] at p; exact False.elim p
    | some d => cases d with
      | ref n =>
        rw [he] at p
        dsimp only at p
        cases hn : g.S[n]? with
        | none => rw [hn] at p; exact False.elim p
        | some o => cases o with
          | dct l =>
            rw [hn] at p
            dsimp only at p
            obtain ⟨vs, h1, h2⟩ := rp.obj n _ hn
            refine ⟨g.ρ n, .dK vs, h1, True.intro, fun od => ?_⟩
            obtain ⟨y1, y2, y3⟩ := lock_rep rp hn od h2
            refine ⟨g.locked n l od vs, e, rfl, y2, re.mono y1, ?_⟩
            show PostS K W (g.locked n l od vs) (b e (g.S.set n (.fdct l))) _
            cases q : b e (g.S.set n (.fdct l)) with
            | nx e' S' =>
              rw [q] at p
              dsimp only at p
              by_cases hs : S'[n]? = some (.fdct l)
              · rw [if_pos hs] at p
                intro g' σ' x s rp' re'
                obtain ⟨k1, g2, k2, k3, k4, k5, k6⟩ := unlock_rep rp hn od h1 h2 x rp' (by rw [s]; exact hs)
                refine ⟨k1, ?_⟩
                show D.nx σ' (upd g'.H (g.ρ n) (.dK vs))
                rw [← k2]
                exact p g2 σ' k4 (by rw [k3, s]) k5 (re'.sim k6)
              · rw [if_neg hs] at p; exact False.elim p
            | bk e' S' =>
              rw [q] at p
              dsimp only at p
              by_cases hs : S'[n]? = some (.fdct l)
              · rw [if_pos hs] at p
                intro g' σ' x s rp' re'
                obtain ⟨k1, g2, k2, k3, k4, k5, k6⟩ := unlock_rep rp hn od h1 h2 x rp' (by rw [s]; exact hs)
                refine ⟨k1, ?_⟩
                show D.bk σ' (upd g'.H (g.ρ n) (.dK vs))
                rw [← k2]
                exact p g2 σ' k4 (by rw [k3, s]) k5 (re'.sim k6)
              · rw [if_neg hs] at p; exact False.elim p
            | ct e' S' =>
              rw [q] at p
              dsimp only at p
              by_cases hs : S'[n]? = some (.fdct l)
              · rw [if_pos hs] at p
                intro g' σ' x s rp' re'
                obtain ⟨k1, g2, k2, k3, k4, k5, k6⟩ := unlock_rep rp hn od h1 h2 x rp' (by rw [s]; exact hs)
                refine ⟨k1, ?_⟩
                show D.ct σ' (upd g'.H (g.ρ n) (.dK vs))
                rw [← k2]
                exact p g2 σ' k4 (by rw [k3, s]) k5 (re'.sim k6)
              · rw [if_neg hs] at p; exact False.elim p
            | rt d S' =>
              rw [q] at p
              dsimp only at p
              by_cases hs : S'[n]? = some (.fdct l)
              · rw [if_pos hs] at p
                intro g' v x s rp' rv
                obtain ⟨k1, g2, k2, k3, k4, k5, k6⟩ := unlock_rep rp hn od h1 h2 x rp' (by rw [s]; exact hs)
                refine ⟨k1, ?_⟩
                show D.rt v (upd g'.H (g.ρ n) (.dK vs))
                rw [← k2]
                exact p g2 v k4 (by rw [k3, s]) k5 (rv.sim k6)
              · rw [if_neg hs] at p; exact False.elim p
            | er x e' S' => rw [q] at p; exact False.elim p
            | bad => rw [q] at p; exact False.elim p
          | _ => rw [hn] at p; exact False.elim p
      | _ => rw [he] at p; exact False.elim p
theorem sm_lock (h : PS X st (tS X.K W b)) : PS X st (tS X.K W (sLock j b)) := PS.imp (ps_lock h) fun _ _ _ => i_lock
/-- for k in d, d locked -/
def keysD (l : List (Key × D)) : List D := l.map fun p => kD p.1
def hasF (n : Nat) (l : List (Key × D)) (S : List O) : Bool := decide (S[n]? = some (.fdct l))
def miKeys (m : ME) : MI := fun e S => (m e S).bind fun d S1 => match d with
  | .ref n => match S1[n]? with
    | some (.fdct l) => .ok (keysD l, hasF n l) S1
    | _ => .bad
  | _ => .bad
theorem jok_keys {K : PySem.W.Frag} {g : G} {n : Nat} {l : List (Key × D)} {o : Obj} {vs : List (Key × V)} (hn : g.S[n]? = some (.fdct l)) (rp0 : Rep K g) (ha : g.H (g.ρ n) = some (.frz o (.dK vs))) (h2 : RPs K g l vs) :
    Jok K g (Itk (g.ρ n) o vs) (keysD l) (hasF n l) := fun g' s kp rp c i => by
  have nl : ¬ g.Live (g.ρ n) := fun ⟨j, y, q1, q2, q3⟩ => by
    have := rp0.inj j n y _ q1 (O.act_ne q2) hn (by intro z; cases z) q3
    subst this
    rw [hn] at q1
    cases q1
    cases q2
  have h1 := (kp _ _ ha nl).1
  have h2 := h2.sim s
  have hl := h2.length
  refine ⟨fun hi => ⟨h1, by unfold keysD at hi; rw [List.length_map] at hi; omega⟩, fun d hd => ?_⟩
  unfold keysD at hd
  rw [List.getElem?_map] at hd
  cases e : l[i]? with
  | none => rw [e] at hd; cases hd
  | some p =>
    rw [e] at hd
    cases hd
    have hi : i < l.length := (List.getElem?_eq_some_iff.mp e).1
    refine ⟨⟨h1, by omega⟩, fun x H' y => ?_⟩
    obtain ⟨rfl, k, v, hkv, rfl⟩ := y
    obtain ⟨d', e1, e2⟩ := RPs.getK h2 hkv
    rw [e] at e1
    cases e1
    exact ⟨g', Ext.refl g', rfl, rfl, rp, kD_rd k⟩
theorem im_keys {tg e : Expr} {m : ME} (he : PE X e (tE X.K W m)) : PI X tg e (tI X.K W (miKeys m)) := PI.imp (pi_keys he) fun σ H R' ⟨g, e, hH, rp, re, p⟩ => by
  subst hH
  refine ⟨g, e, rfl, rp, re, (Post.bind p).imp fun d g1 e1 r1 ⟨_, _, p1⟩ v rv => ?_⟩
  cases d with
  | ref n =>
    dsimp only at p1
    cases hn : g1.S[n]? with
    | none => rw [hn] at p1; exact False.elim p1
    | some o => cases o with
      | fdct l =>
        rw [hn] at p1
        rw [RD] at rv
        obtain ⟨od, vs, h1, h2⟩ := r1.obj n _ hn
        exact ⟨g1.ρ n, od, rv.2, .inl ⟨vs, h1, Post.here r1 p1 _ (jok_keys hn r1 h1 h2)⟩⟩
      | _ => rw [hn] at p1; exact False.elim p1
  | _ => exact False.elim p1
end
end Mo

namespace Mo
open PySem PySem.Spec L2 PyProof.Rows

/-! ### enumerate(tuple) -/
section
variable {prog : Program} {w : World} {A : Around} {E : Value → Shared → Prop} {s : Shared}
theorem meets_enumT (l : Addr) (items : Array Value) :
    Meets (Builtin.«enumerate.__new__» ⟨[.type "enumerate", .ref l], []⟩) (fun _ R s => s.heap.IsTuple l items ∧
      R (.ok (.ret (.ref (s.heap.push { cls := .type "tuple_iterator", data := .fields #[.ref l, .int 0 0] }).objs.size)))
        { s with heap := (s.heap.push { cls := .type "tuple_iterator", data := .fields #[.ref l, .int 0 0] }).push { cls := .type "enumerate", data := .fields #[.none, .bool false, .ref s.heap.objs.size, rawInt 0, .none, .none] } }) :=
  .of_wp fun prog w A R s h => by
    obtain ⟨hp, g, d, tk, os⟩ := s
    obtain ⟨h1, h⟩ := h
    have hsub := sub_enumerate
    have q1 : ∀ {A' : Around} {E : Value → Shared → Prop} {Q : Value → Shared → Prop}, Q (.ref hp.objs.size) ⟨hp.push { cls := .type "tuple_iterator", data := .fields #[.ref l, .int 0 0] }, g, d, tk, os⟩ → wpAny (model prog w) A' (pyIter (.ref l)) Q E ⟨hp, g, d, tk, os⟩ :=
      fun q => (begins_tuple l items).iter prog w _ _ ⟨hp, g, d, tk, os⟩ _ h1 q
    wp_walk using q1
    refine wpAny_stack_any fun st => wpAny_pure ?_
    split
    · rename_i c _ _ _ _ _
      cases (c == Value.type "enumerate")
      · wp_walk using q1
        exact ⟨_, rfl, h⟩
      · wp_walk using q1
        exact ⟨_, rfl, h⟩
    · wp_walk using q1
      exact ⟨_, rfl, h⟩
theorem call_enumT {l : Addr} {items : Array Value} {Q : Value → Shared → Prop} (hL : s.heap.IsTuple l items)
    (h : ∀ h', IsEnum h' (s.heap.objs.size + 1) s.heap.objs.size 0 .none → h'.IsTupleIter s.heap.objs.size l 0 → h'.objs.size = s.heap.objs.size + 2 →
      (∀ b o, s.heap.get? b = some o → h'.get? b = some o) → Q (.ref (s.heap.objs.size + 1)) { s with heap := h' }) :
    wpAny (model prog w) A (call (.type "enumerate") [.ref l]) Q E s := by
  refine callType_new F.called_enumerate (by decide) (F.typeCall_enumerate_1 _) (F.newCall_enumerate_1 _) (fun obj => F.args_object_init_2 obj _) F.entry_enumerate_new (meets_enumT l items) ⟨hL, ?_⟩
  have hz : (s.heap.push { cls := .type "tuple_iterator", data := .fields #[.ref l, .int 0 0] }).objs.size = s.heap.objs.size + 1 := Heap.size_push ..
  show _ ∧ _
  rw [hz]
  have he : IsEnum ((s.heap.push { cls := .type "tuple_iterator", data := .fields #[.ref l, .int 0 0] }).push
      { cls := .type "enumerate", data := .fields #[.none, .bool false, .ref s.heap.objs.size, rawInt 0, .none, .none] }) (s.heap.objs.size + 1) s.heap.objs.size 0 .none := by
    have := Heap.get?_push_size (s.heap.push { cls := .type "tuple_iterator", data := .fields #[.ref l, .int 0 0] })
      (o := { cls := .type "enumerate", data := .fields #[.none, .bool false, .ref s.heap.objs.size, rawInt 0, .none, .none] }) rfl
    rw [hz] at this; exact this
  exact ⟨⟨_, he, rfl⟩, h _ he ⟨_, Heap.get?_push_of_some _ (Heap.get?_push_size _ rfl), rfl, rfl⟩ (by rw [Heap.size_push, hz]) fun b o x => Heap.get?_push_of_some _ (Heap.get?_push_of_some _ x)⟩
end
/-- the tuple at a, each item in a new pair -/
def IteT (K : PySem.W.Frag) (a : Addr) (xs : List V) : It :=
  ⟨fun i H => SqT K H a xs ∧ i < xs.length, fun i H v H' => ∃ T x, v = .ref T ∧ H T = none ∧ H' = upd H T (.tup [.int (i : Nat), x]) ∧ xs[i]? = some x, fun i H => SqT K H a xs ∧ xs.length ≤ i⟩
theorem turn_enumT {P : Program} {w : World} {K : PySem.W.Frag} {elts : List Expr} {kk : Nat} {tpos : Pos} (a e it : Addr) (xs : List V) :
    Turn P w K (.Tuple elts kk tpos) (IteT K a xs) [e, it] e (fun i h => (∃ old, IsEnum h e it ((i : Nat) : Int) old) ∧ h.IsTupleIter it a i ∧ e ≠ it ∧ i ≤ xs.length) where
  mem := by simp
  obj := fun i h st b hb => by
    obtain ⟨⟨old, he⟩, ⟨o, ho, hc, hd⟩, _⟩ := st
    have e' : b = e ∨ b = it := by simpa using hb
    rcases e' with z | z
    · rw [z]; exact ⟨_, he, fun v q => nomatch q⟩
    · rw [z]; exact ⟨o, ho, fun v q => by rw [hd] at q; cases q⟩
  keep := fun i h h' st k => let ⟨⟨old, he⟩, hi, hne⟩ := st; ⟨⟨old, k e (by simp) _ he⟩, hi.at fun o q => k it (by simp) o q, hne⟩
  item := by
    intro X hP hw hK hc i pins s σ H E I hf st hg
    subst hP hw hK
    obtain ⟨⟨old, he⟩, hit, hne, hle⟩ := st
    obtain ⟨hq, hlx⟩ := hg
    obtain ⟨x, hx⟩ : ∃ x, xs[i]? = some x := ⟨xs[i], by simp [hlx]⟩
    obtain ⟨its, rv, p, hz⟩ := I.tuple hq
    obtain ⟨u, hu, ru⟩ := rv.get hx
    have hel : e < s.heap.objs.size := Heap.lt_size he
    have hil : it < s.heap.objs.size := by obtain ⟨_, q, _⟩ := hit; exact Heap.lt_size q
    have pT : s.heap.IsTuple a its.toArray := p
    have hhd : X.A.in1.handled = none := (I.ok.hd hc)
    have hai : a ≠ it := fun z => by
      subst z
      obtain ⟨_, q1, q2, _⟩ := pT
      obtain ⟨_, q3, q4, _⟩ := hit
      rw [q1] at q3
      cases q3
      have e1 : (Value.type "tuple") = .type "tuple_iterator" := q2.symm.trans q4
      exact absurd (Value.type.inj e1) (by decide)
    have hae : a ≠ e := fun z => by
      subst z
      obtain ⟨_, q1, q2, _⟩ := pT
      rw [he] at q1
      cases q1
      have e1 : (Value.type "enumerate") = .type "tuple" := q2
      exact absurd (Value.type.inj e1) (by decide)
    have hlt : i < its.toArray.size := by
      rw [List.size_toArray, ← rv.length]
      exact (List.getElem?_eq_some_iff.mp hx).1
    refine wpAny_pyNext_enum_itemD (Draws.tuple hhd it a hai its.toArray) he ⟨hit, pT⟩ hlt hne (by simp [hne, Ne.symm hae]) fun x' h' tk hP ho hst' hT hsz hk => ?_
    have hx' : x' = u := by
      have : its.toArray[i]? = some x' := hP
      rw [List.getElem?_toArray, hu] at this
      exact (Option.some.inj this).symm
    subst hx'
    refine ⟨_, rfl, wpAny_letOwnedTupleGo_enum (s := { s with heap := h', toks := tk + 1 }) ho fun h'' he' sb => ?_⟩
    have hT2 : h''.get? s.heap.objs.size = some { cls := .type "tuple", data := .seq #[.int i tk, x'] } := (sb.2 _ (Nat.ne_of_gt hel)).trans hT
    have new : ObjOk X.prog X.w (upd H s.heap.objs.size (.tup [.int (i : Nat), x])) h'' s.heap.objs.size (.tup [.int (i : Nat), x]) :=
      ⟨by show 2 ≤ sizeLine; decide, [.int i tk, x'], .cons ⟨_, rfl⟩ (.cons ru .nil), ⟨_, hT2, rfl, _, rfl⟩⟩
    have I1 : Inv X pins σ (upd H s.heap.objs.size (.tup [.int (i : Nat), x])) { s with heap := h'', toks := tk + 1 } :=
      I.turnedNew (ch := [e, it]) (fun b ob hb q => (sb.2 b (fun z => hb (by simp [z]))).trans (hk b ob (fun z => hb (by simp [z])) (fun z => hb (by simp [z])) q)) hf (Nat.le_refl _) new
    refine ⟨.ref s.heap.objs.size, _, I1, rfl, ⟨_, x, rfl, I.hok.fresh (Nat.le_refl _), rfl, hx⟩, ⟨⟨x', ?_⟩, hst'.1.at fun o q => (sb.2 it (Ne.symm hne)).trans q, hne, hlx⟩, fun b hb => ?_⟩
    · have e1 : ((i + 1 : Nat) : Int) = (i : Int) + 1 := by omega
      rw [e1]; exact he'
    · have hb' : b < s.heap.objs.size := by
        have e' : b = e ∨ b = it := by simpa using hb
        rcases e' with z | z
        · rw [z]; exact hel
        · rw [z]; exact hil
      rw [upd_ne (Nat.ne_of_lt hb')]
      exact (hf b hb).1
  done := by
    intro X hP hw hK hc i pins s σ H E I hf st hg
    subst hP hw hK
    obtain ⟨⟨old, he⟩, hit, hne, hle⟩ := st
    obtain ⟨hq, hx⟩ := hg
    obtain ⟨its, rv, p, hz⟩ := I.tuple hq
    obtain ⟨f0, f1, f2, f3, f4, f5⟩ := hf it (by simp)
    have hl := rv.length
    have pT : s.heap.IsTuple a its.toArray := p
    have hai : a ≠ it := fun z => by
      subst z
      obtain ⟨_, q1, q2, _⟩ := pT
      obtain ⟨_, q3, q4, _⟩ := hit
      rw [q1] at q3
      cases q3
      have e1 : (Value.type "tuple") = .type "tuple_iterator" := q2.symm.trans q4
      exact absurd (Value.type.inj e1) (by decide)
    have hi : i = its.toArray.size := by rw [List.size_toArray]; omega
    subst hi
    have hhd : X.A.in1.handled = none := (I.ok.hd hc)
    exact wpAny_pyNext_enum_endD (Draws.tuple hhd it a hai its.toArray) he ⟨hit, pT⟩ fun h' eb => ⟨rfl, I.turned (t' := s.toks) (fun b o hb q => eb b o hb q) f0 f1 f3 f4 f5⟩
  self := fun A i s Q E st h => let ⟨⟨_, he⟩, _⟩ := st; wpAny_pyIter_enum he h
def iEnumT (K : PySem.W.Frag) (ta : TA) : TI := fun σ H R => ta σ H fun vs H1 => ∃ a xs, vs = [.ref a] ∧ SqT K H1 a xs ∧ R (IteT K a xs) H1
section
variable {X : Cx} {tg : Expr} {W : WX'}
theorem pi_enumT {e : Expr} {ta : TA} {p pos tpos : Pos} {elts : List Expr} {kk : Nat} (hg : Gl X "enumerate") (hm : X.mg "enumerate" = none) (ha : PA X [e] ta) (hs : starEach [e] X.env = [(false, eval e X.env)] := by rfl) :
    PI X (.Tuple elts kk tpos) (.Call (.Name "enumerate" p) [e] [] pos) (iEnumT X.K ta) := by
  refine ⟨fun pins s σ H R I h => ?_⟩
  refine Call_ (ld_blt I hg hm boot_enumerate (PyProof.Rows.callWith_type1 (thn (ha.run pos pins s σ H _ I h) fun us s1 ⟨vs, H1, I1, r1, q1⟩ => ?_) hs rfl))
  obtain ⟨a, xs, ex, hq, q⟩ := q1
  subst ex
  cases r1 with
  | cons r rr =>
    cases rr
    cases r
    obtain ⟨its, rv, p', hz⟩ := I1.tuple hq
    refine call_enumT (show s1.heap.IsTuple a its.toArray from p') fun h' he hit hsz hk => wpAny_pyIter_enum he ?_
    have I2 : Inv X pins σ H1 { s1 with heap := h' } := I1.kept (t' := s1.toks) hk
    refine ⟨s1.heap.objs.size + 1, [s1.heap.objs.size + 1, s1.heap.objs.size], _, _, H1, rfl, I2, turn_enumT a (s1.heap.objs.size + 1) s1.heap.objs.size xs, ⟨⟨.none, he⟩, hit, Nat.succ_ne_self _, Nat.zero_le _⟩, fun b hb => ?_, q⟩
    have e' : b = s1.heap.objs.size + 1 ∨ b = s1.heap.objs.size := by simpa using hb
    have hle : s1.heap.objs.size ≤ b := by
      rcases e' with z | z
      · rw [z]; exact Nat.le_add_right _ _
      · rw [z]; exact Nat.le_refl _
    exact I1.fpOk hle (I1.hok.fresh hle)
/-- enumerate(..) of a tuple -/
def enumD : Nat → List D → List D
  | _, [] => []
  | n, d :: l => .tup [.int n, d] :: enumD (n + 1) l
theorem enumD_get : ∀ {l : List D} {n i : Nat} {d : D}, (enumD n l)[i]? = some d → ∃ x, l[i]? = some x ∧ d = .tup [.int ((n + i : Nat) : Int), x]
  | [], n, i, d, h => by simp [enumD] at h
  | x :: l, n, 0, d, h => by
    simp [enumD] at h
    exact ⟨x, rfl, h.symm⟩
  | x :: l, n, i + 1, d, h => by
    rw [enumD] at h
    obtain ⟨y, h1, h2⟩ := enumD_get (l := l) (n := n + 1) (i := i) (by simpa using h)
    refine ⟨y, by simpa using h1, ?_⟩
    rw [h2, show n + 1 + i = n + (i + 1) by omega]
theorem enumD_len : ∀ {l : List D} {n : Nat}, (enumD n l).length = l.length
  | [], _ => rfl
  | x :: l, n => by rw [enumD, List.length_cons, List.length_cons, enumD_len]
def miEnumT (m : MA) : MI := fun e S => (m e S).bind fun l S1 => match l with
  | [.tup r] => .ok (enumD 0 r, anyS) S1
  | _ => .bad
theorem jok_enumT {K : PySem.W.Frag} {g : G} {a : Addr} {vs : List V} {r : List D} (h1 : gT K g a vs) (h2 : RDs K g r vs) : Jok K g (IteT K a vs) (enumD 0 r) anyS := fun g' s kp rp c i => by
  have k1 := h1.sim s.toSim0
  have k2 := h2.sim s
  have hl := k2.length
  refine ⟨fun hi => ⟨k1.sq, by rw [enumD_len] at hi; omega⟩, fun d hd => ?_⟩
  obtain ⟨x, hx, rfl⟩ := enumD_get hd
  have hlt : i < r.length := (List.getElem?_eq_some_iff.mp hx).1
  refine ⟨⟨k1.sq, by omega⟩, fun v H' y => ?_⟩
  obtain ⟨T, x', rfl, hT, rfl, hx'⟩ := y
  obtain ⟨w, hw, rw'⟩ := k2.get hx
  rw [hx'] at hw
  cases hw
  obtain ⟨n1, n2, n3⟩ := new_tup rp hT (RDs.cons (show RD K g' (.int ((0 + i : Nat) : Int)) (.int (i : Nat)) by rw [RD]; simp) (RDs.cons rw' RDs.nil))
  exact ⟨_, n1, rfl, rfl, n2, n3⟩
theorem im_enumT {e : Expr} {m : MA} {p pos tpos : Pos} {elts : List Expr} {kk : Nat} (hg : Gl X "enumerate") (hm : X.mg "enumerate" = none) (ha : PA X [e] (tA X.K W m)) (hs : starEach [e] X.env = [(false, eval e X.env)] := by rfl) :
    PI X (.Tuple elts kk tpos) (.Call (.Name "enumerate" p) [e] [] pos) (tI X.K W (miEnumT m)) := PI.imp (pi_enumT hg hm ha hs) fun σ H R' ⟨g, e, hH, rp, re, p⟩ => by
  subst hH
  refine ⟨g, e, rfl, rp, re, (Post.bind p).imp fun l g1 e1 r1 ⟨_, _, p1⟩ vs rv => ?_⟩
  split at p1
  · rename_i r
    obtain ⟨v, rfl, hv⟩ := rv.one
    rw [RD] at hv
    obtain ⟨a, ws, rfl, h1, h2⟩ := hv
    exact ⟨a, ws, rfl, h1.sq, Post.here r1 p1 _ (jok_enumT h1 h2)⟩
  · exact False.elim p1
end

/-! ### dict comprehensions -/
def compDL (chk : List O → Bool) (t : Tg) (tt : MT) (tk te : ME) (e : Env) : List (Key × D) → List D → List O → R (List (Key × D))
  | acc, [], S => if chk S = true then .ok acc S else .bad
  | acc, d :: l, S => if chk S = true then (match t.f d e with
    | some e' => (tt e' S).nb.bind fun k S1 => if k then (tk e' S1).nb.bind fun kd S2 => ((te e' S2).nb.bind fun y S3 => (match keyD kd with | some k => if acc.length < sz then compDL chk t tt tk te e (putP acc k y) l S3 else .bad | none => .bad)) else compDL chk t tt tk te e acc l S1
    | none => .bad) else .bad
def mDCompN (m : MI) (t : Tg) (tt : MT) (tk te : ME) (vs : List Nat) : ME := fun e S => (m e S).bind fun lc S1 => (compDL lc.2 t tt tk te (wipeE e vs) [] lc.1 S1).bind fun acc S2 => .ok (.ref S2.length) (S2 ++ [.dct acc])
section
variable {K : PySem.W.Frag} {W : WX'} {σ : L2.St} {H : Hp} {Q : VK} {g : G} {p : Addr} {u : HO}
theorem RPs_nil {α : Type} : RPs K g ([] : List (α × D)) [] := by rw [RPs]
theorem Rep.growD {ws : List (Key × V)} (rp : Rep K g) (hN : g.N p) (nl : ¬ g.Live p) (hz : g.H p = some (.dK ws)) : Rep K (g.grow p u) := by
  refine ⟨fun a z => ?_, rp.inj, fun i o q => (rp.obj i o q).sim (Sim.grow hN) fun n => ?_⟩
  · by_cases h : a = p
    · subst h; exact ⟨u, upd_same⟩
    · obtain ⟨o, e⟩ := rp.nd a z
      exact ⟨o, (show upd g.H p u a = g.H a from upd_ne h).trans e⟩
  · refine upd_ne fun z => ?_
    by_cases ha : o.act = true
    · exact nl ⟨i, o, q, ha, z⟩
    · cases o with
      | gone => exact n rfl
      | fdct l =>
        obtain ⟨od, vs, q1, _⟩ := rp.obj i _ q
        rw [z, hz] at q1
        cases q1
      | lst l => exact ha rfl
      | dct l => exact ha rfl
      | ins C l => exact ha rfl
theorem i_dcompN {m : MI} {t : Tg} {tt : MT} {tk te : ME} {vs : List Nat} (hsl : ∀ j ∈ t.sl, j ∈ vs) (h : tE K W (mDCompN m t tt tk te vs) σ H Q) : tDc (tI K W m) (tG K t) (tT K WF tt) (tE K WF tk) (tE K WF te) vs σ H Q := by
  obtain ⟨g, e, hH, rp, re, p⟩ := h
  subst hH
  refine ⟨g, e, rfl, rp, re, (Post.bind p).imp fun lc g1 e1 r1 ⟨_, _, p1⟩ J hJ => ?_⟩
  obtain ⟨l, chk⟩ := lc
  have p1 : Post K W g1 ((compDL chk t tt tk te (wipeE e vs) [] l g1.S).bind fun acc S2 => .ok (.ref S2.length) (S2 ++ [.dct acc])) σ fun d g' => ∀ v, RD K g' d v → Q v g'.H := p1
  intro Dl hD
  let At : Nat → Hp → Prop := fun i H => i ≤ l.length ∧ ∃ g' acc vs', g'.H = H ∧ Sim g1 g' ∧ Rep K g' ∧ g'.H Dl = some (.dK vs') ∧ RPs K g' acc vs' ∧ (∀ a, g'.N a ↔ (g1.N a ∨ a = Dl)) ∧ ¬ g'.Live Dl ∧
    (∀ a o, g1.H a = some o → ¬ g1.Live a → g'.H a = some o ∧ ¬ g'.Live a) ∧ compDL chk t tt tk te (wipeE e vs) [] l g1.S = compDL chk t tt tk te (wipeE e vs) acc (l.drop i) g'.S
  have rew : RE K g1 (wipeE e vs) (L2.wipe σ vs) := (re.mono e1).wipes vs
  refine ⟨fun i m H => m = l.length - i ∧ At i H, ⟨l.length, by simp, Nat.zero_le _, g1.guard Dl (.dK []), [], [], rfl, Sim.guard hD, r1.guard hD, upd_same, RPs_nil, fun _ => Iff.rfl, (r1.fresh hD).2, fun a o ho nl => ⟨?_, nl⟩, rfl⟩, ?_⟩
  · exact (show upd g1.H Dl (.dK []) a = g1.H a from upd_ne (ne_of_none ho hD)).trans ho
  rintro i m H ⟨rfl, hi, g', acc, vs', rfl, s', rp', hDl, racc, hN, nlive, keep, hR⟩
  have hND : g'.N Dl := (hN Dl).mpr (.inr rfl)
  by_cases hlt : i < l.length
  · obtain ⟨d, hd⟩ : ∃ d, l[i]? = some d := ⟨l[i], by simp [hlt]⟩
    have hdrop : l.drop i = d :: l.drop (i + 1) := by
      rw [List.drop_eq_getElem_cons hlt]
      congr 1
      exact Option.some.inj ((List.getElem?_eq_getElem hlt).symm.trans hd)
    rw [hdrop, compDL] at hR
    have nobad : compDL chk t tt tk te (wipeE e vs) [] l g1.S ≠ .bad := fun z => by rw [z] at p1; exact p1
    by_cases hc : chk g'.S = true
    · rw [if_pos hc] at hR
      obtain ⟨go, yl⟩ := (hJ g' s' keep rp' hc i).2 d hd
      refine .inr ⟨go, fun H => At (i + 1) H, fun H2 h2 => ⟨l.length - (i + 1), by omega, rfl, h2⟩, fun x H' y => ?_⟩
      obtain ⟨g2, x2, s2, rfl, rp2, rd2⟩ := yl x H' y
      cases q : t.f d (wipeE e vs) with
      | none => rw [q] at hR; exact absurd hR nobad
      | some e2 =>
        rw [q] at hR
        dsimp only at hR
        refine ⟨g2, wipeE e vs, d, e2, rfl, rp2, rew.sim (s'.trans x2.sim), rd2, q, fun σ2 re2 off => ⟨wipe_same off hsl, g2, e2, rfl, rp2, re2, ?_⟩⟩
        rw [s2]
        cases qt : tt e2 g'.S with
        | er x3 S3 => rw [qt] at hR; exact absurd hR nobad
        | bad => rw [qt] at hR; exact absurd hR nobad
        | ok k S3 =>
          rw [qt] at hR
          have hR : compDL chk t tt tk te (wipeE e vs) [] l g1.S = if k then (tk e2 S3).nb.bind fun kd S2 => ((te e2 S2).nb.bind fun y S3 => (match keyD kd with | some k => if acc.length < sz then compDL chk t tt tk te (wipeE e vs) (putP acc k y) (l.drop (i + 1)) S3 else .bad | none => .bad)) else compDL chk t tt tk te (wipeE e vs) acc (l.drop (i + 1)) S3 := hR
          intro g3 x3 hs3 rp3
          have x23 := x2.trans x3
          have keep3 : ∀ a o, g1.H a = some o → ¬ g1.Live a → g3.H a = some o ∧ ¬ g3.Live a := fun a o ho nl =>
            let ⟨k1, k2⟩ := keep a o ho nl
            x23.kp a o k1 k2
          have dl3 := x23.kp Dl _ hDl nlive
          have hN3 : ∀ a, g3.N a ↔ (g1.N a ∨ a = Dl) := fun a => by rw [x23.n]; exact hN a
          cases k with
          | false => exact ⟨hlt, g3, acc, vs', rfl, s'.trans x23.sim, rp3, dl3.1, racc.sim x23.sim, hN3, dl3.2, keep3, by rw [hs3]; exact hR⟩
          | true =>
            rw [if_pos rfl] at hR
            refine ⟨g3, e2, rfl, rp3, re2.mono x3, ?_⟩
            rw [hs3]
            cases qk : tk e2 S3 with
            | er x4 S4 => rw [qk] at hR; exact absurd hR nobad
            | bad => rw [qk] at hR; exact absurd hR nobad
            | ok kd S4 =>
              rw [qk] at hR
              have hR : compDL chk t tt tk te (wipeE e vs) [] l g1.S = (te e2 S4).nb.bind fun y S2 => (match keyD kd with | some k => if acc.length < sz then compDL chk t tt tk te (wipeE e vs) (putP acc k y) (l.drop (i + 1)) S2 else .bad | none => .bad) := hR
              intro g4 x4 hs4 rp4 v4 rv4
              have x24 := x23.trans x4
              refine ⟨g4, e2, rfl, rp4, (re2.mono x3).mono x4, ?_⟩
              rw [hs4]
              cases qe : te e2 S4 with
              | er x5 S5 => rw [qe] at hR; exact absurd hR nobad
              | bad => rw [qe] at hR; exact absurd hR nobad
              | ok y S5 =>
                rw [qe] at hR
                have hR : compDL chk t tt tk te (wipeE e vs) [] l g1.S = (match keyD kd with | some k => if acc.length < sz then compDL chk t tt tk te (wipeE e vs) (putP acc k y) (l.drop (i + 1)) S5 else .bad | none => .bad) := hR
                cases hk : keyD kd with
                | none => rw [hk] at hR; exact absurd hR nobad
                | some k =>
                  rw [hk] at hR
                  dsimp only at hR
                  by_cases hz : acc.length < sz
                  · rw [if_pos hz] at hR
                    intro g5 x5 hs5 rp5 v5 rv5
                    have x25 := x24.trans x5
                    have dl5 := x25.kp Dl _ hDl nlive
                    have hN5 : ∀ a, g5.N a ↔ (g1.N a ∨ a = Dl) := fun a => by rw [x25.n]; exact hN a
                    have hND5 : g5.N Dl := (hN5 Dl).mpr (.inr rfl)
                    refine ⟨vs', k, keyD_at hk rv4, dl5.1, by rw [← racc.length, ← sz_eq]; exact hz, hlt, g5.grow Dl (.dK (putK vs' k v5)), putP acc k y, putK vs' k v5, rfl, (s'.trans x25.sim).trans (Sim.grow hND5), rp5.growD hND5 dl5.2 dl5.1, upd_same,
                      ((racc.sim x25.sim).put rv5).sim (Sim.grow hND5), hN5, dl5.2, fun a o ho nl => ?_, by rw [show (g5.grow Dl (.dK (putK vs' k v5))).S = S5 from hs5]; exact hR⟩
                    obtain ⟨k1, k2⟩ := keep a o ho nl
                    obtain ⟨k3, k4⟩ := x25.kp a o k1 k2
                    exact ⟨(show upd g5.H Dl (.dK (putK vs' k v5)) a = g5.H a from upd_ne (ne_of_none ho hD)).trans k3, k4⟩
                  · rw [if_neg hz] at hR; exact absurd hR nobad
    · rw [if_neg hc] at hR; exact absurd hR nobad
  · have hl : l.drop i = [] := List.drop_eq_nil_of_le (Nat.le_of_not_lt hlt)
    rw [hl, compDL] at hR
    have nobad : compDL chk t tt tk te (wipeE e vs) [] l g1.S ≠ .bad := fun z => by rw [z] at p1; exact p1
    by_cases hc : chk g'.S = true
    · rw [if_pos hc] at hR
      refine .inl ⟨(hJ g' s' keep rp' hc i).1 (Nat.le_of_not_lt hlt), ?_⟩
      rw [hR] at p1
      have hsub : ∀ a, g1.N a → g'.N a := fun a z => (hN a).mpr (.inl z)
      let g2 : G := { N := g1.N, ρ := fun i => if i = g'.S.length then Dl else g'.ρ i, S := g'.S ++ [.dct acc], H := g'.H }
      have live2 : ∀ a, g2.Live a → g'.Live a ∨ a = Dl := fun a ⟨i, o, q, n, e⟩ => by
        have q' : (g'.S ++ [O.dct acc])[i]? = some o := q
        have e' : (if i = g'.S.length then Dl else g'.ρ i) = a := e
        by_cases hi : i < g'.S.length
        · rw [List.getElem?_append_left hi] at q'
          rw [if_neg (Nat.ne_of_lt hi)] at e'
          exact .inl ⟨i, o, q', n, e'⟩
        · have e2 : i = g'.S.length := by
            rcases Nat.lt_or_ge i (g'.S.length + 1) with z | z
            · omega
            · rw [List.getElem?_eq_none (by simpa using z)] at q'; cases q'
          rw [if_pos e2] at e'
          exact .inr e'.symm
      have pr2 : ∀ a, g'.Pr a → g2.Pr a := fun a q => ⟨fun z => q.1 (hsub a z), fun z => (live2 a z).elim q.2 fun e => q.1 ((hN a).mpr (.inr e))⟩
      have s2 : Sim g' g2 := ⟨⟨fun a vs r q => ⟨r, pr2 a q⟩, fun a vs r q => ⟨r, pr2 a q⟩⟩, by show _ ≤ (g'.S ++ [O.dct acc]).length; simp, fun i hi => if_neg (Nat.ne_of_lt hi)⟩
      have at2 : ∀ i o, g2.S[i]? = some o → (i < g'.S.length ∧ g'.S[i]? = some o ∧ g2.ρ i = g'.ρ i) ∨ (i = g'.S.length ∧ o = .dct acc ∧ g2.ρ i = Dl) := fun i o q => by
        have q' : (g'.S ++ [O.dct acc])[i]? = some o := q
        by_cases hi : i < g'.S.length
        · rw [List.getElem?_append_left hi] at q'
          exact .inl ⟨hi, q', if_neg (Nat.ne_of_lt hi)⟩
        · have e2 : i = g'.S.length := by
            rcases Nat.lt_or_ge i (g'.S.length + 1) with z | z
            · omega
            · rw [List.getElem?_eq_none (by simpa using z)] at q'; cases q'
          subst e2
          rw [List.getElem?_append_right (Nat.le_refl _), Nat.sub_self] at q'
          exact .inr ⟨rfl, (Option.some.inj q').symm, if_pos rfl⟩
      have hne : ∀ i o, g'.S[i]? = some o → o ≠ .gone → g'.ρ i ≠ Dl := fun i o q n e => by
        cases o with
        | gone => exact n rfl
        | fdct l =>
          obtain ⟨od, ws, h1, _⟩ := rp'.obj i _ q
          rw [e, hDl] at h1
          cases h1
        | lst l => exact nlive ⟨i, _, q, rfl, e⟩
        | dct l => exact nlive ⟨i, _, q, rfl, e⟩
        | ins C l => exact nlive ⟨i, _, q, rfl, e⟩
      refine p1 g2 ⟨rfl, Nat.le_trans s'.len s2.len, fun i hi => ?_, fun a o ho nl => ?_⟩ rfl ⟨fun a z => rp'.nd a (hsub a z), fun i j o u q1 n1 q2 n2 e => ?_, fun i o q => ?_⟩ (.ref Dl) ?_
      · rw [s2.ag i (Nat.lt_of_lt_of_le hi s'.len)]; exact s'.ag i hi
      · obtain ⟨k1, k2⟩ := keep a o ho nl
        exact ⟨k1, fun z => (live2 a z).elim k2 fun e => by rw [e, hD] at ho; cases ho⟩
      · rcases at2 i o q1 with ⟨a1, a2, a3⟩ | ⟨a1, a2, a3⟩ <;> rcases at2 j u q2 with ⟨b1, b2, b3⟩ | ⟨b1, b2, b3⟩
        · rw [a3, b3] at e; exact rp'.inj i j o u a2 n1 b2 n2 e
        · rw [a3, b3] at e; exact absurd e (hne i o a2 n1)
        · rw [a3, b3] at e; exact absurd e.symm (hne j u b2 n2)
        · rw [a1, b1]
      · rcases at2 i o q with ⟨a1, a2, a3⟩ | ⟨a1, a2, a3⟩
        · rw [a3]; exact (rp'.obj i o a2).sim s2 fun _ => rfl
        · rw [a3, a2]; exact ⟨vs', hDl, racc.sim s2⟩
      · rw [RD]
        exact ⟨by show g'.S.length < (g'.S ++ [O.dct acc]).length; simp, by rw [show g2.ρ g'.S.length = Dl from if_pos rfl]⟩
    · rw [if_neg hc] at hR; exact absurd hR nobad
end
section
variable {X : Cx} {W : WX'} {m : MI} {t : Tg} {tt : MT} {tk te : ME}
theorem pm_dcompN {kx elt tg iter : Expr} {ifs : List Expr} {scope : Scope} {own : List (Str × Nat)} {pos : Pos} (hc : X.calm = true) (hN : X.N.Nodup) (hi : PI X tg iter (tI X.K W m)) (ok : BlkOk X.N X.env.scope scope own)
    (hg : ∀ (s : Shared) (H : Hp) (C : Addr) (cl : List (Str × Addr)) (fp : List Addr), PG (X.blk s H scope (compEnvC scope cl C X.env) fp) tg (tG X.K t)) (ht : ∀ (s : Shared) (H : Hp) (C : Addr) (cl : List (Str × Addr)) (fp : List Addr), PTs (X.blk s H scope (compEnvC scope cl C X.env) fp) ifs (tT X.K WF tt))
    (hk : ∀ (s : Shared) (H : Hp) (C : Addr) (cl : List (Str × Addr)) (fp : List Addr), PE (X.blk s H scope (compEnvC scope cl C X.env) fp) kx (tE X.K WF tk))
    (he : ∀ (s : Shared) (H : Hp) (C : Addr) (cl : List (Str × Addr)) (fp : List Addr), PE (X.blk s H scope (compEnvC scope cl C X.env) fp) elt (tE X.K WF te)) (hsl : ∀ j ∈ t.sl, j ∈ own.map (·.2) := by decide) (hs : ∀ x, foldedSetIterable iter X.env x = pure x := by intro _; rfl) :
    PE X (.DictComp kx elt [⟨tg, iter, ifs, 0⟩] scope pos) (tE X.K W (mDCompN m t tt tk te (own.map (·.2)))) := PE.imp (pe_dc hc hN hi ok hg ht hk he hs) fun _ _ _ => i_dcompN hsl
end
end Mo

namespace Mo
open PySem PySem.Spec L2 PyProof.Rows

/-! ### lists that are changed later, made by + and * -/
/-- an operator whose result is a new list -/
abbrev Op2N := List O → D → D → Option (List D)
def rOpN (K : PySem.W.Frag) (f : Op2N) : R2 := fun x y H Q => ∃ g a b l, g.H = H ∧ Rep K g ∧ RD K g a x ∧ RD K g b y ∧ f g.S a b = some l ∧ ∀ g' v, Ext g g' → g'.S = g.S ++ [.lst l] → Rep K g' → RD K g' (.ref g.S.length) v → Q v g'.H
def mBinN (f : Op2N) (ma mb : ME) : ME := fun e S => (ma e S).bind fun a S1 => (mb e S1).bind fun b S2 => match f S2 a b with
  | some l => .ok (.ref S2.length) (S2 ++ [.lst l])
  | none => .bad
def nAdd : Op2N := fun S a b => match seqP S a, seqP S b with
  | some x, some y => if x.length + y.length ≤ sz then some (x ++ y) else none
  | _, _ => none
def nMul : Op2N := fun S a b => match b with
  | .int k => match seqP S a with
    | some x => if x.length * k.toNat ≤ sz ∧ k.natAbs < 9223372036854775808 then some (List.replicate k.toNat x).flatten else none
    | none => none
  | _ => none
section
variable {X : Cx} {W : WX'} {a b : Expr} {ma mb : ME} {pos : Pos}
theorem o_addN : OpR X (binaryOp .Add) (rOpN X.K nAdd) := by
  intro pins s σ H x y v u Q I rx ry h
  obtain ⟨g, a, b, l, rfl, rp, ra, rb, hf, q⟩ := h
  unfold nAdd at hf
  cases e1 : seqP g.S a with
  | none => rw [e1] at hf; cases hf
  | some l1 =>
    cases e2 : seqP g.S b with
    | none => rw [e1, e2] at hf; cases hf
    | some l2 =>
      rw [e1, e2] at hf
      dsimp only at hf
      by_cases hz : l1.length + l2.length ≤ sz
      · rw [if_pos hz] at hf
        cases hf
        obtain ⟨p1, vs1, rfl, h1, r1⟩ := seqP_at rp e1 ra
        obtain ⟨p2, vs2, rfl, h2, r2⟩ := seqP_at rp e2 rb
        refine catR pins s σ _ _ _ v u Q I rx ry ⟨p1, p2, vs1, vs2, rfl, rfl, h1, h2, by rw [← r1.length, ← r2.length, ← sz_eq]; exact hz, fun p hp => ?_⟩
        obtain ⟨x1, x2, x3⟩ := new_ref rp hp (r1.append r2)
        exact q _ _ x1 rfl x2 x3
      · rw [if_neg hz] at hf; cases hf
theorem o_mulN : OpR X (binaryOp .Mult) (rOpN X.K nMul) := by
  intro pins s σ H x y v u Q I rx ry h
  obtain ⟨g, a, b, l0, rfl, rp, ra, rb, hf, q⟩ := h
  unfold nMul at hf
  split at hf
  · rename_i k
    cases e1 : seqP g.S a with
    | none => rw [e1] at hf; cases hf
    | some l =>
      rw [e1] at hf
      dsimp only at hf
      split at hf
      · rename_i hc
        cases hf
        rw [RD] at rb; subst rb
        obtain ⟨p1, vs1, rfl, h1, r1⟩ := seqP_at rp e1 ra
        refine repR pins s σ _ _ _ v u Q I rx ry ⟨p1, k, vs1, rfl, rfl, h1, by omega, by omega, by rw [← r1.length, ← sz_eq]; exact hc.1, fun p hp => ?_⟩
        obtain ⟨x1, x2, x3⟩ := new_ref rp hp (r1.rep k.toNat)
        exact q _ _ x1 rfl x2 x3
      · cases hf
  · cases hf
theorem i_binN {K : PySem.W.Frag} {σ : L2.St} {H : Hp} {Q : VK} {f : Op2N} (h : tE K W (mBinN f ma mb) σ H Q) : tOp (rOpN K f) (tE K W ma) (tE K W mb) σ H Q := by
  obtain ⟨g, e, hH, rp, re, p⟩ := h
  subst hH
  refine ⟨g, e, rfl, rp, re, (Post.bind p).imp fun a g1 e1 r1 ⟨_, _, p1⟩ v rv => ?_⟩
  refine ⟨g1, e, rfl, r1, re.mono e1, (Post.bind p1).imp fun b g2 e2 r2 ⟨_, _, p2⟩ u ru => ?_⟩
  cases q : f g2.S a b with
  | none => rw [q] at p2; exact False.elim p2
  | some l =>
    rw [q] at p2
    exact ⟨g2, a, b, l, rfl, r2, rv.mono e2, ru, q, fun g' w x s r rw' => p2 g' x s r w rw'⟩
theorem pm_binN {op : Operator} {f : Op2N} (ho : OpR X (binaryOp op) (rOpN X.K f)) (ha : PE X a (tE X.K W ma)) (hb : PE X b (tE X.K W mb)) : PE X (.BinOp a op b pos) (tE X.K W (mBinN f ma mb)) := PE.imp (pe_op ho ha hb) fun _ _ _ => i_binN
/-- a, b, c = x, y, z -/
def sPar3 (i j k : Nat) (m : MA) : MS := fun e S => (m e S).st e fun l S1 => match l with
  | [a, b, c] => .nx (((e.set i (some a)).set j (some b)).set k (some c)) S1
  | _ => .bad
theorem sm_par3 {i j l : Nat} {x y z : Str} {a b c : Expr} {mm : MA} {px py pz pt pos : Pos} {kt k2 pt2} (hc : X.calm = true) (hN : X.N.Nodup) (hi : X.N[i]? = some x) (hj : X.N[j]? = some y) (hl : X.N[l]? = some z) (hij : i ≠ j) (hil : i ≠ l) (hjl : j ≠ l)
    (hx : X.env.scope.names.lookup x = some .local) (hy : X.env.scope.names.lookup y = some .local) (hz : X.env.scope.names.lookup z = some .local) (ha : PA X [a, b, c] (tA X.K W mm))
    (hw : swappedStores [.Tuple [.Name x px, .Name y py, .Name z pz] kt pt] (.Tuple [a, b, c] k2 pt2) X.env = pure (some [x, y, z]))
    (hs : swapsWithSole [.Tuple [.Name x px, .Name y py, .Name z pz] kt pt] (.Tuple [a, b, c] k2 pt2) pos.line X.env = pure false := by rfl) :
    PS X (.Assign [.Tuple [.Name x px, .Name y py, .Name z pz] kt pt] (.Tuple [a, b, c] k2 pt2) pos) (tS X.K W (sPar3 i j l mm)) := PS.imp (ps_par3 hc hN hi hj hl hij hil hjl hx hy hz ha hw hs) fun D σ H ⟨g, e, hH, rp, re, p⟩ => by
  subst hH
  refine ⟨g, e, rfl, rp, re, (PostS.of_st re p).imp fun l g1 e1 r1 ⟨_, _, p1⟩ vs rv => ?_⟩
  split at p1
  · rw [RDs] at rv
    obtain ⟨v, vr, rfl, h1, h2⟩ := rv
    obtain ⟨u, w, rfl, h3, h4⟩ := h2.two
    exact ⟨v, u, w, rfl, p1 g1 _ (Ext.refl g1) rfl r1 ((((re.mono e1).set h1).set h3).set h4)⟩
  · exact False.elim p1
end
/-- a def that is called deeper than its promise goes -/
theorem fnG_bad {P : Program} {w : World} {K : PySem.W.Frag} {mg : Str → Option Value} {base : Heap} {CX : CXT} {k np n : Nat} {f : Addr} {fd : FuncData} {ps : List Str} (hp : ps.length = np) :
    FnG P w K mg base CX k f fd ps fun vs H Q _ => spM K np (fnM np n fun _ _ => .bad) vs H Q E0 := by
  refine ⟨fun vs H Q E h => by rw [hp]; exact h.1, fun A outer s H args us vs Q E hr e0 hb r hsp => ?_⟩
  obtain ⟨_, g, ds, _, _, _, p⟩ := hsp
  unfold fnM at p
  split at p <;> exact False.elim p
theorem qm_w {X : Cx} {a : Expr} {t : TT} (h : PW X a t) : PT X a t := h.pt
end Mo

namespace Mo
open PySem PySem.Spec L2 PyProof.Rows

/-! ### more of dicts and enumerate -/
/-- len of a dict that is not walked through -/
def gLenD : OpN := fun S l => match l with
  | [.ref n] => match S[n]? with
    | some (.dct l) => some (.int l.length)
    | _ => none
  | _ => none
section
variable {X : Cx} {W : WX'}
theorem c_lenD : CallR X (.builtin "len") (rN X.K gLenD) := by
  intro pins s σ H xs us Q I r h
  obtain ⟨g, ds, d, rfl, rp, rv, hf, q⟩ := h
  unfold gLenD at hf
  split at hf
  · rename_i n
    split at hf
    · rename_i l hn
      cases hf
      obtain ⟨v, rfl, h1⟩ := rv.one
      rw [RD] at h1
      obtain ⟨vs, k1, k2⟩ := rp.obj n _ hn
      refine call_lenD pins s σ _ _ us Q I r ⟨g.ρ n, vs, by rw [h1.2], k1, ?_⟩
      exact q g _ (Ext.refl g) rfl rp (by rw [RD, k2.length])
    · cases hf
  · cases hf
/-- {i: None} -/
def mDisp1 (i : Int) : ME := fun _ S => .ok (.ref S.length) (S ++ [.dct [(.inl i, .non)]])
theorem pm_disp1 {i : Int} {j k : Nat} {p1 p2 pos : Pos} : PE X (.Dict [some (.Constant (.int i) j p1)] [.Constant .none k p2] pos) (tE X.K W (mDisp1 i)) :=
  PE.imp (pe_disp (pps_cons pe_int pe_non pps_nil) rfl rfl (by simp) (by simp)) fun σ H Q ⟨g, e, hH, rp, re, p⟩ => by
    subst hH
    intro q hq
    refine ⟨upd_same, [(.inl i, .non)], rfl, by simp, ?_⟩
    have x := Ext.add rp (o := .dct [(.inl i, .non)]) (u := .dK [(.inl i, .non)]) hq
    have e0 : upd (upd g.H q (.dK [])) q (.dK (mergeK [] [((.inl i : Key), V.non)])) = upd g.H q (.dK [(.inl i, .non)]) := by
      funext a
      by_cases h : a = q
      · subst h; rw [upd_same, upd_same]; rfl
      · rw [upd_ne h, upd_ne h, upd_ne h]
    show Q (.ref q) (upd (upd g.H q (.dK [])) q (.dK (mergeK [] [((.inl i : Key), V.non)])))
    rw [e0]
    have p1 : ∀ g', Ext g g' → g'.S = g.S ++ [.dct [(.inl i, .non)]] → Rep X.K g' → ∀ v, RD X.K g' (.ref g.S.length) v → Q v g'.H := p
    refine p1 _ x rfl (rp.add hq ⟨[(.inl i, .non)], upd_same, ?_⟩) _ ?_
    · rw [RPs]
      exact ⟨.non, [], rfl, by rw [RD], by rw [RPs]⟩
    · rw [RD]
      exact ⟨by simp, by simp⟩
/-- enumerate(..) of a list -/
def miEnum (m : MA) : MI := fun e S => (m e S).bind fun l S1 => match l with
  | [.lst r] => .ok (enumD 0 r, anyS) S1
  | [.kl r] => .ok (enumD 0 r, anyS) S1
  | [.ref n] => match S1[n]? with
    | some (.lst r) => .ok (enumD 0 r, fun S => decide (S[n]? = some (.lst r))) S1
    | _ => .bad
  | _ => .bad
theorem jok_enum {K : PySem.W.Frag} {g : G} {a : Addr} {r : List D} {chk : List O → Bool} (h : ∀ g', Sim g g' → Rep K g' → chk g'.S = true → ∃ vs, SqL K g'.H a vs ∧ RDs K g' r vs) : Jok K g (Ite K a) (enumD 0 r) chk := fun g' s kp rp c i => by
  obtain ⟨vs, h1, h2⟩ := h g' s rp c
  have hl := h2.length
  refine ⟨fun hi => ⟨vs, h1, by rw [enumD_len] at hi; omega⟩, fun d hd => ?_⟩
  obtain ⟨x, hx, rfl⟩ := enumD_get hd
  obtain ⟨w, hw, rw'⟩ := h2.get hx
  refine ⟨⟨vs, w, h1, hw⟩, fun v H' y => ?_⟩
  obtain ⟨T, x', rfl, hT, rfl, hx'⟩ := y
  have e := hx' vs h1
  rw [hw] at e
  cases e
  obtain ⟨n1, n2, n3⟩ := new_tup rp hT (RDs.cons (show RD K g' (.int ((0 + i : Nat) : Int)) (.int (i : Nat)) by rw [RD]; simp) (RDs.cons rw' RDs.nil))
  exact ⟨_, n1, rfl, rfl, n2, n3⟩
theorem im_enum {e : Expr} {m : MA} {p pos tpos : Pos} {elts : List Expr} {kk : Nat} (hg : Gl X "enumerate") (hm : X.mg "enumerate" = none) (ha : PA X [e] (tA X.K W m)) (hs : starEach [e] X.env = [(false, eval e X.env)] := by rfl) :
    PI X (.Tuple elts kk tpos) (.Call (.Name "enumerate" p) [e] [] pos) (tI X.K W (miEnum m)) := PI.imp (pi_enum hg hm ha hs) fun σ H R' ⟨g, e, hH, rp, re, p⟩ => by
  subst hH
  refine ⟨g, e, rfl, rp, re, (Post.bind p).imp fun l g1 e1 r1 ⟨_, _, p1⟩ vs rv => ?_⟩
  split at p1
  · obtain ⟨v, rfl, hv⟩ := rv.one
    rw [RD] at hv
    obtain ⟨a, ws, rfl, h1, h2⟩ := hv
    exact ⟨a, ws, rfl, h1.sq, Post.here r1 p1 _ (jok_enum fun g' s _ _ => ⟨ws, (h1.sim s.toSim0).sq, h2.sim s⟩)⟩
  · obtain ⟨v, rfl, hv⟩ := rv.one
    rw [RD] at hv
    obtain ⟨a, ws, rfl, h1, h2⟩ := hv
    exact ⟨a, ws, rfl, h1.sq, Post.here r1 p1 _ (jok_enum fun g' s _ _ => ⟨ws, (h1.sim s.toSim0).sq, h2.sim s⟩)⟩
  · rename_i n _
    split at p1
    · rename_i r hn
      obtain ⟨v, rfl, hv⟩ := rv.one
      have hv0 := hv
      rw [RD] at hv
      obtain ⟨vs, h1, h2⟩ := r1.obj n _ hn
      refine ⟨g1.ρ n, vs, by rw [hv.2], .inl (.inl h1), Post.here r1 p1 _ (jok_enum fun g' s rp' c => ?_)⟩
      have c := of_decide_eq_true c
      obtain ⟨vs', k1, k2⟩ := rp'.obj n _ c
      rw [s.ag n hv.1] at k1
      exact ⟨vs', .inl (.inl k1), k2⟩
    · exact False.elim p1
  · exact False.elim p1
end
end Mo

namespace K64
open PySem PySem.Spec L2 PyProof.Rows Mo
def b__law_feed : MS :=
  sRet (mNew (mCons (mC (.int 0)) (mCons (mComp (miSeq (mSl (mVar 0) moN (moS (mC (.int 63))))) (tgN 1) mYes (mCB gAbs (mCons (mVar 1) mNil)) [1]) (mCons (mC (.int 0)) (mCons (mC (.int 0)) mNil)))))
abbrev m__law_feed : List D → List O → R D := nbF (fnM 1 2 b__law_feed)
def b__law_draw : MS :=
  sSeq (sSet (mBin gAdd (mBin gIx (mVar 0) (mC (.int 3))) (mC (.int 1))) (mVar 0) (mC (.int 3))) (
  sSeq (sIf (mTB (mBin gGt (mBin gIx (mVar 0) (mC (.int 0))) (mC (.int 0)))) (
  sSeq (sAsg 2 (mBin gMod (mCB gInt (mCons (mBin gIx (mVar 0) (mC (.int 0))) mNil)) (mVar 1))) (
  sSeq (sSet (mBin gDiv (mBin gIx (mVar 0) (mC (.int 0))) (mVar 1)) (mVar 0) (mC (.int 0))) (
  sRet (mVar 2)))) (
  sNil)) (
  sSeq (sAsg 3 (mBin gAdd (mBin gIx (mVar 0) (mC (.int 1))) (mBin gMul (mLst (mCons (mC (.int 7)) mNil)) (mCB gInt (mCons (mBin gEq (mBin gIx (mVar 0) (mC (.int 1))) (mLst mNil)) mNil))))) (
  sSeq (sAsg 4 (mBin gIx (mVar 3) (mBin gMod (mCB gInt (mCons (mBin gIx (mVar 0) (mC (.int 2))) mNil)) (mCB gLen (mCons (mVar 3) mNil))))) (
  sSeq (sSet (mBin gAdd (mBin gIx (mVar 0) (mC (.int 2))) (mC (.int 1))) (mVar 0) (mC (.int 2))) (
  sSeq (sIf (mAnd (mTB (mBin gGe (mVar 4) (mBin gPow (mC (.int 10)) (mC (.int 18))))) (mTB (mBin gLe (mBin gIx (mVar 0) (mC (.int 2))) (mCB gLen (mCons (mVar 3) mNil))))) (
  sSeq (sSet (mBin gDiv (mVar 4) (mVar 1)) (mVar 0) (mC (.int 0))) (
  sRet (mBin gMod (mCB gInt (mCons (mVar 4) mNil)) (mVar 1)))) (
  sNil)) (
  sSeq (sAsg 5 (mBin gMod (mCB gInt (mCons (mBin gPow (mBin gAdd (mBin gMod (mCB gInt (mCons (mVar 4) mNil)) (mC (.int 2147483629))) (mBin gMul (mC (.int 99991)) (mBin gIx (mVar 0) (mC (.int 3))))) (mC (.int 5))) mNil)) (mC (.int 2305843009213693951)))) (
  sSeq (sAsg 5 (mBin gMod (mCB gInt (mCons (mBin gPow (mBin gAdd (mBin gAdd (mVar 5) (mBin gMul (mC (.int 7)) (mBin gIx (mVar 0) (mC (.int 3))))) (mC (.int 1))) (mC (.int 3))) mNil)) (mC (.int 2305843009213693921)))) (
  sRet (mBin gMod (mCB gInt (mCons (mBin gDiv (mVar 5) (mC (.int 1024))) mNil)) (mVar 1))))))))))
abbrev m__law_draw : List D → List O → R D := nbF (fnM 2 6 b__law_draw)
def b__law_one : MS :=
  sRet (mBin gIx (mVar 1) (mCall m__law_draw (mCons (mVar 0) (mCons (mCB gLen (mCons (mVar 1) mNil)) mNil))))
abbrev m__law_one : List D → List O → R D := nbF (fnM 2 2 b__law_one)
def b__law_codes : MS :=
  sSeq (sAsg 2 (mCall m__law_draw (mCons (mVar 0) (mCons (mC (.int 5)) mNil)))) (
  sSeq (sAsg 3 (mNew mNil)) (
  sSeq (sFor (miRange rangeA2 (mCons (mC (.int 1)) (mCons (mVar 1) mNil))) (tgN 4) (
  sSeq (sAsg 5 (mLst (mCons (mC (.int 0)) (mCons (mBin gSub (mBin gMul (mC (.int 2)) (mVar 4)) (mC (.int 2))) (mCons (mCB gMax2 (mCons (mC (.int 0)) (mCons (mBin gSub (mBin gMul (mC (.int 2)) (mVar 4)) (mC (.int 2))) mNil))) (mCons (mBin gSub (mVar 4) (mC (.int 1))) mNil)))))) (
  sExpr (mMt isL gAppend (mVar 3) (mCons (mIf (mTB (mBin gLt (mVar 2) (mC (.int 2)))) (mCall m__law_draw (mCons (mVar 0) (mCons (mBin gSub (mBin gMul (mC (.int 2)) (mVar 4)) (mC (.int 1))) mNil))) (mIf (mTB (mBin gLt (mVar 2) (mC (.int 4)))) (mBin gIx (mVar 5) (mBin gSub (mVar 2) (mC (.int 2)))) (mCall m__law_one (mCons (mVar 0) (mCons (mVar 5) mNil))))) mNil))))) (
  sRet (mVar 3))))
abbrev m__law_codes : List D → List O → R D := nbF (fnM 2 6 b__law_codes)
def b__law_name : MS :=
  sRet (mIf (mTB (mCB gIsi (mCons (mVar 0) (mCons (mC (.ty "int")) mNil)))) (mVar 0) (mBin gAdd (mVar 1) (mBin gIx (mVar 0) (mC (.int 0)))))
abbrev m__law_name : List D → List O → R D := nbF (fnM 2 2 b__law_name)
def b__law_nodes : Nat → MS
  | 0 => fun _ _ => .bad
  | d + 1 => sSeq (sIf (mTB (mCB gIsi (mCons (mVar 0) (mCons (mC (.ty "int")) mNil)))) (
  sRet (mLst mNil)) (
  sNil)) (
  sSeq (sAsg 2 (mLst (mCons (mTup (mCons (mBin gAdd (mVar 1) (mBin gIx (mVar 0) (mC (.int 0)))) (mCons (mCall m__law_name (mCons (mBin gIx (mVar 0) (mC (.int 1))) (mCons (mVar 1) mNil))) (mCons (mCall m__law_name (mCons (mBin gIx (mVar 0) (mC (.int 2))) (mCons (mVar 1) mNil))) mNil)))) mNil))) (
  sRet (mBin gAdd (mBin gAdd (mCall (nbF (fnM 2 3 (b__law_nodes d))) (mCons (mBin gIx (mVar 0) (mC (.int 1))) (mCons (mVar 1) mNil))) (mCall (nbF (fnM 2 3 (b__law_nodes d))) (mCons (mBin gIx (mVar 0) (mC (.int 2))) (mCons (mVar 1) mNil)))) (mVar 2))))
abbrev m__law_nodes (d : Nat) : List D → List O → R D := nbF (fnM 2 3 (b__law_nodes d))
def b__law_program : MS :=
  sSeq (sUnp (tgT 3 (tgsC (tgN 3) (tgsC (tgN 4) (tgsC (tgN 5) tgsN)))) (mTup (mCons (mCall (m__law_nodes 14) (mCons (mVar 2) (mCons (mVar 1) mNil))) (mCons (mBinN nAdd (mListR rangeA1 (mCons (mVar 1) mNil)) (mBin gMul (mLst (mCons (mUn gNeg (mC (.int 1))) mNil)) (mVar 1))) (mCons (mNew mNil) mNil))))) (
  sSeq (loopW (mTB (mBin gNe (mVar 3) (mLst mNil))) (
  sSeq (sAsg 6 (mComp (miSeq (mVar 3)) (tgN 7) (mAnd (mTB (mBin gGe (mBin gIx (mVar 4) (mBin gIx (mVar 7) (mC (.int 1)))) (mC (.int 0)))) (mTB (mBin gGe (mBin gIx (mVar 4) (mBin gIx (mVar 7) (mC (.int 2)))) (mC (.int 0))))) (mVar 7) [7])) (
  sSeq (sAsg 7 (mCall m__law_one (mCons (mVar 0) (mCons (mVar 6) mNil)))) (
  sSeq (sAsg 8 (mLst (mCons (mBin gIx (mVar 4) (mBin gIx (mVar 7) (mC (.int 1)))) (mCons (mBin gIx (mVar 4) (mBin gIx (mVar 7) (mC (.int 2)))) mNil)))) (
  sSeq (sIf (mTB (mBin gEq (mCall m__law_draw (mCons (mVar 0) (mCons (mC (.int 2)) mNil))) (mC (.int 0)))) (
  sAsg 8 (mSl3 (mVar 8) moN moN (moS (mUn gNeg (mC (.int 1)))))) (
  sNil)) (
  sSeq (sExpr (mMt isL gAppend (mVar 5) (mCons (mTup (mCons (mC (.str "round")) (mCons (mTup (mCons (mTup (mCons (mC (.int 1)) (mCons (mTup (mCons (mBin gIx (mVar 8) (mC (.int 0))) mNil)) mNil))) (mCons (mTup (mCons (mC (.int 1)) (mCons (mTup (mCons (mBin gIx (mVar 8) (mC (.int 1))) mNil)) mNil))) mNil))) mNil))) mNil))) (
  sSeq (sSet (mBin gSub (mBin gAdd (mVar 1) (mCB gLen (mCons (mVar 5) mNil))) (mC (.int 1))) (mVar 4) (mBin gIx (mVar 7) (mC (.int 0)))) (
  sAsg 3 (mComp (miSeq (mVar 3)) (tgN 9) (mTB (mBin gNe (mVar 9) (mVar 7))) (mVar 9) [9])))))))) 14) (
  sRet (mTup (mCons (mVar 1) (mCons (mCB gTuple (mCons (mVar 5) mNil)) (mCons (mTup (mCons (mBin gSub (mBin gAdd (mVar 1) (mCB gLen (mCons (mVar 5) mNil))) (mC (.int 1))) mNil)) mNil))))))
abbrev m__law_program : List D → List O → R D := nbF (fnM 3 10 b__law_program)
def b__law_put : Nat → MS
  | 0 => fun _ _ => .bad
  | d + 1 => sSeq (sAsg 3 (mIf (mTB (mCB gIsi (mCons (mVar 0) (mCons (mC (.ty "int")) mNil)))) (mVar 0) (mBin gAdd (mBin gSub (mVar 1) (mC (.int 1))) (mBin gIx (mVar 0) (mC (.int 0)))))) (
  sSeq (sIf (mTB (mBin gEq (mVar 3) (mVar 2))) (
  sRet (mTup (mCons (mVar 1) (mCons (mVar 0) (mCons (mVar 1) mNil))))) (
  sNil)) (
  sSeq (sIf (mTB (mCB gIsi (mCons (mVar 0) (mCons (mC (.ty "int")) mNil)))) (
  sRet (mVar 0)) (
  sNil)) (
  sRet (mTup (mCons (mBin gIx (mVar 0) (mC (.int 0))) (mCons (mCall (nbF (fnM 3 4 (b__law_put d))) (mCons (mBin gIx (mVar 0) (mC (.int 1))) (mCons (mVar 1) (mCons (mVar 2) mNil)))) (mCons (mCall (nbF (fnM 3 4 (b__law_put d))) (mCons (mBin gIx (mVar 0) (mC (.int 2))) (mCons (mVar 1) (mCons (mVar 2) mNil)))) mNil)))))))
abbrev m__law_put (d : Nat) : List D → List O → R D := nbF (fnM 3 4 (b__law_put d))
def b__law_tree : MS :=
  sSeq (sAsg 1 (mC (.int 0))) (
  sSeq (sFor (miRange rangeA1 (mCons (mCB gLen (mCons (mVar 0) mNil)) mNil)) (tgN 2) (
  sAsg 1 (mCall (m__law_put 14) (mCons (mVar 1) (mCons (mBin gAdd (mVar 2) (mC (.int 1))) (mCons (mBin gIx (mVar 0) (mVar 2)) mNil)))))) (
  sRet (mVar 1)))
abbrev m__law_tree : List D → List O → R D := nbF (fnM 1 3 b__law_tree)
def b__law_code : MS :=
  sSeq (sAsg 1 (mC (.int 0))) (
  sSeq (sFor (miRange rangeA1 (mCons (mCB gLen (mCons (mVar 0) mNil)) mNil)) (tgN 2) (
  sAsg 1 (mBin gAdd (mBin gMul (mVar 1) (mBin gAdd (mBin gMul (mC (.int 2)) (mVar 2)) (mC (.int 1)))) (mBin gIx (mVar 0) (mVar 2))))) (
  sRet (mVar 1)))
abbrev m__law_code : List D → List O → R D := nbF (fnM 1 3 b__law_code)
def b_sides_of : MS :=
  sSeq (sUnp (tgT 3 (tgsC (tgN 1) (tgsC (tgN 2) (tgsC (tgN 3) tgsN)))) (mVar 0)) (
  sRet (mDCompN (miEnumT (mCons (mVar 2) mNil)) (tgT 2 (tgsC (tgN 4) (tgsC (tgT 2 (tgsC (tgN 5) (tgsC (tgN 6) tgsN))) tgsN))) mYes (mBin gAdd (mVar 1) (mVar 4)) (mLst (mCons (mBin gIx (mBin gIx (mBin gIx (mVar 6) (mC (.int 0))) (mC (.int 1))) (mC (.int 0))) (mCons (mBin gIx (mBin gIx (mBin gIx (mVar 6) (mC (.int 1))) (mC (.int 1))) (mC (.int 0))) mNil))) [4, 5, 6]))
abbrev m_sides_of : List D → List O → R D := nbF (fnM 1 7 b_sides_of)
def b_users_of : MS :=
  sSeq (sAsg 1 mDNew) (
  sSeq (sLock 0 (sFor (miKeys (mVar 0)) (tgN 2) (
  sFor (miSeq (mBin gDGet (mVar 0) (mVar 2))) (tgN 3) (
  sDSet (mVar 2) (mVar 1) (mVar 3))))) (
  sRet (mVar 1)))
abbrev m_users_of : List D → List O → R D := nbF (fnM 1 4 b_users_of)
def b_other_side : MS :=
  sRet (mIf (mTB (mBin gEq (mBin gIx (mVar 0) (mC (.int 0))) (mVar 1))) (mBin gIx (mVar 0) (mC (.int 1))) (mBin gIx (mVar 0) (mC (.int 0))))
abbrev m_other_side : List D → List O → R D := nbF (fnM 2 2 b_other_side)
def b_replace_side : MS :=
  sSeq (sDSet (mC .non) (mVar 1) (mVar 3)) (
  sIf (mTB (mBin gNotN (mDGet2 (mVar 1) (mVar 2) (mC .non)) (mC .non))) (
  sSeq (sAsg 4 (mBin gDGet (mVar 1) (mVar 2))) (
  sSeq (sDSet (mLst (mCons (mVar 3) (mCons (mCall m_other_side (mCons (mBin gDGet (mVar 0) (mVar 4)) (mCons (mVar 2) mNil))) mNil))) (mVar 0) (mVar 4)) (
  sDSet (mVar 4) (mVar 1) (mVar 3)))) (
  sNil))
abbrev m_replace_side : List D → List O → R D := nbF (fnM 4 5 b_replace_side)
def b_tree_number : MS :=
  sSeq (sAsg 1 (mBin gIx (mVar 0) (mC (.int 0)))) (
  sSeq (sAsg 2 (mCall m_sides_of (mCons (mVar 0) mNil))) (
  sSeq (sAsg 3 (mCall m_users_of (mCons (mVar 2) mNil))) (
  sSeq (sPar 4 5 (mCons mDNew (mCons (mBinN nMul (mLst (mCons (mC (.int 0)) mNil)) (mVar 1)) mNil))) (
  sSeq (sFor (miRange rangeA3 (mCons (mBin gSub (mVar 1) (mC (.int 1))) (mCons (mC (.int 0)) (mCons (mUn gNeg (mC (.int 1))) mNil)))) (tgN 6) (
  sSeq (sAsg 7 (mBin gDGet (mVar 3) (mVar 6))) (
  sSeq (sSet (mCall m_other_side (mCons (mBin gDGet (mVar 2) (mVar 7)) (mCons (mVar 6) mNil))) (mVar 5) (mVar 6)) (
  sSeq (sDSet (mVar 6) (mVar 4) (mVar 7)) (
  sExpr (mCall m_replace_side (mCons (mVar 2) (mCons (mVar 3) (mCons (mVar 7) (mCons (mBin gIx (mVar 5) (mVar 6)) mNil)))))))))) (
  sSeq (sAsg 8 (mC (.int 0))) (
  sSeq (sFor (miRange rangeA2 (mCons (mC (.int 1)) (mCons (mVar 1) mNil))) (tgN 6) (
  sSeq (sAsg 9 (mBin gIx (mVar 5) (mVar 6))) (
  sSeq (sAsg 10 (mIf (mTB (mBin gLt (mVar 9) (mVar 1))) (mVar 9) (mBin gAdd (mBin gSub (mVar 6) (mC (.int 1))) (mBin gDGet (mVar 4) (mVar 9))))) (
  sAsg 8 (mBin gAdd (mBin gMul (mVar 8) (mBin gSub (mBin gMul (mC (.int 2)) (mVar 6)) (mC (.int 1)))) (mVar 10)))))) (
  sRet (mVar 8))))))))
abbrev m_tree_number : List D → List O → R D := nbF (fnM 1 11 b_tree_number)
def b_law : MS :=
  sSeq (sAsg 1 (mCall m__law_feed (mCons (mVar 0) mNil))) (
  sSeq (sFor (miRange rangeA1 (mCons (mC (.int 8)) mNil)) (tgN 2) (
  sSeq (sAsg 3 (mBin gAdd (mC (.int 1)) (mCall m__law_draw (mCons (mVar 1) (mCons (mC (.int 12)) mNil))))) (
  sSeq (sAsg 4 (mCall m__law_codes (mCons (mVar 1) (mCons (mVar 3) mNil)))) (
  sSeq (sAsg 5 (mCall m__law_program (mCons (mVar 1) (mCons (mVar 3) (mCons (mCall m__law_tree (mCons (mVar 4) mNil)) mNil))))) (
  sSeq (sPar 6 7 (mCons (mCB gRepr (mCons (mVar 5) mNil)) (mCons (mCall m__law_code (mCons (mVar 4) mNil)) mNil))) (
  sIf (mOr (mTB (mReprEq gNe (mLst (mCons (mCallP m_tree_number (mCons (mVar 5) mNil)) (mCons (mCallKP 0 1 [0] m_tree_number mNil (mCons (mVar 5) mNil)) mNil))) (mLst (mCons (mVar 7) (mCons (mVar 7) mNil))))) (mTB (mBin gNe (mCB gRepr (mCons (mVar 5) mNil)) (mVar 6)))) (
  sRet (mC (.bl false))) (
  sNil))))))) (
  sRet (mC (.bl true))))
abbrev m_law : List D → List O → R D := nbF (fnM 1 8 b_law)
end K64

namespace K64
open PySem PySem.Spec L2 PyProof.Rows Mo

/-! ### trees, plainly -/
inductive Tr where
  | lf (i : Nat) | nd (l : Nat) (a b : Tr)
abbrev El := Sum Nat Nat
def Tr.root : Tr → El
  | .lf i => .inl i
  | .nd l _ _ => .inr l
def Tr.els : Tr → List El
  | .lf i => [.inl i]
  | .nd l a b => .inr l :: (a.els ++ b.els)
def Tr.sub : Tr → List El
  | .lf _ => []
  | .nd _ a b => a.els ++ b.els
theorem els_eq (t : Tr) : t.els = t.root :: t.sub := by cases t <;> rfl
theorem root_mem (t : Tr) : t.root ∈ t.els := by rw [els_eq]; exact List.mem_cons_self
/-- an element's name when the letter L comes -/
def nmE (L : Nat) : El → Nat
  | .inl i => i
  | .inr l => L - 1 + l
def Tr.put (L c : Nat) : Tr → Tr
  | .lf i => if i = c then .nd L (.lf i) (.lf L) else .lf i
  | .nd l a b => if L - 1 + l = c then .nd L (.nd l a b) (.lf L) else .nd l (a.put L c) (b.put L c)
theorem put_here {L c : Nat} {t : Tr} (h : nmE L t.root = c) : t.put L c = .nd L t (.lf L) := by
  cases t with
  | lf i => exact if_pos h
  | nd l a b => exact if_pos h
theorem put_miss {L c : Nat} : ∀ {t : Tr}, (∀ x ∈ t.els, nmE L x ≠ c) → t.put L c = t
  | .lf i, h => if_neg (h (.inl i) (by simp [Tr.els]))
  | .nd l a b, h => by
    rw [Tr.put, if_neg (show ¬ L - 1 + l = c from h (.inr l) (by simp [Tr.els])), put_miss (fun x hx => h x (by simp [Tr.els, hx])), put_miss (fun x hx => h x (by simp [Tr.els, hx]))]
/-- where the letter L comes in T: beside X; p: the parent of that place and X's former sibling -/
inductive Hit (L c : Nat) : Tr → Tr → Option (Nat × Tr) → Prop where
  | here {T : Tr} : nmE L T.root = c → Hit L c T T none
  | inl {l : Nat} {a b X : Tr} {p : Option (Nat × Tr)} : Hit L c a X p → Hit L c (.nd l a b) X (some (p.getD (l, b)))
  | inr {l : Nat} {a b X : Tr} {p : Option (Nat × Tr)} : Hit L c b X p → Hit L c (.nd l a b) X (some (p.getD (l, a)))
theorem Hit.name {L c : Nat} {T X : Tr} {p : Option (Nat × Tr)} (h : Hit L c T X p) : nmE L X.root = c := by
  induction h with
  | here h => exact h
  | inl _ ih => exact ih
  | inr _ ih => exact ih
theorem Hit.mem {L c : Nat} {T X : Tr} {p : Option (Nat × Tr)} (h : Hit L c T X p) : X.root ∈ T.els := by
  induction h with
  | here h => exact root_mem _
  | inl _ ih => simp [Tr.els, ih]
  | inr _ ih => simp [Tr.els, ih]
theorem hit_of {L c : Nat} : ∀ {T : Tr}, (∃ x ∈ T.els, nmE L x = c) → ∃ X p, Hit L c T X p
  | .lf i, ⟨x, hx, e⟩ => by
    have : x = .inl i := by simpa [Tr.els] using hx
    exact ⟨_, _, .here (by rw [this] at e; exact e)⟩
  | .nd l a b, ⟨x, hx, e⟩ => by
    have : x = .inr l ∨ x ∈ a.els ∨ x ∈ b.els := by simpa [Tr.els] using hx
    rcases this with z | z | z
    · exact ⟨_, _, .here (by rw [z] at e; exact e)⟩
    · obtain ⟨X, p, h⟩ := hit_of (T := a) ⟨x, z, e⟩; exact ⟨_, _, .inl h⟩
    · obtain ⟨X, p, h⟩ := hit_of (T := b) ⟨x, z, e⟩; exact ⟨_, _, .inr h⟩
/-- the names are told apart -/
def Sep (L : Nat) (l : List El) : Prop := (l.map (nmE L)).Nodup
theorem sep_cons {L : Nat} {x : El} {l : List El} (h : Sep L (x :: l)) : (∀ y ∈ l, nmE L y ≠ nmE L x) ∧ Sep L l := by
  unfold Sep at h ⊢
  rw [List.map_cons, List.nodup_cons] at h
  exact ⟨fun y hy e => h.1 (List.mem_map.mpr ⟨y, hy, e⟩), h.2⟩
theorem sep_app {L : Nat} {l m : List El} (h : Sep L (l ++ m)) : Sep L l ∧ Sep L m ∧ ∀ x ∈ l, ∀ y ∈ m, nmE L x ≠ nmE L y := by
  unfold Sep at h ⊢
  rw [List.map_append, List.nodup_append] at h
  exact ⟨h.1, h.2.1, fun x hx y hy => h.2.2 _ (List.mem_map.mpr ⟨x, hx, rfl⟩) _ (List.mem_map.mpr ⟨y, hy, rfl⟩)⟩
theorem hit_put {L c l : Nat} {a b X : Tr} {p : Option (Nat × Tr)} (s : Sep L (Tr.nd l a b).els) (h : Hit L c a X p) : (Tr.nd l a b).put L c = .nd l (a.put L c) b := by
  have n := h.name
  have m := h.mem
  obtain ⟨s1, s2⟩ := sep_cons (show Sep L ((Sum.inr l : El) :: (a.els ++ b.els)) from s)
  obtain ⟨s3, s4, s5⟩ := sep_app s2
  rw [Tr.put, if_neg (fun z => s1 X.root (by simp [m]) (by rw [n]; exact z.symm)), put_miss (t := b) fun x hx z => s5 _ m x hx (by rw [n, z])]
theorem hit_put2 {L c l : Nat} {a b X : Tr} {p : Option (Nat × Tr)} (s : Sep L (Tr.nd l a b).els) (h : Hit L c b X p) : (Tr.nd l a b).put L c = .nd l a (b.put L c) := by
  have n := h.name
  have m := h.mem
  obtain ⟨s1, s2⟩ := sep_cons (show Sep L ((Sum.inr l : El) :: (a.els ++ b.els)) from s)
  obtain ⟨s3, s4, s5⟩ := sep_app s2
  rw [Tr.put, if_neg (fun z => s1 X.root (by simp [m]) (by rw [n]; exact z.symm)), put_miss (t := a) fun x hx z => s5 x hx _ m (by rw [n, z])]
theorem put_els {L c : Nat} {T X : Tr} {p : Option (Nat × Tr)} (h : Hit L c T X p) : Sep L T.els → (T.put L c).els.Perm (.inr L :: .inl L :: T.els) := by
  induction h with
  | here h =>
    intro _
    rw [put_here h, Tr.els]
    refine List.Perm.cons _ ?_
    show (_ ++ [(Sum.inl L : El)]).Perm _
    exact List.perm_append_comm
  | @inl l a b X p h ih =>
    intro s
    rw [hit_put s h]
    have s3 := (sep_app (sep_cons (show Sep L ((Sum.inr l : El) :: (a.els ++ b.els)) from s)).2).1
    have := ih s3
    show ((Sum.inr l : El) :: ((a.put L c).els ++ b.els)).Perm (.inr L :: .inl L :: .inr l :: (a.els ++ b.els))
    refine (List.Perm.cons _ (List.Perm.append_right _ this)).trans ?_
    show ((Sum.inr l : El) :: .inr L :: .inl L :: (a.els ++ b.els)).Perm _
    exact (List.Perm.swap _ _ _).trans (List.Perm.cons _ (List.Perm.swap _ _ _))
  | @inr l a b X p h ih =>
    intro s
    rw [hit_put2 s h]
    have s4 := (sep_app (sep_cons (show Sep L ((Sum.inr l : El) :: (a.els ++ b.els)) from s)).2).2.1
    have := ih s4
    show ((Sum.inr l : El) :: (a.els ++ (b.put L c).els)).Perm (.inr L :: .inl L :: .inr l :: (a.els ++ b.els))
    refine (List.Perm.cons _ (List.Perm.append_left _ this)).trans ?_
    have e : (a.els ++ ((Sum.inr L : El) :: .inl L :: b.els)).Perm (.inr L :: .inl L :: (a.els ++ b.els)) := by
      refine List.perm_middle.trans (List.Perm.cons _ ?_)
      exact List.perm_middle
    refine (List.Perm.cons _ e).trans ?_
    exact (List.Perm.swap _ _ _).trans (List.Perm.cons _ (List.Perm.swap _ _ _))
/-- the tree of the codes c 1 .. c k -/
def bt (c : Nat → Nat) : Nat → Tr
  | 0 => .lf 0
  | k + 1 => (bt c k).put (k + 1) (c (k + 1))
def CodesOk (c : Nat → Nat) (n : Nat) : Prop := ∀ k, 1 ≤ k → k < n → c k < 2 * k - 1
theorem bt_els {c : Nat → Nat} {n : Nat} (hc : CodesOk c n) : ∀ k, k < n → (bt c k).els.Nodup ∧ (∀ i, .inl i ∈ (bt c k).els ↔ i ≤ k) ∧ ∀ l, .inr l ∈ (bt c k).els ↔ (1 ≤ l ∧ l ≤ k)
  | 0, _ => by
    refine ⟨by simp [bt, Tr.els], fun i => by simp [bt, Tr.els], fun l => ?_⟩
    simp [bt, Tr.els]
    omega
  | k + 1, hk => by
    obtain ⟨h1, h2, h3⟩ := bt_els hc k (by omega)
    have sp : Sep (k + 1) (bt c k).els := by
      unfold Sep
      refine List.pairwise_map.mpr (List.Pairwise.imp_of_mem (fun {x y} hx hy ne => ?_) h1)
      intro e
      refine ne ?_
      cases x with
      | inl i => cases y with
        | inl j => have : i = j := e; rw [this]
        | inr l => have := (h2 i).mp hx; have := (h3 l).mp hy; have e : i = k + 1 - 1 + l := e; omega
      | inr l => cases y with
        | inl j => have := (h2 j).mp hy; have := (h3 l).mp hx; have e : k + 1 - 1 + l = j := e; omega
        | inr m => have e : k + 1 - 1 + l = k + 1 - 1 + m := e; have : l = m := by omega
                   rw [this]
    have ck := hc (k + 1) (by omega) hk
    obtain ⟨X, p, h⟩ : ∃ X p, Hit (k + 1) (c (k + 1)) (bt c k) X p := by
      refine hit_of ?_
      by_cases q : c (k + 1) ≤ k
      · exact ⟨.inl (c (k + 1)), (h2 _).mpr q, rfl⟩
      · exact ⟨.inr (c (k + 1) - k), (h3 _).mpr (by omega), by show k + 1 - 1 + (c (k + 1) - k) = _; omega⟩
    have pe := put_els h sp
    have mem : ∀ x, x ∈ (bt c (k + 1)).els ↔ x = .inr (k + 1) ∨ x = .inl (k + 1) ∨ x ∈ (bt c k).els := fun x => by
      rw [show (bt c (k + 1)).els = ((bt c k).put (k + 1) (c (k + 1))).els from rfl, pe.mem_iff]
      simp
    refine ⟨?_, fun i => ?_, fun l => ?_⟩
    · refine (List.Perm.nodup_iff pe).mpr ?_
      rw [List.nodup_cons, List.nodup_cons]
      refine ⟨fun z => ?_, fun z => ?_, h1⟩
      · simp at z
        have := (h3 _).mp z
        omega
      · have := (h2 _).mp z
        omega
    · rw [mem]
      simp
      rw [h2]
      omega
    · rw [mem]
      simp
      rw [h3]
      omega
theorem bt_sep {c : Nat → Nat} {n k : Nat} (hc : CodesOk c n) (hk : k < n) : Sep (k + 1) (bt c k).els := by
  obtain ⟨h1, h2, h3⟩ := bt_els hc k hk
  unfold Sep
  refine List.pairwise_map.mpr (List.Pairwise.imp_of_mem (fun {x y} hx hy ne => ?_) h1)
  intro e
  refine ne ?_
  cases x with
  | inl i => cases y with
    | inl j => have : i = j := e; rw [this]
    | inr l => have := (h2 i).mp hx; have := (h3 l).mp hy; have e : i = k + 1 - 1 + l := e; omega
  | inr l => cases y with
    | inl j => have := (h2 j).mp hy; have := (h3 l).mp hx; have e : k + 1 - 1 + l = j := e; omega
    | inr m => have e : k + 1 - 1 + l = k + 1 - 1 + m := e; have : l = m := by omega
               rw [this]
theorem bt_hit {c : Nat → Nat} {n k : Nat} (hc : CodesOk c n) (hk : k + 1 < n) : ∃ X p, Hit (k + 1) (c (k + 1)) (bt c k) X p := by
  obtain ⟨h1, h2, h3⟩ := bt_els hc k (by omega)
  have ck := hc (k + 1) (by omega) hk
  refine hit_of ?_
  by_cases q : c (k + 1) ≤ k
  · exact ⟨.inl (c (k + 1)), (h2 _).mpr q, rfl⟩
  · exact ⟨.inr (c (k + 1) - k), (h3 _).mpr (by omega), by show k + 1 - 1 + (c (k + 1) - k) = _; omega⟩
end K64

namespace K64
open PySem PySem.Spec L2 PyProof.Rows Mo

/-! ### a tree in two dicts -/
/-- the place of an element -/
def plE (pl : Nat → Int) : El → Int
  | .inl i => (i : Nat)
  | .inr l => pl l
abbrev Tr.pos (pl : Nat → Int) (t : Tr) : Int := plE pl t.root
def Pair (f : Int → Option D) (k x y : Int) : Prop := f k = some (.lst [.int x, .int y]) ∨ f k = some (.lst [.int y, .int x])
def Holds (pl : Nat → Int) (sd us : Int → Option D) : Tr → Prop
  | .lf _ => True
  | .nd l a b => Pair sd (pl l) (a.pos pl) (b.pos pl) ∧ us (a.pos pl) = some (.int (pl l)) ∧ us (b.pos pl) = some (.int (pl l)) ∧ Holds pl sd us a ∧ Holds pl sd us b
theorem Pair.symm {f : Int → Option D} {k x y : Int} (h : Pair f k x y) : Pair f k y x := h.elim .inr .inl
theorem sub_els {t : Tr} {x : El} (h : x ∈ t.sub) : x ∈ t.els := by rw [els_eq]; exact List.mem_cons_of_mem _ h
theorem holds_congr {pl : Nat → Int} {sd us sd' us' : Int → Option D} : ∀ {t : Tr}, Holds pl sd us t → (∀ x ∈ t.sub, us' (plE pl x) = us (plE pl x)) → (∀ x ∈ t.els, sd' (plE pl x) = sd (plE pl x)) → Holds pl sd' us' t
  | .lf _, _, _, _ => trivial
  | .nd l a b, ⟨h1, h2, h3, h4, h5⟩, hu, hs => by
    have e := hs (.inr l) (root_mem (.nd l a b))
    refine ⟨?_, ?_, ?_, ?_, ?_⟩
    · unfold Pair at h1 ⊢
      rw [show sd' (pl l) = sd (pl l) from e]
      exact h1
    · exact (hu a.root (by simp [Tr.sub, root_mem])).trans h2
    · exact (hu b.root (by simp [Tr.sub, root_mem])).trans h3
    · exact holds_congr h4 (fun x hx => hu x (by simp [Tr.sub, sub_els hx])) fun x hx => hs x (by simp [Tr.els, hx])
    · exact holds_congr h5 (fun x hx => hu x (by simp [Tr.sub, sub_els hx])) fun x hx => hs x (by simp [Tr.els, hx])
/-- places are told apart -/
def Ap (pl : Nat → Int) (l : List El) : Prop := (l.map (plE pl)).Nodup
theorem ap_cons {pl : Nat → Int} {x : El} {l : List El} (h : Ap pl (x :: l)) : (∀ y ∈ l, plE pl y ≠ plE pl x) ∧ Ap pl l := by
  unfold Ap at h ⊢
  rw [List.map_cons, List.nodup_cons] at h
  exact ⟨fun y hy e => h.1 (List.mem_map.mpr ⟨y, hy, e⟩), h.2⟩
theorem ap_app {pl : Nat → Int} {l m : List El} (h : Ap pl (l ++ m)) : Ap pl l ∧ Ap pl m ∧ ∀ x ∈ l, ∀ y ∈ m, plE pl x ≠ plE pl y := by
  unfold Ap at h ⊢
  rw [List.map_append, List.nodup_append] at h
  exact ⟨h.1, h.2.1, fun x hx y hy => h.2.2 _ (List.mem_map.mpr ⟨x, hx, rfl⟩) _ (List.mem_map.mpr ⟨y, hy, rfl⟩)⟩
/-- what a turn reads and writes, by the place's parent -/
def Turned (pl : Nat → Int) (sd us : Int → Option D) (L : Nat) (T X W : Tr) : Option (Nat × Tr) → Prop
  | none => W = .nd L T (.lf L) ∧ X = T ∧ ∀ us', (∀ k, k ≠ X.pos pl → us' k = us k) → Holds pl sd us' T
  | some (u, B) => us (pl L) = some (.int (pl u)) ∧ Pair sd (pl u) (pl L) (B.pos pl) ∧ B.pos pl ≠ pl L ∧ W.root = T.root ∧ X.root ∈ T.sub ∧ .inr u ∈ T.els ∧
    ∀ sd' us', (∀ k, k ≠ X.pos pl → us' k = us k) → us' (X.pos pl) = some (.int (pl u)) → (∀ k, k ≠ pl u → sd' k = sd k) → Pair sd' (pl u) (X.pos pl) (B.pos pl) → Holds pl sd' us' T
theorem step {pl : Nat → Int} {sd us : Int → Option D} {L c : Nat} {T X : Tr} {p : Option (Nat × Tr)} (h : Hit L c T X p) : Sep L T.els → Ap pl (.inr L :: .inl L :: T.els) → Holds pl sd us (T.put L c) →
    us (L : Nat) = some (.int (pl L)) ∧ Pair sd (pl L) (X.pos pl) (L : Nat) ∧ Turned pl sd us L T X (T.put L c) p := by
  induction h with
  | @here T h =>
    intro s ap H
    rw [put_here h] at H ⊢
    obtain ⟨h1, h2, h3, h4, _⟩ := H
    obtain ⟨_, ap1⟩ := ap_cons ap
    obtain ⟨_, ap2⟩ := ap_cons ap1
    rw [els_eq] at ap2
    obtain ⟨ap3, _⟩ := ap_cons ap2
    exact ⟨h3, h1, rfl, rfl, fun us' hu => holds_congr h4 (fun x hx => hu _ (ap3 x hx)) fun _ _ => rfl⟩
  | @inl l a b X p h ih =>
    intro s ap H
    rw [hit_put s h] at H ⊢
    obtain ⟨h1, h2, h3, h4, h5⟩ := H
    have s3 := (sep_app (sep_cons (show Sep L ((Sum.inr l : El) :: (a.els ++ b.els)) from s)).2).1
    have apT : Ap pl ((Sum.inr l : El) :: (a.els ++ b.els)) := (ap_cons (ap_cons ap).2).2
    obtain ⟨q1, q2⟩ := ap_cons apT
    obtain ⟨q3, q4, q5⟩ := ap_app q2
    have apL := ap_cons ap
    have apI := ap_cons apL.2
    have apa : Ap pl (.inr L :: .inl L :: a.els) := by
      unfold Ap
      rw [List.map_cons, List.map_cons, List.nodup_cons, List.nodup_cons]
      refine ⟨fun z => ?_, fun z => ?_, q3⟩
      · rcases List.mem_cons.mp z with z | z
        · exact apL.1 (.inl L) (by simp) z.symm
        · obtain ⟨y, hy, e⟩ := List.mem_map.mp z
          exact apL.1 y (by simp [Tr.els, hy]) e
      · obtain ⟨y, hy, e⟩ := List.mem_map.mp z
        exact apI.1 y (by simp [Tr.els, hy]) e
    obtain ⟨i1, i2, i3⟩ := ih s3 apa h4
    refine ⟨i1, i2, ?_⟩
    cases p with
    | none =>
      obtain ⟨e1, rfl, i4⟩ := i3
      rw [e1] at h1 h2 h4
      have hab : X.pos pl ≠ b.pos pl := q5 _ (root_mem X) _ (root_mem b)
      refine ⟨h2, h1, fun z => ?_, rfl, by simp [Tr.sub, root_mem], by simp [Tr.els], fun sd' us' hu hx hs hp => ?_⟩
      · exact apL.1 b.root (by simp [Tr.els, root_mem]) z
      · refine ⟨hp, hx, (hu _ (Ne.symm hab)).trans h3, ?_, ?_⟩
        · refine holds_congr (i4 us' hu) (fun _ _ => rfl) fun x hx => hs _ ?_
          exact q1 x (by simp [hx])
        · exact holds_congr h5 (fun x hx => hu _ (Ne.symm (q5 _ (root_mem X) x (sub_els hx)))) fun x hx => hs _ (q1 x (by simp [hx]))
    | some uB =>
      obtain ⟨u, B⟩ := uB
      obtain ⟨j1, j2, j2', j3, j4, j5, j6⟩ := i3
      have er : (a.put L c).pos pl = a.pos pl := by unfold Tr.pos; rw [j3]
      rw [er] at h1 h2
      have xa : X.root ∈ a.els := by rw [els_eq]; simp [j4]
      refine ⟨j1, j2, j2', rfl, by simp [Tr.sub, xa], by simp [Tr.els, j5], fun sd' us' hu hx hs hp => ?_⟩
      have lu : pl l ≠ pl u := fun z => q1 (.inr u) (by simp [j5]) z.symm
      refine ⟨?_, ?_, ?_, j6 sd' us' hu hx hs hp, ?_⟩
      · unfold Pair at h1 ⊢
        rw [hs _ lu]
        exact h1
      · refine (hu _ fun z => ?_).trans h2
        have := q3
        rw [els_eq] at this
        exact (ap_cons this).1 _ j4 z.symm
      · exact (hu _ (Ne.symm (q5 _ xa _ (root_mem b)))).trans h3
      · exact holds_congr h5 (fun x hx => hu _ (Ne.symm (q5 _ xa x (sub_els hx)))) fun x hx => hs _ (Ne.symm (q5 (.inr u) j5 x hx))
  | @inr l a b X p h ih =>
    intro s ap H
    rw [hit_put2 s h] at H ⊢
    obtain ⟨h1, h2, h3, h4, h5⟩ := H
    have s3 := (sep_app (sep_cons (show Sep L ((Sum.inr l : El) :: (a.els ++ b.els)) from s)).2).2.1
    have apT : Ap pl ((Sum.inr l : El) :: (a.els ++ b.els)) := (ap_cons (ap_cons ap).2).2
    obtain ⟨q1, q2⟩ := ap_cons apT
    obtain ⟨q3, q4, q5⟩ := ap_app q2
    have apL := ap_cons ap
    have apI := ap_cons apL.2
    have apa : Ap pl (.inr L :: .inl L :: b.els) := by
      unfold Ap
      rw [List.map_cons, List.map_cons, List.nodup_cons, List.nodup_cons]
      refine ⟨fun z => ?_, fun z => ?_, q4⟩
      · rcases List.mem_cons.mp z with z | z
        · exact apL.1 (.inl L) (by simp) z.symm
        · obtain ⟨y, hy, e⟩ := List.mem_map.mp z
          exact apL.1 y (by simp [Tr.els, hy]) e
      · obtain ⟨y, hy, e⟩ := List.mem_map.mp z
        exact apI.1 y (by simp [Tr.els, hy]) e
    obtain ⟨i1, i2, i3⟩ := ih s3 apa h5
    refine ⟨i1, i2, ?_⟩
    cases p with
    | none =>
      obtain ⟨e1, rfl, i4⟩ := i3
      rw [e1] at h1 h3 h5
      have hab : a.pos pl ≠ X.pos pl := q5 _ (root_mem a) _ (root_mem X)
      refine ⟨h3, h1.symm, fun z => ?_, rfl, by simp [Tr.sub, root_mem], by simp [Tr.els], fun sd' us' hu hx hs hp => ?_⟩
      · exact apL.1 a.root (by simp [Tr.els, root_mem]) z
      · refine ⟨hp.symm, (hu _ hab).trans h2, hx, ?_, ?_⟩
        · exact holds_congr h4 (fun x hx => hu _ (q5 x (sub_els hx) _ (root_mem X))) fun x hx => hs _ (q1 x (by simp [hx]))
        · refine holds_congr (i4 us' hu) (fun _ _ => rfl) fun x hx => hs _ ?_
          exact q1 x (by simp [hx])
    | some uB =>
      obtain ⟨u, B⟩ := uB
      obtain ⟨j1, j2, j2', j3, j4, j5, j6⟩ := i3
      have er : (b.put L c).pos pl = b.pos pl := by unfold Tr.pos; rw [j3]
      rw [er] at h1 h3
      have xa : X.root ∈ b.els := by rw [els_eq]; simp [j4]
      refine ⟨j1, j2, j2', rfl, by simp [Tr.sub, xa], by simp [Tr.els, j5], fun sd' us' hu hx hs hp => ?_⟩
      have lu : pl l ≠ pl u := fun z => q1 (.inr u) (by simp [j5]) z.symm
      refine ⟨?_, ?_, ?_, ?_, j6 sd' us' hu hx hs hp⟩
      · unfold Pair at h1 ⊢
        rw [hs _ lu]
        exact h1
      · exact (hu _ (q5 _ (root_mem a) _ xa)).trans h2
      · refine (hu _ fun z => ?_).trans h3
        have := q4
        rw [els_eq] at this
        exact (ap_cons this).1 _ j4 z.symm
      · exact holds_congr h4 (fun x hx => hu _ (q5 x (sub_els hx) _ xa)) fun x hx => hs _ (q5 x hx (.inr u) j5)
end K64

namespace Mo
open PySem PySem.Spec L2 PyProof.Rows
/-! ### dicts, run -/
theorem valP_any (k : Key) : ∀ l : List (Key × D), (l.any fun p => decide (p.1 = k)) = (valP l k).isSome
  | [] => rfl
  | (j, d) :: l => by
    rw [List.any_cons, valP]
    by_cases e : j = k
    · rw [if_pos e]; simp [e]
    · rw [if_neg e]; simp only [decide_eq_false e, Bool.false_or]; exact valP_any k l
theorem valP_map (k j : Key) (d : D) : ∀ l : List (Key × D), valP (l.map fun p => if p.1 = k then (p.1, d) else p) j = (valP l j).map fun x => if j = k then d else x
  | [] => rfl
  | (i, x) :: l => by
    have ih := valP_map k j d l
    rw [List.map_cons]
    by_cases h : i = k
    · simp only [h, if_true]
      unfold valP
      by_cases e : k = j
      · simp [e]
      · rw [if_neg e, if_neg e]; exact ih
    · simp only [h, if_false]
      unfold valP
      by_cases e : i = j
      · have : ¬ j = k := fun z => h (e.trans z)
        simp [e, this]
      · rw [if_neg e, if_neg e]; exact ih
theorem valP_snoc (k j : Key) (d : D) : ∀ l : List (Key × D), valP l k = none → valP (l ++ [(k, d)]) j = if j = k then some d else valP l j
  | [], _ => by
    show (if k = j then some d else none) = _
    by_cases e : j = k
    · rw [if_pos e, if_pos e.symm]
    · rw [if_neg e, if_neg fun z => e z.symm]; rfl
  | (i, x) :: l, h => by
    unfold valP at h
    by_cases hk : i = k
    · rw [if_pos hk] at h; cases h
    · rw [if_neg hk] at h
      rw [List.cons_append]
      unfold valP
      by_cases e : i = j
      · rw [if_pos e, if_pos e, if_neg fun z => hk (e.trans z)]
      · rw [if_neg e, if_neg e]; exact valP_snoc k j d l h
theorem valP_put (l : List (Key × D)) (k j : Key) (d : D) : valP (putP l k d) j = if j = k then some d else valP l j := by
  unfold putP
  rw [valP_any]
  cases h : valP l k with
  | none => rw [if_neg (by simp)]; exact valP_snoc k j d l h
  | some x =>
    rw [if_pos (by simp), valP_map]
    by_cases e : j = k
    · rw [if_pos e, e, h]; simp
    · rw [if_neg e]; simp [e]
theorem len_put (l : List (Key × D)) (k : Key) (d : D) : (putP l k d).length ≤ l.length + 1 := by
  unfold putP
  split
  · rw [List.length_map]; omega
  · rw [List.length_append]; simp
section
variable {e e1 e2 : Env} {S S1 S2 S3 S4 : List O} {a b d i z : D} {ma mb mc m mo mi mv mf : ME} {r : RS} {n : Nat} {l l0 : List (Key × D)} {k : Int}
theorem x_dget (h : S[n]? = some (.dct l)) (h2 : valP l (.inl k) = some d) : gDGet S (.ref n) (.int k) = some d := by
  unfold gDGet dctR
  simp only [h, keyD]
  exact h2
theorem x_dgetF (h : S[n]? = some (.fdct l)) (h2 : valP l (.inl k) = some d) : gDGet S (.ref n) (.int k) = some d := by
  unfold gDGet dctR
  simp only [h, keyD]
  exact h2
theorem w_dset (h1 : mv e S = .ok d S1) (h2 : mo e S1 = .ok (.ref n) S2) (h3 : mi e S2 = .ok (.int k) S3) (h4 : S3[n]? = some (.dct l)) (h5 : l.length < sz) : sDSet mv mo mi e S = .nx e (S3.set n (.dct (putP l (.inl k) d))) := by
  unfold sDSet
  rw [h1]
  show (mo e S1).st _ _ = _
  rw [h2]
  show (mi e S2).st _ _ = _
  rw [h3]
  show (match fDSet S3 (.ref n) (.int k) d with | some S4 => RS.nx e S4 | none => .bad) = _
  have : fDSet S3 (.ref n) (.int k) d = some (S3.set n (.dct (putP l (.inl k) d))) := by
    unfold fDSet keyD
    simp only [h4, h5, if_true]
  rw [this]
theorem v_dget2 (h1 : mo e S = .ok (.ref n) S1) (h2 : S1[n]? = some (.dct l0)) (h3 : m e S1 = .ok (.int k) S2) (h4 : mf e S2 = .ok z S3) (h5 : S3[n]? = some (.dct l)) : mDGet2 mo m mf e S = .ok ((valP l (.inl k)).getD z) S3 := by
  unfold mDGet2
  rw [h1]
  show (if (dctR S1 (.ref n)).isSome = true then _ else _) = _
  rw [show dctR S1 (.ref n) = some l0 by unfold dctR; simp only [h2]]
  rw [if_pos (show (some l0).isSome = true from rfl)]
  show (m e S1).bind _ = _
  rw [h3]
  show (mf e S2).bind _ = _
  rw [h4]
  show (match dctR S3 (.ref n), keyD (.int k) with | some l, some k => R.ok ((valP l k).getD z) S3 | _, _ => .bad) = _
  rw [show dctR S3 (.ref n) = some l by unfold dctR; simp only [h5]]
  rfl
theorem fn_nx {np n : Nat} {b : MS} {ds : List D} {S S' : List O} {e : Env} (hl : ds.length = np) (h : b (ds.map some ++ List.replicate (n - ds.length) none) S = .nx e S') : fnM np n b ds S = .ok .non (trimS true S S') := by
  unfold fnM
  rw [if_pos hl, h]
theorem x_eqI {i j : Int} : gEq S (.int i) (.int j) = some (.bl (decide (i = j))) := rfl
theorem x_neI {i j : Int} : gNe S (.int i) (.int j) = some (.bl (!decide (i = j))) := rfl
theorem x_lt {i j : Int} : gLt S (.int i) (.int j) = some (.bl (decide (i < j))) := rfl
theorem x_subI {i j : Int} : gSub S (.int i) (.int j) = some (.int (i - j)) := rfl
end
end Mo
namespace K64
open PySem PySem.Spec L2 PyProof.Rows Mo
def other (x y s : Int) : Int := if x = s then y else x
theorem other_ok (x y s : Int) (S : List O) : m_other_side [.lst [.int x, .int y], .int s] S = .ok (.int (other x y s)) S := by
  refine nb_ok ?_
  refine (fn_rt (S' := S) (d := .int (other x y s)) rfl ?_).trans (congrArg _ (trim_same (show List.length _ = _ from rfl)))
  refine w_ret (v_if (v_tb (v_bin (v_bin (v_var rfl) v_C (x_ixl rfl)) (v_var rfl) x_eqI)) ?_)
  unfold other
  by_cases h : x = s
  · rw [if_pos h, decide_eq_true h, if_pos rfl]
    exact v_bin (v_var rfl) v_C (x_ixl rfl)
  · rw [if_neg h, decide_eq_false h, if_neg (by simp)]
    exact v_bin (v_var rfl) v_C (x_ixl rfl)
theorem other_pair {f : List (Key × D)} {k x s : Int} (h : Pair (fun i => valP f (.inl i)) k s x) (hne : x ≠ s) : ∃ a b, valP f (.inl k) = some (.lst [.int a, .int b]) ∧ other a b s = x := by
  rcases h with h | h
  · exact ⟨s, x, h, by unfold other; rw [if_pos rfl]⟩
  · exact ⟨x, s, h, by unfold other; rw [if_neg hne]⟩
/-- replace_side where nothing stands above -/
theorem repl_top {sd us cm : List (Key × D)} {bs : List D} {row side : Int} (hl : us.length < 1000) (hu : valP us (.inl row) = none ∨ valP us (.inl row) = some .non) :
    m_replace_side [.ref 0, .ref 1, .int row, .int side] [.dct sd, .dct us, .dct cm, .lst bs] = .ok .non [.dct sd, .dct (putP us (.inl side) .non), .dct cm, .lst bs] := by
  refine nb_ok ?_
  refine (fn_nx (e := [some (.ref 0), some (.ref 1), some (.int row), some (.int side), none]) (S' := [.dct sd, .dct (putP us (.inl side) .non), .dct cm, .lst bs]) rfl ?_).trans (congrArg _ (trim_same (show List.length _ = _ from rfl)))
  refine w_seq (w_dset (l := us) v_C (v_var rfl) (v_var rfl) rfl (Nat.lt_trans hl (by decide))) ?_
  refine w_if (k := false) (v_tb (v_bin (v_dget2 (l0 := putP us (.inl side) .non) (l := putP us (.inl side) .non) (v_var rfl) rfl (v_var rfl) v_C rfl) v_C ?_)) rfl
  have : (valP (putP us (.inl side) .non) (.inl row)).getD .non = .non := by
    rw [valP_put]
    split
    · rfl
    · rcases hu with h | h <;> rw [h] <;> rfl
  rw [this]
  rfl
/-- .. and where up stands above -/
theorem repl_up {sd us cm : List (Key × D)} {bs : List D} {row side up x y : Int} (hl : us.length < 1000) (hl2 : sd.length < 1000) (hne : row ≠ side) (hu : valP us (.inl row) = some (.int up)) (hs : valP sd (.inl up) = some (.lst [.int x, .int y])) :
    m_replace_side [.ref 0, .ref 1, .int row, .int side] [.dct sd, .dct us, .dct cm, .lst bs] =
      .ok .non [.dct (putP sd (.inl up) (.lst [.int side, .int (other x y row)])), .dct (putP (putP us (.inl side) .non) (.inl side) (.int up)), .dct cm, .lst bs] := by
  refine nb_ok ?_
  refine (fn_nx (e := [some (.ref 0), some (.ref 1), some (.int row), some (.int side), some (.int up)]) (S' := [.dct (putP sd (.inl up) (.lst [.int side, .int (other x y row)])), .dct (putP (putP us (.inl side) .non) (.inl side) (.int up)), .dct cm, .lst bs]) rfl ?_).trans (congrArg _ (trim_same (show List.length _ = _ from rfl)))
  refine w_seq (w_dset (l := us) v_C (v_var rfl) (v_var rfl) rfl (Nat.lt_trans hl (by decide))) ?_
  have hv : valP (putP us (.inl side) .non) (.inl row) = some (.int up) := by
    rw [valP_put, if_neg (fun z => hne (by simpa using z))]
    exact hu
  refine w_if (k := true) (v_tb (v_bin (v_dget2 (l0 := putP us (.inl side) .non) (l := putP us (.inl side) .non) (v_var rfl) rfl (v_var rfl) v_C rfl) v_C ?_)) ?_
  · rw [hv]; rfl
  refine w_seq (w_asg (v_bin (v_var rfl) (v_var rfl) (x_dget rfl hv))) ?_
  refine w_seq (w_dset (l := sd) (v_lst (v_cons (v_var rfl) (v_cons (v_call (v_cons (v_bin (v_var rfl) (v_var rfl) (x_dget rfl hs)) (v_cons (v_var rfl) v_nil)) (other_ok x y row _)) v_nil)) (show 2 ≤ 16777216 by decide)) (v_var rfl) (v_var rfl) rfl (Nat.lt_trans hl2 (by decide))) ?_
  exact (w_dset (l := putP us (.inl side) .non) (v_var rfl) (v_var rfl) (v_var rfl) rfl (Nat.lt_of_le_of_lt (len_put _ _ _) (Nat.lt_trans (Nat.succ_lt_succ hl) (by decide)))).trans rfl
end K64

namespace Mo
open PySem PySem.Spec L2 PyProof.Rows
theorem loop_at {t : Tg} {b : MS} {I : Nat → Mo.Env → List O → Prop} {l0 : List D} (h : ∀ (i : Nat) (d : D), l0[i]? = some d → ∀ (e : Mo.Env) (S : List O), I i e S → ∃ e' e1 S1, t.f d e = some e' ∧ b e' S = .nx e1 S1 ∧ I (i + 1) e1 S1) :
    ∀ {l : List D} {i : Nat} {e : Mo.Env} {S : List O}, l0.drop i = l → i ≤ l0.length → I i e S → ∃ e1 S1, loopL anyS t b l e S = .nx e1 S1 ∧ I l0.length e1 S1
  | [], i, e, S, hl, hi, hI => by
    have : i = l0.length := by
      have := congrArg List.length hl
      simp at this
      omega
    subst this
    exact ⟨e, S, by unfold loopL; rw [if_pos (show anyS S = true from rfl)], hI⟩
  | d :: l, i, e, S, hl, hi, hI => by
    have hd : l0[i]? = some d := by
      have := congrArg (·[0]?) hl
      simpa using this
    have hlt : i < l0.length := (List.getElem?_eq_some_iff.mp hd).1
    obtain ⟨e', e1, S1, h1, h2, h3⟩ := h i d hd e S hI
    have hl' : l0.drop (i + 1) = l := by
      have := congrArg List.tail hl
      simpa using this
    obtain ⟨e2, S2, h4, h5⟩ := loop_at h (l := l) (i := i + 1) hl' hlt h3
    refine ⟨e2, S2, ?_, h5⟩
    unfold loopL
    rw [if_pos (show anyS S = true from rfl), h1]
    dsimp only
    rw [h2]
    exact h4
theorem x_mul2 {S : List O} {i j : Int} (h : j.natAbs < 18446744073709551616) : gMul S (.int i) (.int j) = some (.int (i * j)) := by unfold gMul; simp only [h, or_true, if_true]
theorem v_mir {f : List D → Option (List D)} {m : MA} {e : Mo.Env} {S S1 : List O} {l r : List D} (h1 : m e S = .ok l S1) (h2 : f l = some r) : miRange f m e S = .ok (r, anyS) S1 := by
  unfold miRange; rw [h1]; show (match f l with | some r => R.ok (r, anyS) S1 | none => .bad) = _; rw [h2]
theorem w_par {i j : Nat} {m : MA} {e : Mo.Env} {S S1 : List O} {a b : D} (h : m e S = .ok [a, b] S1) : sPar i j m e S = .nx ((e.set i (some a)).set j (some b)) S1 := by unfold sPar; rw [h]; rfl
theorem v_binN {f : Op2N} {ma mb : ME} {e : Mo.Env} {S S1 S2 : List O} {a b : D} {l : List D} (h1 : ma e S = .ok a S1) (h2 : mb e S1 = .ok b S2) (h3 : f S2 a b = some l) : mBinN f ma mb e S = .ok (.ref S2.length) (S2 ++ [.lst l]) := by
  unfold mBinN; rw [h1]; show (mb e S1).bind _ = _; rw [h2]; show (match f S2 a b with | some l => R.ok (D.ref S2.length) (S2 ++ [O.lst l]) | none => .bad) = _; rw [h3]
end Mo
namespace K64
open PySem PySem.Spec L2 PyProof.Rows Mo
def num (c : Nat → Nat) : Nat → Int
  | 0 => 0
  | k + 1 => num c k * (2 * ((k + 1 : Nat) : Int) - 1) + (c (k + 1) : Nat)
structure PlOk (pl : Nat → Int) (n : Nat) : Prop where
  ge : ∀ l, 1 ≤ l → l < n → (n : Int) ≤ pl l
  inj : ∀ l m, 1 ≤ l → l < n → 1 ≤ m → m < n → pl l = pl m → l = m
theorem ap_of {pl : Nat → Int} {n : Nat} (hp : PlOk pl n) {l : List El} (nd : l.Nodup) (h1 : ∀ i, .inl i ∈ l → i < n) (h2 : ∀ m, .inr m ∈ l → 1 ≤ m ∧ m < n) : Ap pl l := by
  unfold Ap
  refine List.pairwise_map.mpr (List.Pairwise.imp_of_mem (fun {x y} hx hy ne => ?_) nd)
  intro e
  refine ne ?_
  cases x with
  | inl i => cases y with
    | inl j => have e' : (i : Int) = (j : Int) := e; have : i = j := by omega
               rw [this]
    | inr m => have := h1 i hx; have q := h2 m hy; have := hp.ge m q.1 q.2; have e' : (i : Int) = pl m := e; omega
  | inr m => cases y with
    | inl j => have := h1 j hy; have q := h2 m hx; have := hp.ge m q.1 q.2; have e' : pl m = (j : Int) := e; omega
    | inr m' => have q := h2 m hx; have q' := h2 m' hy; have e' : pl m = pl m' := e; rw [hp.inj m m' q.1 q.2 q'.1 q'.2 e']
theorem ap_bt {pl : Nat → Int} {n k : Nat} {c : Nat → Nat} (hp : PlOk pl n) (hc : CodesOk c n) (hk : k + 1 < n) : Ap pl (.inr (k + 1) :: .inl (k + 1) :: (bt c k).els) := by
  obtain ⟨h1, h2, h3⟩ := bt_els hc k (by omega)
  refine ap_of hp ?_ (fun i hi => ?_) fun m hm => ?_
  · rw [List.nodup_cons, List.nodup_cons]
    refine ⟨fun z => ?_, fun z => ?_, h1⟩
    · simp at z
      have := (h3 _).mp z
      omega
    · have := (h2 _).mp z
      omega
  · simp at hi
    rcases hi with z | z
    · omega
    · have := (h2 _).mp z; omega
  · simp at hm
    rcases hm with z | z
    · omega
    · have := (h3 _).mp z; omega
abbrev dfn (l : List (Key × D)) : Int → Option D := fun k => valP l (.inl k)
def Unl (l : List (Key × D)) (k : Int) : Prop := valP l (.inl k) = none ∨ valP l (.inl k) = some .non
/-- the first loop, L letters left -/
structure Iv1 (pl : Nat → Int) (c : Nat → Nat) (n L : Nat) (sd us cm : List (Key × D)) (bs : List D) : Prop where
  H : Holds pl (dfn sd) (dfn us) (bt c L)
  top : Unl us ((bt c L).pos pl)
  l1 : sd.length ≤ 100 - L
  l2 : us.length ≤ 100 - 2 * L
  l3 : cm.length ≤ 100 - L
  lb : bs.length = n
  hb : ∀ j, L < j → j < n → ∃ X p, Hit j (c j) (bt c (j - 1)) X p ∧ bs[j]? = some (.int (X.pos pl))
  hm : ∀ j, L < j → j < n → valP cm (.inl (pl j)) = some (.int j)
def loop1 : MS := sSeq (sAsg 7 (mBin gDGet (mVar 3) (mVar 6))) (
  sSeq (sSet (mCall m_other_side (mCons (mBin gDGet (mVar 2) (mVar 7)) (mCons (mVar 6) mNil))) (mVar 5) (mVar 6)) (
  sSeq (sDSet (mVar 6) (mVar 4) (mVar 7)) (
  sExpr (mCall m_replace_side (mCons (mVar 2) (mCons (mVar 3) (mCons (mVar 7) (mCons (mBin gIx (mVar 5) (mVar 6)) mNil))))))))
theorem turn1 {pl : Nat → Int} {c : Nat → Nat} {n k : Nat} {sd us cm : List (Key × D)} {bs : List D} {a0 a1 a7 : Option D} (hp : PlOk pl n) (hc : CodesOk c n) (hk : k + 1 < n) (hn : n ≤ 12) (v : Iv1 pl c n (k + 1) sd us cm bs) :
    ∃ a7' sd' us' cm' bs', loop1 [a0, a1, some (.ref 0), some (.ref 1), some (.ref 2), some (.ref 3), some (.int ((k + 1 : Nat) : Int)), a7, none, none, none] [.dct sd, .dct us, .dct cm, .lst bs] =
      .nx [a0, a1, some (.ref 0), some (.ref 1), some (.ref 2), some (.ref 3), some (.int ((k + 1 : Nat) : Int)), a7', none, none, none] [.dct sd', .dct us', .dct cm', .lst bs'] ∧ Iv1 pl c n k sd' us' cm' bs' := by
  obtain ⟨H, top, l1, l2, l3, lb, hb, hm⟩ := v
  obtain ⟨X, p, h⟩ := bt_hit hc hk
  have ap := ap_bt (pl := pl) hp hc hk
  obtain ⟨s1, s2, s3⟩ := step h (bt_sep hc (by omega)) ap H
  have apL := ap_cons ap
  have apI := ap_cons apL.2
  have xL : X.pos pl ≠ ((k + 1 : Nat) : Int) := apI.1 X.root h.mem
  have xp : X.pos pl ≠ pl (k + 1) := apL.1 X.root (by simp [h.mem])
  obtain ⟨a, b, e1, e2⟩ := other_pair (s := ((k + 1 : Nat) : Int)) s2.symm xL
  have hix : ixN bs.length ((k + 1 : Nat) : Int) = some (k + 1) := by
    unfold ixN
    rw [if_pos (by omega), if_pos (by omega)]
    congr 1
  have hix2 : atI (bs.set (k + 1) (.int (X.pos pl))) ((k + 1 : Nat) : Int) = some (.int (X.pos pl)) := by
    unfold atI
    rw [List.length_set, hix]
    show (bs.set (k + 1) (.int (X.pos pl)))[k + 1]? = _
    rw [List.getElem?_set_self (by omega)]
  have run : ∀ r, (∀ z, mCall m_replace_side (mCons (mVar 2) (mCons (mVar 3) (mCons (mVar 7) (mCons (mBin gIx (mVar 5) (mVar 6)) mNil)))) [a0, a1, some (.ref 0), some (.ref 1), some (.ref 2), some (.ref 3), some (.int ((k + 1 : Nat) : Int)), some (.int (pl (k + 1))), none, none, none]
      [.dct sd, .dct us, .dct (putP cm (.inl (pl (k + 1))) (.int ((k + 1 : Nat) : Int))), .lst (bs.set (k + 1) (.int (X.pos pl)))] = .ok z r →
      loop1 [a0, a1, some (.ref 0), some (.ref 1), some (.ref 2), some (.ref 3), some (.int ((k + 1 : Nat) : Int)), a7, none, none, none] [.dct sd, .dct us, .dct cm, .lst bs] =
        .nx [a0, a1, some (.ref 0), some (.ref 1), some (.ref 2), some (.ref 3), some (.int ((k + 1 : Nat) : Int)), some (.int (pl (k + 1))), none, none, none] r) := by
    intro r z hr
    refine w_seq (w_asg (v_bin (v_var rfl) (v_var rfl) (x_dget rfl s1))) ?_
    refine w_seq (w_set (v_call (v_cons (v_bin (v_var rfl) (v_var rfl) (x_dget rfl e1)) (v_cons (v_var rfl) v_nil)) ((other_ok a b _ _).trans (by rw [e2]))) (v_var rfl) (v_var rfl) (x_set rfl hix)) ?_
    refine w_seq (w_dset (l := cm) (v_var rfl) (v_var rfl) (v_var rfl) rfl (Nat.lt_of_le_of_lt l3 (Nat.lt_of_le_of_lt (Nat.sub_le _ _) (by decide)))) ?_
    exact w_expr hr
  have hcm : (putP cm (.inl (pl (k + 1))) (.int ((k + 1 : Nat) : Int))).length ≤ 100 - k := Nat.le_trans (len_put _ _ _) (by omega)
  have hhb : ∀ j, k < j → j < n → ∃ X p, Hit j (c j) (bt c (j - 1)) X p ∧ (bs.set (k + 1) (.int (Tr.pos pl (Classical.choose (bt_hit hc hk)))))[j]? = some (.int (X.pos pl)) ∨ True := fun _ _ _ => ⟨.lf 0, none, .inr trivial⟩
  have hb' : ∀ j, k < j → j < n → ∃ Y q, Hit j (c j) (bt c (j - 1)) Y q ∧ (bs.set (k + 1) (.int (X.pos pl)))[j]? = some (.int (Y.pos pl)) := fun j h1 h2 => by
    by_cases ej : j = k + 1
    · subst ej
      exact ⟨X, p, h, List.getElem?_set_self (by omega)⟩
    · obtain ⟨Y, q, y1, y2⟩ := hb j (by omega) h2
      exact ⟨Y, q, y1, by rw [List.getElem?_set_ne (fun z => ej z.symm)]; exact y2⟩
  have hm' : ∀ j, k < j → j < n → valP (putP cm (.inl (pl (k + 1))) (.int ((k + 1 : Nat) : Int))) (.inl (pl j)) = some (.int j) := fun j h1 h2 => by
    rw [valP_put]
    by_cases ej : j = k + 1
    · subst ej; rw [if_pos rfl]
    · rw [if_neg fun z => ej (hp.inj j (k + 1) (by omega) h2 (by omega) hk (by simpa using z))]
      exact hm j (by omega) h2
  have hbl : (bs.set (k + 1) (.int (X.pos pl))).length = n := by rw [List.length_set]; exact lb
  have hargs : ∀ (r : List O), m_replace_side [.ref 0, .ref 1, .int (pl (k + 1)), .int (X.pos pl)] [.dct sd, .dct us, .dct (putP cm (.inl (pl (k + 1))) (.int ((k + 1 : Nat) : Int))), .lst (bs.set (k + 1) (.int (X.pos pl)))] = .ok .non r →
      mCall m_replace_side (mCons (mVar 2) (mCons (mVar 3) (mCons (mVar 7) (mCons (mBin gIx (mVar 5) (mVar 6)) mNil)))) [a0, a1, some (.ref 0), some (.ref 1), some (.ref 2), some (.ref 3), some (.int ((k + 1 : Nat) : Int)), some (.int (pl (k + 1))), none, none, none]
        [.dct sd, .dct us, .dct (putP cm (.inl (pl (k + 1))) (.int ((k + 1 : Nat) : Int))), .lst (bs.set (k + 1) (.int (X.pos pl)))] = .ok .non r := fun r hr =>
    v_call (v_cons (v_var rfl) (v_cons (v_var rfl) (v_cons (v_var rfl) (v_cons (v_bin (v_var rfl) (v_var rfl) (x_ix rfl hix2)) v_nil)))) hr
  cases p with
  | none =>
    obtain ⟨t1, rfl, t3⟩ := s3
    have top' : Unl us (pl (k + 1)) := by
      have e : (bt c (k + 1)).pos pl = pl (k + 1) := by
        show plE pl ((bt c k).put (k + 1) (c (k + 1))).root = _
        rw [t1]
        rfl
      rw [← e]
      exact top
    refine ⟨_, _, _, _, _, run _ .non (hargs _ (repl_top (by omega) top')), ?_⟩
    refine ⟨?_, .inr ?_, by omega, Nat.le_trans (len_put _ _ _) (by omega), hcm, hbl, hb', hm'⟩
    · refine t3 _ fun j hj => ?_
      show valP (putP us _ _) _ = _
      rw [valP_put, if_neg (by simpa using hj)]
    · rw [valP_put, if_pos rfl]
  | some uB =>
    obtain ⟨u, B⟩ := uB
    obtain ⟨t1, t2, t2', t3, t4, t5, t6⟩ := s3
    obtain ⟨x, y, f1, f2⟩ := other_pair (s := pl (k + 1)) t2 t2'
    refine ⟨_, _, _, _, _, run _ .non (hargs _ (repl_up (up := pl u) (x := x) (y := y) (by omega) (by omega) (Ne.symm xp) t1 f1)), ?_⟩
    rw [f2]
    refine ⟨?_, ?_, Nat.le_trans (len_put _ _ _) (by omega), Nat.le_trans (len_put _ _ _) (Nat.le_trans (Nat.succ_le_succ (len_put _ _ _)) (by omega)), hcm, hbl, hb', hm'⟩
    · refine t6 _ _ (fun j hj => ?_) ?_ (fun j hj => ?_) ?_
      · show valP (putP (putP us _ _) _ _) _ = _
        rw [valP_put, if_neg (by simpa using hj), valP_put, if_neg (by simpa using hj)]
      · show valP (putP (putP us _ _) _ _) _ = _
        rw [valP_put, if_pos rfl]
      · show valP (putP sd _ _) _ = _
        rw [valP_put, if_neg (by simpa using hj)]
      · left
        show valP (putP sd _ _) _ = _
        rw [valP_put, if_pos rfl]
    · have e : (bt c k).pos pl = (bt c (k + 1)).pos pl := by
        show plE pl (bt c k).root = plE pl ((bt c k).put (k + 1) (c (k + 1))).root
        rw [t3]
      have ne : (bt c k).pos pl ≠ X.pos pl := by
        have q := apI.2
        rw [els_eq] at q
        exact fun z => (ap_cons q).1 _ t4 z.symm
      unfold Unl
      rw [valP_put, if_neg (by simpa using ne), valP_put, if_neg (by simpa using ne), e]
      exact top
end K64

namespace K64
open PySem PySem.Spec L2 PyProof.Rows Mo
theorem hit_depth {L c : Nat} {T X : Tr} {p : Option (Nat × Tr)} (h : Hit L c T X p) : X.root ∈ T.els := h.mem
def loop2 : MS := sSeq (sAsg 9 (mBin gIx (mVar 5) (mVar 6))) (
  sSeq (sAsg 10 (mIf (mTB (mBin gLt (mVar 9) (mVar 1))) (mVar 9) (mBin gAdd (mBin gSub (mVar 6) (mC (.int 1))) (mBin gDGet (mVar 4) (mVar 9))))) (
  sAsg 8 (mBin gAdd (mBin gMul (mVar 8) (mBin gSub (mBin gMul (mC (.int 2)) (mVar 6)) (mC (.int 1)))) (mVar 10))))
theorem turn2 {pl : Nat → Int} {c : Nat → Nat} {n k : Nat} {sd us cm : List (Key × D)} {bs : List D} {a0 a7 a9 a10 : Option D} {f : Int} (hp : PlOk pl n) (hc : CodesOk c n) (hk : k + 1 < n) (hn : n ≤ 12) (v : Iv1 pl c n 0 sd us cm bs) :
    ∃ a9' a10', loop2 [a0, some (.int n), some (.ref 0), some (.ref 1), some (.ref 2), some (.ref 3), some (.int ((k + 1 : Nat) : Int)), a7, some (.int f), a9, a10] [.dct sd, .dct us, .dct cm, .lst bs] =
      .nx [a0, some (.int n), some (.ref 0), some (.ref 1), some (.ref 2), some (.ref 3), some (.int ((k + 1 : Nat) : Int)), a7, some (.int (f * (2 * ((k + 1 : Nat) : Int) - 1) + (c (k + 1) : Nat))), a9', a10'] [.dct sd, .dct us, .dct cm, .lst bs] := by
  obtain ⟨H, top, l1, l2, l3, lb, hb, hm⟩ := v
  obtain ⟨X, p, h, hx⟩ := hb (k + 1) (by omega) hk
  obtain ⟨h1, h2, h3⟩ := bt_els hc k (by omega)
  have nm := h.name
  have mem : X.root ∈ (bt c k).els := h.mem
  have hix : atI bs ((k + 1 : Nat) : Int) = some (.int (X.pos pl)) := by
    unfold atI ixN
    rw [if_pos (by omega), if_pos (by omega)]
    exact hx
  have key : mIf (mTB (mBin gLt (mVar 9) (mVar 1))) (mVar 9) (mBin gAdd (mBin gSub (mVar 6) (mC (.int 1))) (mBin gDGet (mVar 4) (mVar 9))) [a0, some (.int n), some (.ref 0), some (.ref 1), some (.ref 2), some (.ref 3), some (.int ((k + 1 : Nat) : Int)), a7, some (.int f), some (.int (X.pos pl)), a10] [.dct sd, .dct us, .dct cm, .lst bs] = .ok (.int (c (k + 1) : Nat)) [.dct sd, .dct us, .dct cm, .lst bs] := by
    cases hr : X.root with
    | inl i =>
      rw [hr] at nm mem
      have hi := (h2 i).mp mem
      have e : X.pos pl = (i : Int) := by unfold Tr.pos; rw [hr]; rfl
      have e2 : (i : Int) = (c (k + 1) : Nat) := by rw [← nm]; rfl
      refine v_if (k := true) (v_tb (v_bin (v_var rfl) (v_var rfl) ?_)) ?_
      · rw [x_lt, e, decide_eq_true (by omega)]
      · rw [if_pos rfl, ← e2, ← e]
        exact v_var rfl
    | inr m =>
      rw [hr] at nm mem
      have hi := (h3 m).mp mem
      have e : X.pos pl = pl m := by unfold Tr.pos; rw [hr]; rfl
      have g := hp.ge m (by omega) (by omega)
      have e2 : ((k + 1 : Nat) : Int) - 1 + (m : Int) = (c (k + 1) : Nat) := by
        rw [← nm]
        show _ = ((k + 1 - 1 + m : Nat) : Int)
        omega
      refine v_if (k := false) (v_tb (v_bin (v_var rfl) (v_var rfl) ?_)) ?_
      · rw [x_lt, e, decide_eq_false (by omega)]
      · rw [if_neg (by simp), ← e2]
        refine v_bin (v_bin (v_var rfl) v_C x_subI) (v_bin (v_var rfl) (v_var rfl) (x_dget (d := .int (m : Int)) rfl ?_)) x_addI
        rw [e]
        exact hm m (by omega) (by omega)
  refine ⟨some (.int (X.pos pl)), some (.int (c (k + 1) : Nat)), w_seq (w_asg (v_bin (v_var rfl) (v_var rfl) (x_ix rfl hix))) (w_seq (w_asg key) ?_)⟩
  exact w_asg (v_bin (v_bin (v_var rfl) (v_bin (v_bin v_C (v_var rfl) (x_mul (by decide))) v_C x_subI) (x_mul2 (by omega))) (v_var rfl) x_addI)
theorem range3_at : ∀ n : Nat, n < 13 → 1 ≤ n → rangeA3 [.int ((n : Int) - 1), .int 0, .int (-1)] = some (rangeD ((n : Int) - 1) (-1) (n - 1)) := by decide +kernel
theorem range2_at {n : Nat} (h : n < 13) (h1 : 1 ≤ n) : rangeA2 [.int 1, .int (n : Int)] = some (rangeD 1 1 (n - 1)) := by
  show (if (1 : Int).natAbs < 4611686018427387904 ∧ (n : Int).natAbs < 4611686018427387904 then some (rangeD 1 1 ((n : Int) - 1).toNat) else none) = _
  rw [if_pos (by constructor <;> omega)]
  congr 2
  omega
theorem range_at {a c : Int} {n i : Nat} {d : D} (h : (rangeD a c n)[i]? = some d) : i < n ∧ d = .int (a + (i : Nat) * c) := range_get h
theorem rep_flat (n : Nat) (d : D) : (List.replicate n [d]).flatten = List.replicate n d := by
  induction n with
  | zero => rfl
  | succ n ih => rw [List.replicate_succ, List.flatten_cons, ih]; rfl
theorem x_nmul {S : List O} {n : Nat} {d : D} (h : n ≤ 100) : nMul S (.lst [d]) (.int (n : Nat)) = some (List.replicate n d) := by
  show (if 1 * (n : Int).toNat ≤ sz ∧ (n : Int).natAbs < 9223372036854775808 then some (List.replicate (n : Int).toNat [d]).flatten else none) = _
  rw [if_pos ⟨by show 1 * n ≤ 16777216; omega, by omega⟩, rep_flat]
  rfl
theorem tree_run {pl : Nat → Int} {c : Nat → Nat} {n : Nat} {prog rows outs : D} {sd us : List (Key × D)} (hp : PlOk pl n) (hc : CodesOk c n) (hn : n ≤ 12) (h1 : 1 ≤ n) (hprog : prog = .tup [.int n, rows, outs])
    (hS : m_sides_of [prog] [] = .ok (.ref 0) [.dct sd]) (hU : m_users_of [.ref 0] [.dct sd] = .ok (.ref 1) [.dct sd, .dct us])
    (H : Holds pl (dfn sd) (dfn us) (bt c (n - 1))) (top : Unl us ((bt c (n - 1)).pos pl)) (l1 : sd.length ≤ 50) (l2 : us.length ≤ 50) :
    ∃ S, m_tree_number [prog] [] = .ok (.int (num c (n - 1))) S := by
  have v0 : Iv1 pl c n (n - 1) sd us [] (List.replicate n (.int 0)) := ⟨H, top, by omega, by omega, Nat.zero_le _, List.length_replicate, fun j h1 h2 => by omega, fun j h1 h2 => by omega⟩
  -- the first loop
  have key1 := loop_at (t := tgN 6) (b := loop1) (l0 := rangeD ((n : Int) - 1) (-1) (n - 1))
    (I := fun i e S => ∃ a6 a7 sd us cm bs, e = [some prog, some (.int n), some (.ref 0), some (.ref 1), some (.ref 2), some (.ref 3), a6, a7, none, none, none] ∧ S = [.dct sd, .dct us, .dct cm, .lst bs] ∧ Iv1 pl c n (n - 1 - i) sd us cm bs)
    (fun i d hd e S ⟨a6, a7, sd, us, cm, bs, he, hS, v⟩ => by
      subst he hS
      obtain ⟨hi, rfl⟩ := range_at hd
      obtain ⟨k, hk⟩ : ∃ k, n - 1 - i = k + 1 := ⟨n - 1 - i - 1, by omega⟩
      rw [hk] at v
      obtain ⟨a7', sd', us', cm', bs', hr, v'⟩ := turn1 (a0 := some prog) (a1 := some (.int n)) (a7 := a7) hp hc (by omega) hn v
      have ed : (n : Int) - 1 + (i : Nat) * (-1) = ((k + 1 : Nat) : Int) := by omega
      rw [ed]
      exact ⟨_, _, _, rfl, hr, _, a7', sd', us', cm', bs', rfl, rfl, by rw [show n - 1 - (i + 1) = k by omega]; exact v'⟩)
    (l := _) (i := 0) (e := [some prog, some (.int n), some (.ref 0), some (.ref 1), some (.ref 2), some (.ref 3), none, none, none, none, none]) (S := [.dct sd, .dct us, .dct [], .lst (List.replicate n (.int 0))]) rfl (Nat.zero_le _)
    ⟨none, none, sd, us, [], List.replicate n (.int 0), rfl, rfl, v0⟩
  obtain ⟨e1, S1, hl1, a6, a7, sd1, us1, cm1, bs1, rfl, rfl, v1⟩ := key1
  rw [range_len, show n - 1 - (n - 1) = 0 by omega] at v1
  -- the second
  have key2 := loop_at (t := tgN 6) (b := loop2) (l0 := rangeD 1 1 (n - 1))
    (I := fun i e S => ∃ a6 a9 a10, e = [some prog, some (.int n), some (.ref 0), some (.ref 1), some (.ref 2), some (.ref 3), a6, a7, some (.int (num c i)), a9, a10] ∧ S = [.dct sd1, .dct us1, .dct cm1, .lst bs1])
    (fun i d hd e S ⟨a6, a9, a10, he, hS⟩ => by
      subst he hS
      obtain ⟨hi, rfl⟩ := range_at hd
      obtain ⟨a9', a10', hr⟩ := turn2 (a0 := some prog) (a7 := a7) (a9 := a9) (a10 := a10) (f := num c i) (k := i) hp hc (by omega) hn v1
      have ed : (1 : Int) + (i : Nat) * 1 = ((i + 1 : Nat) : Int) := by omega
      rw [ed]
      exact ⟨_, _, _, rfl, hr, _, a9', a10', rfl, rfl⟩)
    (l := _) (i := 0) (e := [some prog, some (.int n), some (.ref 0), some (.ref 1), some (.ref 2), some (.ref 3), a6, a7, some (.int 0), none, none]) (S := [.dct sd1, .dct us1, .dct cm1, .lst bs1]) rfl (Nat.zero_le _)
    ⟨a6, none, none, rfl, rfl⟩
  obtain ⟨e2, S2, hl2, b6, b9, b10, rfl, rfl⟩ := key2
  rw [range_len] at hl2
  refine ⟨_, nb_ok (fn_rt (S' := [.dct sd1, .dct us1, .dct cm1, .lst bs1]) (d := .int (num c (n - 1))) rfl ?_)⟩
  subst hprog
  refine w_seq (w_asg (v_bin (v_var rfl) v_C (show gIx [] (.tup [.int n, rows, outs]) (.int 0) = some (.int n) from rfl))) ?_
  refine w_seq (w_asg (v_call (v_cons (v_var rfl) v_nil) hS)) ?_
  refine w_seq (w_asg (v_call (v_cons (v_var rfl) v_nil) hU)) ?_
  refine w_seq (w_par (v_cons (show mDNew _ _ = .ok (.ref 2) [.dct sd, .dct us, .dct []] from rfl) (v_cons (v_binN (l := List.replicate n (.int 0)) (v_lst (v_cons v_C v_nil) (show 1 ≤ 16777216 by decide)) (v_var rfl) ?_) v_nil))) ?_
  · exact x_nmul (by omega)
  refine w_seq ((w_for (v_mir (v_cons (v_bin (v_var rfl) v_C x_subI) (v_cons v_C (v_cons (v_un v_C rfl) v_nil))) (range3_at n (by omega) h1))).trans hl1) ?_
  refine w_seq (w_asg v_C) ?_
  refine w_seq ((w_for (v_mir (v_cons v_C (v_cons (v_var rfl) v_nil)) (range2_at (by omega) h1))).trans hl2) ?_
  exact w_ret (v_var rfl)
end K64

namespace Mo
open PySem PySem.Spec L2 PyProof.Rows
theorem compDL_step {chk : List O → Bool} {t : Tg} {tt : MT} {tk te : ME} {e e' : Mo.Env} {S S1 S2 S3 : List O} {acc : List (Key × D)} {d kd y : D} {l : List D} {k : Key} (hc : chk S = true) (h1 : t.f d e = some e') (h2 : tt e' S = .ok true S1) (h3 : tk e' S1 = .ok kd S2) (h4 : te e' S2 = .ok y S3) (h5 : keyD kd = some k) (h6 : acc.length < sz) :
    compDL chk t tt tk te e acc (d :: l) S = compDL chk t tt tk te e (putP acc k y) l S3 := by
  rw [compDL, if_pos hc, h1]
  dsimp only
  rw [h2]
  simp only [R.nb, R.bind, if_true]
  rw [h3]
  simp only []
  rw [h4]
  show (match keyD kd with | some k => if acc.length < sz then compDL chk t tt tk te e (putP acc k y) l S3 else R.bad | none => .bad) = _
  rw [h5]
  show (if acc.length < sz then compDL chk t tt tk te e (putP acc k y) l S3 else R.bad) = _
  rw [if_pos h6]
theorem w_lock {j n : Nat} {b : MS} {e e' : Mo.Env} {S S' : List O} {l : List (Key × D)} (he : e[j]? = some (some (.ref n))) (hS : S[n]? = some (.dct l)) (hb : b e (S.set n (.fdct l)) = .nx e' S') (h : S'[n]? = some (.fdct l)) : sLock j b e S = .nx e' (S'.set n (.dct l)) := by
  unfold sLock
  rw [he]
  dsimp only
  rw [hS]
  dsimp only
  rw [hb]
  dsimp only
  rw [if_pos h]
end Mo
namespace K64
open PySem PySem.Spec L2 PyProof.Rows Mo
def rowD (p : Int × Int) : D := .tup [.str "round", .tup [.tup [.int 1, .tup [.int p.1]], .tup [.int 1, .tup [.int p.2]]]]
def progD (n : Nat) (rs : List (Int × Int)) (out : Int) : D := .tup [.int n, .tup (rs.map rowD), .tup [.int out]]
def sdL (n : Int) : Nat → List (Int × Int) → List (Key × D)
  | _, [] => []
  | k, (x, y) :: r => (.inl (n + k), .lst [.int x, .int y]) :: sdL n (k + 1) r
def usL (n : Int) : Nat → List (Int × Int) → List (Key × D) → List (Key × D)
  | _, [], acc => acc
  | k, (x, y) :: r, acc => usL n (k + 1) r (putP (putP acc (.inl x) (.int (n + k))) (.inl y) (.int (n + k)))
theorem sdL_len {n : Int} : ∀ (k : Nat) (rs : List (Int × Int)), (sdL n k rs).length = rs.length
  | _, [] => rfl
  | k, (x, y) :: r => by rw [sdL, List.length_cons, List.length_cons, sdL_len]
theorem usL_len {n : Int} : ∀ (k : Nat) (rs : List (Int × Int)) (acc : List (Key × D)), (usL n k rs acc).length ≤ acc.length + 2 * rs.length
  | _, [], _ => by rw [usL]; simp
  | k, (x, y) :: r, acc => by
    rw [usL, List.length_cons]
    have h1 := usL_len (n := n) (k + 1) r (putP (putP acc (.inl x) (.int (n + k))) (.inl y) (.int (n + k)))
    have h2 := len_put (putP acc (.inl x) (.int (n + k))) (.inl y) (.int (n + k))
    have h3 := len_put acc (.inl x) (.int (n + k))
    omega
theorem sdL_lt {n : Int} : ∀ (k : Nat) (rs : List (Int × Int)) (s : Int), s < n + k → valP (sdL n k rs) (.inl s) = none
  | _, [], _, _ => rfl
  | k, (x, y) :: r, s, h => by
    rw [sdL, valP, if_neg (fun z => by have : n + (k : Int) = s := by simpa using z
                                       omega)]
    exact sdL_lt (k + 1) r s (by omega)
theorem sdL_at {n : Int} : ∀ (k : Nat) (rs : List (Int × Int)) (j : Nat) (x y : Int), rs[j]? = some (x, y) → valP (sdL n k rs) (.inl (n + ((k + j : Nat) : Int))) = some (.lst [.int x, .int y])
  | k, [], j, x, y, h => by simp at h
  | k, (a, b) :: r, 0, x, y, h => by
    simp at h
    obtain ⟨rfl, rfl⟩ := h
    rw [sdL, valP, if_pos (by simp)]
  | k, (a, b) :: r, j + 1, x, y, h => by
    rw [sdL, valP, if_neg (fun z => by have : n + (k : Int) = n + ((k + (j + 1) : Nat) : Int) := by simpa using z
                                       omega)]
    have := sdL_at (n := n) (k + 1) r j x y (by simpa using h)
    rw [show k + 1 + j = k + (j + 1) by omega] at this
    exact this
theorem put_new {l : List (Key × D)} {k : Key} {d : D} (h : valP l k = none) : putP l k d = l ++ [(k, d)] := by
  unfold putP
  rw [valP_any, h, if_neg (by simp)]
def tgS : Tg := tgT 2 (tgsC (tgN 4) (tgsC (tgT 2 (tgsC (tgN 5) (tgsC (tgN 6) tgsN))) tgsN))
def keyS : ME := mBin gAdd (mVar 1) (mVar 4)
def valS : ME := mLst (mCons (mBin gIx (mBin gIx (mBin gIx (mVar 6) (mC (.int 0))) (mC (.int 1))) (mC (.int 0))) (mCons (mBin gIx (mBin gIx (mBin gIx (mVar 6) (mC (.int 1))) (mC (.int 1))) (mC (.int 0))) mNil))
theorem sides_loop {n : Nat} {a0 a2 a3 : Option D} {S : List O} : ∀ (rs : List (Int × Int)) (k : Nat) (acc : List (Key × D)), (∀ s : Int, (n : Int) + k ≤ s → valP acc (.inl s) = none) → acc.length + rs.length < 1000 →
    compDL anyS tgS mYes keyS valS [a0, some (.int n), a2, a3, none, none, none] acc (enumD k (rs.map rowD)) S = .ok (acc ++ sdL n k rs) S
  | [], k, acc, _, _ => by
    rw [List.map_nil, enumD, compDL, if_pos (show anyS S = true from rfl), sdL, List.append_nil]
  | (x, y) :: r, k, acc, h, hl => by
    rw [List.map_cons, enumD]
    rw [List.length_cons] at hl
    rw [compDL_step (S1 := S) (S2 := S) (S3 := S) (kd := .int ((n : Int) + k)) (k := .inl ((n : Int) + k)) (y := .lst [.int x, .int y])
      (e' := [a0, some (.int n), a2, a3, some (.int k), some (.str "round"), some (.tup [.tup [.int 1, .tup [.int x]], .tup [.int 1, .tup [.int y]]])]) rfl rfl rfl (show keyS _ _ = _ from v_bin (v_var rfl) (v_var rfl) x_addI) rfl rfl
      (Nat.lt_of_le_of_lt (Nat.le_of_lt (Nat.lt_of_le_of_lt (Nat.le_add_right _ _) hl)) (by decide))]
    rw [put_new (h _ (by omega))]
    rw [sides_loop r (k + 1) _ (fun s hs => ?_) (by rw [List.length_append]; simp; omega)]
    · rw [sdL, List.append_assoc]
      rfl
    · have ne : ¬ (Sum.inl s : Key) = .inl ((n : Int) + k) := by
        simp
        omega
      rw [valP_snoc _ _ _ _ (h _ (by omega)), if_neg ne]
      exact h s (by omega)
theorem sides_ok {n : Nat} {rs : List (Int × Int)} {out : Int} (hl : rs.length < 100) : m_sides_of [progD n rs out] [] = .ok (.ref 0) [.dct (sdL n 0 rs)] := by
  refine nb_ok ?_
  refine (fn_rt (S' := [.dct (sdL n 0 rs)]) (d := .ref 0) rfl ?_).trans rfl
  refine w_seq (e1 := [some (progD n rs out), some (.int n), some (.tup (rs.map rowD)), some (.tup [.int out]), none, none, none]) (S1 := []) rfl ?_
  refine w_ret ?_
  show (compDL anyS tgS mYes keyS valS [some (progD n rs out), some (.int n), some (.tup (rs.map rowD)), some (.tup [.int out]), none, none, none] [] (enumD 0 (rs.map rowD)) []).bind _ = _
  rw [sides_loop rs 0 [] (fun _ _ => rfl) (by simp; omega)]
  rfl
theorem users_loop {n : Nat} {sd : List (Key × D)} : ∀ (rs : List (Int × Int)) (k : Nat) (acc : List (Key × D)) (a2 a3 : Option D), (∀ j x y, rs[j]? = some (x, y) → valP sd (.inl ((n : Int) + ((k + j : Nat) : Int))) = some (.lst [.int x, .int y])) → acc.length + 2 * rs.length < 1000 →
    ∃ b2 b3, loopL (hasF 0 sd) (tgN 2) (sFor (miSeq (mBin gDGet (mVar 0) (mVar 2))) (tgN 3) (sDSet (mVar 2) (mVar 1) (mVar 3))) (keysD (sdL n k rs)) [some (.ref 0), some (.ref 1), a2, a3] [.fdct sd, .dct acc] =
      .nx [some (.ref 0), some (.ref 1), b2, b3] [.fdct sd, .dct (usL n k rs acc)]
  | [], k, acc, a2, a3, _, _ => ⟨a2, a3, by
    rw [sdL]
    show loopL _ _ _ [] _ _ = _
    rw [loopL, if_pos (by unfold hasF; simp), usL]⟩
  | (x, y) :: r, k, acc, a2, a3, h, hl => by
    rw [List.length_cons] at hl
    have l1 := len_put acc (.inl x) (.int ((n : Int) + k))
    have l2 := len_put (putP acc (.inl x) (.int ((n : Int) + k))) (.inl y) (.int ((n : Int) + k))
    obtain ⟨b2, b3, ih⟩ := users_loop (sd := sd) r (k + 1) (putP (putP acc (.inl x) (.int ((n : Int) + k))) (.inl y) (.int ((n : Int) + k))) (some (.int ((n : Int) + k))) (some (.int y))
      (fun j x' y' hj => by have := h (j + 1) x' y' (by simpa using hj); rw [show k + (j + 1) = k + 1 + j by omega] at this; exact this) (by omega)
    refine ⟨b2, b3, ?_⟩
    rw [sdL]
    show loopL _ _ _ (.int ((n : Int) + k) :: keysD (sdL n (k + 1) r)) _ _ = _
    rw [loopL, if_pos (by unfold hasF; simp)]
    have h0 := h 0 x y rfl
    have e1 : sFor (miSeq (mBin gDGet (mVar 0) (mVar 2))) (tgN 3) (sDSet (mVar 2) (mVar 1) (mVar 3)) [some (.ref 0), some (.ref 1), some (.int ((n : Int) + k)), a3] [.fdct sd, .dct acc] =
        .nx [some (.ref 0), some (.ref 1), some (.int ((n : Int) + k)), some (.int y)] [.fdct sd, .dct (putP (putP acc (.inl x) (.int ((n : Int) + k))) (.inl y) (.int ((n : Int) + k)))] := by
      refine (w_for (l := [.int x, .int y]) (chk := anyS) (S1 := [.fdct sd, .dct acc]) ?_).trans ?_
      · unfold miSeq
        rw [v_bin (d := .lst [.int x, .int y]) (v_var rfl) (v_var rfl) (x_dgetF rfl h0)]
        rfl
      · rw [loopL, if_pos (show anyS _ = true from rfl)]
        dsimp only [tgN]
        rw [w_dset (l := acc) (d := .int ((n : Int) + k)) (k := x) (n := 1) (S1 := [.fdct sd, .dct acc]) (S2 := [.fdct sd, .dct acc]) (S3 := [.fdct sd, .dct acc]) (v_var rfl) (v_var rfl) (v_var rfl) rfl (Nat.lt_of_le_of_lt (Nat.le_of_lt (Nat.lt_of_le_of_lt (Nat.le_add_right _ _) hl)) (by decide))]
        dsimp only [List.set]
        rw [loopL, if_pos (show anyS _ = true from rfl)]
        dsimp only [List.set]
        rw [w_dset (l := putP acc (.inl x) (.int ((n : Int) + k))) (d := .int ((n : Int) + k)) (k := y) (n := 1) (S1 := [.fdct sd, .dct (putP acc (.inl x) (.int ((n : Int) + k)))]) (S2 := [.fdct sd, .dct (putP acc (.inl x) (.int ((n : Int) + k)))]) (S3 := [.fdct sd, .dct (putP acc (.inl x) (.int ((n : Int) + k)))]) (v_var rfl) (v_var rfl) (v_var rfl) rfl (Nat.lt_of_le_of_lt l1 (Nat.lt_of_le_of_lt (show _ ≤ 1000 by omega) (by decide)))]
        dsimp only [List.set]
        rw [loopL, if_pos (show anyS _ = true from rfl)]
    show (match sFor (miSeq (mBin gDGet (mVar 0) (mVar 2))) (tgN 3) (sDSet (mVar 2) (mVar 1) (mVar 3)) [some (.ref 0), some (.ref 1), some (.int ((n : Int) + k)), a3] [.fdct sd, .dct acc] with
      | .nx e1 S1 => loopL (hasF 0 sd) (tgN 2) _ (keysD (sdL n (k + 1) r)) e1 S1
      | .ct e1 S1 => loopL (hasF 0 sd) (tgN 2) _ (keysD (sdL n (k + 1) r)) e1 S1
      | .bk e1 S1 => .nx e1 S1
      | r => r) = _
    rw [e1]
    exact ih
theorem users_ok {n : Nat} {rs : List (Int × Int)} (hl : rs.length < 100) : m_users_of [.ref 0] [.dct (sdL n 0 rs)] = .ok (.ref 1) [.dct (sdL n 0 rs), .dct (usL n 0 rs [])] := by
  obtain ⟨b2, b3, h⟩ := users_loop (n := n) (sd := sdL n 0 rs) rs 0 [] none none (fun j x y hj => sdL_at 0 rs j x y hj) (by simp; omega)
  refine nb_ok ?_
  refine (fn_rt (S' := [.dct (sdL n 0 rs), .dct (usL n 0 rs [])]) (d := .ref 1) rfl ?_).trans rfl
  refine w_seq (w_asg (show mDNew _ [.dct (sdL n 0 rs)] = .ok (.ref 1) [.dct (sdL n 0 rs), .dct []] from rfl)) ?_
  refine w_seq (e1 := [some (.ref 0), some (.ref 1), b2, b3]) (S1 := [.dct (sdL n 0 rs), .dct (usL n 0 rs [])]) ?_ (w_ret (v_var rfl))
  exact (w_lock (n := 0) (l := sdL n 0 rs) rfl rfl ((w_for (l := keysD (sdL n 0 rs)) (chk := hasF 0 (sdL n 0 rs)) (S1 := [.fdct (sdL n 0 rs), .dct []]) rfl).trans h) rfl).trans rfl
end K64

namespace K64
open PySem PySem.Spec L2 PyProof.Rows Mo
/-- the nodes, each with its children's roots, as the law tells them -/
def kid3 : Tr → List (Nat × El × El)
  | .lf _ => []
  | .nd l a b => kid3 a ++ kid3 b ++ [(l, a.root, b.root)]
theorem kid_mem : ∀ {t : Tr} {q : Nat × El × El}, q ∈ kid3 t → .inr q.1 ∈ t.els ∧ q.2.1 ∈ t.sub ∧ q.2.2 ∈ t.sub
  | .lf _, q, h => by simp [kid3] at h
  | .nd l a b, q, h => by
    simp only [kid3, List.mem_append, List.mem_singleton] at h
    rcases h with (h | h) | h
    · obtain ⟨h1, h2, h3⟩ := kid_mem h
      exact ⟨by simp [Tr.els, h1], by simp [Tr.sub, sub_els h2], by simp [Tr.sub, sub_els h3]⟩
    · obtain ⟨h1, h2, h3⟩ := kid_mem h
      exact ⟨by simp [Tr.els, h1], by simp [Tr.sub, sub_els h2], by simp [Tr.sub, sub_els h3]⟩
    · subst h
      exact ⟨by simp [Tr.els], by simp [Tr.sub, root_mem], by simp [Tr.sub, root_mem]⟩
theorem els_nd {l : Nat} {a b : Tr} (h : (Tr.nd l a b).els.Nodup) : a.els.Nodup ∧ b.els.Nodup ∧ (∀ x ∈ a.els, ∀ y ∈ b.els, x ≠ y) ∧ (∀ x ∈ a.els ++ b.els, x ≠ .inr l) := by
  rw [Tr.els, List.nodup_cons, List.nodup_append] at h
  exact ⟨h.2.1, h.2.2.1, h.2.2.2, fun x hx e => h.1 (e ▸ hx)⟩
theorem root_notin {t : Tr} (h : t.els.Nodup) : t.root ∉ t.sub := by
  rw [els_eq, List.nodup_cons] at h
  exact h.1
/-- a child has one parent -/
theorem kid_one : ∀ {t : Tr}, t.els.Nodup → ∀ {q q' : Nat × El × El} {x : El}, q ∈ kid3 t → q' ∈ kid3 t → (x = q.2.1 ∨ x = q.2.2) → (x = q'.2.1 ∨ x = q'.2.2) → q.1 = q'.1
  | .lf _, _, q, q', x, h, _, _, _ => by simp [kid3] at h
  | .nd l a b, nd, q, q', x, h, h', hx, hx' => by
    obtain ⟨n1, n2, n3, n4⟩ := els_nd nd
    have up : ∀ {q : Nat × El × El} {t : Tr}, q ∈ kid3 t → (x = q.2.1 ∨ x = q.2.2) → x ∈ t.sub := fun hq hx => by
      obtain ⟨_, k2, k3⟩ := kid_mem hq
      rcases hx with z | z
      · rw [z]; exact k2
      · rw [z]; exact k3
    simp only [kid3, List.mem_append, List.mem_singleton] at h h'
    have top : ∀ {t : Tr}, (t = a ∨ t = b) → x ∈ t.sub → ¬ (x = a.root ∨ x = b.root) := fun ht hs hr => by
      rcases ht with z | z <;> rcases hr with r | r
      · rw [z, r] at hs; exact root_notin n1 hs
      · rw [z] at hs; exact n3 _ (sub_els hs) _ (r ▸ root_mem b) rfl
      · rw [z] at hs; exact n3 _ (r ▸ root_mem a) _ (sub_els hs) rfl
      · rw [z, r] at hs; exact root_notin n2 hs
    rcases h with (h | h) | h <;> rcases h' with (h' | h') | h'
    · exact kid_one n1 h h' hx hx'
    · exact absurd rfl (n3 _ (sub_els (up h hx)) _ (sub_els (up h' hx')))
    · exact absurd (by subst h'; exact hx') (top (.inl rfl) (up h hx))
    · exact absurd rfl (n3 _ (sub_els (up h' hx')) _ (sub_els (up h hx)))
    · exact kid_one n2 h h' hx hx'
    · exact absurd (by subst h'; exact hx') (top (.inr rfl) (up h hx))
    · exact absurd (by subst h; exact hx) (top (.inl rfl) (up h' hx'))
    · exact absurd (by subst h; exact hx) (top (.inr rfl) (up h' hx'))
    · rw [h, h']
/-- a program of the tree: rs its rows' sides, pl the places -/
structure ProgOk (pl : Nat → Int) (n : Nat) (t : Tr) (rs : List (Int × Int)) : Prop where
  pk : PlOk pl n
  row : ∀ q ∈ kid3 t, ∃ (j : Nat) (x y : Int), pl q.1 = (n : Int) + j ∧ rs[j]? = some (x, y) ∧ ((x = plE pl q.2.1 ∧ y = plE pl q.2.2) ∨ (x = plE pl q.2.2 ∧ y = plE pl q.2.1))
  lab : ∀ (j : Nat) (x y : Int), rs[j]? = some (x, y) → ∃ q ∈ kid3 t, pl q.1 = (n : Int) + j
theorem us_miss {n : Int} : ∀ (k : Nat) (rs : List (Int × Int)) (acc : List (Key × D)) (s : Int), (∀ (j : Nat) (x y : Int), rs[j]? = some (x, y) → s ≠ x ∧ s ≠ y) → valP (usL n k rs acc) (.inl s) = valP acc (.inl s)
  | _, [], _, _, _ => rfl
  | k, (x, y) :: r, acc, s, h => by
    obtain ⟨h1, h2⟩ := h 0 x y rfl
    rw [usL, us_miss (k + 1) r _ s fun j x' y' hj => h (j + 1) x' y' (by simpa using hj)]
    rw [valP_put, if_neg (by simpa using h2), valP_put, if_neg (by simpa using h1)]
theorem us_hit {n : Int} : ∀ (k : Nat) (rs : List (Int × Int)) (acc : List (Key × D)) (s : Int) (j : Nat) (x y : Int), rs[j]? = some (x, y) → (s = x ∨ s = y) → (∀ (j' : Nat) (x' y' : Int), rs[j']? = some (x', y') → (s = x' ∨ s = y') → j' = j) →
    valP (usL n k rs acc) (.inl s) = some (.int (n + ((k + j : Nat) : Int)))
  | k, [], acc, s, j, x, y, h, _, _ => by simp at h
  | k, (a, b) :: r, acc, s, 0, x, y, h, hs, hu => by
    simp at h
    obtain ⟨rfl, rfl⟩ := h
    rw [usL, us_miss (k + 1) r _ s fun j x' y' hj => ?_]
    · rw [valP_put]
      by_cases e : s = b
      · rw [if_pos (by rw [e])]; simp
      · rw [if_neg (by simpa using e), valP_put, if_pos (by rw [hs.resolve_right e])]; simp
    · constructor
      · intro e
        have := hu (j + 1) x' y' (by simpa using hj) (.inl e)
        omega
      · intro e
        have := hu (j + 1) x' y' (by simpa using hj) (.inr e)
        omega
  | k, (a, b) :: r, acc, s, j + 1, x, y, h, hs, hu => by
    rw [usL]
    have := us_hit (n := n) (k + 1) r (putP (putP acc (.inl a) (.int (n + k))) (.inl b) (.int (n + k))) s j x y (by simpa using h) hs fun j' x' y' h' hs' => by
      have := hu (j' + 1) x' y' (by simpa using h') hs'
      omega
    rw [show k + 1 + j = k + (j + 1) by omega] at this
    exact this
section
variable {pl : Nat → Int} {n : Nat} {c : Nat → Nat} {rs : List (Int × Int)}
theorem prog_ap (P : ProgOk pl n (bt c (n - 1)) rs) (hc : CodesOk c n) (h1 : 1 ≤ n) : Ap pl (bt c (n - 1)).els := by
  obtain ⟨e1, e2, e3⟩ := bt_els hc (n - 1) (by omega)
  exact ap_of P.pk e1 (fun i hi => by have := (e2 i).mp hi; omega) fun m hm => by have := (e3 m).mp hm; omega
theorem ap_inj {l : List El} (h : Ap pl l) {x y : El} (hx : x ∈ l) (hy : y ∈ l) (e : plE pl x = plE pl y) : x = y := by
  unfold Ap at h
  induction l with
  | nil => cases hx
  | cons a l ih =>
    rw [List.map_cons, List.nodup_cons] at h
    rcases List.mem_cons.mp hx with hx' | hx' <;> rcases List.mem_cons.mp hy with hy' | hy'
    · rw [hx', hy']
    · exact absurd (List.mem_map.mpr ⟨y, hy', by rw [← e, hx']⟩) h.1
    · exact absurd (List.mem_map.mpr ⟨x, hx', by rw [e, hy']⟩) h.1
    · exact ih h.2 hx' hy'
/-- the row that names a child is its parent's -/
theorem row_of (P : ProgOk pl n (bt c (n - 1)) rs) (hc : CodesOk c n) (h1 : 1 ≤ n) {j : Nat} {x y : Int} {z : El} (hz : z ∈ (bt c (n - 1)).els) (hj : rs[j]? = some (x, y)) (h : plE pl z = x ∨ plE pl z = y) :
    ∃ q ∈ kid3 (bt c (n - 1)), pl q.1 = (n : Int) + j ∧ (z = q.2.1 ∨ z = q.2.2) := by
  obtain ⟨q, hq, hp⟩ := P.lab j x y hj
  obtain ⟨j', x', y', e1, e2, e3⟩ := P.row q hq
  have : j' = j := by omega
  subst this
  rw [hj] at e2
  cases e2
  have ap := prog_ap P hc h1
  obtain ⟨_, k2, k3⟩ := kid_mem hq
  refine ⟨q, hq, hp, ?_⟩
  rcases e3 with ⟨f1, f2⟩ | ⟨f1, f2⟩ <;> rcases h with h | h
  · exact .inl (ap_inj ap hz (sub_els k2) (h.trans f1))
  · exact .inr (ap_inj ap hz (sub_els k3) (h.trans f2))
  · exact .inr (ap_inj ap hz (sub_els k3) (h.trans f1))
  · exact .inl (ap_inj ap hz (sub_els k2) (h.trans f2))
theorem prog_users (P : ProgOk pl n (bt c (n - 1)) rs) (hc : CodesOk c n) (h1 : 1 ≤ n) {q : Nat × El × El} (hq : q ∈ kid3 (bt c (n - 1))) {z : El} (hz : z = q.2.1 ∨ z = q.2.2) : valP (usL n 0 rs []) (.inl (plE pl z)) = some (.int (pl q.1)) := by
  obtain ⟨j, x, y, e1, e2, e3⟩ := P.row q hq
  obtain ⟨_, k2, k3⟩ := kid_mem hq
  have nd := (bt_els hc (n - 1) (by omega)).1
  have hm : z ∈ (bt c (n - 1)).els := by
    rcases hz with rfl | rfl
    · exact sub_els k2
    · exact sub_els k3
  have hs : plE pl z = x ∨ plE pl z = y := by
    rcases hz with rfl | rfl <;> rcases e3 with ⟨f1, f2⟩ | ⟨f1, f2⟩
    · exact .inl f1.symm
    · exact .inr f2.symm
    · exact .inr f2.symm
    · exact .inl f1.symm
  rw [us_hit 0 rs [] (plE pl z) j x y e2 hs fun j' x' y' h' hs' => ?_]
  · rw [e1, Nat.zero_add]
  · obtain ⟨q', hq', p', z'⟩ := row_of P hc h1 hm h' hs'
    have := kid_one nd hq' hq z' hz
    rw [this] at p'
    omega
theorem prog_holds (P : ProgOk pl n (bt c (n - 1)) rs) (hc : CodesOk c n) (h1 : 1 ≤ n) : ∀ {t : Tr}, (∀ q ∈ kid3 t, q ∈ kid3 (bt c (n - 1))) → Holds pl (dfn (sdL n 0 rs)) (dfn (usL n 0 rs [])) t
  | .lf _, _ => trivial
  | .nd l a b, h => by
    have hq : (l, a.root, b.root) ∈ kid3 (bt c (n - 1)) := h _ (by simp [kid3])
    refine ⟨?_, prog_users P hc h1 hq (.inl rfl), prog_users P hc h1 hq (.inr rfl), prog_holds P hc h1 fun q hq => h q (by simp [kid3, hq]), prog_holds P hc h1 fun q hq => h q (by simp [kid3, hq])⟩
    obtain ⟨j, x, y, e1, e2, e3⟩ := P.row _ hq
    have := sdL_at (n := (n : Int)) 0 rs j x y e2
    rw [Nat.zero_add] at this
    have e1 : pl l = (n : Int) + j := e1
    unfold Pair
    show valP _ (.inl (pl l)) = _ ∨ valP _ (.inl (pl l)) = _
    rw [e1, this]
    rcases e3 with ⟨f1, f2⟩ | ⟨f1, f2⟩
    · exact .inl (by rw [f1, f2])
    · exact .inr (by rw [f1, f2])
theorem number_ok (P : ProgOk pl n (bt c (n - 1)) rs) (hc : CodesOk c n) (h1 : 1 ≤ n) (hn : n ≤ 12) (hl : rs.length = n - 1) (out : Int) : ∃ S, m_tree_number [progD n rs out] [] = .ok (.int (num c (n - 1))) S := by
  have l1 := sdL_len (n := (n : Int)) 0 rs
  have l2 := usL_len (n := (n : Int)) 0 rs []
  refine tree_run P.pk hc hn h1 rfl (sides_ok (by omega)) (users_ok (by omega)) (prog_holds P hc h1 fun _ h => h) ?_ (by omega) (by simp at l2; omega)
  left
  rw [us_miss]
  · rfl
  · intro j x y hj
    have nd := (bt_els hc (n - 1) (by omega)).1
    have key : ¬ (plE pl (bt c (n - 1)).root = x ∨ plE pl (bt c (n - 1)).root = y) := fun h => by
      obtain ⟨q, hq, _, hz⟩ := row_of P hc h1 (root_mem _) hj h
      obtain ⟨_, k2, k3⟩ := kid_mem hq
      rcases hz with z | z
      · exact root_notin nd (z ▸ k2)
      · exact root_notin nd (z ▸ k3)
    exact ⟨fun z => key (.inl z), fun z => key (.inr z)⟩
end
end K64

namespace Mo
open PySem PySem.Spec L2 PyProof.Rows
section
variable {e : Mo.Env} {S S1 : List O} {ma mb : ME} {t : MT} {r : RS} {x : R D} {p q : MS}
theorem v_ifT (h1 : t e S = .ok true S1) (h2 : ma e S1 = x) : mIf t ma mb e S = x := v_if (k := true) h1 (by rw [if_pos rfl]; exact h2)
theorem v_ifF (h1 : t e S = .ok false S1) (h2 : mb e S1 = x) : mIf t ma mb e S = x := v_if (k := false) h1 (by rw [if_neg (by simp)]; exact h2)
theorem w_ifT (h1 : t e S = .ok true S1) (h2 : p e S1 = r) : sIf t p q e S = r := w_if (k := true) h1 (by rw [if_pos rfl]; exact h2)
theorem w_ifF (h1 : t e S = .ok false S1) (h2 : q e S1 = r) : sIf t p q e S = r := w_if (k := false) h1 (by rw [if_neg (by simp)]; exact h2)
end
end Mo
namespace K64
open PySem PySem.Spec L2 PyProof.Rows Mo
def enc : Tr → D
  | .lf i => .int i
  | .nd l a b => .tup [.int l, enc a, enc b]
def dep : Tr → Nat
  | .lf _ => 1
  | .nd _ a b => 1 + max (dep a) (dep b)
theorem fn_same {np n : Nat} {b : MS} {ds : List D} {S : List O} {d : D} (hl : ds.length = np) (h : b (ds.map some ++ List.replicate (n - ds.length) none) S = .rt d S) : nbF (fnM np n b) ds S = .ok d S :=
  nb_ok ((fn_rt (S' := S) hl h).trans (congrArg _ (trim_same rfl)))
theorem put_ok {L c : Nat} (hL : 1 ≤ L) {S : List O} : ∀ (d : Nat) (t : Tr), dep t ≤ d → m__law_put d [enc t, .int L, .int c] S = .ok (enc (t.put L c)) S
  | 0, .lf i, h => by simp [dep] at h
  | 0, .nd l a b, h => by simp [dep] at h
  | d + 1, .lf i, _ => by
    refine fn_same rfl ?_
    have k1 : mTB (mCB gIsi (mCons (mVar 0) (mCons (mC (.ty "int")) mNil))) [some (enc (.lf i)), some (.int L), some (.int c), none] S = .ok true S := v_tb (v_cb (v_cons (v_var rfl) (v_cons v_C v_nil)) rfl)
    refine w_seq (w_asg (v_ifT k1 (v_var rfl))) ?_
    by_cases h : i = c
    · rw [Tr.put, if_pos h]
      refine w_seqR (w_if (k := true) (v_tb (v_bin (v_var rfl) (v_var rfl) ?_)) ?_)
      · show gEq S (.int i) (.int c) = _
        rw [x_eqI, decide_eq_true (by omega)]
      · rw [if_pos rfl]
        exact w_ret (v_tup (v_cons (v_var rfl) (v_cons (v_var rfl) (v_cons (v_var rfl) v_nil))) (show 3 ≤ 16777216 by decide))
    · rw [Tr.put, if_neg h]
      refine w_seq (w_if (k := false) (v_tb (v_bin (v_var rfl) (v_var rfl) ?_)) rfl) ?_
      · show gEq S (.int i) (.int c) = _
        rw [x_eqI, decide_eq_false (by omega)]
      · refine w_seqR (w_if (k := true) (v_tb (v_cb (v_cons (v_var rfl) (v_cons v_C v_nil)) rfl)) ?_)
        rw [if_pos rfl]
        exact w_ret (v_var rfl)
  | d + 1, .nd l a b, h => by
    have ha : dep a ≤ d := by simp [dep] at h; omega
    have hb : dep b ≤ d := by simp [dep] at h; omega
    refine fn_same rfl ?_
    refine w_seq (w_asg (v_ifF (v_tb (v_cb (v_cons (v_var rfl) (v_cons v_C v_nil)) rfl)) (v_bin (d := .int ((L : Int) - 1 + l)) (v_bin (v_var rfl) v_C x_subI) (v_bin (v_var rfl) v_C (show gIx S (enc (.nd l a b)) (.int 0) = some (.int l) from rfl)) x_addI))) ?_
    by_cases h : L - 1 + l = c
    · rw [Tr.put, if_pos h]
      refine w_seqR (w_if (k := true) (v_tb (v_bin (v_var rfl) (v_var rfl) ?_)) ?_)
      · show gEq S (.int ((L : Int) - 1 + l)) (.int c) = _
        rw [x_eqI, decide_eq_true (by omega)]
      · rw [if_pos rfl]
        exact w_ret (v_tup (v_cons (v_var rfl) (v_cons (v_var rfl) (v_cons (v_var rfl) v_nil))) (show 3 ≤ 16777216 by decide))
    · rw [Tr.put, if_neg h]
      refine w_seq (w_if (k := false) (v_tb (v_bin (v_var rfl) (v_var rfl) ?_)) rfl) ?_
      · show gEq S (.int ((L : Int) - 1 + l)) (.int c) = _
        rw [x_eqI, decide_eq_false (by omega)]
      · refine w_seq (w_if (k := false) (v_tb (v_cb (v_cons (v_var rfl) (v_cons v_C v_nil)) rfl)) rfl) ?_
        refine w_ret (v_tup (v_cons (v_bin (v_var rfl) v_C (show gIx S (enc (.nd l a b)) (.int 0) = some (.int l) from rfl)) (v_cons (v_call (v_cons (v_bin (v_var rfl) v_C (show gIx S (enc (.nd l a b)) (.int 1) = some (enc a) from rfl)) (v_cons (v_var rfl) (v_cons (v_var rfl) v_nil))) (put_ok hL d a ha))
          (v_cons (v_call (v_cons (v_bin (v_var rfl) v_C (show gIx S (enc (.nd l a b)) (.int 2) = some (enc b) from rfl)) (v_cons (v_var rfl) (v_cons (v_var rfl) v_nil))) (put_ok hL d b hb)) v_nil))) (show 3 ≤ 16777216 by decide))
theorem dep_put {L c : Nat} : ∀ t : Tr, dep (t.put L c) ≤ dep t + 1
  | .lf i => by
    rw [Tr.put]
    split <;> simp [dep]
  | .nd l a b => by
    have h1 := dep_put (L := L) (c := c) a
    have h2 := dep_put (L := L) (c := c) b
    rw [Tr.put]
    split
    · simp [dep]; omega
    · simp [dep]; omega
theorem dep_bt {c : Nat → Nat} : ∀ k, dep (bt c k) ≤ k + 1
  | 0 => by simp [bt, dep]
  | k + 1 => by
    have := dep_bt (c := c) k
    have := dep_put (L := k + 1) (c := c (k + 1)) (bt c k)
    rw [bt]
    omega
def codesD (c : Nat → Nat) (m : Nat) : List D := (List.range m).map fun i => .int (c (i + 1) : Nat)
theorem codes_at {c : Nat → Nat} {m k : Nat} (h : k < m) : atI (codesD c m) (k : Nat) = some (.int (c (k + 1) : Nat)) := by
  unfold atI ixN codesD
  rw [List.length_map, List.length_range, if_pos (by omega), if_pos (by omega)]
  show ((List.range m).map _)[(k : Int).toNat]? = _
  rw [Int.toNat_natCast, List.getElem?_map, List.getElem?_range h]
  rfl
theorem range1_at {n : Nat} (h : n < 1000) : rangeA1 [.int (n : Nat)] = some (rangeD 0 1 n) := by
  show (if (n : Int).natAbs < 4611686018427387904 then some (rangeD 0 1 (n : Int).toNat) else none) = _
  rw [if_pos (by omega)]
  congr 1
theorem x_len {S : List O} {j : Nat} {l : List D} (h : S[j]? = some (.lst l)) : gLen S [.ref j] = some (.int l.length) := by
  show (match seqR S (.ref j) with | some l => some (D.int l.length) | none => none) = _
  rw [show seqR S (.ref j) = some l by unfold seqR; simp only [h]]
theorem codesD_len {c : Nat → Nat} {m : Nat} : (codesD c m).length = m := by unfold codesD; rw [List.length_map, List.length_range]
theorem tree_ok {c : Nat → Nat} {m j : Nat} {S : List O} (hm : m ≤ 11) (hS : S[j]? = some (.lst (codesD c m))) : m__law_tree [.ref j] S = .ok (enc (bt c m)) S := by
  have key := loop_at (t := tgN 2) (b := sAsg 1 (mCall (m__law_put 14) (mCons (mVar 1) (mCons (mBin gAdd (mVar 2) (mC (.int 1))) (mCons (mBin gIx (mVar 0) (mVar 2)) mNil))))) (l0 := rangeD 0 1 m)
    (I := fun i e T => T = S ∧ ∃ a2, e = [some (.ref j), some (enc (bt c i)), a2]) (fun i d hd e T ⟨hT, a2, he⟩ => by
      subst hT he
      obtain ⟨hi, rfl⟩ := range_at hd
      rw [show (0 : Int) + (i : Nat) * 1 = (i : Nat) by omega]
      refine ⟨_, _, _, rfl, w_asg (d := enc (bt c (i + 1))) (v_call (v_cons (v_var rfl) (v_cons (v_bin (v_var rfl) v_C x_addI) (v_cons (v_bin (d := .int (c (i + 1) : Nat)) (v_var rfl) (v_var rfl) (x_ix hS (codes_at hi))) v_nil))) ?_), rfl, some (.int (i : Nat)), rfl⟩
      · rw [show ((i : Nat) : Int) + 1 = ((i + 1 : Nat) : Int) by omega]
        exact put_ok (by omega) 14 (bt c i) (by have := dep_bt (c := c) i; omega))
    (l := _) (i := 0) (e := [some (.ref j), some (enc (bt c 0)), none]) (S := S) rfl (Nat.zero_le _) ⟨rfl, none, rfl⟩
  obtain ⟨e1, S1, h1, rfl, a2, rfl⟩ := key
  refine fn_same rfl ?_
  refine w_seq (w_asg v_C) ?_
  refine w_seq ((w_for (v_mir (v_cons (v_cb (v_cons (v_var rfl) v_nil) ((x_len hS).trans (by rw [codesD_len]))) v_nil) (range1_at (by omega)))).trans h1) ?_
  rw [range_len]
  exact w_ret (v_var rfl)
theorem code_ok {c : Nat → Nat} {m j : Nat} {S : List O} (hm : m ≤ 11) (hS : S[j]? = some (.lst (codesD c m))) : m__law_code [.ref j] S = .ok (.int (num c m)) S := by
  have key := loop_at (t := tgN 2) (b := sAsg 1 (mBin gAdd (mBin gMul (mVar 1) (mBin gAdd (mBin gMul (mC (.int 2)) (mVar 2)) (mC (.int 1)))) (mBin gIx (mVar 0) (mVar 2)))) (l0 := rangeD 0 1 m)
    (I := fun i e T => T = S ∧ ∃ a2, e = [some (.ref j), some (.int (num c i)), a2]) (fun i d hd e T ⟨hT, a2, he⟩ => by
      subst hT he
      obtain ⟨hi, rfl⟩ := range_at hd
      rw [show (0 : Int) + (i : Nat) * 1 = (i : Nat) by omega]
      refine ⟨_, _, _, rfl, w_asg (v_bin (v_bin (v_var rfl) (v_bin (v_bin v_C (v_var rfl) (x_mul (by decide))) v_C x_addI) (x_mul2 (by omega))) (v_bin (v_var rfl) (v_var rfl) (x_ix hS (codes_at hi))) x_addI), rfl, some (.int (i : Nat)), ?_⟩
      rw [num, show (2 * ((i + 1 : Nat) : Int) - 1) = 2 * (i : Nat) + 1 by omega]
      rfl)
    (l := _) (i := 0) (e := [some (.ref j), some (.int (num c 0)), none]) (S := S) rfl (Nat.zero_le _) ⟨rfl, none, rfl⟩
  obtain ⟨e1, S1, h1, rfl, a2, rfl⟩ := key
  refine fn_same rfl ?_
  refine w_seq (w_asg v_C) ?_
  refine w_seq ((w_for (v_mir (v_cons (v_cb (v_cons (v_var rfl) v_nil) ((x_len hS).trans (by rw [codesD_len]))) v_nil) (range1_at (by omega)))).trans h1) ?_
  rw [range_len]
  exact w_ret (v_var rfl)
/-- an element's name in the law's program -/
def nmN (n : Nat) : El → Int
  | .inl i => (i : Nat)
  | .inr l => ((n + l : Nat) : Int)
def trip (n : Nat) (q : Nat × El × El) : D := .tup [.int ((n + q.1 : Nat) : Int), .int (nmN n q.2.1), .int (nmN n q.2.2)]
theorem name_ok {n : Nat} {S : List O} (t : Tr) : m__law_name [enc t, .int n] S = .ok (.int (nmN n t.root)) S := by
  refine fn_same rfl ?_
  cases t with
  | lf i => exact w_ret (v_ifT (v_tb (v_cb (v_cons (v_var rfl) (v_cons v_C v_nil)) rfl)) (v_var rfl))
  | nd l a b =>
    refine w_ret (v_ifF (v_tb (v_cb (v_cons (v_var rfl) (v_cons v_C v_nil)) rfl)) ?_)
    refine v_bin (v_var rfl) (v_bin (v_var rfl) v_C (show gIx S (enc (.nd l a b)) (.int 0) = some (.int l) from rfl)) ?_
    rw [x_addI]
    show _ = some (D.int ((n + l : Nat) : Int))
    rw [Int.natCast_add]
theorem kid3_len : ∀ t : Tr, (kid3 t).length + 1 ≤ t.els.length
  | .lf i => by simp [kid3, Tr.els]
  | .nd l a b => by
    have h1 := kid3_len a
    have h2 := kid3_len b
    simp [kid3, Tr.els]
    omega
theorem nodes_ok {n : Nat} {S : List O} : ∀ (d : Nat) (t : Tr), dep t ≤ d → t.els.length < 1000 → m__law_nodes d [enc t, .int n] S = .ok (.lst ((kid3 t).map (trip n))) S
  | 0, .lf i, h, _ => by simp [dep] at h
  | 0, .nd l a b, h, _ => by simp [dep] at h
  | d + 1, .lf i, _, _ => by
    refine fn_same rfl ?_
    refine w_seqR (w_if (k := true) (v_tb (v_cb (v_cons (v_var rfl) (v_cons v_C v_nil)) rfl)) ?_)
    rw [if_pos rfl]
    exact w_ret (v_lst v_nil (show 0 ≤ 16777216 by decide))
  | d + 1, .nd l a b, h, hl => by
    have ha : dep a ≤ d := by simp [dep] at h; omega
    have hb : dep b ≤ d := by simp [dep] at h; omega
    have hl' : a.els.length + b.els.length < 999 := by simp [Tr.els] at hl; omega
    have k1 := kid3_len a
    have k2 := kid3_len b
    refine fn_same rfl ?_
    refine w_seq (w_if (k := false) (v_tb (v_cb (v_cons (v_var rfl) (v_cons v_C v_nil)) rfl)) rfl) ?_
    have i0 : gIx S (enc (.nd l a b)) (.int 0) = some (.int l) := rfl
    have i1 : gIx S (enc (.nd l a b)) (.int 1) = some (enc a) := rfl
    have i2 : gIx S (enc (.nd l a b)) (.int 2) = some (enc b) := rfl
    refine w_seq (w_asg (v_lst (v_cons (v_tup (v_cons (v_bin (v_var rfl) (v_bin (v_var rfl) v_C i0) x_addI) (v_cons (v_call (v_cons (v_bin (v_var rfl) v_C i1) (v_cons (v_var rfl) v_nil)) (name_ok a)) (v_cons (v_call (v_cons (v_bin (v_var rfl) v_C i2) (v_cons (v_var rfl) v_nil)) (name_ok b)) v_nil))) (show 3 ≤ 16777216 by decide)) v_nil) (show 1 ≤ 16777216 by decide))) ?_
    have c2 : ∀ (x y : List D), x.length + y.length ≤ 16777216 → gAdd S (.lst x) (.lst y) = some (.lst (x ++ y)) := fun x y hxy => by
      show (if x.length + y.length ≤ sz then some (D.lst (x ++ y)) else none) = _
      rw [if_pos (show x.length + y.length ≤ sz from hxy)]
    refine w_ret (v_bin (v_bin (v_call (v_cons (v_bin (v_var rfl) v_C i1) (v_cons (v_var rfl) v_nil)) (nodes_ok d a ha (by omega))) (v_call (v_cons (v_bin (v_var rfl) v_C i2) (v_cons (v_var rfl) v_nil)) (nodes_ok d b hb (by omega))) (c2 _ _ (by simp; omega))) (v_var rfl) ?_)
    rw [c2 _ _ (by simp; omega)]
    rw [kid3, List.map_append, List.map_append]
    show _ = some (D.lst (_ ++ [trip n (l, a.root, b.root)]))
    unfold trip
    rw [Int.natCast_add]
end K64

namespace Mo
open PySem PySem.Spec L2 PyProof.Rows
/-- the feed in slot 0, at most m draws behind it -/
def Fd (S : List O) (m : Nat) : Prop := ∃ l cs p c, FeedAt S 0 l cs p c ∧ c ≤ (m : Int)
/-- but for slot 0 the same -/
def Ag (S S' : List O) : Prop := S'.length = S.length ∧ ∀ i, i ≠ 0 → S'[i]? = S[i]?
theorem Ag.refl (S : List O) : Ag S S := ⟨rfl, fun _ _ => rfl⟩
theorem Ag.trans {S S1 S2 : List O} (a : Ag S S1) (b : Ag S1 S2) : Ag S S2 := ⟨b.1.trans a.1, fun i h => (b.2 i h).trans (a.2 i h)⟩
theorem Fd.mono {S : List O} {m k : Nat} (h : Fd S m) (le : m ≤ k) : Fd S k := by
  obtain ⟨l, cs, p, c, F, hc⟩ := h
  exact ⟨l, cs, p, c, F, by omega⟩
theorem Fd.pos {S : List O} {m : Nat} (h : Fd S m) : 0 < S.length := by
  obtain ⟨l, cs, p, c, F, hc⟩ := h
  exact (List.getElem?_eq_some_iff.mp F.at_).1
theorem Fd.of_get {S S' : List O} {m : Nat} (h : Fd S m) (e : S'[0]? = S[0]?) : Fd S' m := by
  obtain ⟨l, cs, p, c, F, hc⟩ := h
  exact ⟨l, cs, p, c, ⟨e.trans F.at_, F.l0, F.cs0, F.csl, F.p0, F.c0⟩, hc⟩
theorem draw_fd {S : List O} {m : Nat} {many : Int} (h : Fd S m) (hm : m < 100000000) (h1 : 0 < many) (h2 : many < 100000000000000000000) :
    ∃ d S', nbF (fnM 2 6 bDraw) [.ref 0, .int many] S = .ok (.int d) S' ∧ 0 ≤ d ∧ d < many ∧ Fd S' (m + 1) ∧ Ag S S' := by
  obtain ⟨l, cs, p, c, F, hc⟩ := h
  obtain ⟨d, l', p', e1, e2, e3, F'⟩ := draw_call F h1 h2 (by omega)
  exact ⟨d, _, e1, e2, e3, ⟨l', cs, p', c + 1, F', by omega⟩, by rw [List.length_set], fun i hi => List.getElem?_set_ne (Ne.symm hi)⟩
theorem ints_lo (cs : List Int) (n : Nat) : D.los n (cs.map .int) = true := by
  induction cs with
  | nil => rfl
  | cons c cs ih => rw [List.map_cons, D.los, ih]; rfl
theorem feedO_lo (l : Int) (cs : List Int) (p c : Int) (n : Nat) : O.lo n (feedO l cs p c) = true := by
  show D.los n [D.int l, .lst (cs.map .int), .int p, .int c] = true
  simp [D.los, D.lo, ints_lo]
/-- own objects behind the first ones go -/
theorem trim_back {S S' : List O} {m : Nat} (hl : S.length ≤ S'.length) (h0 : ∀ i, i < S.length → i ≠ 0 → S'[i]? = S[i]?) (hF : Fd S' m) : trimS true S S' = S'.take S.length := by
  unfold trimS
  rw [if_pos]
  rw [Bool.true_and, List.all_eq_true]
  intro p hp
  obtain ⟨i, hi⟩ := List.mem_iff_getElem?.mp hp
  rw [List.getElem?_zip_eq_some] at hi
  obtain ⟨k1, k2⟩ := hi
  have hlt : i < S.length := (List.getElem?_eq_some_iff.mp k2).1
  rw [List.getElem?_take_of_lt hlt] at k1
  rw [Bool.or_eq_true]
  by_cases e : i = 0
  · subst e
    obtain ⟨l, cs, q, c, F, hc⟩ := hF
    rw [F.at_] at k1
    right
    rw [← Option.some.inj k1]
    exact feedO_lo _ _ _ _ _
  · left
    rw [h0 i hlt e, k2] at k1
    simp [Option.some.inj k1]
theorem ag_take {S S' : List O} (hl : S.length ≤ S'.length) (h0 : ∀ i, i < S.length → i ≠ 0 → S'[i]? = S[i]?) : Ag S (S'.take S.length) := by
  refine ⟨by rw [List.length_take]; omega, fun i hi => ?_⟩
  by_cases h : i < S.length
  · rw [List.getElem?_take_of_lt h]; exact h0 i h hi
  · rw [List.getElem?_eq_none (by rw [List.length_take]; omega), List.getElem?_eq_none (by omega)]
theorem v_app {e : Mo.Env} {S S1 S2 : List O} {mo : ME} {m : MA} {n : Nat} {d : D} {l0 l : List D} (h1 : mo e S = .ok (.ref n) S1) (h2 : S1[n]? = some (.lst l0)) (h3 : m e S1 = .ok [d] S2) (h4 : S2[n]? = some (.lst l)) (h5 : l.length < sz) :
    mMt isL gAppend mo m e S = .ok .non (S2.set n (.lst (l ++ [d]))) := by
  unfold mMt
  rw [h1]
  show (if isL S1 (.ref n) = true then _ else _) = _
  rw [if_pos (by unfold isL seqR; simp only [h2]; rfl)]
  rw [h3]
  show R.ofM (gAppend S2 (.ref n) [d]) = _
  have : gAppend S2 (.ref n) [d] = some (.non, S2.set n (.lst (l ++ [d]))) := by
    unfold gAppend
    dsimp only
    rw [h4]
    dsimp only
    rw [if_pos h5]
  rw [this]
  rfl
theorem x_lenLst {S : List O} {l : List D} : gLen S [.lst l] = some (.int l.length) := rfl
theorem x_max {S : List O} {i j : Int} : gMax2 S [.int i, .int j] = some (.int (if j > i then j else i)) := rfl
end Mo
namespace K64
open PySem PySem.Spec L2 PyProof.Rows Mo
theorem one_fd {S : List O} {m : Nat} {items : List D} (h : Fd S m) (hm : m < 100000000) (h1 : items ≠ []) (h2 : items.length < 1000) :
    ∃ d ∈ items, ∃ S', m__law_one [.ref 0, .lst items] S = .ok d S' ∧ Fd S' (m + 1) ∧ Ag S S' := by
  have hp : 0 < items.length := List.length_pos_iff.mpr h1
  obtain ⟨i, S', e1, e2, e3, F', A⟩ := draw_fd (many := (items.length : Nat)) h hm (by omega) (by omega)
  have hi : i.toNat < items.length := by omega
  refine ⟨items[i.toNat], List.getElem_mem hi, S', nb_ok ?_, F', A⟩
  refine (fn_rt (S' := S') (d := items[i.toNat]) rfl ?_).trans (congrArg _ (trim_same A.1))
  refine w_ret (v_bin (v_var rfl) (v_call (v_cons (v_var rfl) (v_cons (v_cb (v_cons (v_var rfl) v_nil) x_lenLst) v_nil)) e1) ?_)
  show atI items i = _
  unfold atI ixN
  rw [if_pos e2, if_pos e3]
  show items[i.toNat]? = _
  rw [List.getElem?_eq_getElem hi]
def ext (c : Nat → Nat) (k v : Nat) : Nat → Nat := fun j => if j = k then v else c j
theorem codesD_ext {c : Nat → Nat} {i v : Nat} : codesD (ext c (i + 1) v) (i + 1) = codesD c i ++ [.int v] := by
  unfold codesD
  rw [List.range_succ, List.map_append]
  congr 1
  · apply List.map_congr_left
    intro j hj
    have := List.mem_range.mp hj
    unfold ext
    rw [if_neg (by omega)]
  · unfold ext
    simp
def codeBody : MS := sSeq (sAsg 5 (mLst (mCons (mC (.int 0)) (mCons (mBin gSub (mBin gMul (mC (.int 2)) (mVar 4)) (mC (.int 2))) (mCons (mCB gMax2 (mCons (mC (.int 0)) (mCons (mBin gSub (mBin gMul (mC (.int 2)) (mVar 4)) (mC (.int 2))) mNil))) (mCons (mBin gSub (mVar 4) (mC (.int 1))) mNil)))))) (
  sExpr (mMt isL gAppend (mVar 3) (mCons (mIf (mTB (mBin gLt (mVar 2) (mC (.int 2)))) (mCall m__law_draw (mCons (mVar 0) (mCons (mBin gSub (mBin gMul (mC (.int 2)) (mVar 4)) (mC (.int 1))) mNil))) (mIf (mTB (mBin gLt (mVar 2) (mC (.int 4)))) (mBin gIx (mVar 5) (mBin gSub (mVar 2) (mC (.int 2)))) (mCall m__law_one (mCons (mVar 0) (mCons (mVar 5) mNil))))) mNil)))
theorem code_turn {S : List O} {m N k : Nat} {way : Int} {n : Int} {a5 : Option D} {l : List D} (h : Fd S m) (hm : m < 100000000) (hk : 1 ≤ k) (hk2 : k < 12) (hw : 0 ≤ way ∧ way < 5) (hN : N ≠ 0) (hS : S[N]? = some (.lst l)) (hl : l.length < 1000) :
    ∃ (v : Nat) (a5' : Option D) (S' : List O), codeBody [some (.ref 0), some (.int n), some (.int way), some (.ref N), some (.int k), a5] S = .nx [some (.ref 0), some (.int n), some (.int way), some (.ref N), some (.int k), a5'] S' ∧
      v < 2 * k - 1 ∧ S'[N]? = some (.lst (l ++ [.int v])) ∧ Fd S' (m + 1) ∧ S'.length = S.length ∧ ∀ i, i ≠ 0 → i ≠ N → S'[i]? = S[i]? := by
  let some_ : List D := [.int 0, .int (2 * (k : Int) - 2), .int (if 2 * (k : Int) - 2 > 0 then 2 * (k : Int) - 2 else 0), .int ((k : Int) - 1)]
  have good : ∀ d ∈ some_, ∃ v : Nat, d = .int v ∧ v < 2 * k - 1 := by
    intro d hd
    simp only [some_, List.mem_cons, List.not_mem_nil, or_false] at hd
    rcases hd with rfl | rfl | rfl | rfl
    · exact ⟨0, rfl, by omega⟩
    · exact ⟨2 * k - 2, by congr 1; omega, by omega⟩
    · split
      · exact ⟨2 * k - 2, by congr 1; omega, by omega⟩
      · exact ⟨0, rfl, by omega⟩
    · exact ⟨k - 1, by congr 1; omega, by omega⟩
  let e : Mo.Env := [some (.ref 0), some (.int n), some (.int way), some (.ref N), some (.int k), some (.lst some_)]
  have e1 : sAsg 5 (mLst (mCons (mC (.int 0)) (mCons (mBin gSub (mBin gMul (mC (.int 2)) (mVar 4)) (mC (.int 2))) (mCons (mCB gMax2 (mCons (mC (.int 0)) (mCons (mBin gSub (mBin gMul (mC (.int 2)) (mVar 4)) (mC (.int 2))) mNil))) (mCons (mBin gSub (mVar 4) (mC (.int 1))) mNil)))))
      [some (.ref 0), some (.int n), some (.int way), some (.ref N), some (.int k), a5] S = .nx e S := by
    have z : mBin gSub (mBin gMul (mC (.int 2)) (mVar 4)) (mC (.int 2)) [some (.ref 0), some (.int n), some (.int way), some (.ref N), some (.int k), a5] S = .ok (.int (2 * (k : Int) - 2)) S := v_bin (v_bin v_C (v_var rfl) (x_mul (by decide))) v_C x_subI
    exact w_asg (v_lst (v_cons v_C (v_cons z (v_cons (v_cb (v_cons v_C (v_cons z v_nil)) x_max) (v_cons (v_bin (v_var rfl) v_C x_subI) v_nil)))) (show 4 ≤ 16777216 by decide))
  -- the code itself
  obtain ⟨v, S1, r1, hv, F1, A1⟩ : ∃ (v : Nat) (S1 : List O), mIf (mTB (mBin gLt (mVar 2) (mC (.int 2)))) (mCall m__law_draw (mCons (mVar 0) (mCons (mBin gSub (mBin gMul (mC (.int 2)) (mVar 4)) (mC (.int 1))) mNil))) (mIf (mTB (mBin gLt (mVar 2) (mC (.int 4)))) (mBin gIx (mVar 5) (mBin gSub (mVar 2) (mC (.int 2)))) (mCall m__law_one (mCons (mVar 0) (mCons (mVar 5) mNil)))) e S = .ok (.int v) S1 ∧ v < 2 * k - 1 ∧ Fd S1 (m + 1) ∧ Ag S S1 := by
    by_cases w1 : way < 2
    · obtain ⟨d, S1, d1, d2, d3, F, A⟩ := draw_fd (many := 2 * (k : Int) - 1) h hm (by omega) (by omega)
      refine ⟨d.toNat, S1, v_ifT (v_tb (v_bin (v_var rfl) v_C (by rw [x_lt, decide_eq_true w1]))) (v_call (v_cons (v_var rfl) (v_cons (v_bin (v_bin v_C (v_var rfl) (x_mul (by decide))) v_C x_subI) v_nil)) ?_), by omega, F, A⟩
      rw [show ((d.toNat : Nat) : Int) = d by omega]
      exact d1
    · by_cases w2 : way < 4
      · have hx : ∃ d ∈ some_, atI some_ (way - 2) = some d := by
          have : way = 2 ∨ way = 3 := by omega
          rcases this with rfl | rfl
          · exact ⟨.int 0, by simp [some_], rfl⟩
          · exact ⟨.int (2 * (k : Int) - 2), by simp [some_], rfl⟩
        obtain ⟨d, hd, he⟩ := hx
        obtain ⟨v, rfl, hv⟩ := good d hd
        refine ⟨v, S, v_ifF (v_tb (v_bin (v_var rfl) v_C (by rw [x_lt, decide_eq_false w1]))) (v_ifT (v_tb (v_bin (v_var rfl) v_C (by rw [x_lt, decide_eq_true w2]))) (v_bin (v_var rfl) (v_bin (v_var rfl) v_C x_subI) (x_ixl he))), hv, h.mono (by omega), Ag.refl S⟩
      · obtain ⟨d, hd, S1, d1, F, A⟩ := one_fd (items := some_) h hm (by simp [some_]) (by simp [some_])
        obtain ⟨v, rfl, hv⟩ := good d hd
        exact ⟨v, S1, v_ifF (v_tb (v_bin (v_var rfl) v_C (by rw [x_lt, decide_eq_false w1]))) (v_ifF (v_tb (v_bin (v_var rfl) v_C (by rw [x_lt, decide_eq_false w2]))) (v_call (v_cons (v_var rfl) (v_cons (v_var rfl) v_nil)) d1)), hv, F, A⟩
  have hS1 : S1[N]? = some (.lst l) := (A1.2 N hN).trans hS
  have hlt : N < S1.length := (List.getElem?_eq_some_iff.mp hS1).1
  refine ⟨v, some (.lst some_), S1.set N (.lst (l ++ [.int v])), w_seq e1 (w_expr (v_app (v_var rfl) hS (v_cons r1 v_nil) hS1 (Nat.lt_trans hl (by decide)))), hv, List.getElem?_set_self hlt, F1.of_get (List.getElem?_set_ne hN), by rw [List.length_set]; exact A1.1, fun i i0 iN => ?_⟩
  rw [List.getElem?_set_ne (Ne.symm iN)]
  exact A1.2 i i0
theorem codes_fd {S : List O} {m n : Nat} (h : Fd S m) (hm : m < 10000000) (h1 : 1 ≤ n) (hn : n ≤ 12) :
    ∃ c S', m__law_codes [.ref 0, .int n] S = .ok (.ref S.length) S' ∧ CodesOk c n ∧ S'[S.length]? = some (.lst (codesD c (n - 1))) ∧ S'.length = S.length + 1 ∧ (∀ i, i < S.length → i ≠ 0 → S'[i]? = S[i]?) ∧ Fd S' (m + 20) := by
  obtain ⟨way, S1, w1, w2, w3, F1, A1⟩ := draw_fd (many := 5) h (by omega) (by decide) (by decide)
  have p0 := h.pos
  have hN : S.length ≠ 0 := by omega
  have F2 : Fd (S1 ++ [.lst []]) (m + 1) := F1.of_get (List.getElem?_append_left (by rw [A1.1]; exact p0))
  have key := loop_at (t := tgN 4) (b := codeBody) (l0 := rangeD 1 1 (n - 1))
    (I := fun i e T => ∃ c a4 a5, e = [some (.ref 0), some (.int n), some (.int way), some (.ref S.length), a4, a5] ∧ CodesOk c (i + 1) ∧ T[S.length]? = some (.lst (codesD c i)) ∧ T.length = S.length + 1 ∧ (∀ j, j < S.length → j ≠ 0 → T[j]? = S[j]?) ∧ Fd T (m + 1 + i))
    (fun i d hd e T ⟨c, a4, a5, he, hc, hT, hTl, hTs, hTF⟩ => by
      subst he
      obtain ⟨hi, rfl⟩ := range_at hd
      obtain ⟨v, a5', S', r, hv, q1, q2, q3, q4⟩ := code_turn (k := i + 1) (way := way) (n := n) (a5 := a5) hTF (by omega) (by omega) (by omega) ⟨w2, w3⟩ hN hT (by rw [codesD_len]; omega)
      rw [show (1 : Int) + (i : Nat) * 1 = ((i + 1 : Nat) : Int) by omega]
      refine ⟨_, _, S', rfl, r, ext c (i + 1) v, _, a5', rfl, fun k k1 k2 => ?_, ?_, by rw [q3, hTl], fun j j1 j2 => (q4 j j2 (by omega)).trans (hTs j j1 j2), ?_⟩
      · unfold ext
        split
        · omega
        · exact hc k k1 (by omega)
      · rw [codesD_ext]; exact q1
      · exact q2.mono (by omega))
    (l := _) (i := 0) (e := [some (.ref 0), some (.int n), some (.int way), some (.ref S.length), none, none]) (S := S1 ++ [.lst []]) rfl (Nat.zero_le _)
    ⟨fun _ => 0, none, none, rfl, fun k k1 k2 => by omega, by rw [List.getElem?_append_right (by rw [A1.1]; exact Nat.le_refl _), A1.1, Nat.sub_self]; rfl, by rw [List.length_append, A1.1]; rfl, fun j j1 j2 => by rw [List.getElem?_append_left (by rw [A1.1]; exact j1)]; exact A1.2 j j2, F2⟩
  obtain ⟨e1, T, hl, c, a4, a5, rfl, hc, hT, hTl, hTs, hTF⟩ := key
  rw [range_len] at hc hT hTF
  refine ⟨c, T, nb_ok ?_, fun k k1 k2 => hc k k1 (by omega), hT, hTl, hTs, hTF.mono (by omega)⟩
  refine (fn_rt (S' := T) (d := .ref S.length) rfl ?_).trans ?_
  · refine w_seq (w_asg (v_call (v_cons (v_var rfl) (v_cons v_C v_nil)) w1)) ?_
    refine w_seq (w_asg (v_new v_nil (show 0 ≤ 16777216 by decide))) ?_
    rw [A1.1]
    refine w_seq ((w_for (v_mir (v_cons v_C (v_cons (v_var rfl) v_nil)) (range2_at (by omega) h1))).trans hl) ?_
    exact w_ret (v_var rfl)
  · show R.ok _ (trimS (decide (S.length < S.length)) S T) = _
    rw [decide_eq_false (Nat.lt_irrefl _)]
    unfold trimS
    simp
end K64

namespace Mo
open PySem PySem.Spec L2 PyProof.Rows
theorem compL_mapf {α : Type} {chk : List O → Bool} {t : Tg} {tt : MT} {te : ME} {e : Mo.Env} {S : List O} {g : α → D} {p : α → Bool} (hc : chk S = true) :
    ∀ {ws : List α} {acc : List D}, (∀ q ∈ ws, ∃ e', t.f (g q) e = some e' ∧ tt e' S = .ok (p q) S ∧ te e' S = .ok (g q) S) → acc.length + ws.length ≤ sz → compL chk t tt te e acc (ws.map g) S = .ok (acc ++ (ws.filter p).map g) S
  | [], acc, _, _ => by
    rw [List.map_nil, compL, if_pos hc, List.filter_nil, List.map_nil, List.append_nil]
  | q :: ws, acc, h, hs => by
    obtain ⟨e', h1, h2, h3⟩ := h q List.mem_cons_self
    rw [List.length_cons] at hs
    rw [List.map_cons, compL, if_pos hc, h1]
    dsimp only
    rw [h2]
    simp only [R.nb, R.bind]
    cases hp : p q with
    | true =>
      rw [if_pos rfl, h3]
      simp only []
      rw [if_pos (by omega), compL_mapf hc (fun x hx => h x (List.mem_cons_of_mem _ hx)) (by rw [List.length_append]; simp; omega), List.filter_cons, if_pos hp, List.map_cons, List.append_assoc]
      rfl
    | false =>
      rw [if_neg (by simp), compL_mapf hc (fun x hx => h x (List.mem_cons_of_mem _ hx)) (by omega), List.filter_cons, if_neg (by simp [hp])]
theorem v_comp {m : MI} {t : Tg} {tt : MT} {te : ME} {vs : List Nat} {e : Mo.Env} {S S1 S2 : List O} {l r : List D} {chk : List O → Bool} (h1 : m e S = .ok (l, chk) S1) (h2 : compL chk t tt te (wipeE e vs) [] l S1 = .ok r S2) : mComp m t tt te vs e S = .ok (.lst r) S2 := by
  unfold mComp
  rw [h1]
  show (compL chk t tt te (wipeE e vs) [] l S1).bind _ = _
  rw [h2]
  rfl
theorem v_seqL {m : ME} {e : Mo.Env} {S S1 : List O} {l : List D} (h : m e S = .ok (.lst l) S1) : miSeq m e S = .ok (l, anyS) S1 := by
  unfold miSeq
  rw [h]
  rfl
theorem idx_snoc {lab : List Nat} {l m : Nat} (h : m ∈ lab) : (lab ++ [l]).idxOf m = lab.idxOf m := by rw [List.idxOf_append, if_pos h]
theorem idx_new {lab : List Nat} {l : Nat} (h : l ∉ lab) : (lab ++ [l]).idxOf l = lab.length := by rw [List.idxOf_append, if_neg h]; simp
end Mo
namespace K64
open PySem PySem.Spec L2 PyProof.Rows Mo
theorem kid_lab : ∀ {t : Tr}, t.els.Nodup → ∀ {q q' : Nat × El × El}, q ∈ kid3 t → q' ∈ kid3 t → q.1 = q'.1 → q = q'
  | .lf _, _, q, q', h, _, _ => by simp [kid3] at h
  | .nd l a b, nd, q, q', h, h', e => by
    obtain ⟨n1, n2, n3, n4⟩ := els_nd nd
    simp only [kid3, List.mem_append, List.mem_singleton] at h h'
    rcases h with (h | h) | h <;> rcases h' with (h' | h') | h'
    · exact kid_lab n1 h h' e
    · exact absurd (by rw [e]) (n3 _ (kid_mem h).1 _ (kid_mem h').1)
    · exact absurd (by rw [e, h']) (n4 _ (List.mem_append_left _ (kid_mem h).1))
    · exact absurd (by rw [e]) (n3 _ (kid_mem h').1 _ (kid_mem h).1)
    · exact kid_lab n2 h h' e
    · exact absurd (by rw [e, h']) (n4 _ (List.mem_append_right _ (kid_mem h).1))
    · exact absurd (by rw [← e, h]) (n4 _ (List.mem_append_left _ (kid_mem h').1))
    · exact absurd (by rw [← e, h]) (n4 _ (List.mem_append_right _ (kid_mem h').1))
    · rw [h, h']
def okE (lab : List Nat) : El → Bool
  | .inl _ => true
  | .inr l => decide (l ∈ lab)
def plL (n : Nat) (lab : List Nat) : Nat → Int := fun l => ((n + lab.idxOf l : Nat) : Int)
def pv (n : Nat) (lab : List Nat) : El → Int
  | .inl i => (i : Nat)
  | .inr l => if l ∈ lab then plL n lab l else -1
theorem pv_in {n : Nat} {lab : List Nat} {l : Nat} (h : l ∈ lab) : pv n lab (.inr l) = plL n lab l := if_pos h
theorem pv_out {n : Nat} {lab : List Nat} {l : Nat} (h : l ∉ lab) : pv n lab (.inr l) = -1 := if_neg h
theorem okE_inr {lab : List Nat} {l : Nat} : okE lab (.inr l) = decide (l ∈ lab) := rfl
theorem pv_ok {n : Nat} {lab : List Nat} {r : El} (h : okE lab r = true) : pv n lab r = plE (plL n lab) r := by
  cases r with
  | inl i => rfl
  | inr l => rw [okE_inr] at h; rw [pv_in (of_decide_eq_true h)]; rfl
theorem pv_ge {n : Nat} {lab : List Nat} (r : El) : decide (0 ≤ pv n lab r) = okE lab r := by
  cases r with
  | inl i => exact decide_eq_true (show (0 : Int) ≤ ((i : Nat) : Int) by omega)
  | inr l =>
    rw [okE_inr]
    by_cases h : l ∈ lab
    · rw [pv_in h, decide_eq_true h]
      exact decide_eq_true (show (0 : Int) ≤ ((n + lab.idxOf l : Nat) : Int) by omega)
    · rw [pv_out h, decide_eq_false h]
      rfl
theorem plE_snoc {n : Nat} {lab : List Nat} {l : Nat} {r : El} (h : okE lab r = true) : plE (plL n (lab ++ [l])) r = plE (plL n lab) r := by
  cases r with
  | inl i => rfl
  | inr m => rw [okE_inr] at h; show plL n (lab ++ [l]) m = plL n lab m; unfold plL; rw [idx_snoc (of_decide_eq_true h)]
def plcs (n : Nat) (lab : List Nat) : List D := (List.range n).map (fun i => D.int (i : Nat)) ++ (List.range n).map fun l => D.int (pv n lab (.inr l))
theorem plcs_len {n : Nat} {lab : List Nat} : (plcs n lab).length = n + n := by unfold plcs; simp
def Val (n : Nat) : El → Prop
  | .inl i => i < n
  | .inr l => l < n
def nmNat (n : Nat) : El → Nat
  | .inl i => i
  | .inr l => n + l
theorem nm_eq (n : Nat) (r : El) : nmN n r = (nmNat n r : Nat) := by cases r <;> rfl
theorem plcs_get {n : Nat} {lab : List Nat} {r : El} (h : Val n r) : (plcs n lab)[nmNat n r]? = some (.int (pv n lab r)) := by
  unfold plcs
  cases r with
  | inl i =>
    have hi : i < n := h
    show (_ ++ _)[i]? = _
    rw [List.getElem?_append_left (by simp [hi]), List.getElem?_map, List.getElem?_range hi]
    rfl
  | inr l =>
    have hl : l < n := h
    show (_ ++ _)[n + l]? = _
    rw [List.getElem?_append_right (by simp), List.getElem?_map]
    simp only [List.length_map, List.length_range, Nat.add_sub_cancel_left]
    rw [List.getElem?_range hl]
    rfl
theorem plcs_at {n : Nat} {lab : List Nat} {r : El} (h : Val n r) : atI (plcs n lab) (nmN n r) = some (.int (pv n lab r)) := by
  have hlt : nmNat n r < n + n := by cases r with | inl i => (have : i < n := h); show i < _; omega | inr l => (have : l < n := h); show n + l < _; omega
  rw [nm_eq]
  unfold atI ixN
  rw [plcs_len, if_pos (by omega), if_pos (by omega)]
  show (plcs n lab)[((nmNat n r : Nat) : Int).toNat]? = _
  rw [Int.toNat_natCast]
  exact plcs_get h
theorem plcs_set {n : Nat} {lab : List Nat} {l : Nat} (hl : l < n) (hn : l ∉ lab) : (plcs n lab).set (n + l) (.int ((n + lab.length : Nat) : Int)) = plcs n (lab ++ [l]) := by
  unfold plcs
  rw [List.set_append_right _ _ (by simp)]
  congr 1
  apply List.ext_getElem?
  intro i
  simp only [List.length_map, List.length_range, Nat.add_sub_cancel_left]
  by_cases hi : i < n
  · by_cases e : l = i
    · subst e
      rw [List.getElem?_set_self (by simp [hl]), List.getElem?_map, List.getElem?_range hl]
      show _ = some (D.int (pv n (lab ++ [l]) (.inr l)))
      rw [pv_in (by simp)]
      unfold plL
      rw [idx_new hn]
    · rw [List.getElem?_set_ne e, List.getElem?_map, List.getElem?_map, List.getElem?_range hi]
      show some (D.int (pv n lab (.inr i))) = some (D.int (pv n (lab ++ [l]) (.inr i)))
      by_cases h : i ∈ lab
      · rw [pv_in h, pv_in (by simp [h])]
        unfold plL
        rw [idx_snoc h]
      · rw [pv_out h, pv_out (by simp [h, Ne.symm e])]
  · rw [List.getElem?_eq_none (by simp; omega), List.getElem?_eq_none (by simp; omega)]
/-- the rows so far: of the nodes lab, in this order -/
structure J (n : Nat) (t : Tr) (lab : List Nat) (rs : List (Int × Int)) : Prop where
  nd : lab.Nodup
  len : rs.length = lab.length
  row : ∀ (j : Nat) (x y : Int), rs[j]? = some (x, y) → ∃ q ∈ kid3 t, lab[j]? = some q.1 ∧ okE lab q.2.1 = true ∧ okE lab q.2.2 = true ∧ ((x = plE (plL n lab) q.2.1 ∧ y = plE (plL n lab) q.2.2) ∨ (x = plE (plL n lab) q.2.2 ∧ y = plE (plL n lab) q.2.1))
theorem okE_snoc {lab : List Nat} {l : Nat} {r : El} (h : okE lab r = true) : okE (lab ++ [l]) r = true := by
  cases r with
  | inl i => rfl
  | inr m => rw [okE_inr] at h ⊢; have := of_decide_eq_true h; simp [this]
theorem J.snoc {n : Nat} {t : Tr} {lab : List Nat} {rs : List (Int × Int)} (j : J n t lab rs) {q : Nat × El × El} (hq : q ∈ kid3 t) (hl : q.1 ∉ lab) (h1 : okE lab q.2.1 = true) (h2 : okE lab q.2.2 = true) {x y : Int}
    (hxy : (x = plE (plL n lab) q.2.1 ∧ y = plE (plL n lab) q.2.2) ∨ (x = plE (plL n lab) q.2.2 ∧ y = plE (plL n lab) q.2.1)) : J n t (lab ++ [q.1]) (rs ++ [(x, y)]) := by
  refine ⟨?_, by rw [List.length_append, List.length_append, j.len]; rfl, fun i x' y' hi => ?_⟩
  · rw [List.nodup_append]
    refine ⟨j.nd, by simp, fun a ha b hb => ?_⟩
    simp at hb
    subst hb
    exact fun z => hl (z ▸ ha)
  · by_cases hlt : i < rs.length
    · rw [List.getElem?_append_left hlt] at hi
      obtain ⟨q', k1, k2, k3, k4, k5⟩ := j.row i x' y' hi
      refine ⟨q', k1, by rw [List.getElem?_append_left (by rw [← j.len]; exact hlt)]; exact k2, okE_snoc k3, okE_snoc k4, ?_⟩
      rw [plE_snoc k3, plE_snoc k4]
      exact k5
    · have e : i = rs.length := by
        have := (List.getElem?_eq_some_iff.mp hi).1
        rw [List.length_append] at this
        simp at this
        omega
      subst e
      rw [List.getElem?_append_right (Nat.le_refl _), Nat.sub_self] at hi
      simp at hi
      obtain ⟨rfl, rfl⟩ := hi
      refine ⟨q, hq, ?_, okE_snoc h1, okE_snoc h2, ?_⟩
      · rw [j.len, List.getElem?_append_right (Nat.le_refl _), Nat.sub_self]; rfl
      · rw [plE_snoc h1, plE_snoc h2]; exact hxy
def ws (t : Tr) (lab : List Nat) : List (Nat × El × El) := (kid3 t).filter fun q => decide (q.1 ∉ lab)
/-- there is always a node whose children have their places -/
theorem ready_ex {lab : List Nat} : ∀ (t : Tr), (∀ l, .inr l ∈ t.els → l ∈ lab) ∨ ∃ q ∈ kid3 t, q.1 ∉ lab ∧ okE lab q.2.1 = true ∧ okE lab q.2.2 = true
  | .lf i => .inl fun l h => by simp [Tr.els] at h
  | .nd l a b => by
    have rt : ∀ {t : Tr}, (∀ l, .inr l ∈ t.els → l ∈ lab) → okE lab t.root = true := fun {t} h => by
      cases t with
      | lf i => rfl
      | nd m x y => exact decide_eq_true (h m (by simp [Tr.els]))
    rcases ready_ex (lab := lab) a with ha | ⟨q, q1, q2, q3, q4⟩
    · rcases ready_ex (lab := lab) b with hb | ⟨q, q1, q2, q3, q4⟩
      · by_cases h : l ∈ lab
        · left
          intro m hm
          simp [Tr.els] at hm
          rcases hm with z | z | z
          · rw [z]; exact h
          · exact ha m z
          · exact hb m z
        · exact .inr ⟨(l, a.root, b.root), by simp [kid3], h, rt ha, rt hb⟩
      · exact .inr ⟨q, by simp [kid3, q1], q2, q3, q4⟩
    · exact .inr ⟨q, by simp [kid3, q1], q2, q3, q4⟩
end K64

namespace K64
open PySem PySem.Spec L2 PyProof.Rows Mo
def stA : MS := sAsg 6 (mComp (miSeq (mVar 3)) (tgN 7) (mAnd (mTB (mBin gGe (mBin gIx (mVar 4) (mBin gIx (mVar 7) (mC (.int 1)))) (mC (.int 0)))) (mTB (mBin gGe (mBin gIx (mVar 4) (mBin gIx (mVar 7) (mC (.int 2)))) (mC (.int 0))))) (mVar 7) [7])
def stG : MS := sAsg 3 (mComp (miSeq (mVar 3)) (tgN 9) (mTB (mBin gNe (mVar 9) (mVar 7))) (mVar 9) [9])
def rowT : ME := mTup (mCons (mC (.str "round")) (mCons (mTup (mCons (mTup (mCons (mC (.int 1)) (mCons (mTup (mCons (mBin gIx (mVar 8) (mC (.int 0))) mNil)) mNil))) (mCons (mTup (mCons (mC (.int 1)) (mCons (mTup (mCons (mBin gIx (mVar 8) (mC (.int 1))) mNil)) mNil))) mNil))) mNil))
def pBody : MS := sSeq stA (
  sSeq (sAsg 7 (mCall m__law_one (mCons (mVar 0) (mCons (mVar 6) mNil)))) (
  sSeq (sAsg 8 (mLst (mCons (mBin gIx (mVar 4) (mBin gIx (mVar 7) (mC (.int 1)))) (mCons (mBin gIx (mVar 4) (mBin gIx (mVar 7) (mC (.int 2)))) mNil)))) (
  sSeq (sIf (mTB (mBin gEq (mCall m__law_draw (mCons (mVar 0) (mCons (mC (.int 2)) mNil))) (mC (.int 0)))) (
  sAsg 8 (mSl3 (mVar 8) moN moN (moS (mUn gNeg (mC (.int 1)))))) (
  sNil)) (
  sSeq (sExpr (mMt isL gAppend (mVar 5) (mCons rowT mNil))) (
  sSeq (sSet (mBin gSub (mBin gAdd (mVar 1) (mCB gLen (mCons (mVar 5) mNil))) (mC (.int 1))) (mVar 4) (mBin gIx (mVar 7) (mC (.int 0)))) stG)))))
theorem x_rev {S : List O} {a b : D} : gSl3 S (.lst [a, b]) none none (some (-1)) = some (.lst [b, a]) := by
  have h : sliceRange (sliceBounds none none (some (-1)) 2).fst (sliceBounds none none (some (-1)) 2).snd.fst (sliceBounds none none (some (-1)) 2).snd.snd = [1, 0] := by decide +kernel
  show (if (-1 : Int) ≠ 0 then some (D.lst (pickD [a, b] none none (-1))) else none) = _
  rw [if_pos (by decide)]
  unfold pickD
  show some (D.lst (List.filterMap (fun x => [a, b][x]?) (sliceRange (sliceBounds none none (some (-1)) 2).fst (sliceBounds none none (some (-1)) 2).snd.fst (sliceBounds none none (some (-1)) 2).snd.snd))) = _
  rw [h]
  rfl
theorem v_rev {e : Mo.Env} {S S1 : List O} {m : ME} {a b : D} (h : m e S = .ok (.lst [a, b]) S1) : mSl3 m moN moN (moS (mUn gNeg (mC (.int 1)))) e S = .ok (.lst [b, a]) S1 := by
  unfold mSl3
  rw [h]
  show R.ofO S1 (gSl3 S1 (.lst [a, b]) none none (some (-1))) = _
  rw [x_rev]
  rfl
theorem ws_snoc {t : Tr} {lab : List Nat} {l : Nat} : ws t (lab ++ [l]) = (ws t lab).filter fun q => decide (q.1 ≠ l) := by
  unfold ws
  rw [List.filter_filter]
  apply List.filter_congr
  intro q _
  simp only [List.mem_append, List.mem_singleton, not_or]
  by_cases h1 : q.1 ∈ lab <;> by_cases h2 : q.1 = l <;> simp [h1, h2]
theorem prog_turn {n m P R : Nat} {t : Tr} {lab : List Nat} {rs : List (Int × Int)} {S : List O} {a2 a6 a7 a8 a9 : Option D} (nd : t.els.Nodup) (hV : ∀ r ∈ t.els, Val n r) (hk : (kid3 t).length < 100) (j : J n t lab rs) (hw : ws t lab ≠ []) (hn : n ≤ 12)
    (hP : S[P]? = some (.lst (plcs n lab))) (hR : S[R]? = some (.lst (rs.map rowD))) (P0 : P ≠ 0) (R0 : R ≠ 0) (PR : P ≠ R) (F : Fd S m) (hm : m < 10000000) (hrs : rs.length < 1000) :
    ∃ (q : Nat × El × El) (r : Int × Int) (a6' a7' a8' a9' : Option D) (S' : List O), q ∈ ws t lab ∧
      pBody [some (.ref 0), some (.int n), a2, some (.lst ((ws t lab).map (trip n))), some (.ref P), some (.ref R), a6, a7, a8, a9] S =
        .nx [some (.ref 0), some (.int n), a2, some (.lst ((ws t (lab ++ [q.1])).map (trip n))), some (.ref P), some (.ref R), a6', a7', a8', a9'] S' ∧
      J n t (lab ++ [q.1]) (rs ++ [r]) ∧ S'[P]? = some (.lst (plcs n (lab ++ [q.1]))) ∧ S'[R]? = some (.lst ((rs ++ [r]).map rowD)) ∧ Fd S' (m + 2) ∧ S'.length = S.length ∧ ∀ i, i ≠ 0 → i ≠ P → i ≠ R → S'[i]? = S[i]? := by
  have wlen : (ws t lab).length < 100 := Nat.lt_of_le_of_lt (List.length_filter_le _ _) hk
  have vk : ∀ q ∈ kid3 t, Val n (.inr q.1) ∧ Val n q.2.1 ∧ Val n q.2.2 := fun q hq => by
    obtain ⟨k1, k2, k3⟩ := kid_mem hq
    exact ⟨hV _ k1, hV _ (sub_els k2), hV _ (sub_els k3)⟩
  have wk : ∀ q ∈ ws t lab, q ∈ kid3 t ∧ q.1 ∉ lab := fun q hq => by
    have := List.mem_filter.mp hq
    exact ⟨this.1, of_decide_eq_true this.2⟩
  let p : Nat × El × El → Bool := fun q => okE lab q.2.1 && okE lab q.2.2
  have rne : (ws t lab).filter p ≠ [] := by
    rcases ready_ex (lab := lab) t with h | ⟨q, q1, q2, q3, q4⟩
    · refine absurd ?_ hw
      rw [List.eq_nil_iff_forall_not_mem]
      intro q hq
      obtain ⟨k1, k2⟩ := wk q hq
      exact k2 (h _ (kid_mem k1).1)
    · intro z
      have : q ∈ (ws t lab).filter p := List.mem_filter.mpr ⟨List.mem_filter.mpr ⟨q1, decide_eq_true q2⟩, by simp [p, q3, q4]⟩
      rw [z] at this
      cases this
  -- ready
  have eA : stA [some (.ref 0), some (.int n), a2, some (.lst ((ws t lab).map (trip n))), some (.ref P), some (.ref R), a6, a7, a8, a9] S =
      .nx [some (.ref 0), some (.int n), a2, some (.lst ((ws t lab).map (trip n))), some (.ref P), some (.ref R), some (.lst (((ws t lab).filter p).map (trip n))), a7, a8, a9] S := by
    refine w_asg (v_comp (v_seqL (v_var rfl)) ((compL_mapf (p := p) (g := trip n) rfl (fun q hq => ⟨_, rfl, ?_, v_var rfl⟩) (Nat.le_trans (Nat.le_of_lt (by simpa using wlen)) (show 100 ≤ 16777216 by decide))).trans rfl))
    obtain ⟨v1, v2, v3⟩ := vk q (wk q hq).1
    refine v_and (k := okE lab q.2.1) (v_tb (v_bin (v_bin (v_var rfl) (v_bin (v_var rfl) v_C (show gIx S (trip n q) (.int 1) = some (.int (nmN n q.2.1)) from rfl)) (x_ix hP (plcs_at v2))) v_C (by rw [x_ge, pv_ge]))) ?_
    cases hb : okE lab q.2.1 with
    | false => simp [p, hb]
    | true =>
      rw [if_pos rfl]
      refine (v_tb (k := okE lab q.2.2) (v_bin (v_bin (v_var rfl) (v_bin (v_var rfl) v_C (show gIx S (trip n q) (.int 2) = some (.int (nmN n q.2.2)) from rfl)) (x_ix hP (plcs_at v3))) v_C (by rw [x_ge, pv_ge]))).trans ?_
      simp [p, hb]
  -- the node
  obtain ⟨d, hd, S1, r1, F1, A1⟩ := one_fd (items := ((ws t lab).filter p).map (trip n)) F (by omega) (by simpa using rne) (by rw [List.length_map]; exact Nat.lt_of_le_of_lt (List.length_filter_le _ _) (by omega))
  obtain ⟨q, hq, rfl⟩ := List.mem_map.mp hd
  obtain ⟨hqw, hqp⟩ := List.mem_filter.mp hq
  obtain ⟨hqk, hql⟩ := wk q hqw
  obtain ⟨v1, v2, v3⟩ := vk q hqk
  have ok1 : okE lab q.2.1 = true := by have : p q = true := hqp; simp [p] at this; exact this.1
  have ok2 : okE lab q.2.2 = true := by have : p q = true := hqp; simp [p] at this; exact this.2
  have hP1 : S1[P]? = some (.lst (plcs n lab)) := (A1.2 P P0).trans hP
  obtain ⟨dd, S2, r2, _, _, F2, A2⟩ := draw_fd (many := 2) F1 (by omega) (by decide) (by decide)
  have hP2 : S2[P]? = some (.lst (plcs n lab)) := (A2.2 P P0).trans hP1
  have hR2 : S2[R]? = some (.lst (rs.map rowD)) := (A2.2 R R0).trans ((A1.2 R R0).trans hR)
  let x0 := pv n lab q.2.1
  let y0 := pv n lab q.2.2
  -- the sides, in either order
  obtain ⟨x, y, hxy, eD⟩ : ∃ x y : Int, ((x = x0 ∧ y = y0) ∨ (x = y0 ∧ y = x0)) ∧ sIf (mTB (mBin gEq (mCall m__law_draw (mCons (mVar 0) (mCons (mC (.int 2)) mNil))) (mC (.int 0)))) (sAsg 8 (mSl3 (mVar 8) moN moN (moS (mUn gNeg (mC (.int 1)))))) sNil
      [some (.ref 0), some (.int n), a2, some (.lst ((ws t lab).map (trip n))), some (.ref P), some (.ref R), some (.lst (((ws t lab).filter p).map (trip n))), some (trip n q), some (.lst [.int x0, .int y0]), a9] S1 =
      .nx [some (.ref 0), some (.int n), a2, some (.lst ((ws t lab).map (trip n))), some (.ref P), some (.ref R), some (.lst (((ws t lab).filter p).map (trip n))), some (trip n q), some (.lst [.int x, .int y]), a9] S2 := by
    by_cases h0 : dd = 0
    · refine ⟨y0, x0, .inr ⟨rfl, rfl⟩, w_ifT (v_tb (v_bin (v_call (v_cons (v_var rfl) (v_cons v_C v_nil)) r2) v_C (by rw [x_eqI, decide_eq_true h0]))) ?_⟩
      exact w_asg (v_rev (v_var rfl))
    · exact ⟨x0, y0, .inl ⟨rfl, rfl⟩, w_ifF (v_tb (v_bin (v_call (v_cons (v_var rfl) (v_cons v_C v_nil)) r2) v_C (by rw [x_eqI, decide_eq_false h0]))) rfl⟩
  have hl : q.1 < n := v1
  have hRlt : R < S2.length := (List.getElem?_eq_some_iff.mp hR2).1
  let S3 := S2.set R (.lst (rs.map rowD ++ [rowD (x, y)]))
  have hP3 : S3[P]? = some (.lst (plcs n lab)) := (List.getElem?_set_ne (Ne.symm PR)).trans hP2
  have hR3 : S3[R]? = some (.lst (rs.map rowD ++ [rowD (x, y)])) := List.getElem?_set_self hRlt
  have hPlt : P < S3.length := (List.getElem?_eq_some_iff.mp hP3).1
  have hix : ixN (plcs n lab).length ((n + q.1 : Nat) : Int) = some (n + q.1) := by
    unfold ixN
    rw [plcs_len, if_pos (by omega), if_pos (by omega), Int.toNat_natCast]
  refine ⟨q, (x, y), some (.lst (((ws t lab).filter p).map (trip n))), some (trip n q), some (.lst [.int x, .int y]), a9, S3.set P (.lst (plcs n (lab ++ [q.1]))), hqw, ?_, j.snoc hqk hql ok1 ok2 ?_, List.getElem?_set_self hPlt, ?_, ?_, ?_, ?_⟩
  · refine w_seq eA ?_
    refine w_seq (w_asg (v_call (v_cons (v_var rfl) (v_cons (v_var rfl) v_nil)) r1)) ?_
    refine w_seq (w_asg (v_lst (v_cons (v_bin (v_var rfl) (v_bin (v_var rfl) v_C (show gIx S1 (trip n q) (.int 1) = some (.int (nmN n q.2.1)) from rfl)) (x_ix hP1 (plcs_at v2))) (v_cons (v_bin (v_var rfl) (v_bin (v_var rfl) v_C (show gIx S1 (trip n q) (.int 2) = some (.int (nmN n q.2.2)) from rfl)) (x_ix hP1 (plcs_at v3))) v_nil)) (show 2 ≤ 16777216 by decide))) ?_
    refine w_seq eD ?_
    refine w_seq (w_expr (v_app (v_var rfl) hR2 (v_cons (show rowT _ S2 = .ok (rowD (x, y)) S2 from rfl) v_nil) hR2 (Nat.lt_of_lt_of_le (by rw [List.length_map]; exact hrs) (show 1000 ≤ 16777216 by decide)))) ?_
    refine w_seq (w_set (S3 := S3) (S4 := S3.set P (.lst (plcs n (lab ++ [q.1])))) (d := .int ((n + lab.length : Nat) : Int)) (v_bin (v_bin (v_var rfl) (v_cb (v_cons (v_var rfl) v_nil) (x_len hR3)) x_addI) v_C ?_) (v_var rfl) (v_bin (v_var rfl) v_C (show gIx S3 (trip n q) (.int 0) = some (.int ((n + q.1 : Nat) : Int)) from rfl)) ?_) ?_
    · rw [x_subI]
      congr 2
      rw [List.length_append, List.length_map, j.len]
      show (n : Int) + ((lab.length + 1 : Nat) : Int) - 1 = _
      omega
    · rw [x_set hP3 hix, plcs_set hl hql]
    · rw [ws_snoc]
      refine w_asg (v_comp (v_seqL (v_var rfl)) ((compL_mapf (p := fun q' => decide (q'.1 ≠ q.1)) (g := trip n) rfl (fun q' hq' => ⟨_, rfl, v_tb (v_bin (v_var rfl) (v_var rfl) ?_), v_var rfl⟩) (Nat.le_trans (Nat.le_of_lt (by simpa using wlen)) (show 100 ≤ 16777216 by decide))).trans rfl))
      have e1 : gNe (S3.set P (.lst (plcs n (lab ++ [q.1])))) (trip n q') (trip n q) = some (.bl (!(((n + q'.1 : Nat) : Int) == ((n + q.1 : Nat) : Int) && (nmN n q'.2.1 == nmN n q.2.1 && (nmN n q'.2.2 == nmN n q.2.2 && true))))) := rfl
      rw [e1]
      congr 2
      by_cases h : q'.1 = q.1
      · have := kid_lab nd (wk q' hq').1 hqk h
        subst this
        simp
      · have hne : ¬ (((n + q'.1 : Nat) : Int) = ((n + q.1 : Nat) : Int)) := by omega
        simp only [beq_eq_false_iff_ne.mpr hne, Bool.false_and, Bool.not_false]
        simp [h]
  · rcases hxy with ⟨rfl, rfl⟩ | ⟨rfl, rfl⟩
    · exact .inl ⟨pv_ok ok1, pv_ok ok2⟩
    · exact .inr ⟨pv_ok ok2, pv_ok ok1⟩
  · rw [List.getElem?_set_ne PR, hR3, List.map_append]
    rfl
  · exact F2.of_get ((List.getElem?_set_ne P0).trans (List.getElem?_set_ne R0))
  · rw [List.length_set, List.length_set, A2.1, A1.1]
  · intro i i0 iP iR
    rw [List.getElem?_set_ne (Ne.symm iP), List.getElem?_set_ne (Ne.symm iR), A2.2 i i0, A1.2 i i0]
end K64

namespace Mo
open PySem PySem.Spec L2 PyProof.Rows
theorem w_while {t : MT} {b : MS} {n : Nat} {e e1 : Mo.Env} {S S1 S2 : List O} (h1 : t e S = .ok true S1) (h2 : b e S1 = .nx e1 S2) : loopW t b (n + 1) e S = loopW t b n e1 S2 := by
  rw [loopW, h1]
  simp only [R.st, if_true]
  rw [h2]
theorem w_whileF {t : MT} {b : MS} {n : Nat} {e : Mo.Env} {S S1 : List O} (h1 : t e S = .ok false S1) : loopW t b (n + 1) e S = .nx e S1 := by
  rw [loopW, h1]
  simp [R.st]
end Mo
namespace K64
open PySem PySem.Spec L2 PyProof.Rows Mo
def tripPy (n : Nat) (q : Nat × El × El) : PyData := .tuple [.int ((n + q.1 : Nat) : Int), .int (nmN n q.2.1), .int (nmN n q.2.2)]
theorem toPys_trips {n : Nat} : ∀ l : List (Nat × El × El), toPys (l.map (trip n)) = some (l.map (tripPy n)) ∧ PyData.canLayAll0 (l.map (tripPy n)) = true ∧ PyData.depthAll (l.map (tripPy n)) ≤ 1
  | [] => ⟨rfl, rfl, Nat.zero_le _⟩
  | q :: l => by
    obtain ⟨h1, h2, h3⟩ := toPys_trips (n := n) l
    refine ⟨?_, ?_, ?_⟩
    · rw [List.map_cons, toPys, h1]; rfl
    · rw [List.map_cons, PyData.canLayAll0, h2]; rfl
    · rw [List.map_cons, PyData.depthAll]
      exact Nat.max_le.mpr ⟨Nat.le_refl 1, h3⟩
theorem ne_nil {n : Nat} {S : List O} (l : List (Nat × El × El)) : gNe S (.lst (l.map (trip n))) (.lst []) = some (.bl (!l.isEmpty)) := by
  obtain ⟨h1, h2, h3⟩ := toPys_trips (n := n) l
  unfold gNe eqB
  rw [show scD (.lst (l.map (trip n))) (.lst []) = none by rfl]
  dsimp only
  rw [show toPyS S (.lst (l.map (trip n))) = some (.list (l.map (tripPy n))) by
    show toPy (.lst (l.map (trip n))) = _
    rw [toPy, h1]]
  rw [show toPyS S (.lst []) = some (.list []) by rfl]
  dsimp only
  rw [if_pos ⟨by unfold SeqAt.shaped; rw [PyData.canLay0, h2, PyData.depth]; simp; omega, by decide +kernel⟩]
  cases l with
  | nil => rfl
  | cons c cs => rfl
theorem kid_ne : ∀ {t : Tr}, t.els.Nodup → ∀ {q : Nat × El × El}, q ∈ kid3 t → q.2.1 ≠ .inr q.1 ∧ q.2.2 ≠ .inr q.1
  | .lf _, _, q, h => by simp [kid3] at h
  | .nd l a b, nd, q, h => by
    obtain ⟨n1, n2, n3, n4⟩ := els_nd nd
    simp only [kid3, List.mem_append, List.mem_singleton] at h
    rcases h with (h | h) | h
    · exact kid_ne n1 h
    · exact kid_ne n2 h
    · subst h
      exact ⟨n4 _ (List.mem_append_left _ (root_mem a)), n4 _ (List.mem_append_right _ (root_mem b))⟩
/-- the sides of a row stand below it -/
def Lt (n : Nat) (rs : List (Int × Int)) : Prop := ∀ (i : Nat) (x y : Int), rs[i]? = some (x, y) → x < (n : Int) + i ∧ y < (n : Int) + i
theorem lt_step {n l : Nat} {t : Tr} {lab : List Nat} {rs : List (Int × Int)} {r : Int × Int} (nd : t.els.Nodup) (hV : ∀ r ∈ t.els, Val n r) (h : Lt n rs) (j : J n t (lab ++ [l]) (rs ++ [r])) : Lt n (rs ++ [r]) := fun i x y hi => by
  have len := j.len
  rw [List.length_append, List.length_append] at len
  have len : rs.length = lab.length := by simpa using len
  by_cases hlt : i < rs.length
  · rw [List.getElem?_append_left hlt] at hi
    exact h i x y hi
  · have e : i = rs.length := by
      have := (List.getElem?_eq_some_iff.mp hi).1
      rw [List.length_append] at this
      simp at this
      omega
    subst e
    obtain ⟨q, q1, q2, q3, q4, q5⟩ := j.row _ x y hi
    have el : q.1 = l := by
      rw [len, List.getElem?_append_right (Nat.le_refl _), Nat.sub_self] at q2
      exact (Option.some.inj q2).symm
    obtain ⟨k1, k2⟩ := kid_ne nd q1
    obtain ⟨_, m2, m3⟩ := kid_mem q1
    have bd : ∀ r ∈ t.els, r ≠ .inr l → okE (lab ++ [l]) r = true → plE (plL n (lab ++ [l])) r < (n : Int) + rs.length := fun r hr ne ho => by
      cases r with
      | inl i => have : i < n := hV _ hr; show ((i : Nat) : Int) < _; omega
      | inr m =>
        have hm : m ∈ lab := by
          rw [okE_inr] at ho
          have := of_decide_eq_true ho
          rcases List.mem_append.mp this with z | z
          · exact z
          · exact absurd (by rw [List.mem_singleton.mp z]) ne
        rw [plE_snoc (show okE lab (.inr m) = true from decide_eq_true hm)]
        have := List.idxOf_lt_length_iff.mpr hm
        show ((n + lab.idxOf m : Nat) : Int) < _
        omega
    have b1 := bd _ (sub_els m2) (el ▸ k1) q3
    have b2 := bd _ (sub_els m3) (el ▸ k2) q4
    rcases q5 with ⟨f1, f2⟩ | ⟨f1, f2⟩
    · rw [f1, f2]; exact ⟨b1, b2⟩
    · rw [f1, f2]; exact ⟨b2, b1⟩
theorem prog_loop {n P R N : Nat} {t : Tr} {a2 : Option D} {S0 : List O} (nd : t.els.Nodup) (hV : ∀ r ∈ t.els, Val n r) (hk : (kid3 t).length < 100) (hn : n ≤ 12) (P0 : P ≠ 0) (R0 : R ≠ 0) (PR : P ≠ R) :
    ∀ (fuel : Nat) (lab : List Nat) (rs : List (Int × Int)) (S : List O) (m : Nat) (a6 a7 a8 a9 : Option D), (ws t lab).length < fuel → rs.length + fuel < 100 → J n t lab rs → Lt n rs → S[P]? = some (.lst (plcs n lab)) → S[R]? = some (.lst (rs.map rowD)) → Fd S m → m + 2 * fuel < 10000000 → S.length = N → (∀ i, i ≠ 0 → i ≠ P → i ≠ R → S[i]? = S0[i]?) →
      ∃ lab' rs' b6 b7 b8 b9 S', loopW (mTB (mBin gNe (mVar 3) (mLst mNil))) pBody fuel [some (.ref 0), some (.int n), a2, some (.lst ((ws t lab).map (trip n))), some (.ref P), some (.ref R), a6, a7, a8, a9] S =
        .nx [some (.ref 0), some (.int n), a2, some (.lst []), some (.ref P), some (.ref R), b6, b7, b8, b9] S' ∧ ws t lab' = [] ∧ (J n t lab' rs' ∧ Lt n rs') ∧ S'[R]? = some (.lst (rs'.map rowD)) ∧ Fd S' (m + 2 * fuel) ∧ S'.length = N ∧ ∀ i, i ≠ 0 → i ≠ P → i ≠ R → S'[i]? = S0[i]?
  | 0, lab, rs, S, m, a6, a7, a8, a9, h, _, _, _, _, _, _, _, _, _ => by omega
  | fuel + 1, lab, rs, S, m, a6, a7, a8, a9, h, h2, j, lt, hP, hR, F, hm, hN, hS => by
    have test : mTB (mBin gNe (mVar 3) (mLst mNil)) [some (.ref 0), some (.int n), a2, some (.lst ((ws t lab).map (trip n))), some (.ref P), some (.ref R), a6, a7, a8, a9] S = .ok (!(ws t lab).isEmpty) S :=
      v_tb (v_bin (v_var rfl) (v_lst v_nil (show 0 ≤ 16777216 by decide)) (ne_nil _))
    by_cases hw : ws t lab = []
    · refine ⟨lab, rs, a6, a7, a8, a9, S, ?_, hw, ⟨j, lt⟩, hR, F.mono (by omega), hN, hS⟩
      rw [loopW, test, hw]
      rfl
    · obtain ⟨q, r, a6', a7', a8', a9', S', hq, hr, j', hP', hR', F', hl', hs'⟩ := prog_turn (a2 := a2) (a6 := a6) (a7 := a7) (a8 := a8) (a9 := a9) nd hV hk j hw hn hP hR P0 R0 PR F (by omega) (by omega)
      have dec : (ws t (lab ++ [q.1])).length < (ws t lab).length := by
        rw [ws_snoc]
        refine Nat.lt_of_le_of_ne (List.length_filter_le _ _) fun z => ?_
        have := List.length_filter_eq_length_iff.mp z q hq
        simp at this
      obtain ⟨lab', rs', b6, b7, b8, b9, T, k1, k2, k3, k4, k5, k6, k7⟩ := prog_loop (a2 := a2) (S0 := S0) nd hV hk hn P0 R0 PR fuel (lab ++ [q.1]) (rs ++ [r]) S' (m + 2) a6' a7' a8' a9' (by omega) (by rw [List.length_append]; simp; omega) j' (lt_step nd hV lt j') hP' hR' F' (by omega) (hl'.trans hN) fun i i0 iP iR => (hs' i i0 iP iR).trans (hS i i0 iP iR)
      refine ⟨lab', rs', b6, b7, b8, b9, T, ?_, k2, k3, k4, k5.mono (by omega), k6, k7⟩
      have he : (ws t lab).isEmpty = false := by cases hh : ws t lab with | nil => exact absurd hh hw | cons a l => rfl
      exact (w_while (test.trans (by rw [he]; rfl)) hr).trans k1
theorem lab_kid : ∀ {t : Tr} {l : Nat}, .inr l ∈ t.els → ∃ q ∈ kid3 t, q.1 = l
  | .lf i, l, h => by simp [Tr.els] at h
  | .nd m a b, l, h => by
    simp [Tr.els] at h
    rcases h with h | h | h
    · exact ⟨(m, a.root, b.root), by simp [kid3], h.symm⟩
    · obtain ⟨q, h1, h2⟩ := lab_kid h; exact ⟨q, by simp [kid3, h1], h2⟩
    · obtain ⟨q, h1, h2⟩ := lab_kid h; exact ⟨q, by simp [kid3, h1], h2⟩
theorem idx_at {lab : List Nat} (nd : lab.Nodup) {j l : Nat} (h : lab[j]? = some l) : lab.idxOf l = j := by
  obtain ⟨hj, e⟩ := List.getElem?_eq_some_iff.mp h
  have hm : l ∈ lab := e ▸ List.getElem_mem hj
  have hi : lab.idxOf l < lab.length := List.idxOf_lt_length_iff.mpr hm
  have e2 : lab[lab.idxOf l] = l := List.getElem_idxOf hi
  exact (List.getElem_inj nd).mp (e2.trans e.symm)
theorem prog_of {n : Nat} {c : Nat → Nat} {lab : List Nat} {rs : List (Int × Int)} (hc : CodesOk c n) (h1 : 1 ≤ n) (j : J n (bt c (n - 1)) lab rs) (hw : ws (bt c (n - 1)) lab = []) : ProgOk (plL n lab) n (bt c (n - 1)) rs ∧ rs.length = n - 1 := by
  obtain ⟨e1, e2, e3⟩ := bt_els hc (n - 1) (by omega)
  have all : ∀ q ∈ kid3 (bt c (n - 1)), q.1 ∈ lab := fun q hq => by
    by_cases h : q.1 ∈ lab
    · exact h
    · have : q ∈ ws (bt c (n - 1)) lab := List.mem_filter.mpr ⟨hq, decide_eq_true h⟩
      rw [hw] at this
      cases this
  have mem : ∀ l, l ∈ lab ↔ (1 ≤ l ∧ l ≤ n - 1) := fun l => by
    constructor
    · intro h
      obtain ⟨i, hi⟩ := List.mem_iff_getElem?.mp h
      have hlt : i < rs.length := by rw [j.len]; exact (List.getElem?_eq_some_iff.mp hi).1
      obtain ⟨q, q1, q2, _⟩ := j.row i rs[i].1 rs[i].2 (List.getElem?_eq_getElem hlt)
      rw [hi] at q2
      rw [Option.some.inj q2]
      exact (e3 _).mp (kid_mem q1).1
    · intro h
      obtain ⟨q, q1, q2⟩ := lab_kid ((e3 l).mpr h)
      rw [← q2]
      exact all q q1
  have inj : ∀ l m, l ∈ lab → m ∈ lab → lab.idxOf l = lab.idxOf m → l = m := fun l m hl hm e => by
    have a := List.getElem_idxOf (List.idxOf_lt_length_iff.mpr hl)
    have b := List.getElem_idxOf (List.idxOf_lt_length_iff.mpr hm)
    rw [← a, ← b]
    congr 1
  refine ⟨⟨⟨fun l _ _ => by unfold plL; omega, fun l m l1 l2 m1 m2 e => inj l m ((mem l).mpr (by omega)) ((mem m).mpr (by omega)) (by unfold plL at e; omega)⟩, fun q hq => ?_, fun i x y hi => ?_⟩, ?_⟩
  · have hl := all q hq
    have hi : lab.idxOf q.1 < lab.length := List.idxOf_lt_length_iff.mpr hl
    have hlt : lab.idxOf q.1 < rs.length := by rw [j.len]; exact hi
    obtain ⟨q', q1, q2, q3, q4, q5⟩ := j.row (lab.idxOf q.1) rs[lab.idxOf q.1].1 rs[lab.idxOf q.1].2 (List.getElem?_eq_getElem hlt)
    have e : q'.1 = q.1 := by
      rw [List.getElem?_eq_getElem hi, List.getElem_idxOf] at q2
      exact (Option.some.inj q2).symm
    have := kid_lab e1 q1 hq e
    subst this
    exact ⟨lab.idxOf q'.1, _, _, by unfold plL; omega, List.getElem?_eq_getElem hlt, q5⟩
  · obtain ⟨q, q1, q2, _⟩ := j.row i x y hi
    refine ⟨q, q1, ?_⟩
    unfold plL
    rw [idx_at j.nd q2]
    omega
  · rw [j.len]
    have : lab.Perm (List.range' 1 (n - 1)) := (List.perm_ext_iff_of_nodup j.nd List.nodup_range').mpr fun l => by
      rw [mem, List.mem_range'_1]
      omega
    rw [this.length_eq, List.length_range']
end K64

namespace Mo
open PySem PySem.Spec L2 PyProof.Rows
theorem v_listR {f : List D → Option (List D)} {m : MA} {e : Mo.Env} {S S1 : List O} {l r : List D} (h1 : m e S = .ok l S1) (h2 : f l = some r) (h3 : r.length ≤ sz) : mListR f m e S = .ok (.lst r) S1 := by
  unfold mListR
  rw [h1]
  show (match f l with | some r => if r.length ≤ sz then R.ok (D.lst r) S1 else .bad | none => .bad) = _
  rw [h2]
  show (if r.length ≤ sz then R.ok (D.lst r) S1 else .bad) = _
  rw [if_pos h3]
theorem x_tupR {S : List O} {j : Nat} {l : List D} (h : S[j]? = some (.lst l)) : gTuple S [.ref j] = some (.tup l) := by
  show (match seqR S (.ref j) with | some l => some (D.tup l) | none => none) = _
  rw [show seqR S (.ref j) = some l by unfold seqR; simp only [h]]
theorem w_unp {t : Tg} {m : ME} {e e' : Mo.Env} {S S1 : List O} {d : D} (h1 : m e S = .ok d S1) (h2 : t.f d e = some e') : sUnp t m e S = .nx e' S1 := by
  unfold sUnp
  rw [h1]
  show (match t.f d e with | some e' => RS.nx e' S1 | none => .bad) = _
  rw [h2]
theorem v_callP {f : List D → List O → R D} {m : MA} {e : Mo.Env} {S S1 S2 : List O} {l : List D} {d : D} (h1 : m e S = .ok l S1) (h2 : D.los 0 l = true) (h3 : f l [] = .ok d S2) (h4 : D.lo 0 d = true) : mCallP f m e S = .ok d S1 := by
  unfold mCallP
  rw [h1]
  show (if D.los 0 l = true then pureR (f l []) S1 else .bad) = _
  rw [if_pos h2, h3]
  show (if D.lo 0 d = true then R.ok d S1 else .bad) = _
  rw [if_pos h4]
theorem v_callKP1 {f : List D → List O → R D} {m : MA} {e : Mo.Env} {S S1 S2 : List O} {a d : D} (h1 : m e S = .ok [a] S1) (h2 : D.lo 0 a = true) (h3 : f [a] [] = .ok d S2) (h4 : D.lo 0 d = true) : mCallKP 0 1 [0] f mNil m e S = .ok d S1 := by
  unfold mCallKP
  show (m e S).bind _ = _
  rw [h1]
  show (if ([] : List D).length = 0 ∧ [a].length = 1 ∧ D.los 0 (permL [0] ([] ++ [a])) = true then pureR (f (permL [0] ([] ++ [a])) []) S1 else .bad) = _
  rw [if_pos ⟨rfl, rfl, by show D.los 0 [a] = true; simp [D.los, h2]⟩]
  show pureR (f [a] []) S1 = _
  rw [h3]
  show (if D.lo 0 d = true then R.ok d S1 else .bad) = _
  rw [if_pos h4]
theorem v_reprNe {ma mb : ME} {e : Mo.Env} {S S1 S2 : List O} {a : D} (h1 : ma e S = .ok a S1) (h2 : okRepr S1 a = true) (h3 : mb e S1 = .ok a S2) (h4 : offS a = true) : mReprEq gNe ma mb e S = .ok (.bl false) S2 := by
  unfold mReprEq
  rw [h1]
  show (if okRepr S1 a = true then (mb e S1).bind _ else _) = _
  rw [if_pos h2, h3]
  show (if offS a = true ∧ a = a then R.ofO S2 (gNe S2 (.int 0) (.int 0)) else _) = _
  rw [if_pos ⟨h4, rfl⟩]
  rfl
theorem lg {i : Int} (h : i.natAbs < 10 ^ 20) : i.natAbs.log2 < 1920 := by
  by_cases z : i.natAbs = 0
  · rw [z]; decide
  · exact (Nat.log2_lt z).mpr (Nat.lt_of_lt_of_le h (by decide +kernel))
theorem lenI {i : Int} (h : i.natAbs < 10 ^ 20) : lenB (.int i) ≤ 1921 := by
  rw [lenB]
  exact int_text_len_1921 (lg h)
end Mo
namespace K64
open PySem PySem.Spec L2 PyProof.Rows Mo
theorem rows_lo (k : Nat) : ∀ rs : List (Int × Int), D.los k (rs.map rowD) = true
  | [] => rfl
  | p :: rs => by
    rw [List.map_cons, D.los, rows_lo k rs]
    rfl
theorem prog_lo (k n : Nat) (rs : List (Int × Int)) (out : Int) : D.lo k (progD n rs out) = true := by
  unfold progD
  simp [D.lo, D.los, rows_lo]
theorem plcs_nil (n : Nat) : plcs n [] = rangeD 0 1 n ++ List.replicate n (.int (-1)) := by
  unfold plcs rangeD
  congr 1
  · apply List.map_congr_left
    intro i _
    congr 1
    omega
  · have : ∀ l : Nat, D.int (pv n [] (.inr l)) = .int (-1) := fun l => by rw [pv_out (by simp)]
    rw [List.map_congr_left (g := fun _ => D.int (-1)) fun l _ => this l, List.map_const', List.length_range]
theorem kids_few {c : Nat → Nat} {n : Nat} (hc : CodesOk c n) (h1 : 1 ≤ n) (hn : n ≤ 12) : (bt c (n - 1)).els.length < 50 := by
  obtain ⟨e1, e2, e3⟩ := bt_els hc (n - 1) (by omega)
  have : (bt c (n - 1)).els.Perm ((List.range n).map Sum.inl ++ (List.range' 1 (n - 1)).map Sum.inr) := by
    refine (List.perm_ext_iff_of_nodup e1 ?_).mpr fun x => ?_
    · rw [List.nodup_append]
      refine ⟨?_, ?_, fun a ha b hb => ?_⟩
      · exact List.pairwise_map.mpr (List.Pairwise.imp (fun h z => h (Sum.inl.inj z)) List.nodup_range)
      · exact List.pairwise_map.mpr (List.Pairwise.imp (fun h z => h (Sum.inr.inj z)) List.nodup_range')
      · obtain ⟨_, _, rfl⟩ := List.mem_map.mp ha
        obtain ⟨_, _, rfl⟩ := List.mem_map.mp hb
        intro z
        cases z
    · cases x with
      | inl i => rw [e2]; simp; omega
      | inr l => rw [e3]; simp; omega
  rw [this.length_eq]
  simp
  omega
theorem kid3_nd : ∀ {t : Tr}, t.els.Nodup → (kid3 t).Nodup
  | .lf i, _ => List.nodup_nil
  | .nd l a b, nd => by
    obtain ⟨n1, n2, n3, n4⟩ := els_nd nd
    rw [kid3, List.nodup_append, List.nodup_append]
    refine ⟨⟨kid3_nd n1, kid3_nd n2, fun q hq q' hq' z => n3 _ (kid_mem hq).1 _ (kid_mem hq').1 (by rw [z])⟩, by simp, fun q hq q' hq' z => ?_⟩
    have e : q' = (l, a.root, b.root) := by simpa using hq'
    rcases List.mem_append.mp hq with h | h
    · exact n4 _ (List.mem_append_left _ (kid_mem h).1) (by rw [z, e])
    · exact n4 _ (List.mem_append_right _ (kid_mem h).1) (by rw [z, e])
theorem program_fd {c : Nat → Nat} {n m : Nat} {S : List O} (hc : CodesOk c n) (h1 : 1 ≤ n) (hn : n ≤ 12) (F : Fd S m) (hm : m < 1000000) :
    ∃ rs lab S', m__law_program [.ref 0, .int n, enc (bt c (n - 1))] S = .ok (progD n rs ((n : Int) + rs.length - 1)) S' ∧ ProgOk (plL n lab) n (bt c (n - 1)) rs ∧ rs.length = n - 1 ∧ (∀ p ∈ rs, (0 ≤ p.1 ∧ p.1 < 24) ∧ (0 ≤ p.2 ∧ p.2 < 24)) ∧ Fd S' (m + 28) ∧ Ag S S' ∧ J n (bt c (n - 1)) lab rs ∧ Lt n rs ∧ ws (bt c (n - 1)) lab = [] := by
  obtain ⟨e1, e2, e3⟩ := bt_els hc (n - 1) (by omega)
  have few := kids_few hc h1 hn
  have k3 := kid3_len (bt c (n - 1))
  have p0 := F.pos
  have hV : ∀ r ∈ (bt c (n - 1)).els, Val n r := fun r hr => by
    cases r with
    | inl i => have := (e2 i).mp hr; show i < n; omega
    | inr l => have := (e3 l).mp hr; show l < n; omega
  let P := S.length
  let S1 : List O := (S ++ [.lst (plcs n [])]) ++ [.lst []]
  have hS1 : ∀ i, i ≠ 0 → i ≠ P → i ≠ P + 1 → S1[i]? = S[i]? := fun i i0 iP iR => by
    by_cases h : i < S.length
    · rw [List.getElem?_append_left (by simp; omega), List.getElem?_append_left h]
    · have : P = S.length := rfl
      rw [List.getElem?_eq_none (by simp [S1]; omega), List.getElem?_eq_none (by omega)]
  have hw0 : ws (bt c (n - 1)) [] = kid3 (bt c (n - 1)) := by unfold ws; simp
  have j0 : J n (bt c (n - 1)) [] [] := ⟨List.nodup_nil, rfl, fun j x y h => by simp at h⟩
  have F1 : Fd S1 m := F.of_get (by rw [List.getElem?_append_left (by simp), List.getElem?_append_left p0])
  have pos : (kid3 (bt c (n - 1))).length < 14 := by
    have lab : ((kid3 (bt c (n - 1))).map (·.1)).Nodup := by
      refine List.pairwise_map.mpr ?_
      have : (kid3 (bt c (n - 1))).Nodup := kid3_nd e1
      exact List.Pairwise.imp_of_mem (fun {x y} hx hy ne z => ne (kid_lab e1 hx hy z)) this
    have pe : ((kid3 (bt c (n - 1))).map (·.1)).Perm (List.range' 1 (n - 1)) := (List.perm_ext_iff_of_nodup lab List.nodup_range').mpr fun l => by
      rw [List.mem_range'_1]
      constructor
      · intro hl
        obtain ⟨q, hq, rfl⟩ := List.mem_map.mp hl
        have := (e3 _).mp (kid_mem hq).1
        omega
      · intro hl
        obtain ⟨q, q1, q2⟩ := lab_kid ((e3 l).mpr (by omega))
        exact List.mem_map.mpr ⟨q, q1, q2⟩
    have := pe.length_eq
    simp at this
    omega
  obtain ⟨lab, rs, b6, b7, b8, b9, S', hl, hw, ⟨j, lt⟩, hR, F', hN, hS'⟩ := prog_loop (P := P) (R := P + 1) (N := S1.length) (a2 := some (enc (bt c (n - 1)))) (S0 := S) e1 hV (by omega) hn (by show S.length ≠ 0; omega) (by omega) (by omega) 14 [] [] S1 m none none none none (by rw [hw0]; exact pos) (by decide) j0 (fun i x y h => by simp at h)
    (by rw [List.getElem?_append_left (by simp [P]), List.getElem?_append_right (Nat.le_refl _), Nat.sub_self]; rfl) (by rw [List.getElem?_append_right (by simp [P]), List.length_append]; simp [P]) F1 (by omega) rfl hS1
  obtain ⟨pk, hlen⟩ := prog_of hc h1 j hw
  rw [hw0] at hl
  have hSl : S.length ≤ S'.length := by rw [hN]; simp [S1]
  have hS2 : ∀ i, i < S.length → i ≠ 0 → S'[i]? = S[i]? := fun i hi i0 => hS' i i0 (by show i ≠ S.length; omega) (by show i ≠ S.length + 1; omega)
  refine ⟨rs, lab, S'.take S.length, nb_ok ?_, pk, hlen, fun p hp => ?_, F'.of_get (by rw [List.getElem?_take_of_lt p0]), ag_take hSl hS2, j, lt, hw⟩
  · refine (fn_rt (S' := S') (d := progD n rs ((n : Int) + rs.length - 1)) rfl ?_).trans ?_
    · refine w_seq (w_unp (v_tup (v_cons (v_call (v_cons (v_var rfl) (v_cons (v_var rfl) v_nil)) (nodes_ok 14 (bt c (n - 1)) (by have := dep_bt (c := c) (n - 1); omega) (by omega))) (v_cons (v_binN (l := plcs n []) (v_listR (v_cons (v_var rfl) v_nil) (range1_at (by omega)) (Nat.le_trans (Nat.le_of_eq (range_len 0 1 n)) (Nat.le_trans hn (show 12 ≤ 16777216 by decide)))) (v_bin (d := .lst (List.replicate n (.int (-1)))) (v_lst (v_cons (v_un v_C rfl) v_nil) (show 1 ≤ 16777216 by decide)) (v_var rfl) ?_) ?_) (v_cons (v_new v_nil (show 0 ≤ 16777216 by decide)) v_nil))) (show 3 ≤ 16777216 by decide)) rfl) ?_
      · show (if 1 * (n : Int).toNat ≤ sz ∧ (n : Int).natAbs < 9223372036854775808 then some (D.lst (List.replicate (n : Int).toNat [D.int (-1)]).flatten) else none) = _
        rw [if_pos ⟨by show 1 * n ≤ 16777216; omega, by omega⟩, rep_flat]
        rfl
      · show (if (rangeD 0 1 n).length + (List.replicate n (D.int (-1))).length ≤ sz then some (rangeD 0 1 n ++ List.replicate n (.int (-1))) else none) = _
        rw [if_pos (by rw [range_len, List.length_replicate]; show n + n ≤ 16777216; omega), plcs_nil]
      · rw [show (S ++ [O.lst (plcs n [])]).length = P + 1 by simp [P]]
        refine w_seq hl ?_
        refine w_ret (v_tup (v_cons (v_var rfl) (v_cons (v_cb (v_cons (v_var rfl) v_nil) (x_tupR hR)) (v_cons (v_tup (v_cons (v_bin (v_bin (v_var rfl) (v_cb (v_cons (v_var rfl) v_nil) (x_len hR)) x_addI) v_C x_subI) v_nil) (show 1 ≤ 16777216 by decide)) v_nil))) (show 3 ≤ 16777216 by decide)) |>.trans ?_
        rw [List.length_map]
        rfl
    · rw [prog_lo, trim_back hSl hS2 F']
  · obtain ⟨i, hi⟩ := List.mem_iff_getElem?.mp hp
    obtain ⟨q, q1, q2, q3, q4, q5⟩ := j.row i p.1 p.2 hi
    have bd : ∀ r ∈ (bt c (n - 1)).els, okE lab r = true → 0 ≤ plE (plL n lab) r ∧ plE (plL n lab) r < 24 := fun r hr ho => by
      cases r with
      | inl i => have := (e2 i).mp hr; show 0 ≤ ((i : Nat) : Int) ∧ ((i : Nat) : Int) < 24; omega
      | inr l =>
        rw [okE_inr] at ho
        have := List.idxOf_lt_length_iff.mpr (of_decide_eq_true ho)
        have := j.len
        show 0 ≤ ((n + lab.idxOf l : Nat) : Int) ∧ ((n + lab.idxOf l : Nat) : Int) < 24
        omega
    obtain ⟨_, m2, m3⟩ := kid_mem q1
    have g2 := bd _ (sub_els m2) q3
    have g3 := bd _ (sub_els m3) q4
    rcases q5 with ⟨f1, f2⟩ | ⟨f1, f2⟩
    · rw [f1, f2]; exact ⟨g2, g3⟩
    · rw [f1, f2]; exact ⟨g3, g2⟩
end K64

namespace K64
open PySem PySem.Spec L2 PyProof.Rows Mo
theorem num_bound {c : Nat → Nat} {n : Nat} (hc : CodesOk c n) : ∀ k, k < n → k ≤ 11 → 0 ≤ num c k ∧ num c k < (24 : Int) ^ k
  | 0, _, _ => ⟨Int.le_refl _, by show (0 : Int) < 1; decide⟩
  | k + 1, h, h2 => by
    obtain ⟨a, b⟩ := num_bound hc k (by omega) (by omega)
    have ck := hc (k + 1) (by omega) h
    rw [num]
    have hb : (2 * ((k + 1 : Nat) : Int) - 1) ≤ 24 := by omega
    have hb0 : 0 ≤ (2 * ((k + 1 : Nat) : Int) - 1) := by omega
    have h1 : 0 ≤ num c k * (2 * ((k + 1 : Nat) : Int) - 1) := Int.mul_nonneg a hb0
    refine ⟨by omega, ?_⟩
    have h3 : (num c k + 1) * (2 * ((k + 1 : Nat) : Int) - 1) ≤ (24 : Int) ^ k * 24 := Int.mul_le_mul (by omega) hb hb0 (Int.le_trans a (Int.le_of_lt b))
    have h4 : (num c k + 1) * (2 * ((k + 1 : Nat) : Int) - 1) = num c k * (2 * ((k + 1 : Nat) : Int) - 1) + (2 * ((k + 1 : Nat) : Int) - 1) := by rw [Int.add_mul, Int.one_mul]
    rw [Int.pow_succ]
    omega
theorem num_small {c : Nat → Nat} {n k : Nat} (hc : CodesOk c n) (h : k < n) (h2 : k ≤ 11) : (num c k).natAbs < 10 ^ 20 := by
  obtain ⟨a, b⟩ := num_bound hc k h h2
  have : (24 : Int) ^ k ≤ 24 ^ 11 := by
    have : k = 0 ∨ k = 1 ∨ k = 2 ∨ k = 3 ∨ k = 4 ∨ k = 5 ∨ k = 6 ∨ k = 7 ∨ k = 8 ∨ k = 9 ∨ k = 10 ∨ k = 11 := by omega
    rcases this with rfl | rfl | rfl | rfl | rfl | rfl | rfl | rfl | rfl | rfl | rfl | rfl <;> decide
  have e : (24 : Int) ^ 11 = 1521681143169024 := by decide
  rw [e] at this
  omega
theorem lst_repr {v : Int} (h : v.natAbs < 10 ^ 20) (S : List O) : okRepr S (.lst [.int v, .int v]) = true := by
  have l := lenI h
  rw [lenB] at l
  show ((PyData.list [.int v, .int v]).showable && !(PyData.list [.int v, .int v]).hasDict && decide ((PyData.list [.int v, .int v]).depth ≤ 64) && decide (lenB (.list [.int v, .int v]) ≤ sz)) = true
  have e1 : (PyData.list [.int v, .int v]).showable = true := by
    simp only [PyData.showable, PyData.showableAll, decide_eq_true (lg h), Bool.and_self]
  have e2 : (PyData.list [.int v, .int v]).hasDict = false := rfl
  have e3 : (PyData.list [.int v, .int v]).depth ≤ 64 := by show 1 ≤ 64; decide
  have e4 : lenB (.list [.int v, .int v]) ≤ sz := by
    rw [lenB]
    show ((((("[" : Str) ++ ("" : Str) ++ ((toString v : String) : Str)) ++ (", " : Str) ++ ((toString v : String) : Str))) ++ ("]" : Str)).length ≤ sz
    simp only [strLen_append]
    have q1 : ("[" : Str).length = 1 := by decide +kernel
    have q2 : ("" : Str).length = 0 := by decide +kernel
    have q3 : (", " : Str).length = 2 := by decide +kernel
    have q4 : ("]" : Str).length = 1 := by decide +kernel
    rw [q1, q2, q3, q4]
    show _ ≤ 16777216
    omega
  rw [e1, e2, decide_eq_true e3, decide_eq_true e4]
  rfl
def rowPy (p : Int × Int) : PyData := .tuple [.str "round", .tuple [.tuple [.int 1, .tuple [.int p.1]], .tuple [.int 1, .tuple [.int p.2]]]]
theorem rows_py : ∀ rs : List (Int × Int), (∀ p ∈ rs, (0 ≤ p.1 ∧ p.1 < 24) ∧ (0 ≤ p.2 ∧ p.2 < 24)) → toPys (rs.map rowD) = some (rs.map rowPy) ∧ PyData.showableAll (rs.map rowPy) = true ∧ PyData.hasDictAll (rs.map rowPy) = false ∧ PyData.depthAll (rs.map rowPy) ≤ 4 ∧ lenBs (rs.map rowPy) ≤ 10000 * rs.length
  | [], _ => ⟨rfl, rfl, rfl, Nat.zero_le _, Nat.zero_le _⟩
  | p :: rs, h => by
    obtain ⟨h1, h2, h3, h4, h5⟩ := rows_py rs fun q hq => h q (List.mem_cons_of_mem _ hq)
    obtain ⟨⟨a1, a2⟩, b1, b2⟩ := h p List.mem_cons_self
    have g1 := lenI (i := p.1) (Nat.lt_of_lt_of_le (show p.1.natAbs < 24 by omega) (by decide))
    have g2 := lenI (i := p.2) (Nat.lt_of_lt_of_le (show p.2.natAbs < 24 by omega) (by decide))
    have s1 := lg (i := p.1) (Nat.lt_of_lt_of_le (show p.1.natAbs < 24 by omega) (by decide))
    have s2 := lg (i := p.2) (Nat.lt_of_lt_of_le (show p.2.natAbs < 24 by omega) (by decide))
    refine ⟨?_, ?_, ?_, ?_, ?_⟩
    · rw [List.map_cons, toPys, h1]; rfl
    · rw [List.map_cons, PyData.showableAll, h2]
      simp only [rowPy, PyData.showable, PyData.showableAll, decide_eq_true s1, decide_eq_true s2, Bool.and_true, Bool.true_and]
      decide
    · rw [List.map_cons, PyData.hasDictAll, h3]; rfl
    · rw [List.map_cons, PyData.depthAll]; exact Nat.max_le.mpr ⟨by show 4 ≤ 4; decide, h4⟩
    · rw [List.map_cons, lenBs, List.length_cons]
      have k1 : lenB (.str "round") ≤ 7 := by decide +kernel
      have k2 : lenB (.int 1) ≤ 1 := by decide +kernel
      simp only [rowPy, lenB, lenBs] at *
      omega
theorem prog_repr {n : Nat} {rs : List (Int × Int)} {out : Int} (hn : n ≤ 12) (hl : rs.length < 20) (ho : out.natAbs < 1000) (h : ∀ p ∈ rs, (0 ≤ p.1 ∧ p.1 < 24) ∧ (0 ≤ p.2 ∧ p.2 < 24)) :
    ∃ X, ∀ S, gRepr S [progD n rs out] = some (.str X) := by
  obtain ⟨h1, h2, h3, h4, h5⟩ := rows_py rs h
  let p : PyData := .tuple [.int n, .tuple (rs.map rowPy), .tuple [.int out]]
  have sn := lg (i := (n : Int)) (Nat.lt_of_lt_of_le (show (n : Int).natAbs < 24 by omega) (by decide))
  have so := lg (i := out) (Nat.lt_of_lt_of_le ho (by decide))
  have gn := lenI (i := (n : Int)) (Nat.lt_of_lt_of_le (show (n : Int).natAbs < 24 by omega) (by decide))
  have go := lenI (i := out) (Nat.lt_of_lt_of_le ho (by decide))
  refine ⟨p.shown, fun S => ?_⟩
  have e0 : toPyS S (progD n rs out) = some p := by
    show toPy (progD n rs out) = _
    unfold progD
    rw [toPy, toPys, toPys, toPys, toPys, toPy, toPy, toPy, h1, toPys, toPys, toPy]
  have e1 : p.showable = true := by
    simp only [p, PyData.showable, PyData.showableAll, decide_eq_true sn, decide_eq_true so, h2, Bool.and_self]
  have e2 : p.hasDict = false := by
    simp only [p, PyData.hasDict, PyData.hasDictAll, h3, Bool.or_self]
  have e3 : p.depth ≤ 64 := by
    simp only [p, PyData.depth, PyData.depthAll]
    omega
  have e4 : lenB p ≤ sz := by
    show _ ≤ 16777216
    simp only [p, lenB, lenBs] at *
    omega
  show (shownD S (progD n rs out)).map D.str = _
  unfold shownD
  rw [e0]
  show (if p.showable = true ∧ p.hasDict = false ∧ p.depth ≤ 64 ∧ lenB p ≤ sz then some p.shown else none).map D.str = _
  rw [if_pos ⟨e1, e2, e3, e4⟩]
  rfl
theorem ne_same {S : List O} {X : Str} : gNe S (.str X) (.str X) = some (.bl false) := by
  unfold gNe eqB scD
  simp
def lBody : MS := sSeq (sAsg 3 (mBin gAdd (mC (.int 1)) (mCall m__law_draw (mCons (mVar 1) (mCons (mC (.int 12)) mNil))))) (
  sSeq (sAsg 4 (mCall m__law_codes (mCons (mVar 1) (mCons (mVar 3) mNil)))) (
  sSeq (sAsg 5 (mCall m__law_program (mCons (mVar 1) (mCons (mVar 3) (mCons (mCall m__law_tree (mCons (mVar 4) mNil)) mNil))))) (
  sSeq (sPar 6 7 (mCons (mCB gRepr (mCons (mVar 5) mNil)) (mCons (mCall m__law_code (mCons (mVar 4) mNil)) mNil))) (
  sIf (mOr (mTB (mReprEq gNe (mLst (mCons (mCallP m_tree_number (mCons (mVar 5) mNil)) (mCons (mCallKP 0 1 [0] m_tree_number mNil (mCons (mVar 5) mNil)) mNil))) (mLst (mCons (mVar 7) (mCons (mVar 7) mNil))))) (mTB (mBin gNe (mCB gRepr (mCons (mVar 5) mNil)) (mVar 6)))) (
  sRet (mC (.bl false))) (
  sNil)))))
def Iv (i : Nat) (e : Mo.Env) (S : List O) : Prop := ∃ a0 a2 a3 a4 a5 a6 a7, e = [a0, some (.ref 0), a2, a3, a4, a5, a6, a7] ∧ Fd S (100 * i)
theorem turn (i : Nat) (hi : i < 8) (d : D) (e : Mo.Env) (S : List O) (h : Iv i e S) : ∃ e' e1 S1, (tgN 2).f d e = some e' ∧ lBody e' S = .nx e1 S1 ∧ Iv (i + 1) e1 S1 := by
  obtain ⟨a0, a2, a3, a4, a5, a6, a7, rfl, F⟩ := h
  obtain ⟨nn, S1, r1, n0, n1, F1, A1⟩ := draw_fd (many := 12) F (by omega) (by decide) (by decide)
  obtain ⟨n, rfl⟩ : ∃ n : Nat, nn = (n : Int) - 1 := ⟨(nn + 1).toNat, by omega⟩
  have h1 : 1 ≤ n := by omega
  have hn : n ≤ 12 := by omega
  obtain ⟨c, S2, r2, hc, g2, l2, s2, F2⟩ := codes_fd F1 (by omega) h1 hn
  have p1 := F1.pos
  obtain ⟨rs, lab, S3, r3, pk, hl, bd, F3, A3, _⟩ := program_fd hc h1 hn F2 (by omega)
  have g3 : S3[S1.length]? = some (.lst (codesD c (n - 1))) := (A3.2 _ (by omega)).trans g2
  obtain ⟨Sx, r4⟩ := number_ok pk hc h1 hn hl ((n : Int) + rs.length - 1)
  obtain ⟨X, hX⟩ := prog_repr (n := n) (rs := rs) (out := (n : Int) + rs.length - 1) hn (by omega) (by omega) bd
  have small := num_small hc (k := n - 1) (by omega) (by omega)
  refine ⟨_, [a0, some (.ref 0), some d, some (.int n), some (.ref S1.length), some (progD n rs ((n : Int) + rs.length - 1)), some (.str X), some (.int (num c (n - 1)))], S3, rfl, ?_, a0, some d, some (.int n), some (.ref S1.length), _, some (.str X), _, rfl, F3.mono (by omega)⟩
  refine w_seq (w_asg (d := .int (n : Int)) (v_bin v_C (v_call (v_cons (v_var rfl) (v_cons v_C v_nil)) r1) ?_)) ?_
  · rw [x_addI]; congr 2; omega
  refine w_seq (w_asg (v_call (v_cons (v_var rfl) (v_cons (v_var rfl) v_nil)) r2)) ?_
  refine w_seq (w_asg (v_call (v_cons (v_var rfl) (v_cons (v_var rfl) (v_cons (v_call (v_cons (v_var rfl) v_nil) (tree_ok (by omega) g2)) v_nil))) r3)) ?_
  refine w_seq (w_par (v_cons (v_cb (v_cons (v_var rfl) v_nil) (hX _)) (v_cons (v_call (v_cons (v_var rfl) v_nil) (code_ok (by omega) g3)) v_nil))) ?_
  have lo : D.los 0 [progD n rs ((n : Int) + rs.length - 1)] = true := by simp [D.los, prog_lo]
  refine w_ifF ((v_or (k := false) (v_tb (v_reprNe (a := .lst [.int (num c (n - 1)), .int (num c (n - 1))]) (v_lst (v_cons (v_callP (v_cons (v_var rfl) v_nil) lo r4 rfl) (v_cons (v_callKP1 (v_cons (v_var rfl) v_nil) (prog_lo 0 n rs _) r4 rfl) v_nil)) (show 2 ≤ 16777216 by decide)) (lst_repr small S3) (v_lst (v_cons (v_var rfl) (v_cons (v_var rfl) v_nil)) (show 2 ≤ 16777216 by decide)) rfl)) (if_neg (by simp))).trans ?_) rfl
  exact v_tb (v_bin (v_cb (v_cons (v_var rfl) v_nil) (hX _)) (v_var rfl) ne_same)
theorem law_true : ∀ ns : List Int, ns.length ≤ 63 → ∃ S, fnM 1 8 b_law [.kl (ns.map D.int)] [] = .ok (.bl true) S := by
  intro ns _
  obtain ⟨cs, hf, F⟩ := feed_call ns
  obtain ⟨e1, S1, hl, _⟩ := loop_inv (t := tgN 2) (b := lBody) (I := Iv) (n := 8) turn (i := 0) (l := rangeD 0 1 8) rfl (e := [some (.kl (ns.map .int)), some (.ref 0), none, none, none, none, none, none]) (S := [feedO 0 cs 0 0]) ⟨_, _, _, _, _, _, _, rfl, 0, cs, 0, 0, F, by decide⟩
  refine ⟨_, fn_rt (S' := S1) (d := .bl true) rfl ?_⟩
  refine w_seq (w_asg (v_call (v_cons (v_var rfl) v_nil) hf)) ?_
  refine w_seq (e1 := e1) (S1 := S1) ?_ (w_ret v_C)
  exact (w_for (l := rangeD 0 1 8) (S1 := [feedO 0 cs 0 0]) rfl).trans hl
end K64

namespace K65
open PySem PySem.Spec L2 PyProof.Rows Mo
def b__law_feed : MS :=
  sRet (mNew (mCons (mC (.int 0)) (mCons (mComp (miSeq (mSl (mVar 0) moN (moS (mC (.int 63))))) (tgN 1) mYes (mCB gAbs (mCons (mVar 1) mNil)) [1]) (mCons (mC (.int 0)) (mCons (mC (.int 0)) mNil)))))
abbrev m__law_feed : List D → List O → R D := nbF (fnM 1 2 b__law_feed)
def b__law_many : MS :=
  sSeq (sAsg 1 (mC (.int 1))) (
  sSeq (sFor (miRange rangeA2 (mCons (mC (.int 1)) (mCons (mVar 0) mNil))) (tgN 2) (
  sAsg 1 (mBin gMul (mVar 1) (mBin gSub (mBin gMul (mC (.int 2)) (mVar 2)) (mC (.int 1)))))) (
  sRet (mVar 1)))
abbrev m__law_many : List D → List O → R D := nbF (fnM 1 3 b__law_many)
def b__law_draw : MS :=
  sSeq (sSet (mBin gAdd (mBin gIx (mVar 0) (mC (.int 3))) (mC (.int 1))) (mVar 0) (mC (.int 3))) (
  sSeq (sIf (mTB (mBin gGt (mBin gIx (mVar 0) (mC (.int 0))) (mC (.int 0)))) (
  sSeq (sAsg 2 (mBin gMod (mCB gInt (mCons (mBin gIx (mVar 0) (mC (.int 0))) mNil)) (mVar 1))) (
  sSeq (sSet (mBin gDiv (mBin gIx (mVar 0) (mC (.int 0))) (mVar 1)) (mVar 0) (mC (.int 0))) (
  sRet (mVar 2)))) (
  sNil)) (
  sSeq (sAsg 3 (mBin gAdd (mBin gIx (mVar 0) (mC (.int 1))) (mBin gMul (mLst (mCons (mC (.int 7)) mNil)) (mCB gInt (mCons (mBin gEq (mBin gIx (mVar 0) (mC (.int 1))) (mLst mNil)) mNil))))) (
  sSeq (sAsg 4 (mBin gIx (mVar 3) (mBin gMod (mCB gInt (mCons (mBin gIx (mVar 0) (mC (.int 2))) mNil)) (mCB gLen (mCons (mVar 3) mNil))))) (
  sSeq (sSet (mBin gAdd (mBin gIx (mVar 0) (mC (.int 2))) (mC (.int 1))) (mVar 0) (mC (.int 2))) (
  sSeq (sIf (mAnd (mTB (mBin gGe (mVar 4) (mBin gPow (mC (.int 10)) (mC (.int 18))))) (mTB (mBin gLe (mBin gIx (mVar 0) (mC (.int 2))) (mCB gLen (mCons (mVar 3) mNil))))) (
  sSeq (sSet (mBin gDiv (mVar 4) (mVar 1)) (mVar 0) (mC (.int 0))) (
  sRet (mBin gMod (mCB gInt (mCons (mVar 4) mNil)) (mVar 1)))) (
  sNil)) (
  sSeq (sAsg 5 (mBin gMod (mCB gInt (mCons (mBin gPow (mBin gAdd (mBin gMod (mCB gInt (mCons (mVar 4) mNil)) (mC (.int 2147483629))) (mBin gMul (mC (.int 99991)) (mBin gIx (mVar 0) (mC (.int 3))))) (mC (.int 5))) mNil)) (mC (.int 2305843009213693951)))) (
  sSeq (sAsg 5 (mBin gMod (mCB gInt (mCons (mBin gPow (mBin gAdd (mBin gAdd (mVar 5) (mBin gMul (mC (.int 7)) (mBin gIx (mVar 0) (mC (.int 3))))) (mC (.int 1))) (mC (.int 3))) mNil)) (mC (.int 2305843009213693921)))) (
  sRet (mBin gMod (mCB gInt (mCons (mBin gDiv (mVar 5) (mC (.int 1024))) mNil)) (mVar 1))))))))))
abbrev m__law_draw : List D → List O → R D := nbF (fnM 2 6 b__law_draw)
def b__law_one : MS :=
  sRet (mBin gIx (mVar 1) (mCall m__law_draw (mCons (mVar 0) (mCons (mCB gLen (mCons (mVar 1) mNil)) mNil))))
abbrev m__law_one : List D → List O → R D := nbF (fnM 2 2 b__law_one)
def b__law_join : MS :=
  sRet (mBin gAdd (mBin gAdd (mC (.str "(")) (mMt isS gJoin (mC (.str ",")) (mCons (mCB gSorted (mCons (mLst (mCons (mVar 0) (mCons (mVar 1) mNil))) mNil)) mNil))) (mC (.str ")")))
abbrev m__law_join : List D → List O → R D := nbF (fnM 2 2 b__law_join)
def b__law_text : Nat → MS
  | 0 => fun _ _ => .bad
  | d + 1 => sSeq (sIf (mTB (mCB gIsi (mCons (mVar 0) (mCons (mC (.ty "int")) mNil)))) (
  sRet (mCB gStr (mCons (mVar 0) mNil))) (
  sNil)) (
  sRet (mCallP m__law_join (mCons (mCallP (nbF (fnM 1 1 (b__law_text d))) (mCons (mBin gIx (mVar 0) (mC (.int 1))) mNil)) (mCons (mCallP (nbF (fnM 1 1 (b__law_text d))) (mCons (mBin gIx (mVar 0) (mC (.int 2))) mNil)) mNil))))
abbrev m__law_text (d : Nat) : List D → List O → R D := nbF (fnM 1 1 (b__law_text d))
def b__law_put : Nat → MS
  | 0 => fun _ _ => .bad
  | d + 1 => sSeq (sAsg 3 (mIf (mTB (mCB gIsi (mCons (mVar 0) (mCons (mC (.ty "int")) mNil)))) (mVar 0) (mBin gAdd (mBin gSub (mVar 1) (mC (.int 1))) (mBin gIx (mVar 0) (mC (.int 0)))))) (
  sSeq (sIf (mTB (mBin gEq (mVar 3) (mVar 2))) (
  sRet (mTup (mCons (mVar 1) (mCons (mVar 0) (mCons (mVar 1) mNil))))) (
  sNil)) (
  sSeq (sIf (mTB (mCB gIsi (mCons (mVar 0) (mCons (mC (.ty "int")) mNil)))) (
  sRet (mVar 0)) (
  sNil)) (
  sRet (mTup (mCons (mBin gIx (mVar 0) (mC (.int 0))) (mCons (mCall (nbF (fnM 3 4 (b__law_put d))) (mCons (mBin gIx (mVar 0) (mC (.int 1))) (mCons (mVar 1) (mCons (mVar 2) mNil)))) (mCons (mCall (nbF (fnM 3 4 (b__law_put d))) (mCons (mBin gIx (mVar 0) (mC (.int 2))) (mCons (mVar 1) (mCons (mVar 2) mNil)))) mNil)))))))
abbrev m__law_put (d : Nat) : List D → List O → R D := nbF (fnM 3 4 (b__law_put d))
def b__law_tree : MS :=
  sSeq (sAsg 1 (mC (.int 0))) (
  sSeq (sFor (miRange rangeA1 (mCons (mCB gLen (mCons (mVar 0) mNil)) mNil)) (tgN 2) (
  sAsg 1 (mCall (m__law_put 14) (mCons (mVar 1) (mCons (mBin gAdd (mVar 2) (mC (.int 1))) (mCons (mBin gIx (mVar 0) (mVar 2)) mNil)))))) (
  sRet (mVar 1)))
abbrev m__law_tree : List D → List O → R D := nbF (fnM 1 3 b__law_tree)
def b__law_sides : MS :=
  sSeq (sIf (mOr (mNot (mTB (mCB gIsi (mCons (mVar 0) (mCons (mC (.ty "tuple")) mNil))))) (mOr (mTB (mBin gNe (mCB gLen (mCons (mVar 0) mNil)) (mC (.int 2)))) (mOr (mNot (mTB (mCB gIsi (mCons (mBin gIx (mVar 0) (mC (.int 1))) (mCons (mC (.ty "tuple")) mNil))))) (mTB (mBin gNe (mCB gLen (mCons (mBin gIx (mVar 0) (mC (.int 1))) mNil)) (mC (.int 2))))))) (
  sRet (mC .non)) (
  sNil)) (
  sSeq (sAsg 2 (mNew mNil)) (
  sSeq (sFor (miSeq (mBin gIx (mVar 0) (mC (.int 1)))) (tgN 3) (
  sSeq (sIf (mOr (mNot (mTB (mCB gIsi (mCons (mVar 3) (mCons (mC (.ty "tuple")) mNil))))) (mOr (mTB (mBin gNe (mCB gLen (mCons (mVar 3) mNil)) (mC (.int 2)))) (mOr (mNot (mTB (mCB gIsi (mCons (mBin gIx (mVar 3) (mC (.int 1))) (mCons (mC (.ty "tuple")) mNil))))) (mTB (mBin gNe (mCB gLen (mCons (mBin gIx (mVar 3) (mC (.int 1))) mNil)) (mC (.int 1))))))) (
  sRet (mC .non)) (
  sNil)) (
  sExpr (mMt isL gAppend (mVar 2) (mCons (mBin gIx (mBin gIx (mVar 3) (mC (.int 1))) (mC (.int 0))) mNil))))) (
  sSeq (sIf (mTB (mBin gNe (mComp (miSeq (mVar 2)) (tgN 4) (mOr (mNot (mTB (mCB gIsi (mCons (mVar 4) (mCons (mC (.ty "int")) mNil))))) (mTB (mCB gIsi (mCons (mVar 4) (mCons (mC (.ty "bool")) mNil))))) (mVar 4) [4]) (mLst mNil))) (
  sRet (mC .non)) (
  sNil)) (
  sSeq (sIf (mTB (mBin gNe (mComp (miSeq (mVar 2)) (tgN 4) (mOr (mTB (mBin gLt (mVar 4) (mC (.int 0)))) (mTB (mBin gGe (mVar 4) (mVar 1)))) (mVar 4) [4]) (mLst mNil))) (
  sRet (mC .non)) (
  sNil)) (
  sSeq (sAsg 5 (mTup (mCons (mC (.str "round")) (mCons (mTup (mCons (mTup (mCons (mC (.int 1)) (mCons (mTup (mCons (mBin gIx (mVar 2) (mC (.int 0))) mNil)) mNil))) (mCons (mTup (mCons (mC (.int 1)) (mCons (mTup (mCons (mBin gIx (mVar 2) (mC (.int 1))) mNil)) mNil))) mNil))) mNil)))) (
  sRet (mIf (mTB (mReprEq gEq (mVar 0) (mVar 5))) (mVar 2) (mC .non))))))))
abbrev m__law_sides : List D → List O → R D := nbF (fnM 2 6 b__law_sides)
def b__law_shape : MS :=
  sSeq (sIf (mOr (mNot (mTB (mCB gIsi (mCons (mVar 0) (mCons (mC (.ty "tuple")) mNil))))) (mOr (mTB (mBin gNe (mCB gLen (mCons (mVar 0) mNil)) (mC (.int 3)))) (mNot (mTB (mCB gIsi (mCons (mBin gIx (mVar 0) (mC (.int 1))) (mCons (mC (.ty "tuple")) mNil))))))) (
  sRet (mC (.str ""))) (
  sNil)) (
  sSeq (sIf (mOr (mTB (mReprEq gNe (mBin gIx (mVar 0) (mC (.int 0))) (mVar 1))) (mOr (mTB (mBin gNe (mCB gLen (mCons (mBin gIx (mVar 0) (mC (.int 1))) mNil)) (mBin gSub (mVar 1) (mC (.int 1))))) (mTB (mReprEq gNe (mBin gIx (mVar 0) (mC (.int 2))) (mTup (mCons (mBin gSub (mBin gMul (mC (.int 2)) (mVar 1)) (mC (.int 2))) mNil)))))) (
  sRet (mC (.str ""))) (
  sNil)) (
  sSeq (sPar 2 3 (mCons (mCompN (miRange rangeA1 (mCons (mVar 1) mNil)) (tgN 4) mYes (mCB gStr (mCons (mVar 4) mNil)) [4]) (mCons (mLst mNil) mNil))) (
  sSeq (sFor (miSeq (mBin gIx (mVar 0) (mC (.int 1)))) (tgN 5) (
  sSeq (sAsg 6 (mCall m__law_sides (mCons (mVar 5) (mCons (mCB gLen (mCons (mVar 2) mNil)) mNil)))) (
  sSeq (sIf (mTB (mBin gIsN (mVar 6) (mC .non))) (
  sRet (mC (.str ""))) (
  sNil)) (
  sSeq (sAsg 3 (mBin gAdd (mVar 3) (mVar 6))) (
  sExpr (mMt isL gAppend (mVar 2) (mCons (mCallP m__law_join (mCons (mBin gIx (mVar 2) (mBin gIx (mVar 6) (mC (.int 0)))) (mCons (mBin gIx (mVar 2) (mBin gIx (mVar 6) (mC (.int 1)))) mNil))) mNil))))))) (
  sRet (mIf (mTB (mBin gEq (mCB gSorted (mCons (mVar 3) mNil)) (mListR rangeA1 (mCons (mBin gSub (mBin gMul (mC (.int 2)) (mVar 1)) (mC (.int 2))) mNil)))) (mBin gIx (mVar 2) (mUn gNeg (mC (.int 1)))) (mC (.str "")))))))
abbrev m__law_shape : List D → List O → R D := nbF (fnM 2 7 b__law_shape)
def b_added : MS :=
  sRet (mTup (mCons (mC (.str "round")) (mCons (mTup (mCons (mTup (mCons (mC (.int 1)) (mCons (mTup (mCons (mVar 0) mNil)) mNil))) (mCons (mTup (mCons (mC (.int 1)) (mCons (mTup (mCons (mVar 1) mNil)) mNil))) mNil))) mNil)))
abbrev m_added : List D → List O → R D := nbF (fnM 2 2 b_added)
def b_put_row : MS :=
  sSeq (sExpr (mMt isL gAppend (mVar 0) (mCons (mCall m_added (mCons (mVar 2) (mCons (mVar 3) mNil))) mNil))) (
  sRet (mBin gSub (mBin gAdd (mVar 1) (mCB gLen (mCons (mVar 0) mNil))) (mC (.int 1))))
abbrev m_put_row : List D → List O → R D := nbF (fnM 4 4 b_put_row)
def b_put_left : MS :=
  sSeq (sAsg 3 (mBin gIx (mVar 2) (mC (.int 0)))) (
  sSeq (sFor (miSeq (mSl (mVar 2) (moS (mC (.int 1))) moN)) (tgN 4) (
  sAsg 3 (mCall m_put_row (mCons (mVar 0) (mCons (mVar 1) (mCons (mVar 3) (mCons (mVar 4) mNil))))))) (
  sRet (mVar 3)))
abbrev m_put_left : List D → List O → R D := nbF (fnM 3 5 b_put_left)
def b_left_tree : MS :=
  sSeq (sAsg 1 (mNew mNil)) (
  sSeq (sAsg 2 (mCall m_put_left (mCons (mVar 1) (mCons (mVar 0) (mCons (mListR rangeA1 (mCons (mVar 0) mNil)) mNil))))) (
  sRet (mTup (mCons (mVar 0) (mCons (mCB gTuple (mCons (mVar 1) mNil)) (mCons (mTup (mCons (mVar 2) mNil)) mNil))))))
abbrev m_left_tree : List D → List O → R D := nbF (fnM 1 3 b_left_tree)
def b_put_pairs : MS :=
  sSeq (loopW (mTB (mBin gGt (mCB gLen (mCons (mVar 2) mNil)) (mC (.int 1)))) (
  sSeq (sAsg 3 (mNew mNil)) (
  sSeq (sFor (miRange rangeA3 (mCons (mC (.int 0)) (mCons (mBin gSub (mCB gLen (mCons (mVar 2) mNil)) (mC (.int 1))) (mCons (mC (.int 2)) mNil)))) (tgN 4) (
  sExpr (mMt isL gAppend (mVar 3) (mCons (mCall m_put_row (mCons (mVar 0) (mCons (mVar 1) (mCons (mBin gIx (mVar 2) (mVar 4)) (mCons (mBin gIx (mVar 2) (mBin gAdd (mVar 4) (mC (.int 1)))) mNil))))) mNil)))) (
  sAsg 2 (mBin gAdd (mVar 3) (mSl (mVar 2) (moS (mBin gMul (mC (.int 2)) (mCB gLen (mCons (mVar 3) mNil)))) moN))))) 5) (
  sRet (mBin gIx (mVar 2) (mC (.int 0))))
abbrev m_put_pairs : List D → List O → R D := nbF (fnM 3 5 b_put_pairs)
def b_pairs_tree : MS :=
  sSeq (sAsg 1 (mNew mNil)) (
  sSeq (sAsg 2 (mCall m_put_pairs (mCons (mVar 1) (mCons (mVar 0) (mCons (mListR rangeA1 (mCons (mVar 0) mNil)) mNil))))) (
  sRet (mTup (mCons (mVar 0) (mCons (mCB gTuple (mCons (mVar 1) mNil)) (mCons (mTup (mCons (mVar 2) mNil)) mNil))))))
abbrev m_pairs_tree : List D → List O → R D := nbF (fnM 1 3 b_pairs_tree)
def b_codes_of : MS :=
  sSeq (sAsg 2 (mNew mNil)) (
  sSeq (sFor (miRange rangeA3 (mCons (mBin gSub (mVar 0) (mC (.int 1))) (mCons (mC (.int 0)) (mCons (mUn gNeg (mC (.int 1))) mNil)))) (tgN 3) (
  sSeq (sExpr (mMt isL gAppend (mVar 2) (mCons (mBin gMod (mVar 1) (mBin gSub (mBin gMul (mC (.int 2)) (mVar 3)) (mC (.int 1)))) mNil))) (
  sAsg 1 (mBin gDiv (mVar 1) (mBin gSub (mBin gMul (mC (.int 2)) (mVar 3)) (mC (.int 1))))))) (
  sRet (mSl3 (mVar 2) moN moN (moS (mUn gNeg (mC (.int 1)))))))
abbrev m_codes_of : List D → List O → R D := nbF (fnM 2 4 b_codes_of)
def b_other_side : MS :=
  sRet (mIf (mTB (mBin gEq (mBin gIx (mVar 0) (mC (.int 0))) (mVar 1))) (mBin gIx (mVar 0) (mC (.int 1))) (mBin gIx (mVar 0) (mC (.int 0))))
abbrev m_other_side : List D → List O → R D := nbF (fnM 2 2 b_other_side)
def b_sides_by : MS :=
  sSeq (sPar 2 3 (mCons mDNew (mCons (mDisp1 0) mNil))) (
  sSeq (sFor (miEnum (mCons (mCall m_codes_of (mCons (mVar 0) (mCons (mVar 1) mNil))) mNil)) (tgT 2 (tgsC (tgN 4) (tgsC (tgN 5) tgsN))) (
  sSeq (sAsg 6 (mBin gAdd (mVar 4) (mC (.int 1)))) (
  sSeq (sAsg 7 (mIf (mTB (mBin gLt (mVar 5) (mVar 6))) (mVar 5) (mBin gAdd (mBin gSub (mBin gAdd (mVar 0) (mVar 5)) (mVar 6)) (mC (.int 1))))) (
  sSeq (sAsg 8 (mBin gAdd (mVar 0) (mVar 6))) (
  sSeq (sIf (mTB (mBin gNotN (mBin gDGet (mVar 3) (mVar 7)) (mC .non))) (
  sSeq (sAsg 9 (mBin gDGet (mVar 3) (mVar 7))) (
  sDSet (mLst (mCons (mVar 8) (mCons (mCall m_other_side (mCons (mBin gDGet (mVar 2) (mVar 9)) (mCons (mVar 7) mNil))) mNil))) (mVar 2) (mVar 9))) (
  sNil)) (
  sSeq (sDSet (mBin gDGet (mVar 3) (mVar 7)) (mVar 3) (mVar 8)) (
  sSeq (sDSet (mLst (mCons (mVar 7) (mCons (mVar 6) mNil))) (mVar 2) (mVar 8)) (
  sSeq (sDSet (mVar 8) (mVar 3) (mVar 7)) (
  sDSet (mVar 8) (mVar 3) (mVar 6)))))))))) (
  sRet (mVar 2)))
abbrev m_sides_by : List D → List O → R D := nbF (fnM 2 10 b_sides_by)
def b_sum_of : MS :=
  sSeq (sAsg 2 (mCall m_sides_by (mCons (mVar 0) (mCons (mVar 1) mNil)))) (
  sSeq (sAsg 3 (mDCompN (miRange rangeA1 (mCons (mVar 0) mNil)) (tgN 4) mYes (mVar 4) (mVar 4) [4])) (
  sSeq (sAsg 5 (mNew mNil)) (
  sSeq (loopW (mTB (mBin gLt (mCB gLen (mCons (mVar 5) mNil)) (mCB gLenD (mCons (mVar 2) mNil)))) (
  sLock 2 (sFor (miKeys (mVar 2)) (tgN 6) (
  sIf (mAnd (mTB (mBin gDNin (mVar 6) (mVar 3))) (mTB (mCB gAll (mCons (mComp (miSeq (mBin gDGet (mVar 2) (mVar 6))) (tgN 7) mYes (mBin gDIn (mVar 7) (mVar 3)) [7]) mNil)))) (
  sSeq (sExpr (mMt isL gAppend (mVar 5) (mCons (mCall m_added (mCons (mBin gDGet (mVar 3) (mBin gIx (mBin gDGet (mVar 2) (mVar 6)) (mC (.int 0)))) (mCons (mBin gDGet (mVar 3) (mBin gIx (mBin gDGet (mVar 2) (mVar 6)) (mC (.int 1)))) mNil))) mNil))) (
  sDSet (mBin gSub (mBin gAdd (mVar 0) (mCB gLen (mCons (mVar 5) mNil))) (mC (.int 1))) (mVar 3) (mVar 6))) (
  sNil)))) 14) (
  sRet (mTup (mCons (mVar 0) (mCons (mCB gTuple (mCons (mVar 5) mNil)) (mCons (mTup (mCons (mBin gSub (mBin gAdd (mVar 0) (mCB gLen (mCons (mVar 5) mNil))) (mC (.int 1))) mNil)) mNil))))))))
abbrev m_sum_of : List D → List O → R D := nbF (fnM 2 8 b_sum_of)
def b__law_code : MS :=
  sSeq (sAsg 1 (mC (.int 0))) (
  sSeq (sFor (miRange rangeA1 (mCons (mCB gLen (mCons (mVar 0) mNil)) mNil)) (tgN 2) (
  sAsg 1 (mBin gAdd (mBin gMul (mVar 1) (mBin gAdd (mBin gMul (mC (.int 2)) (mVar 2)) (mC (.int 1)))) (mBin gIx (mVar 0) (mVar 2))))) (
  sRet (mVar 1)))
abbrev m__law_code : List D → List O → R D := nbF (fnM 1 3 b__law_code)
def b__law_split : MS :=
  sSeq (sAsg 2 (mNew mNil)) (
  sSeq (sFor (miRange rangeA3 (mCons (mBin gSub (mVar 0) (mC (.int 1))) (mCons (mC (.int 0)) (mCons (mUn gNeg (mC (.int 1))) mNil)))) (tgN 3) (
  sSeq (sExpr (mMt isL gAppend (mVar 2) (mCons (mBin gMod (mCB gInt (mCons (mVar 1) mNil)) (mBin gSub (mBin gMul (mC (.int 2)) (mVar 3)) (mC (.int 1)))) mNil))) (
  sAsg 1 (mBin gDiv (mVar 1) (mBin gSub (mBin gMul (mC (.int 2)) (mVar 3)) (mC (.int 1))))))) (
  sRet (mSl3 (mVar 2) moN moN (moS (mUn gNeg (mC (.int 1)))))))
abbrev m__law_split : List D → List O → R D := nbF (fnM 2 4 b__law_split)
def b_sides_of : MS :=
  sSeq (sUnp (tgT 3 (tgsC (tgN 1) (tgsC (tgN 2) (tgsC (tgN 3) tgsN)))) (mVar 0)) (
  sRet (mDCompN (miEnumT (mCons (mVar 2) mNil)) (tgT 2 (tgsC (tgN 4) (tgsC (tgT 2 (tgsC (tgN 5) (tgsC (tgN 6) tgsN))) tgsN))) mYes (mBin gAdd (mVar 1) (mVar 4)) (mLst (mCons (mBin gIx (mBin gIx (mBin gIx (mVar 6) (mC (.int 0))) (mC (.int 1))) (mC (.int 0))) (mCons (mBin gIx (mBin gIx (mBin gIx (mVar 6) (mC (.int 1))) (mC (.int 1))) (mC (.int 0))) mNil))) [4, 5, 6]))
abbrev m_sides_of : List D → List O → R D := nbF (fnM 1 7 b_sides_of)
def b_users_of : MS :=
  sSeq (sAsg 1 mDNew) (
  sSeq (sLock 0 (sFor (miKeys (mVar 0)) (tgN 2) (
  sFor (miSeq (mBin gDGet (mVar 0) (mVar 2))) (tgN 3) (
  sDSet (mVar 2) (mVar 1) (mVar 3))))) (
  sRet (mVar 1)))
abbrev m_users_of : List D → List O → R D := nbF (fnM 1 4 b_users_of)
def b_replace_side : MS :=
  sSeq (sDSet (mC .non) (mVar 1) (mVar 3)) (
  sIf (mTB (mBin gNotN (mDGet2 (mVar 1) (mVar 2) (mC .non)) (mC .non))) (
  sSeq (sAsg 4 (mBin gDGet (mVar 1) (mVar 2))) (
  sSeq (sDSet (mLst (mCons (mVar 3) (mCons (mCall m_other_side (mCons (mBin gDGet (mVar 0) (mVar 4)) (mCons (mVar 2) mNil))) mNil))) (mVar 0) (mVar 4)) (
  sDSet (mVar 4) (mVar 1) (mVar 3)))) (
  sNil))
abbrev m_replace_side : List D → List O → R D := nbF (fnM 4 5 b_replace_side)
def b_tree_number : MS :=
  sSeq (sAsg 1 (mBin gIx (mVar 0) (mC (.int 0)))) (
  sSeq (sAsg 2 (mCall m_sides_of (mCons (mVar 0) mNil))) (
  sSeq (sAsg 3 (mCall m_users_of (mCons (mVar 2) mNil))) (
  sSeq (sPar 4 5 (mCons mDNew (mCons (mBinN nMul (mLst (mCons (mC (.int 0)) mNil)) (mVar 1)) mNil))) (
  sSeq (sFor (miRange rangeA3 (mCons (mBin gSub (mVar 1) (mC (.int 1))) (mCons (mC (.int 0)) (mCons (mUn gNeg (mC (.int 1))) mNil)))) (tgN 6) (
  sSeq (sAsg 7 (mBin gDGet (mVar 3) (mVar 6))) (
  sSeq (sSet (mCall m_other_side (mCons (mBin gDGet (mVar 2) (mVar 7)) (mCons (mVar 6) mNil))) (mVar 5) (mVar 6)) (
  sSeq (sDSet (mVar 6) (mVar 4) (mVar 7)) (
  sExpr (mCall m_replace_side (mCons (mVar 2) (mCons (mVar 3) (mCons (mVar 7) (mCons (mBin gIx (mVar 5) (mVar 6)) mNil)))))))))) (
  sSeq (sAsg 8 (mC (.int 0))) (
  sSeq (sFor (miRange rangeA2 (mCons (mC (.int 1)) (mCons (mVar 1) mNil))) (tgN 6) (
  sSeq (sAsg 9 (mBin gIx (mVar 5) (mVar 6))) (
  sSeq (sAsg 10 (mIf (mTB (mBin gLt (mVar 9) (mVar 1))) (mVar 9) (mBin gAdd (mBin gSub (mVar 6) (mC (.int 1))) (mBin gDGet (mVar 4) (mVar 9))))) (
  sAsg 8 (mBin gAdd (mBin gMul (mVar 8) (mBin gSub (mBin gMul (mC (.int 2)) (mVar 6)) (mC (.int 1)))) (mVar 10)))))) (
  sRet (mVar 8))))))))
abbrev m_tree_number : List D → List O → R D := nbF (fnM 1 11 b_tree_number)
def b__law_codes : MS :=
  sSeq (sAsg 2 (mCall m__law_draw (mCons (mVar 0) (mCons (mC (.int 5)) mNil)))) (
  sSeq (sAsg 3 (mNew mNil)) (
  sSeq (sFor (miRange rangeA2 (mCons (mC (.int 1)) (mCons (mVar 1) mNil))) (tgN 4) (
  sSeq (sAsg 5 (mLst (mCons (mC (.int 0)) (mCons (mBin gSub (mBin gMul (mC (.int 2)) (mVar 4)) (mC (.int 2))) (mCons (mCB gMax2 (mCons (mC (.int 0)) (mCons (mBin gSub (mBin gMul (mC (.int 2)) (mVar 4)) (mC (.int 2))) mNil))) (mCons (mBin gSub (mVar 4) (mC (.int 1))) mNil)))))) (
  sExpr (mMt isL gAppend (mVar 3) (mCons (mIf (mTB (mBin gLt (mVar 2) (mC (.int 2)))) (mCall m__law_draw (mCons (mVar 0) (mCons (mBin gSub (mBin gMul (mC (.int 2)) (mVar 4)) (mC (.int 1))) mNil))) (mIf (mTB (mBin gLt (mVar 2) (mC (.int 4)))) (mBin gIx (mVar 5) (mBin gSub (mVar 2) (mC (.int 2)))) (mCall m__law_one (mCons (mVar 0) (mCons (mVar 5) mNil))))) mNil))))) (
  sRet (mVar 3))))
abbrev m__law_codes : List D → List O → R D := nbF (fnM 2 6 b__law_codes)
def b_law : MS :=
  sSeq (sAsg 1 (mCall m__law_feed (mCons (mVar 0) mNil))) (
  sSeq (sFor (miRange rangeA1 (mCons (mC (.int 8)) mNil)) (tgN 2) (
  sSeq (sAsg 3 (mBin gAdd (mC (.int 1)) (mCall m__law_draw (mCons (mVar 1) (mCons (mC (.int 12)) mNil))))) (
  sSeq (sAsg 4 (mCallP m__law_many (mCons (mVar 3) mNil))) (
  sSeq (sAsg 5 (mCall m__law_one (mCons (mVar 1) (mCons (mLst (mCons (mC (.int 0)) (mCons (mBin gSub (mVar 4) (mC (.int 1))) (mCons (mCall m__law_draw (mCons (mVar 1) (mCons (mVar 4) mNil))) (mCons (mCall m__law_code (mCons (mCall m__law_codes (mCons (mVar 1) (mCons (mVar 3) mNil))) mNil)) mNil))))) mNil)))) (
  sSeq (sAsg 6 (mCallP (m__law_text 14) (mCons (mCallP m__law_tree (mCons (mCallP m__law_split (mCons (mVar 3) (mCons (mVar 5) mNil))) mNil)) mNil))) (
  sSeq (sAsg 7 (mLst (mCons (mCallP m__law_shape (mCons (mCallP m_sum_of (mCons (mVar 3) (mCons (mVar 5) mNil))) (mCons (mVar 3) mNil))) (mCons (mCallP m__law_shape (mCons (mCallKP 0 2 [0, 1] m_sum_of mNil (mCons (mVar 3) (mCons (mVar 5) mNil))) (mCons (mVar 3) mNil))) mNil)))) (
  sSeq (sIf (mTB (mBin gNe (mVar 7) (mLst (mCons (mVar 6) (mCons (mVar 6) mNil))))) (
  sRet (mC (.bl false))) (
  sNil)) (
  sFor (miSeq (mLst (mCons (mCallP m_left_tree (mCons (mVar 3) mNil)) (mCons (mCallP m_pairs_tree (mCons (mVar 3) mNil)) mNil)))) (tgN 8) (
  sSeq (sAsg 9 (mCallP m_sum_of (mCons (mVar 3) (mCons (mCallP m_tree_number (mCons (mVar 8) mNil)) mNil)))) (
  sIf (mTB (mBin gNe (mCallP m__law_shape (mCons (mVar 9) (mCons (mVar 3) mNil))) (mCallP m__law_shape (mCons (mVar 8) (mCons (mVar 3) mNil))))) (
  sRet (mC (.bl false))) (
  sNil))))))))))) (
  sRet (mC (.bl true))))
abbrev m_law : List D → List O → R D := nbF (fnM 1 10 b_law)
end K65

namespace K65
open PySem PySem.Spec L2 PyProof.Rows Mo K64
/-! ### the text of a tree -/
def jn (a b : Str) : Str := apS (apS "(" (Txt.join "," (sortS [a, b]))) ")"
theorem sort2 (a b : Str) : sortS [a, b] = sortS [b, a] := by
  show (if leS a b = true then [a, b] else [b, a]) = (if leS b a = true then [b, a] else [a, b])
  by_cases h1 : leS a b = true
  · by_cases h2 : leS b a = true
    · have : a = b := by
        unfold leS at h1 h2
        have e := ltCps_anti a.cps.toList b.cps.toList (by simpa using h2) (by simpa using h1)
        cases a with | mk x => cases b with | mk y => cases x with | mk x => cases y with | mk y => simp at e; rw [e]
      rw [this]
    · rw [if_pos h1, if_neg h2]
  · rw [if_neg h1]
    by_cases h2 : leS b a = true
    · rw [if_pos h2]
    · exfalso
      rcases leS_total a b with h | h
      · unfold LeS at h; unfold leS at h1; rw [h] at h1; exact h1 rfl
      · unfold LeS at h; unfold leS at h2; rw [h] at h2; exact h2 rfl
theorem jn_comm (a b : Str) : jn a b = jn b a := by unfold jn; rw [sort2]
def txt : Tr → Str
  | .lf i => (toString (i : Int) : String)
  | .nd _ a b => jn (txt a) (txt b)
theorem join2_len (a b : Str) : (Txt.join "," [a, b]).length = a.length + 1 + b.length := by
  unfold Txt.join
  rw [StrLaws.glued_eq_join]
  show (a ++ ("," : Str) ++ b).length = _
  rw [strLen_append, strLen_append]
  rfl
theorem sort2_cases (a b : Str) : sortS [a, b] = [a, b] ∨ sortS [a, b] = [b, a] := by
  show (if leS a b = true then [a, b] else [b, a]) = _ ∨ _
  split
  · exact .inl rfl
  · rename_i h
    right
    show (if leS a b = true then [a, b] else [b, a]) = _
    rw [if_neg h]
theorem joined_len (a b : Str) : (Txt.join "," (sortS [a, b])).length = a.length + 1 + b.length := by
  rcases sort2_cases a b with h | h <;> rw [h, join2_len]
  omega
theorem apS_len (a b : Str) : (apS a b).length = a.length + b.length := by rw [apS_eq, strLen_append]
theorem jn_len (a b : Str) : (jn a b).length = a.length + b.length + 3 := by
  unfold jn
  rw [apS_len, apS_len, joined_len]
  show 1 + (a.length + 1 + b.length) + 1 = _
  omega
theorem v_mtS {f : OpM} {mo : ME} {m : MA} {e : Mo.Env} {S S1 S2 S3 : List O} {z : Str} {l : List D} {d : D} (h1 : mo e S = .ok (.str z) S1) (h2 : m e S1 = .ok l S2) (h3 : f S2 (.str z) l = some (d, S3)) : mMt isS f mo m e S = .ok d S3 := by
  unfold mMt
  rw [h1]
  simp only [R.bind]
  rw [if_pos (show isS S1 (.str z) = true from rfl), h2]
  show R.ofM (f S2 (.str z) l) = _
  rw [h3]
  rfl
theorem join_ok {a b : Str} {S : List O} (h : a.length + b.length < 1000000) : m__law_join [.str a, .str b] S = .ok (.str (jn a b)) S := by
  have jl := joined_len a b
  have hs : gSorted S [.lst [.str a, .str b]] = some (.lst ((sortS [a, b]).map .str)) := by
    show (match intsD [.str a, .str b] with | some ns => some (D.lst ((sortI ns).map .int)) | none => match strsD [.str a, .str b] with | some ss => if ss.length < 64 then some (D.lst ((sortS ss).map .str)) else none | none => none) = _
    rfl
  have hj : gJoin S (.str ",") [.lst ((sortS [a, b]).map .str)] = some (.str (Txt.join "," (sortS [a, b])), S) := by
    have key : ∀ x y : Str, x.length + y.length < 1000000 → gJoin S (.str ",") [.lst [.str x, .str y]] = some (.str (Txt.join "," [x, y]), S) := fun x y hxy => by
      show (if ([x, y].map (·.length)).sum + [x, y].length * (("," : Str)).length ≤ 16777216 then some (D.str (Txt.join "," [x, y]), S) else none) = _
      rw [if_pos]
      show x.length + (y.length + 0) + 2 * 1 ≤ 16777216
      omega
    rcases sort2_cases a b with q | q
    · rw [q]; exact key a b h
    · rw [q]; exact key b a (by omega)
  refine fn_same rfl ?_
  refine w_ret (v_bin (a := .str (apS "(" (Txt.join "," (sortS [a, b])))) (v_bin v_C (v_mtS v_C (v_cons (v_cb (v_cons (v_lst (v_cons (v_var rfl) (v_cons (v_var rfl) v_nil)) (show 2 ≤ 16777216 by decide)) v_nil) hs) v_nil) hj) ?_) v_C ?_)
  · show (if ("(" : Str).length + (Txt.join "," (sortS [a, b])).length ≤ sz then _ else _) = _
    rw [if_pos (by rw [jl]; show 1 + (a.length + 1 + b.length) ≤ 16777216; omega)]
  · show (if (apS "(" (Txt.join "," (sortS [a, b]))).length + (")" : Str).length ≤ sz then _ else _) = _
    rw [if_pos (by rw [apS_len, jl]; show 1 + (a.length + 1 + b.length) + 1 ≤ 16777216; omega)]
    rfl
theorem str_ok {i : Nat} {S : List O} (h : i < 1000) : gStr S [.int (i : Nat)] = some (.str ((toString (i : Int) : String))) := by
  show (if (i : Int).natAbs.log2 < 1920 then some (D.str ((toString (i : Int) : String))) else none) = _
  rw [if_pos (lg (Nat.lt_of_lt_of_le (show (i : Int).natAbs < 1000 by omega) (by decide)))]
theorem int_len {i : Nat} (h : i < 1000) : (((toString (i : Int) : String)) : Str).length ≤ 1921 := int_text_len_1921 (lg (Nat.lt_of_lt_of_le (show (i : Int).natAbs < 1000 by omega) (by decide)))
def small (t : Tr) : Prop := ∀ i, .inl i ∈ t.els → i < 1000
theorem txt_len : ∀ t : Tr, small t → (txt t).length ≤ 2000 * t.els.length
  | .lf i, h => by
    have := int_len (h i (by simp [Tr.els]))
    show (((toString (i : Int) : String)) : Str).length ≤ 2000 * 1
    omega
  | .nd l a b, h => by
    have h1 := txt_len a fun i hi => h i (by simp [Tr.els, hi])
    have h2 := txt_len b fun i hi => h i (by simp [Tr.els, hi])
    show (jn (txt a) (txt b)).length ≤ 2000 * (a.els ++ b.els).length.succ
    rw [jn_len, List.length_append]
    omega
theorem text_ok : ∀ (d : Nat) (t : Tr), dep t ≤ d → small t → t.els.length < 100 → ∀ S, m__law_text d [enc t] S = .ok (.str (txt t)) S
  | 0, .lf i, h, _, _ => by simp [dep] at h
  | 0, .nd l a b, h, _, _ => by simp [dep] at h
  | d + 1, .lf i, _, hs, _ => fun S => by
    refine fn_same rfl ?_
    refine w_seqR (w_ifT (v_tb (v_cb (v_cons (v_var rfl) (v_cons v_C v_nil)) rfl)) ?_)
    exact w_ret (v_cb (v_cons (v_var rfl) v_nil) (str_ok (hs i (by simp [Tr.els]))))
  | d + 1, .nd l a b, h, hs, hl => fun S => by
    have ha : dep a ≤ d := by simp [dep] at h; omega
    have hb : dep b ≤ d := by simp [dep] at h; omega
    have sa : small a := fun i hi => hs i (by simp [Tr.els, hi])
    have sb : small b := fun i hi => hs i (by simp [Tr.els, hi])
    have hl' : a.els.length + b.els.length < 99 := by simp [Tr.els] at hl; omega
    have la := txt_len a sa
    have lb := txt_len b sb
    have lo : ∀ t : Tr, D.lo 0 (enc t) = true := fun t => by
      induction t with
      | lf i => rfl
      | nd l a b iha ihb => unfold enc; simp [D.lo, D.los, iha, ihb]
    refine fn_same rfl ?_
    refine w_seq (w_ifF (v_tb (v_cb (v_cons (v_var rfl) (v_cons v_C v_nil)) rfl)) rfl) ?_
    have i1 : gIx S (enc (.nd l a b)) (.int 1) = some (enc a) := rfl
    have i2 : gIx S (enc (.nd l a b)) (.int 2) = some (enc b) := rfl
    refine w_ret (v_callP (v_cons (v_callP (v_cons (v_bin (v_var rfl) v_C i1) v_nil) (by simp [D.los, lo]) (text_ok d a ha sa (by omega) []) rfl) (v_cons (v_callP (v_cons (v_bin (v_var rfl) v_C i2) v_nil) (by simp [D.los, lo]) (text_ok d b hb sb (by omega) []) rfl) v_nil)) rfl (join_ok (by omega)) rfl)
end K65

namespace Mo
open PySem PySem.Spec L2 PyProof.Rows
theorem loopL_nil {chk : List O → Bool} {t : Tg} {b : MS} {e : Mo.Env} {S : List O} (hc : chk S = true) : loopL chk t b [] e S = .nx e S := by rw [loopL, if_pos hc]
theorem loopL_step {chk : List O → Bool} {t : Tg} {b : MS} {e e' e1 : Mo.Env} {S S1 : List O} {d : D} {l : List D} (hc : chk S = true) (h1 : t.f d e = some e') (h2 : b e' S = .nx e1 S1) : loopL chk t b (d :: l) e S = loopL chk t b l e1 S1 := by
  rw [loopL, if_pos hc, h1]
  dsimp only
  rw [h2]
theorem v_srcR {m : ME} {e : Mo.Env} {S S1 : List O} {n : Nat} {l : List D} (h : m e S = .ok (.ref n) S1) (h2 : S1[n]? = some (.lst l)) : ∃ chk, miSeq m e S = .ok (l, chk) S1 ∧ chk S1 = true := by
  unfold miSeq
  rw [h]
  refine ⟨fun S => decide (S[n]? = some (.lst l)), ?_, ?_⟩
  · show (match srcD S1 (.ref n) with | some r => R.ok r S1 | none => .bad) = _
    unfold srcD
    simp only [h2]
  · exact decide_eq_true h2
end Mo
namespace K65
open PySem PySem.Spec L2 PyProof.Rows Mo K64
theorem row_repr {x y : Int} (hx : 0 ≤ x ∧ x < 24) (hy : 0 ≤ y ∧ y < 24) (S : List O) : okRepr S (rowD (x, y)) = true := by
  obtain ⟨h1, h2, h3, h4, h5⟩ := rows_py [(x, y)] (fun p hp => by simp at hp; subst hp; exact ⟨hx, hy⟩)
  simp only [List.map_cons, List.map_nil, PyData.showableAll, PyData.hasDictAll, PyData.depthAll, lenBs, List.length_cons, List.length_nil, Bool.and_true, Bool.or_false] at h2 h3 h4 h5
  show ((rowPy (x, y)).showable && !(rowPy (x, y)).hasDict && decide ((rowPy (x, y)).depth ≤ 64) && decide (lenB (rowPy (x, y)) ≤ sz)) = true
  rw [h2, h3, decide_eq_true (show (rowPy (x, y)).depth ≤ 64 by omega), decide_eq_true (show lenB (rowPy (x, y)) ≤ sz from Nat.le_trans (show _ ≤ 10000 by omega) (show 10000 ≤ 16777216 by decide))]
  rfl
theorem sides_ok {x y : Int} {many : Nat} {S : List O} (hx : 0 ≤ x ∧ x < many) (hy : 0 ≤ y ∧ y < many) (hm : many ≤ 24) : m__law_sides [rowD (x, y), .int many] S = .ok (.ref S.length) (S ++ [.lst [.int x, .int y]]) := by
  refine nb_ok ((fn_rt (S' := S ++ [.lst [.int x, .int y]]) (d := .ref S.length) rfl ?_).trans ?_)
  · refine w_seq (w_ifF (S1 := S) rfl rfl) ?_
    refine w_seq (w_asg (v_new v_nil (show 0 ≤ 16777216 by decide))) ?_
    have g0 : (S ++ [O.lst []])[S.length]? = some (.lst []) := by rw [List.getElem?_append_right (Nat.le_refl _), Nat.sub_self]; rfl
    have s1 : (S ++ [O.lst []]).set S.length (.lst ([] ++ [.int x])) = S ++ [.lst [.int x]] := by rw [List.set_append_right _ _ (Nat.le_refl _), Nat.sub_self]; rfl
    have g1 : (S ++ [O.lst [.int x]])[S.length]? = some (.lst [.int x]) := by rw [List.getElem?_append_right (Nat.le_refl _), Nat.sub_self]; rfl
    have s2 : (S ++ [O.lst [.int x]]).set S.length (.lst ([.int x] ++ [.int y])) = S ++ [.lst [.int x, .int y]] := by rw [List.set_append_right _ _ (Nat.le_refl _), Nat.sub_self]; rfl
    have g2 : (S ++ [O.lst [.int x, .int y]])[S.length]? = some (.lst [.int x, .int y]) := by rw [List.getElem?_append_right (Nat.le_refl _), Nat.sub_self]; rfl
    refine w_seq (e1 := [some (rowD (x, y)), some (.int many), some (.ref S.length), some (.tup [.int 1, .tup [.int y]]), none, none]) (S1 := S ++ [.lst [.int x, .int y]]) ?_ ?_
    · refine (w_for (l := [.tup [.int 1, .tup [.int x]], .tup [.int 1, .tup [.int y]]]) (chk := anyS) (S1 := S ++ [.lst []]) rfl).trans ?_
      refine (loopL_step rfl rfl (w_seq (w_ifF (S1 := S ++ [.lst []]) rfl rfl) (w_expr (v_app (v_var rfl) g0 (v_cons (a := .int x) rfl v_nil) g0 (show 0 < 16777216 by decide))))).trans ?_
      rw [s1]
      refine (loopL_step rfl rfl (w_seq (w_ifF (S1 := S ++ [.lst [.int x]]) rfl rfl) (w_expr (v_app (v_var rfl) g1 (v_cons (a := .int y) rfl v_nil) g1 (show 1 < 16777216 by decide))))).trans ?_
      rw [s2]
      exact loopL_nil rfl
    · obtain ⟨chk, c1, c2⟩ := v_srcR (m := mVar 2) (e := [some (rowD (x, y)), some (.int many), some (.ref S.length), some (.tup [.int 1, .tup [.int y]]), none, none]) (S := S ++ [.lst [.int x, .int y]]) (v_var rfl) g2
      refine w_seq (w_ifF (S1 := S ++ [.lst [.int x, .int y]]) (v_tb (v_bin (v_comp c1 ((compL_mapf (acc := []) (p := fun _ => false) (g := fun i : Int => .int i) (ws := [x, y]) c2 (fun i hi => ⟨_, rfl, rfl, v_var rfl⟩) (show 2 ≤ 16777216 by decide)).trans rfl)) (v_lst (l := []) v_nil (show 0 ≤ 16777216 by decide)) rfl)) rfl) ?_
      refine w_seq (w_ifF (S1 := S ++ [.lst [.int x, .int y]]) (v_tb (v_bin (v_comp c1 ((compL_mapf (acc := []) (p := fun _ => false) (g := fun i : Int => .int i) (ws := [x, y]) c2 (fun i hi => ⟨_, rfl, ?_, v_var rfl⟩) (show 2 ≤ 16777216 by decide)).trans rfl)) (v_lst (l := []) v_nil (show 0 ≤ 16777216 by decide)) rfl)) rfl) ?_
      · have b : 0 ≤ i ∧ i < many := by
          simp at hi
          rcases hi with rfl | rfl
          · exact hx
          · exact hy
        refine v_or (k := false) (v_tb (v_bin (v_var rfl) v_C (by rw [x_lt, decide_eq_false (by omega)]))) ?_
        rw [if_neg (by simp)]
        exact v_tb (v_bin (v_var rfl) (v_var rfl) (by rw [x_ge, decide_eq_false (by omega)]))
      · have i0 : mBin gIx (mVar 2) (mC (.int 0)) [some (rowD (x, y)), some (.int many), some (.ref S.length), some (.tup [.int 1, .tup [.int y]]), none, none] (S ++ [.lst [.int x, .int y]]) = .ok (.int x) (S ++ [.lst [.int x, .int y]]) := v_bin (v_var rfl) v_C (x_ix g2 rfl)
        have i1 : mBin gIx (mVar 2) (mC (.int 1)) [some (rowD (x, y)), some (.int many), some (.ref S.length), some (.tup [.int 1, .tup [.int y]]), none, none] (S ++ [.lst [.int x, .int y]]) = .ok (.int y) (S ++ [.lst [.int x, .int y]]) := v_bin (v_var rfl) v_C (x_ix g2 rfl)
        have one : 1 ≤ sz := show 1 ≤ 16777216 by decide
        have two : 2 ≤ sz := show 2 ≤ 16777216 by decide
        refine w_seq (w_asg (d := rowD (x, y)) (v_tup (v_cons v_C (v_cons (v_tup (v_cons (v_tup (v_cons v_C (v_cons (v_tup (v_cons i0 v_nil) one) v_nil)) two) (v_cons (v_tup (v_cons v_C (v_cons (v_tup (v_cons i1 v_nil) one) v_nil)) two) v_nil)) two) v_nil)) two)) ?_
        refine w_ret (v_ifT (v_tb (k := true) ?_) (v_var rfl))
        unfold mReprEq
        show (if okRepr _ (rowD (x, y)) = true then R.bind (R.ok (rowD (x, y)) _) _ else _) = _
        rw [if_pos (row_repr (by omega) (by omega) _)]
        show (if offS (rowD (x, y)) = true ∧ rowD (x, y) = rowD (x, y) then R.ofO _ (gEq _ (.int 0) (.int 0)) else _) = _
        rw [if_pos ⟨rfl, rfl⟩]
        rfl
  · show R.ok _ (trimS (decide (S.length < S.length)) S _) = _
    rw [decide_eq_false (Nat.lt_irrefl _)]
    unfold trimS
    simp
end K65

namespace K65
open PySem PySem.Spec L2 PyProof.Rows Mo K64
/-- the nodes with their subtrees -/
def kid4 : Tr → List (Nat × Tr × Tr)
  | .lf _ => []
  | .nd l a b => kid4 a ++ kid4 b ++ [(l, a, b)]
theorem kid4_map : ∀ t : Tr, kid3 t = (kid4 t).map fun q => (q.1, q.2.1.root, q.2.2.root)
  | .lf _ => rfl
  | .nd l a b => by rw [kid3, kid4, List.map_append, List.map_append, ← kid4_map a, ← kid4_map b]; rfl
theorem kid4_self {l : Nat} {a b : Tr} : (l, a, b) ∈ kid4 (.nd l a b) := by simp [kid4]
theorem kid4_in : ∀ {t : Tr} {q : Nat × Tr × Tr}, q ∈ kid4 t → (∀ z ∈ kid4 q.2.1, z ∈ kid4 t) ∧ ∀ z ∈ kid4 q.2.2, z ∈ kid4 t
  | .lf _, q, h => by simp [kid4] at h
  | .nd l a b, q, h => by
    simp only [kid4, List.mem_append, List.mem_singleton] at h
    rcases h with (h | h) | h
    · obtain ⟨h1, h2⟩ := kid4_in h
      exact ⟨fun z hz => by simp [kid4, h1 z hz], fun z hz => by simp [kid4, h2 z hz]⟩
    · obtain ⟨h1, h2⟩ := kid4_in h
      exact ⟨fun z hz => by simp [kid4, h1 z hz], fun z hz => by simp [kid4, h2 z hz]⟩
    · subst h
      exact ⟨fun z hz => by simp only [kid4, List.mem_append]; exact .inl (.inl hz), fun z hz => by simp only [kid4, List.mem_append]; exact .inl (.inr hz)⟩
theorem kid4_small : ∀ {t : Tr} {q : Nat × Tr × Tr}, q ∈ kid4 t → (∀ x ∈ q.2.1.els, x ∈ t.els) ∧ (∀ x ∈ q.2.2.els, x ∈ t.els) ∧ q.2.1.els.length + q.2.2.els.length < t.els.length
  | .lf _, q, h => by simp [kid4] at h
  | .nd l a b, q, h => by
    simp only [kid4, List.mem_append, List.mem_singleton] at h
    rcases h with (h | h) | h
    · obtain ⟨h1, h2, h3⟩ := kid4_small h
      exact ⟨fun x hx => by simp [Tr.els, h1 x hx], fun x hx => by simp [Tr.els, h2 x hx], by simp [Tr.els]; omega⟩
    · obtain ⟨h1, h2, h3⟩ := kid4_small h
      exact ⟨fun x hx => by simp [Tr.els, h1 x hx], fun x hx => by simp [Tr.els, h2 x hx], by simp [Tr.els]; omega⟩
    · subst h
      exact ⟨fun x hx => by simp [Tr.els, hx], fun x hx => by simp [Tr.els, hx], by simp [Tr.els]⟩
theorem kid4_els {t : Tr} {q : Nat × Tr × Tr} (h : q ∈ kid4 t) : .inr q.1 ∈ t.els := (kid_mem (q := (q.1, q.2.1.root, q.2.2.root)) (by rw [kid4_map]; exact List.mem_map.mpr ⟨q, h, rfl⟩)).1
theorem kid4_lab : ∀ {t : Tr}, t.els.Nodup → ∀ {q q' : Nat × Tr × Tr}, q ∈ kid4 t → q' ∈ kid4 t → q.1 = q'.1 → q = q'
  | .lf _, _, q, q', h, _, _ => by simp [kid4] at h
  | .nd l a b, nd, q, q', h, h', e => by
    obtain ⟨n1, n2, n3, n4⟩ := els_nd nd
    simp only [kid4, List.mem_append, List.mem_singleton] at h h'
    rcases h with (h | h) | h <;> rcases h' with (h' | h') | h'
    · exact kid4_lab n1 h h' e
    · exact absurd (by rw [e]) (n3 _ (kid4_els h) _ (kid4_els h'))
    · exact absurd (by rw [e, h']) (n4 _ (List.mem_append_left _ (kid4_els h)))
    · exact absurd (by rw [e]) (n3 _ (kid4_els h') _ (kid4_els h))
    · exact kid4_lab n2 h h' e
    · exact absurd (by rw [e, h']) (n4 _ (List.mem_append_right _ (kid4_els h)))
    · exact absurd (by rw [← e, h]) (n4 _ (List.mem_append_left _ (kid4_els h')))
    · exact absurd (by rw [← e, h]) (n4 _ (List.mem_append_right _ (kid4_els h')))
    · rw [h, h']
/-- a program of the tree whose rows stand behind those that they name -/
structure OP (n : Nat) (t : Tr) (lab : List Nat) (rs : List (Int × Int)) : Prop where
  j : J n t lab rs
  lt : ∀ (i : Nat) (x y : Int), rs[i]? = some (x, y) → x < (n : Int) + i ∧ y < (n : Int) + i
  full : ws t lab = []
def str (i : Nat) : Str := ((toString (i : Int) : String))
structure Tx (n : Nat) (t : Tr) (lab : List Nat) (i : Nat) (ts : List D) : Prop where
  len : ts.length = n + i
  lf : ∀ k, k < n → ts[k]? = some (.str (str k))
  nd : ∀ j, j < i → ∀ q ∈ kid4 t, lab[j]? = some q.1 → ts[n + j]? = some (.str (jn (txt q.2.1) (txt q.2.2)))
theorem plE_nat {n : Nat} {lab : List Nat} (r : El) : ∃ k : Nat, plE (plL n lab) r = (k : Int) := by
  cases r with
  | inl i => exact ⟨i, rfl⟩
  | inr l => exact ⟨n + lab.idxOf l, rfl⟩
/-- the text at a child's place -/
theorem tx_at {n i : Nat} {t c : Tr} {lab : List Nat} {ts : List D} (T : Tx n t lab i ts) (hV : ∀ r ∈ t.els, Val n r) (hc : ∀ z ∈ kid4 c, z ∈ kid4 t) (hr : c.root ∈ t.els) (ho : okE lab c.root = true) (hlt : plE (plL n lab) c.root < (n : Int) + i) :
    atI ts (plE (plL n lab) c.root) = some (.str (txt c)) := by
  have get : ∀ k : Nat, plE (plL n lab) c.root = (k : Int) → ts[k]? = some (.str (txt c)) → atI ts (plE (plL n lab) c.root) = some (.str (txt c)) := fun k hk hg => by
    rw [hk] at hlt ⊢
    unfold atI ixN
    rw [T.len, if_pos (by omega), if_pos (by omega)]
    show ts[(k : Int).toNat]? = _
    rw [Int.toNat_natCast]
    exact hg
  cases c with
  | lf k => exact get k rfl (T.lf k (hV _ hr))
  | nd m a b =>
    have hm : m ∈ lab := of_decide_eq_true ho
    have hi : lab.idxOf m < lab.length := List.idxOf_lt_length_iff.mpr hm
    have hk : plE (plL n lab) (Tr.nd m a b).root = ((n + lab.idxOf m : Nat) : Int) := rfl
    refine get _ hk (T.nd (lab.idxOf m) (by rw [hk] at hlt; omega) (m, a, b) (hc _ kid4_self) ?_)
    rw [List.getElem?_eq_getElem hi, List.getElem_idxOf]
def shBody : MS := sSeq (sAsg 6 (mCall m__law_sides (mCons (mVar 5) (mCons (mCB gLen (mCons (mVar 2) mNil)) mNil)))) (
  sSeq (sIf (mTB (mBin gIsN (mVar 6) (mC .non))) (
  sRet (mC (.str ""))) (
  sNil)) (
  sSeq (sAsg 3 (mBin gAdd (mVar 3) (mVar 6))) (
  sExpr (mMt isL gAppend (mVar 2) (mCons (mCallP m__law_join (mCons (mBin gIx (mVar 2) (mBin gIx (mVar 6) (mC (.int 0)))) (mCons (mBin gIx (mVar 2) (mBin gIx (mVar 6) (mC (.int 1)))) mNil))) mNil)))))
def usedOf (rs : List (Int × Int)) : List Int := rs.flatMap fun p => [p.1, p.2]
theorem shape_turn {n i : Nat} {t : Tr} {lab : List Nat} {rs : List (Int × Int)} {ts : List D} {Sr : List O} {x y : Int} {us : List Int} {a0 a1 a4 a6 : Option D} (P : OP n t lab rs) (nd : t.els.Nodup) (hV : ∀ r ∈ t.els, Val n r) (few : t.els.length < 50) (hn : n ≤ 12) (hrs : rs.length ≤ 11) (T : Tx n t lab i ts) (hi : rs[i]? = some (x, y)) (hu : us.length < 100) :
    ∃ a6' ts' Sr', shBody [a0, a1, some (.ref 0), some (.lst (us.map .int)), a4, some (rowD (x, y)), a6] (.lst ts :: Sr) = .nx [a0, a1, some (.ref 0), some (.lst ((us ++ [x, y]).map .int)), a4, some (rowD (x, y)), a6'] (.lst ts' :: Sr') ∧ Tx n t lab (i + 1) ts' := by
  obtain ⟨q3, k1, k2, k3, k4, k5⟩ := P.j.row i x y hi
  obtain ⟨lx, ly⟩ := P.lt i x y hi
  have hilt : i < rs.length := (List.getElem?_eq_some_iff.mp hi).1
  rw [kid4_map] at k1
  obtain ⟨q, hq, rfl⟩ := List.mem_map.mp k1
  obtain ⟨c1, c2⟩ := kid4_in hq
  obtain ⟨m1, m2, m3⟩ := kid4_small hq
  have r1 := m1 _ (root_mem _)
  have r2 := m2 _ (root_mem _)
  have sm : ∀ c : Tr, (∀ z ∈ c.els, z ∈ t.els) → small c := fun c h j hj => by have := hV _ (h _ hj); have : j < n := this; omega
  have l1 := txt_len q.2.1 (sm _ m1)
  have l2 := txt_len q.2.2 (sm _ m2)
  -- the two texts, in the row's order
  obtain ⟨u, v, hx, hy, hjn, hlen⟩ : ∃ u v : Str, atI ts x = some (.str u) ∧ atI ts y = some (.str v) ∧ jn u v = jn (txt q.2.1) (txt q.2.2) ∧ u.length + v.length < 1000000 := by
    rcases k5 with ⟨rfl, rfl⟩ | ⟨rfl, rfl⟩
    · exact ⟨_, _, tx_at T hV c1 r1 k3 lx, tx_at T hV c2 r2 k4 ly, rfl, by omega⟩
    · exact ⟨_, _, tx_at T hV c2 r2 k4 lx, tx_at T hV c1 r1 k3 ly, jn_comm _ _, by omega⟩
  have x0 : 0 ≤ x ∧ 0 ≤ y := by
    obtain ⟨ka, ha⟩ := plE_nat (n := n) (lab := lab) q.2.1.root
    obtain ⟨kb, hb⟩ := plE_nat (n := n) (lab := lab) q.2.2.root
    rcases k5 with ⟨f1, f2⟩ | ⟨f1, f2⟩ <;> (dsimp only at f1 f2; rw [f1, f2, ha, hb]; omega)
  let S : List O := .lst ts :: Sr
  have g0 : (S ++ [O.lst [.int x, .int y]])[0]? = some (.lst ts) := rfl
  have gk : (S ++ [O.lst [.int x, .int y]])[S.length]? = some (.lst [.int x, .int y]) := by rw [List.getElem?_append_right (Nat.le_refl _), Nat.sub_self]; rfl
  have tl : ts.length < 100 := by rw [T.len]; omega
  refine ⟨some (.ref S.length), ts ++ [.str (jn u v)], Sr ++ [.lst [.int x, .int y]], ?_, ?_⟩
  · refine w_seq (w_asg (v_call (v_cons (v_var rfl) (v_cons (v_cb (v_cons (v_var rfl) v_nil) ((x_len (S := S) (j := 0) rfl).trans (by rw [T.len]))) v_nil)) (sides_ok (many := n + i) (S := S) (by omega) (by omega) (by omega)))) ?_
    refine w_seq (w_ifF (v_tb (v_bin (v_var rfl) v_C rfl)) rfl) ?_
    refine w_seq (w_asg (d := .lst ((us ++ [x, y]).map .int)) (v_bin (v_var rfl) (v_var rfl) ?_)) ?_
    · show (match seqP _ (.lst (us.map .int)), seqP (S ++ [O.lst [.int x, .int y]]) (.ref S.length) with | some x, some y => if x.length + y.length ≤ sz then some (D.lst (x ++ y)) else none | _, _ => none) = _
      rw [show seqP (S ++ [O.lst [.int x, .int y]]) (.ref S.length) = some [.int x, .int y] by unfold seqP; simp only [gk]]
      show (if (us.map D.int).length + 2 ≤ sz then some (D.lst (us.map D.int ++ [.int x, .int y])) else none) = _
      rw [if_pos (by rw [List.length_map]; exact Nat.le_trans (show us.length + 2 ≤ 102 by omega) (show 102 ≤ 16777216 by decide)), List.map_append]
      rfl
    · refine (w_expr (v_app (v_var rfl) g0 (v_cons (v_callP (v_cons (v_bin (v_var rfl) (v_bin (v_var rfl) v_C (x_ix gk rfl)) (x_ix g0 hx)) (v_cons (v_bin (v_var rfl) (v_bin (v_var rfl) v_C (x_ix gk rfl)) (x_ix g0 hy)) v_nil)) rfl (join_ok hlen) rfl) v_nil) g0 (Nat.lt_trans tl (by decide)))).trans rfl
  · refine ⟨by rw [List.length_append, T.len]; rfl, fun k hk => ?_, fun j hj z hz hl => ?_⟩
    · rw [List.getElem?_append_left (by rw [T.len]; omega)]; exact T.lf k hk
    · by_cases e : j = i
      · subst e
        rw [k2] at hl
        have el : q.1 = z.1 := Option.some.inj hl
        have : (q.1, q.2.1.root, q.2.2.root) = (z.1, z.2.1.root, z.2.2.root) := kid_lab nd (by rw [kid4_map]; exact List.mem_map.mpr ⟨q, hq, rfl⟩) (by rw [kid4_map]; exact List.mem_map.mpr ⟨z, hz, rfl⟩) el
        rw [← T.len, List.getElem?_append_right (Nat.le_refl _), Nat.sub_self, hjn]
        have : q = z := kid4_lab nd hq hz el
        rw [this]
        rfl
      · rw [List.getElem?_append_left (by rw [T.len]; omega)]
        exact T.nd j (by omega) z hz hl
end K65

namespace K65
open PySem PySem.Spec L2 PyProof.Rows Mo K64
/-- who is not the root has a parent -/
theorem sub_kid : ∀ {t : Tr} {r : El}, r ∈ t.sub → ∃ q ∈ kid3 t, r = q.2.1 ∨ r = q.2.2
  | .lf _, r, h => by simp [Tr.sub] at h
  | .nd l a b, r, h => by
    have h : r ∈ a.els ∨ r ∈ b.els := by simpa [Tr.sub] using h
    rcases h with h | h <;> rw [els_eq] at h <;> rcases List.mem_cons.mp h with e | h
    · exact ⟨(l, a.root, b.root), by simp [kid3], .inl e⟩
    · obtain ⟨q, h1, h2⟩ := sub_kid h; exact ⟨q, by simp [kid3, h1], h2⟩
    · exact ⟨(l, a.root, b.root), by simp [kid3], .inr e⟩
    · obtain ⟨q, h1, h2⟩ := sub_kid h; exact ⟨q, by simp [kid3, h1], h2⟩
theorem kid4_ne : ∀ {t : Tr}, t.els.Nodup → ∀ {q : Nat × Tr × Tr}, q ∈ kid4 t → q.2.1.root ≠ q.2.2.root
  | .lf _, _, q, h => by simp [kid4] at h
  | .nd l a b, nd, q, h => by
    obtain ⟨n1, n2, n3, n4⟩ := els_nd nd
    simp only [kid4, List.mem_append, List.mem_singleton] at h
    rcases h with (h | h) | h
    · exact kid4_ne n1 h
    · exact kid4_ne n2 h
    · subst h
      exact n3 _ (root_mem a) _ (root_mem b)
section
variable {n : Nat} {c : Nat → Nat} {lab : List Nat} {rs : List (Int × Int)}
theorem nodup_pairs : ∀ l : List (Int × Int), (∀ p ∈ l, p.1 ≠ p.2) → l.Pairwise (fun p q => p.1 ≠ q.1 ∧ p.1 ≠ q.2 ∧ p.2 ≠ q.1 ∧ p.2 ≠ q.2) → (usedOf l).Nodup
  | [], _, _ => List.nodup_nil
  | p :: l, h1, h2 => by
    rw [List.pairwise_cons] at h2
    have ih := nodup_pairs l (fun q hq => h1 q (List.mem_cons_of_mem _ hq)) h2.2
    show ([p.1, p.2] ++ usedOf l).Nodup
    rw [List.nodup_append]
    refine ⟨by simp [h1 p List.mem_cons_self], ih, fun a ha b hb e => ?_⟩
    subst e
    unfold usedOf at hb
    rw [List.mem_flatMap] at hb
    obtain ⟨q, hq, hb⟩ := hb
    obtain ⟨k1, k2, k3, k4⟩ := h2.1 q hq
    simp at ha hb
    rcases ha with rfl | rfl <;> rcases hb with z | z
    · exact k1 z
    · exact k2 z
    · exact k3 z
    · exact k4 z
theorem used_mem (v : Int) : v ∈ usedOf rs ↔ ∃ (i : Nat) (x y : Int), rs[i]? = some (x, y) ∧ (v = x ∨ v = y) := by
  unfold usedOf
  rw [List.mem_flatMap]
  constructor
  · rintro ⟨p, hp, hv⟩
    obtain ⟨i, hi⟩ := List.mem_iff_getElem?.mp hp
    exact ⟨i, p.1, p.2, hi, by simpa using hv⟩
  · rintro ⟨i, x, y, hi, hv⟩
    exact ⟨(x, y), List.mem_of_getElem? hi, by simpa using hv⟩
theorem used_nodup (P : ProgOk (plL n lab) n (bt c (n - 1)) rs) (hc : CodesOk c n) (h1 : 1 ≤ n) : (usedOf rs).Nodup := by
  have nd := (bt_els hc (n - 1) (by omega)).1
  have ap := prog_ap P hc h1
  -- a row's sides are its node's children
  have row : ∀ (i : Nat) (x y : Int), rs[i]? = some (x, y) → ∃ q ∈ kid3 (bt c (n - 1)), plL n lab q.1 = (n : Int) + i ∧ ((x = plE (plL n lab) q.2.1 ∧ y = plE (plL n lab) q.2.2) ∨ (x = plE (plL n lab) q.2.2 ∧ y = plE (plL n lab) q.2.1)) := fun i x y hi => by
    obtain ⟨q, hq, hp⟩ := P.lab i x y hi
    obtain ⟨j, x', y', e1, e2, e3⟩ := P.row q hq
    have : j = i := by omega
    subst this
    rw [hi] at e2
    cases e2
    exact ⟨q, hq, hp, e3⟩
  refine nodup_pairs rs ?_ ?_
  · intro p hp
    obtain ⟨i, hi⟩ := List.mem_iff_getElem?.mp hp
    obtain ⟨q, hq, _, e⟩ := row i p.1 p.2 hi
    have ne : plE (plL n lab) q.2.1 ≠ plE (plL n lab) q.2.2 := by
      rw [kid4_map] at hq
      obtain ⟨z, hz, rfl⟩ := List.mem_map.mp hq
      obtain ⟨m1, m2, _⟩ := kid4_small hz
      intro e
      have := ap_inj ap (m1 _ (root_mem _)) (m2 _ (root_mem _)) e
      exact kid4_ne nd hz this
    have : p.1 ≠ p.2 := by rcases e with ⟨f1, f2⟩ | ⟨f1, f2⟩ <;> rw [f1, f2]
                           · exact ne
                           · exact Ne.symm ne
    exact this
  · rw [List.pairwise_iff_getElem]
    intro i k hi hk hik
    have ri := row i rs[i].1 rs[i].2 (List.getElem?_eq_getElem hi)
    have rk := row k rs[k].1 rs[k].2 (List.getElem?_eq_getElem hk)
    obtain ⟨q, hq, pq, eq⟩ := ri
    obtain ⟨z, hz, pz, ez⟩ := rk
    have key : ∀ v, (v = rs[i].1 ∨ v = rs[i].2) → (v = rs[k].1 ∨ v = rs[k].2) → False := fun v hv hw => by
      obtain ⟨_, q2, q3⟩ := kid_mem hq
      obtain ⟨_, z2, z3⟩ := kid_mem hz
      have a : ∃ r ∈ (bt c (n - 1)).els, v = plE (plL n lab) r ∧ (r = q.2.1 ∨ r = q.2.2) := by
        rcases hv with hv | hv <;> rcases eq with ⟨f1, f2⟩ | ⟨f1, f2⟩
        · exact ⟨_, sub_els q2, hv.trans f1, .inl rfl⟩
        · exact ⟨_, sub_els q3, hv.trans f1, .inr rfl⟩
        · exact ⟨_, sub_els q3, hv.trans f2, .inr rfl⟩
        · exact ⟨_, sub_els q2, hv.trans f2, .inl rfl⟩
      have b : ∃ r ∈ (bt c (n - 1)).els, v = plE (plL n lab) r ∧ (r = z.2.1 ∨ r = z.2.2) := by
        rcases hw with hv | hv <;> rcases ez with ⟨f1, f2⟩ | ⟨f1, f2⟩
        · exact ⟨_, sub_els z2, hv.trans f1, .inl rfl⟩
        · exact ⟨_, sub_els z3, hv.trans f1, .inr rfl⟩
        · exact ⟨_, sub_els z3, hv.trans f2, .inr rfl⟩
        · exact ⟨_, sub_els z2, hv.trans f2, .inl rfl⟩
      obtain ⟨r, hr, vr, r1⟩ := a
      obtain ⟨r', hr', vr', r2⟩ := b
      have := ap_inj ap hr hr' (vr.symm.trans vr')
      subst this
      have := kid_one nd hq hz r1 r2
      rw [this] at pq
      omega
    exact ⟨fun e => key _ (.inl rfl) (.inl e), fun e => key _ (.inl rfl) (.inr e), fun e => key _ (.inr rfl) (.inl e), fun e => key _ (.inr rfl) (.inr e)⟩
end
end K65

namespace K65
open PySem PySem.Spec L2 PyProof.Rows Mo K64
section
variable {n : Nat} {c : Nat → Nat} {lab : List Nat} {rs : List (Int × Int)}
theorem root_last (P : OP n (bt c (n - 1)) lab rs) (hc : CodesOk c n) (h1 : 2 ≤ n) : ∃ l a b, bt c (n - 1) = .nd l a b ∧ lab[n - 2]? = some l := by
  obtain ⟨pk, hlen⟩ := prog_of hc (by omega) P.j P.full
  obtain ⟨e1, e2, e3⟩ := bt_els hc (n - 1) (by omega)
  have hl2 : lab.length = n - 1 := by rw [← P.j.len]; exact hlen
  have one : .inr 1 ∈ (bt c (n - 1)).els := (e3 1).mpr (by omega)
  cases ht : bt c (n - 1) with
  | lf i => rw [ht] at one; simp [Tr.els] at one
  | nd l a b =>
    refine ⟨l, a, b, rfl, ?_⟩
    have hlt : n - 2 < lab.length := by omega
    rw [List.getElem?_eq_getElem hlt]
    congr 1
    -- otherwise the last one has a parent, whose row is later
    by_cases h : lab[n - 2] = l
    · exact h
    · exfalso
      have hm : lab[n - 2] ∈ lab := List.getElem_mem hlt
      obtain ⟨i, hi⟩ : ∃ i, lab[i]? = some lab[n - 2] := ⟨n - 2, List.getElem?_eq_getElem hlt⟩
      have hil : i < rs.length := by rw [P.j.len]; exact (List.getElem?_eq_some_iff.mp hi).1
      obtain ⟨q0, q1, q2, _⟩ := P.j.row i rs[i].1 rs[i].2 (List.getElem?_eq_getElem hil)
      rw [hi] at q2
      have inE : .inr lab[n - 2] ∈ (bt c (n - 1)).els := by rw [Option.some.inj q2]; exact (kid_mem q1).1
      have inS : .inr lab[n - 2] ∈ (bt c (n - 1)).sub := by
        rw [els_eq] at inE
        rcases List.mem_cons.mp inE with z | z
        · rw [ht] at z
          exact absurd (Sum.inr.inj z) h
        · exact z
      obtain ⟨q, hq, hr⟩ := sub_kid inS
      obtain ⟨j, x, y, f1, f2, f3⟩ := pk.row q hq
      have hj : j < rs.length := (List.getElem?_eq_some_iff.mp f2).1
      obtain ⟨lx, ly⟩ := P.lt j x y f2
      have pm : plE (plL n lab) (.inr lab[n - 2]) = ((n + (n - 2) : Nat) : Int) := by
        show plL n lab _ = _
        unfold plL
        rw [idx_at P.j.nd (List.getElem?_eq_getElem hlt)]
      rcases hr with hr | hr <;> rcases f3 with ⟨g1, g2⟩ | ⟨g1, g2⟩ <;> rw [← hr, pm] at * <;> omega
theorem used_sorted (P : OP n (bt c (n - 1)) lab rs) (hc : CodesOk c n) (h1 : 1 ≤ n) : sortI (usedOf rs) = (List.range (2 * n - 2)).map fun i => ((i : Nat) : Int) := by
  obtain ⟨pk, hlen⟩ := prog_of hc h1 P.j P.full
  obtain ⟨e1, e2, e3⟩ := bt_els hc (n - 1) (by omega)
  refine (sortI_one ?_ ?_).symm
  · refine (List.perm_ext_iff_of_nodup ?_ (used_nodup pk hc h1)).mpr fun v => ?_
    · exact List.pairwise_map.mpr (List.Pairwise.imp (fun h z => h (by omega)) List.nodup_range)
    · rw [used_mem]
      have nn : ∀ r : El, 0 ≤ plE (plL n lab) r := fun r => by obtain ⟨k, hk⟩ := plE_nat (n := n) (lab := lab) r; omega
      constructor
      · intro hv
        obtain ⟨k, hk, rfl⟩ := List.mem_map.mp hv
        have hk := List.mem_range.mp hk
        have h2 : 2 ≤ n := by omega
        obtain ⟨l, a, b, ht, hlast⟩ := root_last P hc h2
        -- the element of this place, not the root
        obtain ⟨r, hr, hp⟩ : ∃ r ∈ (bt c (n - 1)).sub, plE (plL n lab) r = (k : Int) := by
          by_cases hkn : k < n
          · refine ⟨.inl k, ?_, rfl⟩
            have := (e2 k).mpr (by omega)
            rw [els_eq] at this
            rcases List.mem_cons.mp this with z | z
            · rw [ht] at z; cases z
            · exact z
          · have hl2 : lab.length = n - 1 := by rw [← P.j.len]; exact hlen
            have hlt : k - n < lab.length := by omega
            have hil : k - n < rs.length := by omega
            obtain ⟨q0, q1, q2, _⟩ := P.j.row (k - n) rs[k - n].1 rs[k - n].2 (List.getElem?_eq_getElem hil)
            have pm : plE (plL n lab) (.inr q0.1) = (k : Int) := by
              show plL n lab _ = _
              unfold plL
              rw [idx_at P.j.nd q2]
              omega
            refine ⟨.inr q0.1, ?_, pm⟩
            have := (kid_mem q1).1
            rw [els_eq] at this
            rcases List.mem_cons.mp this with z | z
            · exfalso
              rw [ht] at z
              have z : q0.1 = l := Sum.inr.inj z
              rw [z] at q2
              have a1 := idx_at P.j.nd q2
              have a2 := idx_at P.j.nd hlast
              omega
            · exact z
        obtain ⟨q, hq, hr'⟩ := sub_kid hr
        obtain ⟨j, x, y, f1, f2, f3⟩ := pk.row q hq
        refine ⟨j, x, y, f2, ?_⟩
        rcases hr' with e | e <;> rcases f3 with ⟨g1, g2⟩ | ⟨g1, g2⟩ <;> rw [e] at hp
        · exact .inl (by rw [g1, hp])
        · exact .inr (by rw [g2, hp])
        · exact .inr (by rw [g2, hp])
        · exact .inl (by rw [g1, hp])
      · rintro ⟨i, x, y, hi, hv⟩
        obtain ⟨lx, ly⟩ := P.lt i x y hi
        have hil : i < rs.length := (List.getElem?_eq_some_iff.mp hi).1
        obtain ⟨q, _, _, _, _, f⟩ := P.j.row i x y hi
        have n1 := nn q.2.1
        have n2 := nn q.2.2
        have b : 0 ≤ v ∧ v < 2 * (n : Int) - 2 := by
          rcases hv with rfl | rfl <;> rcases f with ⟨g1, g2⟩ | ⟨g1, g2⟩ <;> omega
        exact List.mem_map.mpr ⟨v.toNat, List.mem_range.mpr (by omega), by omega⟩
  · exact List.pairwise_map.mpr (List.Pairwise.imp (fun h => by omega) List.pairwise_lt_range)
end
end K65

namespace Mo
open PySem PySem.Spec L2 PyProof.Rows
theorem eqvAll_refl : ∀ cs : List Int, PyData.eqvAll (cs.map PyData.int) (cs.map PyData.int) = true
  | [] => rfl
  | c :: cs => by rw [List.map_cons, PyData.eqvAll, eqvAll_refl cs, PyData.eqv]; simp
theorem x_eqInts {S : List O} (cs : List Int) : gEq S (.lst (cs.map .int)) (.lst (cs.map .int)) = some (.bl true) := by
  unfold gEq eqB
  rw [show scD (.lst (cs.map .int)) (.lst (cs.map .int)) = none by rfl]
  dsimp only
  rw [show toPyS S (.lst (cs.map .int)) = some (.list (cs.map PyData.int)) by
    show toPy (.lst (cs.map .int)) = _
    rw [toPy, toPys_ints]]
  dsimp only
  rw [if_pos ⟨shaped_ints cs, shaped_ints cs⟩, PyData.eqv, eqvAll_refl]
  rfl
theorem ints_of : ∀ cs : List Int, intsD (cs.map .int) = some cs
  | [] => rfl
  | c :: cs => by rw [List.map_cons, intsD, ints_of cs]
theorem x_sortI {S : List O} (cs : List Int) : gSorted S [.lst (cs.map .int)] = some (.lst ((sortI cs).map .int)) := by
  show (match intsD (cs.map D.int) with | some ns => some (D.lst ((sortI ns).map .int)) | none => _) = _
  rw [ints_of]
theorem v_compN {m : MI} {t : Tg} {tt : MT} {te : ME} {vs : List Nat} {e : Mo.Env} {S S1 S2 : List O} {l r : List D} {chk : List O → Bool} (h1 : m e S = .ok (l, chk) S1) (h2 : compL chk t tt te (wipeE e vs) [] l S1 = .ok r S2) : mCompN m t tt te vs e S = .ok (.ref S2.length) (S2 ++ [.lst r]) := by
  unfold mCompN
  rw [h1]
  show (compL chk t tt te (wipeE e vs) [] l S1).bind _ = _
  rw [h2]
  rfl
theorem int_repr {v : Int} (h : v.natAbs < 10 ^ 20) (S : List O) : okRepr S (.int v) = true := by
  show ((PyData.int v).showable && !(PyData.int v).hasDict && decide ((PyData.int v).depth ≤ 64) && decide (lenB (.int v) ≤ sz)) = true
  rw [PyData.showable, decide_eq_true (lg h), decide_eq_true (show (PyData.int v).depth ≤ 64 from Nat.zero_le _), decide_eq_true (show lenB (.int v) ≤ sz from Nat.le_trans (lenI h) (show 1921 ≤ 16777216 by decide))]
  rfl
theorem tup1_repr {v : Int} (h : v.natAbs < 10 ^ 20) (S : List O) : okRepr S (.tup [.int v]) = true := by
  have l := lenI h
  show ((PyData.tuple [.int v]).showable && !(PyData.tuple [.int v]).hasDict && decide ((PyData.tuple [.int v]).depth ≤ 64) && decide (lenB (.tuple [.int v]) ≤ sz)) = true
  have e1 : (PyData.tuple [.int v]).showable = true := by simp only [PyData.showable, PyData.showableAll, decide_eq_true (lg h), Bool.and_self]
  have e4 : lenB (.tuple [.int v]) ≤ sz := by
    rw [lenB, lenBs, lenBs]
    show _ ≤ 16777216
    omega
  rw [e1, decide_eq_true (show (PyData.tuple [.int v]).depth ≤ 64 from (show 1 ≤ 64 by decide)), decide_eq_true e4]
  rfl
end Mo
namespace K65
open PySem PySem.Spec L2 PyProof.Rows Mo K64
theorem shape_ok {n : Nat} {c : Nat → Nat} {lab : List Nat} {rs : List (Int × Int)} {out : Int} (P : OP n (bt c (n - 1)) lab rs) (hc : CodesOk c n) (h1 : 1 ≤ n) (hn : n ≤ 12) (ho : out = 2 * (n : Int) - 2) :
    ∃ S, m__law_shape [progD n rs out, .int n] [] = .ok (.str (txt (bt c (n - 1)))) S := by
  obtain ⟨pk, hlen⟩ := prog_of hc h1 P.j P.full
  obtain ⟨e1, e2, e3⟩ := bt_els hc (n - 1) (by omega)
  have few := kids_few hc h1 hn
  have hV : ∀ r ∈ (bt c (n - 1)).els, Val n r := fun r hr => by
    cases r with
    | inl i => have := (e2 i).mp hr; show i < n; omega
    | inr l => have := (e3 l).mp hr; show l < n; omega
  let ts0 : List D := (List.range n).map fun k => .str (str k)
  have T0 : Tx n (bt c (n - 1)) lab 0 ts0 := ⟨by simp [ts0], fun k hk => by simp only [ts0]; rw [List.getElem?_map, List.getElem?_range hk]; rfl, fun j hj => absurd hj (Nat.not_lt_zero _)⟩
  -- the rows
  have key := loop_at (t := tgN 5) (b := shBody) (l0 := rs.map rowD)
    (I := fun i e S => ∃ a5 a6 ts Sr, e = [some (progD n rs out), some (.int n), some (.ref 0), some (.lst ((usedOf (rs.take i)).map .int)), none, a5, a6] ∧ S = .lst ts :: Sr ∧ Tx n (bt c (n - 1)) lab i ts)
    (fun i d hd e S ⟨a5, a6, ts, Sr, he, hS, T⟩ => by
      subst he hS
      rw [List.getElem?_map] at hd
      cases hi : rs[i]? with
      | none => rw [hi] at hd; cases hd
      | some p =>
        rw [hi] at hd
        cases hd
        have hil : i < rs.length := (List.getElem?_eq_some_iff.mp hi).1
        have ul : ∀ l : List (Int × Int), (usedOf l).length = 2 * l.length := fun l => by
          induction l with
          | nil => rfl
          | cons q l ih => show ([q.1, q.2] ++ usedOf l).length = _; rw [List.length_append, ih, List.length_cons]; simp [Nat.mul_add, Nat.add_comm]
        obtain ⟨a6', ts', Sr', hr, T'⟩ := shape_turn (x := p.1) (y := p.2) (us := usedOf (rs.take i)) (Sr := Sr) (a0 := some (progD n rs out)) (a1 := some (.int n)) (a4 := none) (a6 := a6) P e1 hV few hn (by omega) T hi (by rw [ul, List.length_take]; omega)
        have eu : usedOf (rs.take (i + 1)) = usedOf (rs.take i) ++ [p.1, p.2] := by
          unfold usedOf
          rw [List.take_succ, hi, List.flatMap_append]
          rfl
        exact ⟨_, _, _, rfl, hr, _, a6', ts', Sr', by rw [eu], rfl, T'⟩)
    (l := _) (i := 0) (e := [some (progD n rs out), some (.int n), some (.ref 0), some (.lst []), none, none, none]) (S := [.lst ts0]) rfl (Nat.zero_le _)
    ⟨none, none, ts0, [], rfl, rfl, T0⟩
  obtain ⟨e', S', hl, a5, a6, ts, Sr, rfl, rfl, T⟩ := key
  rw [List.length_map] at T hl
  rw [List.take_length] at hl
  have last : atI ts (-1) = some (.str (txt (bt c (n - 1)))) := by
    have tl : ts.length = n + (n - 1) := by rw [T.len, hlen]
    unfold atI ixN
    rw [tl, if_neg (by decide), if_pos (by omega)]
    show ts[(-1 + ((n + (n - 1) : Nat) : Int)).toNat]? = _
    by_cases h2 : 2 ≤ n
    · obtain ⟨l, a, b, ht, hlast⟩ := root_last P hc h2
      have := T.nd (n - 2) (by omega) (l, a, b) (by rw [ht]; exact kid4_self) hlast
      rw [show (-1 + ((n + (n - 1) : Nat) : Int)).toNat = n + (n - 2) by omega, this, ht]
      rfl
    · have : n = 1 := by omega
      subst this
      exact T.lf 0 (by decide)
  refine ⟨_, nb_ok (fn_rt (S' := .lst ts :: Sr) (d := .str (txt (bt c (n - 1)))) rfl ?_)⟩
  refine w_seq (w_ifF (S1 := []) rfl rfl) ?_
  have hout : gIx [] (progD n rs out) (.int 2) = some (.tup [.int out]) := rfl
  refine w_seq (w_ifF (S1 := []) (v_or (k := false) (v_tb (v_reprNe (a := .int n) (v_bin (v_var rfl) v_C rfl) (int_repr (by omega) []) (v_var rfl) rfl)) ?_) rfl) ?_
  · rw [if_neg (by simp)]
    refine v_or (k := false) (v_tb (v_bin (v_cb (v_cons (v_bin (d := .tup (rs.map rowD)) (v_var rfl) v_C rfl) v_nil) (show gLen [] [.tup (rs.map rowD)] = some (.int (rs.map rowD).length) from rfl)) (v_bin (v_var rfl) v_C x_subI) ?_)) ?_
    · rw [x_neI, List.length_map, hlen, decide_eq_true (by omega)]
      rfl
    · rw [if_neg (by simp)]
      refine v_tb (v_reprNe (a := .tup [.int out]) (v_bin (v_var rfl) v_C hout) (tup1_repr (by omega) []) ?_ rfl)
      rw [ho]
      exact v_tup (v_cons (v_bin (v_bin v_C (v_var rfl) (x_mul (by decide))) v_C x_subI) v_nil) (show 1 ≤ 16777216 by decide)
  · refine w_seq (w_par (a := .ref 0) (b := .lst []) (S1 := [.lst ts0]) (v_cons (v_compN (S1 := []) (S2 := []) (r := ts0) (v_mir (v_cons (v_var rfl) v_nil) (range1_at (by omega))) ?_) (v_cons (v_lst v_nil (show 0 ≤ 16777216 by decide)) v_nil))) ?_
    · refine (compL_map (acc := []) (l := rangeD 0 1 n) (f := fun d => match d with | .int i => .str ((toString i : String)) | d => d) rfl (fun d hd => ?_) (Nat.le_trans (Nat.le_of_eq (show 0 + (rangeD 0 1 n).length = n by rw [range_len, Nat.zero_add])) (Nat.le_trans hn (show 12 ≤ 16777216 by decide)))).trans ?_
      · obtain ⟨i, hi⟩ := List.mem_iff_getElem?.mp hd
        obtain ⟨hi, rfl⟩ := range_at hi
        refine ⟨_, rfl, v_cb (v_cons (v_var rfl) v_nil) ?_⟩
        rw [show (0 : Int) + (i : Nat) * 1 = (i : Nat) by omega]
        exact str_ok (by omega)
      · rw [List.nil_append]
        unfold rangeD
        rw [List.map_map]
        show R.ok _ _ = _
        congr 1
        apply List.map_congr_left
        intro k _
        show D.str ((toString ((0 : Int) + (k : Nat) * 1) : String)) = .str (str k)
        rw [show (0 : Int) + (k : Nat) * 1 = (k : Nat) by omega]
        rfl
    · refine w_seq ((w_for (l := rs.map rowD) (chk := anyS) (S1 := [.lst ts0]) rfl).trans hl) ?_
      refine w_ret (v_ifT (v_tb (k := true) (v_bin (v_cb (v_cons (v_var rfl) v_nil) (x_sortI _)) (v_listR (r := rangeD 0 1 (2 * n - 2)) (v_cons (v_bin (v_bin v_C (v_var rfl) (x_mul (by decide))) v_C x_subI) v_nil) ?_ ?_) ?_)) (v_bin (v_var rfl) (v_un v_C rfl) (x_ix rfl last)))
      · rw [show 2 * (n : Int) - 2 = ((2 * n - 2 : Nat) : Int) by omega]
        exact range1_at (by omega)
      · rw [range_len]; exact Nat.le_trans (show 2 * n - 2 ≤ 100 by omega) (show 100 ≤ 16777216 by decide)
      · rw [used_sorted P hc h1]
        have : rangeD 0 1 (2 * n - 2) = ((List.range (2 * n - 2)).map fun i => ((i : Nat) : Int)).map D.int := by
          unfold rangeD
          rw [List.map_map]
          apply List.map_congr_left
          intro k _
          show D.int ((0 : Int) + (k : Nat) * 1) = D.int (k : Nat)
          congr 1
          omega
        rw [this]
        exact x_eqInts _
end K65

namespace Mo
open PySem PySem.Spec L2 PyProof.Rows
theorem trim_app (S T : List O) : trimS true S (S ++ T) = S := by
  have ht : (S ++ T).take S.length = S := by simp
  unfold trimS
  rw [ht, if_pos]
  rw [Bool.true_and, List.all_eq_true]
  intro p hp
  obtain ⟨i, hi⟩ := List.mem_iff_getElem?.mp hp
  rw [List.getElem?_zip_eq_some] at hi
  rw [Bool.or_eq_true]
  left
  have : p.1 = p.2 := Option.some.inj (hi.1.symm.trans hi.2)
  simp [this]
theorem rev_range : ∀ m : Nat, m < 24 → sliceRange (sliceBounds none none (some (-1)) m).fst (sliceBounds none none (some (-1)) m).snd.fst (sliceBounds none none (some (-1)) m).snd.snd = (List.range m).map fun i => m - 1 - i := by decide +kernel
theorem filt {α : Type} (l : List α) : ∀ m, m ≤ l.length → List.filterMap (fun x => l[x]?) ((List.range m).map fun i => m - 1 - i) = (l.take m).reverse
  | 0, _ => by simp
  | m + 1, h => by
    have ih := filt l m (by omega)
    rw [List.range_succ_eq_map, List.map_cons, List.map_map]
    rw [List.filterMap_cons]
    have e : (l[m + 1 - 1 - 0]?) = some (l[m]'(by omega)) := by simp
    rw [e]
    simp only []
    have e2 : (List.map ((fun i => m + 1 - 1 - i) ∘ Nat.succ) (List.range m)) = (List.range m).map fun i => m - 1 - i := by
      apply List.map_congr_left
      intro i _
      show m + 1 - 1 - (i + 1) = m - 1 - i
      omega
    rw [e2, ih]
    rw [List.take_succ_eq_append_getElem (by omega), List.reverse_append]
    rfl
theorem pick_rev {α : Type} (l : List α) (h : l.length < 24) : pickD l none none (-1) = l.reverse := by
  unfold pickD
  rw [rev_range l.length h, filt l l.length (Nat.le_refl _), List.take_length]
theorem v_revR {e : Mo.Env} {S S1 : List O} {m : ME} {j : Nat} {l : List D} (h : m e S = .ok (.ref j) S1) (h2 : S1[j]? = some (.lst l)) (h3 : l.length < 24) : mSl3 m moN moN (moS (mUn gNeg (mC (.int 1)))) e S = .ok (.lst l.reverse) S1 := by
  unfold mSl3
  rw [h]
  show R.ofO S1 (gSl3 S1 (.ref j) none none (some (-1))) = _
  have : gSl3 S1 (.ref j) none none (some (-1)) = some (.lst l.reverse) := by
    show (if (-1 : Int) ≠ 0 then (match seqR S1 (.ref j) with | some l => some (D.lst (pickD l none none (-1))) | none => none) else none) = _
    rw [if_pos (by decide), show seqR S1 (.ref j) = some l by unfold seqR; simp only [h2]]
    show some (D.lst (pickD l none none (-1))) = _
    rw [pick_rev l h3]
  rw [this]
  rfl
end Mo
namespace K65
open PySem PySem.Spec L2 PyProof.Rows Mo K64
/-- what is left of the number, the codes of the last i letters taken out -/
def tl (n : Nat) (t : Int) : Nat → Int
  | 0 => t
  | i + 1 => tl n t i / (2 * ((n - 1 - i : Nat) : Int) - 1)
def dg (n : Nat) (t : Int) (L : Nat) : Nat := (tl n t (n - 1 - L) % (2 * (L : Int) - 1)).toNat
theorem dg_ok (n : Nat) (t : Int) : CodesOk (dg n t) n := fun L h1 h2 => by
  have a := Int.emod_nonneg (tl n t (n - 1 - L)) (show (2 * (L : Int) - 1) ≠ 0 by omega)
  have b := Int.emod_lt_of_pos (tl n t (n - 1 - L)) (show 0 < (2 * (L : Int) - 1) by omega)
  unfold dg
  omega
/-- the codes found so far, the last letter's first -/
def fnd (n : Nat) (t : Int) (i : Nat) : List D := (List.range i).map fun j => .int (dg n t (n - 1 - j) : Nat)
theorem fnd_rev (n : Nat) (t : Int) : (fnd n t (n - 1)).reverse = codesD (dg n t) (n - 1) := by
  apply List.ext_getElem
  · simp [fnd, codesD]
  · intro i h1 h2
    simp [fnd] at h1
    simp only [fnd, codesD, List.getElem_reverse, List.getElem_map, List.getElem_range, List.length_map, List.length_range]
    congr 3
    omega
def cBody (m : ME) : MS := sSeq (sExpr (mMt isL gAppend (mVar 2) (mCons (mBin gMod m (mBin gSub (mBin gMul (mC (.int 2)) (mVar 3)) (mC (.int 1)))) mNil))) (
  sAsg 1 (mBin gDiv (mVar 1) (mBin gSub (mBin gMul (mC (.int 2)) (mVar 3)) (mC (.int 1)))))
theorem codes_loop {n : Nat} {t : Int} {S : List O} {m : ME} (h1 : 1 ≤ n) (hn : n ≤ 12) (hm : ∀ a0 v a2 a3 T, m [a0, some (.int v), a2, a3] T = .ok (.int v) T) : ∃ a1 a3, loopL anyS (tgN 3) (cBody m) (rangeD ((n : Int) - 1) (-1) (n - 1)) [some (.int n), some (.int t), some (.ref S.length), none] (S ++ [.lst []]) =
    .nx [some (.int n), a1, some (.ref S.length), a3] (S ++ [.lst (fnd n t (n - 1))]) := by
  have key := loop_at (t := tgN 3) (b := cBody m) (l0 := rangeD ((n : Int) - 1) (-1) (n - 1))
    (I := fun i e T => ∃ a3, e = [some (.int n), some (.int (tl n t i)), some (.ref S.length), a3] ∧ T = S ++ [.lst (fnd n t i)])
    (fun i d hd e T ⟨a3, he, hT⟩ => by
      subst he hT
      obtain ⟨hi, rfl⟩ := range_at hd
      have ed : (n : Int) - 1 + (i : Nat) * (-1) = ((n - 1 - i : Nat) : Int) := by omega
      rw [ed]
      have g0 : (S ++ [O.lst (fnd n t i)])[S.length]? = some (.lst (fnd n t i)) := by rw [List.getElem?_append_right (Nat.le_refl _), Nat.sub_self]; rfl
      have fl : (fnd n t i).length < sz := by
        simp only [fnd, List.length_map, List.length_range]
        exact Nat.lt_trans (show i < 100 by omega) (by decide)
      have pos : (0 : Int) < 2 * ((n - 1 - i : Nat) : Int) - 1 := by omega
      have sub : ∀ T, mBin gSub (mBin gMul (mC (.int 2)) (mVar 3)) (mC (.int 1)) [some (.int n), some (.int (tl n t i)), some (.ref S.length), some (.int ((n - 1 - i : Nat) : Int))] T = .ok (.int (2 * ((n - 1 - i : Nat) : Int) - 1)) T := fun T => v_bin (v_bin v_C (v_var rfl) (x_mul (by decide))) v_C x_subI
      refine ⟨_, [some (.int n), some (.int (tl n t (i + 1))), some (.ref S.length), some (.int ((n - 1 - i : Nat) : Int))], S ++ [.lst (fnd n t (i + 1))], rfl, ?_, _, rfl, rfl⟩
      refine w_seq (e1 := [some (.int n), some (.int (tl n t i)), some (.ref S.length), some (.int ((n - 1 - i : Nat) : Int))]) (S1 := S ++ [.lst (fnd n t (i + 1))]) ((w_expr (v_app (d := .int (dg n t (n - 1 - i) : Nat)) (v_var rfl) g0 (v_cons (v_bin (hm _ _ _ _ _) (sub _) ?_) v_nil) g0 fl)).trans ?_) ?_
      · rw [x_mod pos]
        congr 2
        unfold dg
        rw [show n - 1 - (n - 1 - i) = i by omega]
        have := Int.emod_nonneg (tl n t i) (show (2 * ((n - 1 - i : Nat) : Int) - 1) ≠ 0 by omega)
        omega
      · rw [List.set_append_right _ _ (Nat.le_refl _), Nat.sub_self]
        congr 2
        show [O.lst (fnd n t i ++ [_])] = [O.lst (fnd n t (i + 1))]
        unfold fnd
        rw [List.range_succ, List.map_append]
        rfl
      · exact w_asg (v_bin (v_var rfl) (sub _) (x_div pos (by omega))))
    (l := _) (i := 0) (e := [some (.int n), some (.int t), some (.ref S.length), none]) (S := S ++ [.lst []]) rfl (Nat.zero_le _) ⟨none, rfl, rfl⟩
  obtain ⟨e1, T, hl, a3, rfl, rfl⟩ := key
  rw [range_len] at hl
  exact ⟨_, a3, hl⟩
theorem ints_los (k : Nat) (c : Nat → Nat) (m : Nat) : D.los k (codesD c m) = true := by
  unfold codesD
  induction m with
  | zero => rfl
  | succ m ih =>
    rw [List.range_succ, List.map_append]
    have : ∀ l : List D, D.los k l = true → ∀ d, D.lo k d = true → D.los k (l ++ [d]) = true := fun l => by
      induction l with
      | nil => intro _ d hd; simp [D.los, hd]
      | cons a l ih2 => intro h d hd; simp [D.los] at h ⊢; exact ⟨h.1, ih2 h.2 d hd⟩
    exact this _ ih _ rfl
theorem codes_ok {n : Nat} {t : Int} {S : List O} (h1 : 1 ≤ n) (hn : n ≤ 12) : m_codes_of [.int n, .int t] S = .ok (.lst (codesD (dg n t) (n - 1))) S := by
  obtain ⟨a1, a3, hl⟩ := codes_loop (t := t) (S := S) (m := mVar 1) h1 hn (fun _ _ _ _ _ => v_var rfl)
  refine nb_ok ((fn_rt (S' := S ++ [.lst (fnd n t (n - 1))]) (d := .lst (codesD (dg n t) (n - 1))) rfl ?_).trans ?_)
  · refine w_seq (w_asg (v_new v_nil (show 0 ≤ 16777216 by decide))) ?_
    refine w_seq ((w_for (v_mir (v_cons (v_bin (v_var rfl) v_C x_subI) (v_cons v_C (v_cons (v_un v_C rfl) v_nil))) (range3_at n (by omega) h1))).trans hl) ?_
    rw [← fnd_rev]
    exact w_ret (v_revR (v_var rfl) (by rw [List.getElem?_append_right (Nat.le_refl _), Nat.sub_self]; rfl) (by simp only [fnd, List.length_map, List.length_range]; omega))
  · rw [show D.lo S.length (.lst (codesD (dg n t) (n - 1))) = true from ints_los _ _ _, trim_app]
theorem split_ok {n : Nat} {t : Int} {S : List O} (h1 : 1 ≤ n) (hn : n ≤ 12) : m__law_split [.int n, .int t] S = .ok (.lst (codesD (dg n t) (n - 1))) S := by
  obtain ⟨a1, a3, hl⟩ := codes_loop (t := t) (S := S) (m := mCB gInt (mCons (mVar 1) mNil)) h1 hn (fun _ _ _ _ _ => v_cb (v_cons (v_var rfl) v_nil) x_int)
  refine nb_ok ((fn_rt (S' := S ++ [.lst (fnd n t (n - 1))]) (d := .lst (codesD (dg n t) (n - 1))) rfl ?_).trans ?_)
  · refine w_seq (w_asg (v_new v_nil (show 0 ≤ 16777216 by decide))) ?_
    refine w_seq ((w_for (v_mir (v_cons (v_bin (v_var rfl) v_C x_subI) (v_cons v_C (v_cons (v_un v_C rfl) v_nil))) (range3_at n (by omega) h1))).trans hl) ?_
    rw [← fnd_rev]
    exact w_ret (v_revR (v_var rfl) (by rw [List.getElem?_append_right (Nat.le_refl _), Nat.sub_self]; rfl) (by simp only [fnd, List.length_map, List.length_range]; omega))
  · rw [show D.lo S.length (.lst (codesD (dg n t) (n - 1))) = true from ints_los _ _ _, trim_app]
end K65

namespace K65
open PySem PySem.Spec L2 PyProof.Rows Mo K64
/-- what stands above the place X ahead of a letter that comes there -/
def Above (pl : Nat → Int) (sd us : Int → Option D) (T X : Tr) : Option (Nat × Tr) → Prop
  | none => X = T
  | some (u, B) => us (X.pos pl) = some (.int (pl u)) ∧ Pair sd (pl u) (X.pos pl) (B.pos pl) ∧ B.pos pl ≠ X.pos pl ∧ X.root ∈ T.sub ∧ .inr u ∈ T.els
/-- what is written then -/
def Wrote (pl : Nat → Int) (sd us sd' us' : Int → Option D) (L : Nat) (X : Tr) : Option (Nat × Tr) → Prop
  | none => ∀ k, k ≠ pl L → sd' k = sd k
  | some (u, B) => us' (pl L) = some (.int (pl u)) ∧ Pair sd' (pl u) (pl L) (B.pos pl) ∧ ∀ k, k ≠ pl L → k ≠ pl u → sd' k = sd k
theorem ap_sub {pl : Nat → Int} {L : Nat} {l m : List El} (h : Ap pl (.inr L :: .inl L :: m)) (hs : ∀ x ∈ l, x ∈ m) (hn : Ap pl l) : Ap pl (.inr L :: .inl L :: l) := by
  have apL := ap_cons h
  have apI := ap_cons apL.2
  unfold Ap
  rw [List.map_cons, List.map_cons, List.nodup_cons, List.nodup_cons]
  refine ⟨fun z => ?_, fun z => ?_, hn⟩
  · rcases List.mem_cons.mp z with z | z
    · exact apL.1 (.inl L) (by simp) z.symm
    · obtain ⟨y, hy, e⟩ := List.mem_map.mp z
      exact apL.1 y (by simp [hs y hy]) e
  · obtain ⟨y, hy, e⟩ := List.mem_map.mp z
    exact apI.1 y (hs y hy) e
theorem ins {pl : Nat → Int} {sd us sd' us' : Int → Option D} {L c : Nat} {T X : Tr} {p : Option (Nat × Tr)} (h : Hit L c T X p) : Sep L T.els → Ap pl (.inr L :: .inl L :: T.els) → Holds pl sd us T →
    Above pl sd us T X p ∧ ((∀ k, k ≠ pl L → k ≠ X.pos pl → k ≠ (L : Nat) → us' k = us k) → us' (X.pos pl) = some (.int (pl L)) → us' (L : Nat) = some (.int (pl L)) → Pair sd' (pl L) (X.pos pl) (L : Nat) → Wrote pl sd us sd' us' L X p →
      Holds pl sd' us' (T.put L c) ∧ (p ≠ none → (T.put L c).root = T.root)) := by
  induction h with
  | @here T h =>
    intro s ap H
    refine ⟨rfl, fun h1 h2 h3 h4 h5 => ⟨?_, fun z => absurd rfl z⟩⟩
    rw [put_here h]
    have apL := ap_cons ap
    have apI := ap_cons apL.2
    have ap2 := apI.2
    rw [els_eq] at ap2
    refine ⟨h4, h2, h3, holds_congr H (fun x hx => h1 _ (apL.1 x (by simp [sub_els hx])) ((ap_cons ap2).1 x hx) (apI.1 x (sub_els hx))) (fun x hx => h5 _ (apL.1 x (by simp [hx]))), trivial⟩
  | @inl l a b X p h ih =>
    intro s ap H
    rw [hit_put s h]
    obtain ⟨h1, h2, h3, h4, h5⟩ := H
    have s3 := (sep_app (sep_cons (show Sep L ((Sum.inr l : El) :: (a.els ++ b.els)) from s)).2).1
    have apL := ap_cons ap
    have apI := ap_cons apL.2
    have apT : Ap pl ((Sum.inr l : El) :: (a.els ++ b.els)) := apI.2
    obtain ⟨q1, q2⟩ := ap_cons apT
    obtain ⟨q3, q4, q5⟩ := ap_app q2
    have inT : ∀ x ∈ a.els, x ∈ (Tr.nd l a b).els := fun x hx => by simp [Tr.els, hx]
    have inTb : ∀ x ∈ b.els, x ∈ (Tr.nd l a b).els := fun x hx => by simp [Tr.els, hx]
    have lT : .inr l ∈ (Tr.nd l a b).els := by simp [Tr.els]
    obtain ⟨i1, i2⟩ := ih s3 (ap_sub ap inT q3) h4
    have xa : X.root ∈ a.els := h.mem
    have bx : b.pos pl ≠ X.pos pl := Ne.symm (q5 _ xa _ (root_mem b))
    -- b isn't touched
    have hb : (∀ k, k ≠ pl L → k ≠ X.pos pl → k ≠ (L : Nat) → us' k = us k) → (∀ x ∈ b.els, sd' (plE pl x) = sd (plE pl x)) → Holds pl sd' us' b := fun k1 k2 =>
      holds_congr h5 (fun x hx => k1 _ (apL.1 x (by simp [inTb x (sub_els hx)])) (Ne.symm (q5 _ xa x (sub_els hx))) (apI.1 x (inTb x (sub_els hx)))) k2
    have ub : (∀ k, k ≠ pl L → k ≠ X.pos pl → k ≠ (L : Nat) → us' k = us k) → us' (b.pos pl) = us (b.pos pl) := fun k1 => k1 _ (apL.1 _ (by simp [inTb _ (root_mem b)])) bx (apI.1 _ (inTb _ (root_mem b)))
    cases p with
    | none =>
      obtain rfl : X = a := i1
      refine ⟨⟨h2, h1, bx, by simp [Tr.sub, root_mem], lT⟩, fun k1 k2 k3 k4 ⟨k5, k6, k7⟩ => ?_⟩
      have k5 : us' (pl L) = some (.int (pl l)) := k5
      have lL : pl l ≠ pl L := apL.1 (.inr l) (by simp [lT])
      have sdX : ∀ x ∈ X.els, sd' (plE pl x) = sd (plE pl x) := fun x hx => k7 _ (apL.1 x (by simp [inT x hx])) (q1 x (by simp [hx]))
      have sdb : ∀ x ∈ b.els, sd' (plE pl x) = sd (plE pl x) := fun x hx => k7 _ (apL.1 x (by simp [inTb x hx])) (q1 x (by simp [hx]))
      have q3' := q3
      rw [els_eq] at q3'
      have pX : X.put L c = .nd L X (.lf L) := put_here h.name
      rw [pX]
      refine ⟨⟨k6, k5, (ub k1).trans h3, ⟨k4, k2, k3, holds_congr h4 (fun x hx => k1 _ (apL.1 x (by simp [inT x (sub_els hx)])) ((ap_cons q3').1 x hx) (apI.1 x (inT x (sub_els hx)))) sdX, trivial⟩, hb k1 sdb⟩, fun _ => rfl⟩
    | some uB =>
      obtain ⟨u, B⟩ := uB
      obtain ⟨j1, j2, j3, j4, j5⟩ := i1
      refine ⟨⟨j1, j2, j3, by simp [Tr.sub, xa], inT _ j5⟩, fun k1 k2 k3 k4 ⟨k5, k6, k7⟩ => ?_⟩
      obtain ⟨r1, r2⟩ := i2 k1 k2 k3 k4 ⟨k5, k6, k7⟩
      have er : (a.put L c).pos pl = a.pos pl := by unfold Tr.pos; rw [r2 (by simp)]
      have lu : pl l ≠ pl u := fun z => q1 (.inr u) (by simp [j5]) z.symm
      have lL : pl l ≠ pl L := apL.1 (.inr l) (by simp [lT])
      have ax : a.pos pl ≠ X.pos pl := by
        have q3' := q3
        rw [els_eq] at q3'
        exact fun z => (ap_cons q3').1 _ j4 z.symm
      refine ⟨⟨?_, ?_, (ub k1).trans h3, r1, hb k1 fun x hx => k7 _ (apL.1 x (by simp [inTb x hx])) (Ne.symm (q5 (.inr u) j5 x hx))⟩, fun _ => rfl⟩
      · unfold Pair at h1 ⊢
        rw [er, k7 _ lL lu]
        exact h1
      · rw [er, k1 _ (apL.1 _ (by simp [inT _ (root_mem a)])) ax (apI.1 _ (inT _ (root_mem a)))]
        exact h2
  | @inr l a b X p h ih =>
    intro s ap H
    rw [hit_put2 s h]
    obtain ⟨h1, h2, h3, h4, h5⟩ := H
    have s3 := (sep_app (sep_cons (show Sep L ((Sum.inr l : El) :: (a.els ++ b.els)) from s)).2).2.1
    have apL := ap_cons ap
    have apI := ap_cons apL.2
    have apT : Ap pl ((Sum.inr l : El) :: (a.els ++ b.els)) := apI.2
    obtain ⟨q1, q2⟩ := ap_cons apT
    obtain ⟨q3, q4, q5⟩ := ap_app q2
    have inT : ∀ x ∈ a.els, x ∈ (Tr.nd l a b).els := fun x hx => by simp [Tr.els, hx]
    have inTb : ∀ x ∈ b.els, x ∈ (Tr.nd l a b).els := fun x hx => by simp [Tr.els, hx]
    have lT : .inr l ∈ (Tr.nd l a b).els := by simp [Tr.els]
    obtain ⟨i1, i2⟩ := ih s3 (ap_sub ap inTb q4) h5
    have xb : X.root ∈ b.els := h.mem
    have ax : a.pos pl ≠ X.pos pl := q5 _ (root_mem a) _ xb
    have ha : (∀ k, k ≠ pl L → k ≠ X.pos pl → k ≠ (L : Nat) → us' k = us k) → (∀ x ∈ a.els, sd' (plE pl x) = sd (plE pl x)) → Holds pl sd' us' a := fun k1 k2 =>
      holds_congr h4 (fun x hx => k1 _ (apL.1 x (by simp [inT x (sub_els hx)])) (q5 x (sub_els hx) _ xb) (apI.1 x (inT x (sub_els hx)))) k2
    have ua : (∀ k, k ≠ pl L → k ≠ X.pos pl → k ≠ (L : Nat) → us' k = us k) → us' (a.pos pl) = us (a.pos pl) := fun k1 => k1 _ (apL.1 _ (by simp [inT _ (root_mem a)])) ax (apI.1 _ (inT _ (root_mem a)))
    cases p with
    | none =>
      obtain rfl : X = b := i1
      refine ⟨⟨h3, h1.symm, ax, by simp [Tr.sub, root_mem], lT⟩, fun k1 k2 k3 k4 ⟨k5, k6, k7⟩ => ?_⟩
      have k5 : us' (pl L) = some (.int (pl l)) := k5
      have sdX : ∀ x ∈ X.els, sd' (plE pl x) = sd (plE pl x) := fun x hx => k7 _ (apL.1 x (by simp [inTb x hx])) (q1 x (by simp [hx]))
      have sda : ∀ x ∈ a.els, sd' (plE pl x) = sd (plE pl x) := fun x hx => k7 _ (apL.1 x (by simp [inT x hx])) (q1 x (by simp [hx]))
      have q4' := q4
      rw [els_eq] at q4'
      have pX : X.put L c = .nd L X (.lf L) := put_here h.name
      rw [pX]
      refine ⟨⟨Pair.symm k6, (ua k1).trans h2, k5, ha k1 sda, ⟨k4, k2, k3, holds_congr h5 (fun x hx => k1 _ (apL.1 x (by simp [inTb x (sub_els hx)])) ((ap_cons q4').1 x hx) (apI.1 x (inTb x (sub_els hx)))) sdX, trivial⟩⟩, fun _ => rfl⟩
    | some uB =>
      obtain ⟨u, B⟩ := uB
      obtain ⟨j1, j2, j3, j4, j5⟩ := i1
      refine ⟨⟨j1, j2, j3, by simp [Tr.sub, xb], inTb _ j5⟩, fun k1 k2 k3 k4 ⟨k5, k6, k7⟩ => ?_⟩
      obtain ⟨r1, r2⟩ := i2 k1 k2 k3 k4 ⟨k5, k6, k7⟩
      have er : (b.put L c).pos pl = b.pos pl := by unfold Tr.pos; rw [r2 (by simp)]
      have lu : pl l ≠ pl u := fun z => q1 (.inr u) (by simp [j5]) z.symm
      have lL : pl l ≠ pl L := apL.1 (.inr l) (by simp [lT])
      have bx : b.pos pl ≠ X.pos pl := by
        have q4' := q4
        rw [els_eq] at q4'
        exact fun z => (ap_cons q4').1 _ j4 z.symm
      refine ⟨⟨?_, (ua k1).trans h2, ?_, ha k1 fun x hx => k7 _ (apL.1 x (by simp [inT x hx])) (q5 x hx (.inr u) j5), r1⟩, fun _ => rfl⟩
      · unfold Pair at h1 ⊢
        rw [er, k7 _ lL lu]
        exact h1
      · rw [er, k1 _ (apL.1 _ (by simp [inTb _ (root_mem b)])) bx (apI.1 _ (inTb _ (root_mem b)))]
        exact h3
end K65

namespace K65
open PySem PySem.Spec L2 PyProof.Rows Mo K64
def keysP (l : List (Key × D)) : List Key := l.map (·.1)
theorem keys_put (l : List (Key × D)) (k : Key) (d : D) : keysP (putP l k d) = if (valP l k).isSome = true then keysP l else keysP l ++ [k] := by
  unfold putP keysP
  rw [valP_any]
  split
  · rw [List.map_map]
    apply List.map_congr_left
    intro p _
    show (if p.1 = k then (p.1, d) else p).1 = p.1
    split <;> rfl
  · rw [List.map_append]; rfl
theorem key_some {l : List (Key × D)} {k : Key} : (valP l k).isSome = true ↔ k ∈ keysP l := by
  rw [← valP_any, List.any_eq_true]
  unfold keysP
  rw [List.mem_map]
  constructor
  · rintro ⟨p, hp, h⟩; exact ⟨p, hp, of_decide_eq_true h⟩
  · rintro ⟨p, hp, h⟩; exact ⟨p, hp, decide_eq_true h⟩
def plN (n : Nat) : Nat → Int := fun l => ((n + l : Nat) : Int)
theorem plN_ok (n : Nat) : PlOk (plN n) n := ⟨fun l _ _ => by unfold plN; omega, fun l m _ _ _ _ e => by unfold plN at e; omega⟩
def ksN (n k : Nat) : List Key := (List.range k).map fun i => .inl ((n + (i + 1) : Nat) : Int)
/-- the dicts after k letters -/
structure Sb (n : Nat) (c : Nat → Nat) (k : Nat) (sd us : List (Key × D)) : Prop where
  H : Holds (plN n) (dfn sd) (dfn us) (bt c k)
  top : valP us (.inl ((bt c k).pos (plN n))) = some .non
  ks : keysP sd = ksN n k
  lu : us.length ≤ 1 + 3 * k
def sbBody : MS := sSeq (sAsg 6 (mBin gAdd (mVar 4) (mC (.int 1)))) (
  sSeq (sAsg 7 (mIf (mTB (mBin gLt (mVar 5) (mVar 6))) (mVar 5) (mBin gAdd (mBin gSub (mBin gAdd (mVar 0) (mVar 5)) (mVar 6)) (mC (.int 1))))) (
  sSeq (sAsg 8 (mBin gAdd (mVar 0) (mVar 6))) (
  sSeq (sIf (mTB (mBin gNotN (mBin gDGet (mVar 3) (mVar 7)) (mC .non))) (
  sSeq (sAsg 9 (mBin gDGet (mVar 3) (mVar 7))) (
  sDSet (mLst (mCons (mVar 8) (mCons (mCall m_other_side (mCons (mBin gDGet (mVar 2) (mVar 9)) (mCons (mVar 7) mNil))) mNil))) (mVar 2) (mVar 9))) (
  sNil)) (
  sSeq (sDSet (mBin gDGet (mVar 3) (mVar 7)) (mVar 3) (mVar 8)) (
  sSeq (sDSet (mLst (mCons (mVar 7) (mCons (mVar 6) mNil))) (mVar 2) (mVar 8)) (
  sSeq (sDSet (mVar 8) (mVar 3) (mVar 7)) (
  sDSet (mVar 8) (mVar 3) (mVar 6))))))))
theorem other_ok5 (x y s : Int) (S : List O) : m_other_side [.lst [.int x, .int y], .int s] S = .ok (.int (other x y s)) S := K64.other_ok x y s S
theorem sb_turn {n k : Nat} {c : Nat → Nat} {sd us : List (Key × D)} {a1 a6 a7 a8 a9 : Option D} (hc : CodesOk c n) (hk : k + 1 < n) (hn : n ≤ 12) (v : Sb n c k sd us) :
    ∃ a6' a7' a8' a9' sd' us', sbBody [some (.int n), a1, some (.ref 0), some (.ref 1), some (.int k), some (.int (c (k + 1) : Nat)), a6, a7, a8, a9] [.dct sd, .dct us] =
      .nx [some (.int n), a1, some (.ref 0), some (.ref 1), some (.int k), some (.int (c (k + 1) : Nat)), a6', a7', a8', a9'] [.dct sd', .dct us'] ∧ Sb n c (k + 1) sd' us' := by
  obtain ⟨X, p, h⟩ := bt_hit hc hk
  obtain ⟨e1, e2, e3⟩ := bt_els hc k (by omega)
  have ap := ap_bt (plN_ok n) hc hk
  have apL := ap_cons ap
  have apI := ap_cons apL.2
  have mem := h.mem
  have nm := h.name
  have sl : sd.length = k := by have := congrArg List.length v.ks; simpa [keysP, ksN] using this
  have xL : X.pos (plN n) ≠ ((k + 1 : Nat) : Int) := apI.1 X.root mem
  have xp : X.pos (plN n) ≠ plN n (k + 1) := apL.1 X.root (by simp [mem])
  have pL : plN n (k + 1) ≠ ((k + 1 : Nat) : Int) := by unfold plN; omega
  -- the node is X's place
  have node : ∀ T, mIf (mTB (mBin gLt (mVar 5) (mVar 6))) (mVar 5) (mBin gAdd (mBin gSub (mBin gAdd (mVar 0) (mVar 5)) (mVar 6)) (mC (.int 1))) [some (.int n), a1, some (.ref 0), some (.ref 1), some (.int k), some (.int (c (k + 1) : Nat)), some (.int ((k + 1 : Nat) : Int)), a7, a8, a9] T = .ok (.int (X.pos (plN n))) T := fun T => by
    cases hr : X.root with
    | inl i =>
      rw [hr] at nm mem
      have hi := (e2 i).mp mem
      have e : X.pos (plN n) = (c (k + 1) : Nat) := by unfold Tr.pos; rw [hr, ← nm]; rfl
      have nm : i = c (k + 1) := nm
      rw [e]
      exact v_ifT (v_tb (v_bin (v_var rfl) (v_var rfl) (by rw [x_lt, decide_eq_true (by omega)]))) (v_var rfl)
    | inr m =>
      rw [hr] at nm mem
      have hi := (e3 m).mp mem
      have nm : k + 1 - 1 + m = c (k + 1) := nm
      have e : X.pos (plN n) = (n : Int) + (c (k + 1) : Nat) - ((k + 1 : Nat) : Int) + 1 := by unfold Tr.pos; rw [hr]; show ((n + m : Nat) : Int) = _; omega
      rw [e]
      exact v_ifF (v_tb (v_bin (v_var rfl) (v_var rfl) (by rw [x_lt, decide_eq_false (by omega)]))) (v_bin (v_bin (v_bin (v_var rfl) (v_var rfl) x_addI) (v_var rfl) x_subI) v_C x_addI)
  let e0 (a9 : Option D) : Mo.Env := [some (.int n), a1, some (.ref 0), some (.ref 1), some (.int k), some (.int (c (k + 1) : Nat)), some (.int ((k + 1 : Nat) : Int)), some (.int (X.pos (plN n))), some (.int (plN n (k + 1))), a9]
  have pre : ∀ r, sSeq (sIf (mTB (mBin gNotN (mBin gDGet (mVar 3) (mVar 7)) (mC .non))) (
      sSeq (sAsg 9 (mBin gDGet (mVar 3) (mVar 7))) (
      sDSet (mLst (mCons (mVar 8) (mCons (mCall m_other_side (mCons (mBin gDGet (mVar 2) (mVar 9)) (mCons (mVar 7) mNil))) mNil))) (mVar 2) (mVar 9))) (
      sNil)) (
      sSeq (sDSet (mBin gDGet (mVar 3) (mVar 7)) (mVar 3) (mVar 8)) (
      sSeq (sDSet (mLst (mCons (mVar 7) (mCons (mVar 6) mNil))) (mVar 2) (mVar 8)) (
      sSeq (sDSet (mVar 8) (mVar 3) (mVar 7)) (
      sDSet (mVar 8) (mVar 3) (mVar 6))))) (e0 a9) [.dct sd, .dct us] = r → sbBody [some (.int n), a1, some (.ref 0), some (.ref 1), some (.int k), some (.int (c (k + 1) : Nat)), a6, a7, a8, a9] [.dct sd, .dct us] = r := fun r hr => by
    refine w_seq (w_asg (v_bin (v_var rfl) v_C x_addI)) ?_
    rw [show ((k : Int) + 1) = ((k + 1 : Nat) : Int) by omega]
    refine w_seq (w_asg (node _)) ?_
    refine w_seq (w_asg (v_bin (v_var rfl) (v_var rfl) x_addI)) ?_
    rw [show (n : Int) + ((k + 1 : Nat) : Int) = plN n (k + 1) by unfold plN; omega]
    exact hr
  -- the four stores behind
  have post : ∀ (sd1 : List (Key × D)) (d : D) (a9 : Option D), sd1.length ≤ 100 → valP us (.inl (X.pos (plN n))) = some d →
      sSeq (sDSet (mBin gDGet (mVar 3) (mVar 7)) (mVar 3) (mVar 8)) (
      sSeq (sDSet (mLst (mCons (mVar 7) (mCons (mVar 6) mNil))) (mVar 2) (mVar 8)) (
      sSeq (sDSet (mVar 8) (mVar 3) (mVar 7)) (
      sDSet (mVar 8) (mVar 3) (mVar 6)))) (e0 a9) [.dct sd1, .dct us] =
      .nx (e0 a9) [.dct (putP sd1 (.inl (plN n (k + 1))) (.lst [.int (X.pos (plN n)), .int ((k + 1 : Nat) : Int)])), .dct (putP (putP (putP us (.inl (plN n (k + 1))) d) (.inl (X.pos (plN n))) (.int (plN n (k + 1)))) (.inl ((k + 1 : Nat) : Int)) (.int (plN n (k + 1))))] := fun sd1 d a9 hl hd => by
    have big : ∀ m : Nat, m ≤ 1000 → m < sz := fun m hm => Nat.lt_of_le_of_lt hm (by decide)
    have lu := v.lu
    have b1 := len_put us (.inl (plN n (k + 1))) d
    have b2 := len_put (putP us (.inl (plN n (k + 1))) d) (.inl (X.pos (plN n))) (.int (plN n (k + 1)))
    refine w_seq (w_dset (l := us) (v_bin (v_var rfl) (v_var rfl) (x_dget rfl hd)) (v_var rfl) (v_var rfl) rfl (big _ (by omega))) ?_
    refine w_seq (w_dset (l := sd1) (v_lst (v_cons (v_var rfl) (v_cons (v_var rfl) v_nil)) (show 2 ≤ 16777216 by decide)) (v_var rfl) (v_var rfl) rfl (big _ (by omega))) ?_
    refine w_seq (w_dset (l := putP us (.inl (plN n (k + 1))) d) (v_var rfl) (v_var rfl) (v_var rfl) rfl (big _ (by omega))) ?_
    exact (w_dset (l := putP (putP us (.inl (plN n (k + 1))) d) (.inl (X.pos (plN n))) (.int (plN n (k + 1)))) (v_var rfl) (v_var rfl) (v_var rfl) rfl (big _ (by omega))).trans rfl
  have usv : ∀ (d : D) (q : Int), valP (putP (putP (putP us (.inl (plN n (k + 1))) d) (.inl (X.pos (plN n))) (.int (plN n (k + 1)))) (.inl ((k + 1 : Nat) : Int)) (.int (plN n (k + 1)))) (.inl q) = if q = ((k + 1 : Nat) : Int) then some (.int (plN n (k + 1))) else if q = X.pos (plN n) then some (.int (plN n (k + 1))) else if q = plN n (k + 1) then some d else valP us (.inl q) := fun d q => by
    rw [valP_put, valP_put, valP_put]
    simp only [Sum.inl.injEq]
  have keyNew : ∀ sd1, keysP sd1 = ksN n k → keysP (putP sd1 (.inl (plN n (k + 1))) (.lst [.int (X.pos (plN n)), .int ((k + 1 : Nat) : Int)])) = ksN n (k + 1) := fun sd1 hk1 => by
    rw [keys_put, if_neg]
    · rw [hk1]
      unfold ksN
      rw [List.range_succ, List.map_append]
      rfl
    · rw [key_some, hk1]
      unfold ksN
      intro z
      obtain ⟨i, hi, e⟩ := List.mem_map.mp z
      have := List.mem_range.mp hi
      have e : ((n + (i + 1) : Nat) : Int) = plN n (k + 1) := Sum.inl.inj e
      unfold plN at e
      omega
  have lenU : ∀ d : D, (putP (putP (putP us (.inl (plN n (k + 1))) d) (.inl (X.pos (plN n))) (.int (plN n (k + 1)))) (.inl ((k + 1 : Nat) : Int)) (.int (plN n (k + 1)))).length ≤ 1 + 3 * (k + 1) := fun d => by
    have lu := v.lu
    have b1 := len_put us (.inl (plN n (k + 1))) d
    have b2 := len_put (putP us (.inl (plN n (k + 1))) d) (.inl (X.pos (plN n))) (.int (plN n (k + 1)))
    have b3 := len_put (putP (putP us (.inl (plN n (k + 1))) d) (.inl (X.pos (plN n))) (.int (plN n (k + 1)))) (.inl ((k + 1 : Nat) : Int)) (.int (plN n (k + 1)))
    omega
  cases p with
  | none =>
    have A := (ins (sd' := dfn sd) (us' := dfn us) h (bt_sep hc (by omega)) ap v.H).1
    have eX : X = bt c k := A
    have hd : valP us (.inl (X.pos (plN n))) = some .non := by rw [eX]; exact v.top
    refine ⟨_, _, _, _, _, _, pre _ (w_seq (w_ifF (v_tb (v_bin (v_bin (v_var rfl) (v_var rfl) (x_dget rfl hd)) v_C rfl)) rfl) (post sd .non a9 (by omega) hd)), ?_⟩
    have R := (ins (sd' := dfn (putP sd (.inl (plN n (k + 1))) (.lst [.int (X.pos (plN n)), .int ((k + 1 : Nat) : Int)]))) (us' := dfn (putP (putP (putP us (.inl (plN n (k + 1))) .non) (.inl (X.pos (plN n))) (.int (plN n (k + 1)))) (.inl ((k + 1 : Nat) : Int)) (.int (plN n (k + 1))))) h (bt_sep hc (by omega)) ap v.H).2
      (fun q q1 q2 q3 => by show valP _ _ = _; rw [usv, if_neg q3, if_neg q2, if_neg q1]) (by show valP _ _ = _; rw [usv, if_neg xL, if_pos rfl]) (by show valP _ _ = _; rw [usv, if_pos rfl]) (.inl (by show valP _ _ = _; rw [valP_put, if_pos rfl])) (fun q q1 => by show valP _ _ = _; rw [valP_put, if_neg (by simpa using q1)])
    refine ⟨R.1, ?_, keyNew sd v.ks, lenU _⟩
    have er : (bt c (k + 1)).pos (plN n) = plN n (k + 1) := by
      show plE (plN n) ((bt c k).put (k + 1) (c (k + 1))).root = _
      rw [← eX, put_here h.name]
      rfl
    rw [er, usv, if_neg pL, if_neg (Ne.symm xp), if_pos rfl]
  | some uB =>
    obtain ⟨u, B⟩ := uB
    obtain ⟨j1, j2, j3, j4, j5⟩ := (ins (sd' := dfn sd) (us' := dfn us) h (bt_sep hc (by omega)) ap v.H).1
    obtain ⟨x, y, f1, f2⟩ := other_pair (s := X.pos (plN n)) j2 j3
    have uL : plN n u ≠ plN n (k + 1) := apL.1 (.inr u) (by simp [j5])
    have hk1 : keysP (putP sd (.inl (plN n u)) (.lst [.int (plN n (k + 1)), .int (B.pos (plN n))])) = ksN n k := by
      rw [keys_put, if_pos (by rw [f1]; rfl)]
      exact v.ks
    have l1 := len_put sd (.inl (plN n u)) (.lst [.int (plN n (k + 1)), .int (B.pos (plN n))])
    refine ⟨_, _, _, _, _, _, pre _ (w_seq (e1 := e0 (some (.int (plN n u)))) (S1 := [.dct (putP sd (.inl (plN n u)) (.lst [.int (plN n (k + 1)), .int (B.pos (plN n))])), .dct us]) (w_ifT (v_tb (v_bin (v_bin (v_var rfl) (v_var rfl) (x_dget rfl j1)) v_C rfl)) (w_seq (w_asg (v_bin (v_var rfl) (v_var rfl) (x_dget rfl j1))) ((w_dset (l := sd) (v_lst (v_cons (v_var rfl) (v_cons (v_call (v_cons (v_bin (v_var rfl) (v_var rfl) (x_dget rfl f1)) (v_cons (v_var rfl) v_nil)) ((other_ok5 x y _ _).trans (by rw [f2]))) v_nil)) (show 2 ≤ 16777216 by decide)) (v_var rfl) (v_var rfl) rfl (Nat.lt_of_le_of_lt (show sd.length ≤ 100 by omega) (by decide))).trans rfl))) (post (putP sd (.inl (plN n u)) (.lst [.int (plN n (k + 1)), .int (B.pos (plN n))])) (.int (plN n u)) (some (.int (plN n u))) (by omega) j1)), ?_⟩
    have R := (ins (sd' := dfn (putP (putP sd (.inl (plN n u)) (.lst [.int (plN n (k + 1)), .int (B.pos (plN n))])) (.inl (plN n (k + 1))) (.lst [.int (X.pos (plN n)), .int ((k + 1 : Nat) : Int)]))) (us' := dfn (putP (putP (putP us (.inl (plN n (k + 1))) (.int (plN n u))) (.inl (X.pos (plN n))) (.int (plN n (k + 1)))) (.inl ((k + 1 : Nat) : Int)) (.int (plN n (k + 1))))) h (bt_sep hc (by omega)) ap v.H).2
      (fun q q1 q2 q3 => by show valP _ _ = _; rw [usv, if_neg q3, if_neg q2, if_neg q1]) (by show valP _ _ = _; rw [usv, if_neg xL, if_pos rfl]) (by show valP _ _ = _; rw [usv, if_pos rfl]) (.inl (by show valP _ _ = _; rw [valP_put, if_pos rfl]))
      ⟨by show valP _ _ = _; rw [usv, if_neg pL, if_neg (Ne.symm xp), if_pos rfl], .inl (by show valP _ _ = _; rw [valP_put, if_neg (by simpa using uL), valP_put, if_pos rfl]), fun q q1 q2 => by show valP _ _ = _; rw [valP_put, if_neg (by simpa using q1), valP_put, if_neg (by simpa using q2)]⟩
    refine ⟨R.1, ?_, keyNew _ hk1, lenU _⟩
    have er : (bt c (k + 1)).pos (plN n) = (bt c k).pos (plN n) := by
      show plE (plN n) ((bt c k).put (k + 1) (c (k + 1))).root = plE (plN n) (bt c k).root
      rw [R.2 (by simp)]
    have r1 : (bt c k).pos (plN n) ≠ ((k + 1 : Nat) : Int) := apI.1 _ (root_mem _)
    have r2 : (bt c k).pos (plN n) ≠ plN n (k + 1) := apL.1 _ (by simp [root_mem])
    have r3 : (bt c k).pos (plN n) ≠ X.pos (plN n) := by
      have q := apI.2
      rw [els_eq] at q
      exact fun z => (ap_cons q).1 _ j4 z.symm
    rw [er, usv, if_neg r1, if_neg r3, if_neg r2]
    exact v.top
end K65

namespace K65
open PySem PySem.Spec L2 PyProof.Rows Mo K64
theorem sides_by_ok {n : Nat} {t : Int} (h1 : 1 ≤ n) (hn : n ≤ 12) : ∃ sd us, m_sides_by [.int n, .int t] [] = .ok (.ref 0) [.dct sd, .dct us] ∧ Sb n (dg n t) (n - 1) sd us := by
  have hc := dg_ok n t
  have v0 : Sb n (dg n t) 0 [] [(.inl 0, .non)] := ⟨trivial, rfl, rfl, by decide⟩
  have key := loop_at (t := tgT 2 (tgsC (tgN 4) (tgsC (tgN 5) tgsN))) (b := sbBody) (l0 := enumD 0 (codesD (dg n t) (n - 1)))
    (I := fun i e S => ∃ a4 a5 a6 a7 a8 a9 sd us, e = [some (.int n), some (.int t), some (.ref 0), some (.ref 1), a4, a5, a6, a7, a8, a9] ∧ S = [.dct sd, .dct us] ∧ Sb n (dg n t) i sd us)
    (fun i d hd e S ⟨a4, a5, a6, a7, a8, a9, sd, us, he, hS, v⟩ => by
      subst he hS
      obtain ⟨x, hx, rfl⟩ := enumD_get hd
      have hi : i < n - 1 := by have := (List.getElem?_eq_some_iff.mp hx).1; rw [codesD_len] at this; exact this
      have ex : x = .int (dg n t (i + 1) : Nat) := by
        unfold codesD at hx
        rw [List.getElem?_map, List.getElem?_range hi] at hx
        exact (Option.some.inj hx).symm
      subst ex
      obtain ⟨a6', a7', a8', a9', sd', us', hr, v'⟩ := sb_turn (a1 := some (.int t)) (a6 := a6) (a7 := a7) (a8 := a8) (a9 := a9) hc (by omega) hn v
      rw [Nat.zero_add]
      exact ⟨_, _, _, rfl, hr, _, _, a6', a7', a8', a9', sd', us', rfl, rfl, v'⟩)
    (l := _) (i := 0) (e := [some (.int n), some (.int t), some (.ref 0), some (.ref 1), none, none, none, none, none, none]) (S := [.dct [], .dct [(.inl 0, .non)]]) rfl (Nat.zero_le _)
    ⟨none, none, none, none, none, none, [], [(.inl 0, .non)], rfl, rfl, v0⟩
  obtain ⟨e1, S1, hl, a4, a5, a6, a7, a8, a9, sd, us, rfl, rfl, v⟩ := key
  rw [enumD_len, codesD_len] at v
  refine ⟨sd, us, nb_ok ((fn_rt (S' := [.dct sd, .dct us]) (d := .ref 0) rfl ?_).trans rfl), v⟩
  refine w_seq (w_par (a := .ref 0) (b := .ref 1) (S1 := [.dct [], .dct [(.inl 0, .non)]]) rfl) ?_
  refine w_seq ((w_for (l := enumD 0 (codesD (dg n t) (n - 1))) (chk := anyS) (S1 := [.dct [], .dct [(.inl 0, .non)]]) ?_).trans hl) (w_ret (v_var rfl))
  unfold miEnum
  rw [v_cons (v_call (v_cons (v_var rfl) (v_cons (v_var rfl) v_nil)) (codes_ok h1 hn)) v_nil]
  rfl
end K65

namespace K65
open PySem PySem.Spec L2 PyProof.Rows Mo K64
/-- K65's tree, the codes as a list by value -/
theorem tree_okL {c : Nat → Nat} {m : Nat} {S : List O} (hm : m ≤ 11) : m__law_tree [.lst (codesD c m)] S = .ok (enc (bt c m)) S := by
  have key := loop_at (t := tgN 2) (b := sAsg 1 (mCall (m__law_put 14) (mCons (mVar 1) (mCons (mBin gAdd (mVar 2) (mC (.int 1))) (mCons (mBin gIx (mVar 0) (mVar 2)) mNil))))) (l0 := rangeD 0 1 m)
    (I := fun i e T => T = S ∧ ∃ a2, e = [some (.lst (codesD c m)), some (enc (bt c i)), a2]) (fun i d hd e T ⟨hT, a2, he⟩ => by
      subst hT he
      obtain ⟨hi, rfl⟩ := range_at hd
      rw [show (0 : Int) + (i : Nat) * 1 = (i : Nat) by omega]
      refine ⟨_, _, _, rfl, w_asg (d := enc (bt c (i + 1))) (v_call (v_cons (v_var rfl) (v_cons (v_bin (v_var rfl) v_C x_addI) (v_cons (v_bin (d := .int (c (i + 1) : Nat)) (v_var rfl) (v_var rfl) (x_ixl (codes_at hi))) v_nil))) ?_), rfl, some (.int (i : Nat)), rfl⟩
      · rw [show ((i : Nat) : Int) + 1 = ((i + 1 : Nat) : Int) by omega]
        exact K64.put_ok (by omega) 14 (bt c i) (by have := dep_bt (c := c) i; omega))
    (l := _) (i := 0) (e := [some (.lst (codesD c m)), some (enc (bt c 0)), none]) (S := S) rfl (Nat.zero_le _) ⟨rfl, none, rfl⟩
  obtain ⟨e1, S1, h1, rfl, a2, rfl⟩ := key
  refine fn_same rfl ?_
  refine w_seq (w_asg v_C) ?_
  refine w_seq ((w_for (v_mir (v_cons (v_cb (v_cons (v_var rfl) v_nil) ((x_lenLst).trans (by rw [codesD_len]))) v_nil) (range1_at (by omega)))).trans h1) ?_
  rw [range_len]
  exact w_ret (v_var rfl)
end K65

namespace Mo
open PySem PySem.Spec L2 PyProof.Rows
theorem x_din {S : List O} {n : Nat} {l : List (Key × D)} {k : Int} (h : S[n]? = some (.dct l)) : gDIn S (.int k) (.ref n) = some (.bl (valP l (.inl k)).isSome) := by
  unfold gDIn keyD dctR
  simp only [h]
theorem x_dnin {S : List O} {n : Nat} {l : List (Key × D)} {k : Int} (h : S[n]? = some (.dct l)) : gDNin S (.int k) (.ref n) = some (.bl (!(valP l (.inl k)).isSome)) := by
  unfold gDNin keyD dctR
  simp only [h]
theorem bls_of : ∀ bs : List Bool, blsD (bs.map .bl) = some bs
  | [] => rfl
  | b :: bs => by rw [List.map_cons, blsD, bls_of bs]
theorem x_all {S : List O} (bs : List Bool) : gAll S [.lst (bs.map .bl)] = some (.bl (bs.all id)) := by
  show (match blsD (bs.map D.bl) with | some l => some (D.bl (l.all id)) | none => none) = _
  rw [bls_of]
end Mo
namespace K65
open PySem PySem.Spec L2 PyProof.Rows Mo K64
/-- the places so far -/
structure Pc (n : Nat) (lab : List Nat) (pc : List (Key × D)) : Prop where
  lf : ∀ i, i < n → valP pc (.inl ((i : Nat) : Int)) = some (.int (i : Nat))
  nd : ∀ l, 1 ≤ l → l < n → valP pc (.inl (plN n l)) = if l ∈ lab then some (.int (plL n lab l)) else none
theorem Pc.put {n l : Nat} {lab : List Nat} {pc : List (Key × D)} (p : Pc n lab pc) (h1 : 1 ≤ l) (h2 : l < n) (hl : l ∉ lab) : Pc n (lab ++ [l]) (putP pc (.inl (plN n l)) (.int ((n + lab.length : Nat) : Int))) := by
  refine ⟨fun i hi => ?_, fun m m1 m2 => ?_⟩
  · rw [valP_put, if_neg (by unfold plN; simp; omega)]
    exact p.lf i hi
  · rw [valP_put]
    by_cases e : m = l
    · subst e
      rw [if_pos rfl, if_pos (by simp)]
      unfold plL
      rw [idx_new hl]
    · have ne : ¬ (Sum.inl (plN n m) : Key) = .inl (plN n l) := by unfold plN; simp; omega
      rw [if_neg ne, p.nd m m1 m2]
      by_cases h : m ∈ lab
      · rw [if_pos h, if_pos (by simp [h])]
        unfold plL
        rw [idx_snoc h]
      · rw [if_neg h, if_neg (by simp [h, e])]
theorem Pc.some {n : Nat} {lab : List Nat} {pc : List (Key × D)} (p : Pc n lab pc) {r : El} (hv : match r with | .inl i => i < n | .inr l => 1 ≤ l ∧ l < n) : (valP pc (.inl (plE (plN n) r))).isSome = okE lab r := by
  cases r with
  | inl i => show (valP pc (.inl ((i : Nat) : Int))).isSome = true; rw [p.lf i hv]; rfl
  | inr l =>
    show (valP pc (.inl (plN n l))).isSome = decide (l ∈ lab)
    rw [p.nd l hv.1 hv.2]
    by_cases h : l ∈ lab
    · rw [if_pos h, decide_eq_true h]; rfl
    · rw [if_neg h, decide_eq_false h]; rfl
end K65

namespace K65
open PySem PySem.Spec L2 PyProof.Rows Mo K64
theorem added_ok (x y : Int) (S : List O) : m_added [.int x, .int y] S = .ok (rowD (x, y)) S := by
  refine fn_same rfl ?_
  exact w_ret rfl
/-- the rows' law kept when a row comes: its sides stand below -/
theorem OPlt.snoc {n : Nat} {lab : List Nat} {rs : List (Int × Int)} {x y : Int} (h : ∀ (i : Nat) (a b : Int), rs[i]? = some (a, b) → a < (n : Int) + i ∧ b < (n : Int) + i) (hx : x < (n : Int) + rs.length) (hy : y < (n : Int) + rs.length) :
    ∀ (i : Nat) (a b : Int), (rs ++ [(x, y)])[i]? = some (a, b) → a < (n : Int) + i ∧ b < (n : Int) + i := fun i a b hi => by
  by_cases hlt : i < rs.length
  · rw [List.getElem?_append_left hlt] at hi
    exact h i a b hi
  · have e : i = rs.length := by
      have := (List.getElem?_eq_some_iff.mp hi).1
      rw [List.length_append] at this
      simp at this
      omega
    subst e
    rw [List.getElem?_append_right (Nat.le_refl _), Nat.sub_self] at hi
    simp at hi
    obtain ⟨rfl, rfl⟩ := hi
    exact ⟨hx, hy⟩
/-- a placed element's place is below the next row's -/
theorem pl_lt {n : Nat} {lab : List Nat} {r : El} (hv : match r with | .inl i => i < n | .inr _ => True) (ho : okE lab r = true) : plE (plL n lab) r < (n : Int) + lab.length := by
  cases r with
  | inl i => show ((i : Nat) : Int) < _; have : i < n := hv; omega
  | inr l =>
    have := List.idxOf_lt_length_iff.mpr (of_decide_eq_true (show decide (l ∈ lab) = true from ho))
    show ((n + lab.idxOf l : Nat) : Int) < _
    omega
end K65

namespace K65
open PySem PySem.Spec L2 PyProof.Rows Mo K64
def V1 (n : Nat) : El → Prop
  | .inl i => i < n
  | .inr m => 1 ≤ m ∧ m < n
theorem psome {n : Nat} {lab : List Nat} {pc : List (Key × D)} (p : Pc n lab pc) {r : El} (hv : V1 n r) : (valP pc (.inl (plE (plN n) r))).isSome = okE lab r := by
  cases r with
  | inl i => exact p.some (r := .inl i) hv
  | inr l => exact p.some (r := .inr l) hv
def inB : MS := sIf (mAnd (mTB (mBin gDNin (mVar 6) (mVar 3))) (mTB (mCB gAll (mCons (mComp (miSeq (mBin gDGet (mVar 2) (mVar 6))) (tgN 7) mYes (mBin gDIn (mVar 7) (mVar 3)) [7]) mNil)))) (
  sSeq (sExpr (mMt isL gAppend (mVar 5) (mCons (mCall m_added (mCons (mBin gDGet (mVar 3) (mBin gIx (mBin gDGet (mVar 2) (mVar 6)) (mC (.int 0)))) (mCons (mBin gDGet (mVar 3) (mBin gIx (mBin gDGet (mVar 2) (mVar 6)) (mC (.int 1)))) mNil))) mNil))) (
  sDSet (mBin gSub (mBin gAdd (mVar 0) (mCB gLen (mCons (mVar 5) mNil))) (mC (.int 1))) (mVar 3) (mVar 6))) (
  sNil)
/-- the test of a key -/
theorem in_test {n l : Nat} {lab : List Nat} {sd us pc : List (Key × D)} {rows : List D} {ra rb : El} {a1 a4 a7 : Option D} (p : Pc n lab pc) (h1 : 1 ≤ l) (h2 : l < n) (hs : ∃ x y, valP sd (.inl (plN n l)) = some (.lst [.int (plE (plN n) x), .int (plE (plN n) y)]) ∧ ((x = ra ∧ y = rb) ∨ (x = rb ∧ y = ra)))
    (va : V1 n ra) (vb : V1 n rb) :
    mAnd (mTB (mBin gDNin (mVar 6) (mVar 3))) (mTB (mCB gAll (mCons (mComp (miSeq (mBin gDGet (mVar 2) (mVar 6))) (tgN 7) mYes (mBin gDIn (mVar 7) (mVar 3)) [7]) mNil))) [some (.int n), a1, some (.ref 0), some (.ref 2), a4, some (.ref 3), some (.int (plN n l)), a7] [.fdct sd, .dct us, .dct pc, .lst rows] =
      .ok (decide (l ∉ lab) && (okE lab ra && okE lab rb)) [.fdct sd, .dct us, .dct pc, .lst rows] := by
  obtain ⟨x, y, hg, hxy⟩ := hs
  have hl : (valP pc (.inl (plN n l))).isSome = decide (l ∈ lab) := p.some (r := .inr l) ⟨h1, h2⟩
  refine v_and (k := decide (l ∉ lab)) (v_tb (v_bin (v_var rfl) (v_var rfl) ((x_dnin rfl).trans (by rw [hl]; by_cases h : l ∈ lab <;> simp [h])))) ?_
  by_cases h : l ∈ lab
  · simp [h]
  · rw [if_pos (decide_eq_true h)]
    have vx : (valP pc (.inl (plE (plN n) x))).isSome = okE lab x := by rcases hxy with ⟨rfl, rfl⟩ | ⟨rfl, rfl⟩ <;> first | exact psome p va | exact psome p vb
    have vy : (valP pc (.inl (plE (plN n) y))).isSome = okE lab y := by rcases hxy with ⟨rfl, rfl⟩ | ⟨rfl, rfl⟩ <;> first | exact psome p vb | exact psome p va
    have comp : mComp (miSeq (mBin gDGet (mVar 2) (mVar 6))) (tgN 7) mYes (mBin gDIn (mVar 7) (mVar 3)) [7] [some (.int n), a1, some (.ref 0), some (.ref 2), a4, some (.ref 3), some (.int (plN n l)), a7] [.fdct sd, .dct us, .dct pc, .lst rows] = .ok (.lst ([okE lab x, okE lab y].map .bl)) [.fdct sd, .dct us, .dct pc, .lst rows] := by
      refine v_comp (v_seqL (v_bin (v_var rfl) (v_var rfl) (x_dgetF rfl hg))) ?_
      refine (compL_map (acc := []) (l := [.int (plE (plN n) x), .int (plE (plN n) y)]) (f := fun d => match d with | .int i => .bl (valP pc (.inl i)).isSome | d => d) rfl (fun d hd => ?_) (show 2 ≤ 16777216 by decide)).trans ?_
      · simp at hd
        rcases hd with rfl | rfl <;> exact ⟨_, rfl, v_bin (v_var rfl) (v_var rfl) (x_din rfl)⟩
      · show R.ok _ _ = _
        simp only [List.map_cons, List.map_nil, vx, vy]
        rfl
    refine (v_tb (v_cb (v_cons comp v_nil) (x_all _))).trans ?_
    congr 1
    rcases hxy with ⟨rfl, rfl⟩ | ⟨rfl, rfl⟩ <;> simp [h, Bool.and_comm]
end K65

namespace K65
open PySem PySem.Spec L2 PyProof.Rows Mo K64
/-- a placed element's place is read -/
theorem pget {n : Nat} {lab : List Nat} {pc : List (Key × D)} (p : Pc n lab pc) {r : El} (hv : V1 n r) (ho : okE lab r = true) : valP pc (.inl (plE (plN n) r)) = some (.int (plE (plL n lab) r)) := by
  cases r with
  | inl i => exact p.lf i hv
  | inr l =>
    show valP pc (.inl (plN n l)) = _
    rw [p.nd l hv.1 hv.2, if_pos (of_decide_eq_true (show decide (l ∈ lab) = true from ho))]
    rfl
/-- a ready key gets its row -/
theorem in_put {n l : Nat} {lab : List Nat} {sd us pc : List (Key × D)} {rs : List (Int × Int)} {x y : El} {a1 a4 a7 : Option D} (p : Pc n lab pc) (hg : valP sd (.inl (plN n l)) = some (.lst [.int (plE (plN n) x), .int (plE (plN n) y)])) (vx : V1 n x) (vy : V1 n y) (ox : okE lab x = true) (oy : okE lab y = true) (hl : rs.length = lab.length) (hrs : rs.length < 1000) (hpc : pc.length < 1000) :
    sSeq (sExpr (mMt isL gAppend (mVar 5) (mCons (mCall m_added (mCons (mBin gDGet (mVar 3) (mBin gIx (mBin gDGet (mVar 2) (mVar 6)) (mC (.int 0)))) (mCons (mBin gDGet (mVar 3) (mBin gIx (mBin gDGet (mVar 2) (mVar 6)) (mC (.int 1)))) mNil))) mNil))) (
      sDSet (mBin gSub (mBin gAdd (mVar 0) (mCB gLen (mCons (mVar 5) mNil))) (mC (.int 1))) (mVar 3) (mVar 6)) [some (.int n), a1, some (.ref 0), some (.ref 2), a4, some (.ref 3), some (.int (plN n l)), a7] [.fdct sd, .dct us, .dct pc, .lst (rs.map rowD)] =
    .nx [some (.int n), a1, some (.ref 0), some (.ref 2), a4, some (.ref 3), some (.int (plN n l)), a7] [.fdct sd, .dct us, .dct (putP pc (.inl (plN n l)) (.int ((n + lab.length : Nat) : Int))), .lst ((rs ++ [(plE (plL n lab) x, plE (plL n lab) y)]).map rowD)] := by
  have e5 : ((n : Int) + ((rs.map rowD ++ [rowD (plE (plL n lab) x, plE (plL n lab) y)]).length : Nat) - 1) = ((n + lab.length : Nat) : Int) := by
    rw [List.length_append, List.length_map]
    show (n : Int) + ((rs.length + 1 : Nat) : Int) - 1 = _
    omega
  refine w_seq (w_expr (v_app (n := 3) (l0 := rs.map rowD) (l := rs.map rowD) (v_var rfl) rfl (v_cons (v_call (v_cons (v_bin (v_var rfl) (v_bin (v_bin (v_var rfl) (v_var rfl) (x_dgetF rfl hg)) v_C (x_ixl rfl)) (x_dget rfl (pget p vx ox))) (v_cons (v_bin (v_var rfl) (v_bin (v_bin (v_var rfl) (v_var rfl) (x_dgetF rfl hg)) v_C (x_ixl rfl)) (x_dget rfl (pget p vy oy))) v_nil)) (added_ok _ _ _)) v_nil) rfl (Nat.lt_trans (by rw [List.length_map]; exact hrs) (by decide)))) ?_
  refine (w_dset (n := 2) (l := pc) (d := .int ((n + lab.length : Nat) : Int)) (v_bin (v_bin (v_var rfl) (v_cb (v_cons (v_var rfl) v_nil) (x_len (j := 3) (l := rs.map rowD ++ [rowD (plE (plL n lab) x, plE (plL n lab) y)]) rfl)) x_addI) v_C (by rw [x_subI, e5])) (v_var rfl) (v_var rfl) rfl (Nat.lt_trans hpc (by decide))).trans ?_
  rw [List.map_append]
  rfl
end K65

namespace K65
open PySem PySem.Spec L2 PyProof.Rows Mo K64
/-- the state of sum_of between two keys -/
structure Sm (n : Nat) (t : Tr) (lab : List Nat) (rs : List (Int × Int)) (pc : List (Key × D)) : Prop where
  j : J n t lab rs
  lt : ∀ (i : Nat) (a b : Int), rs[i]? = some (a, b) → a < (n : Int) + i ∧ b < (n : Int) + i
  p : Pc n lab pc
  lp : pc.length ≤ n + lab.length
theorem v1_lt {n : Nat} {lab : List Nat} {r : El} (hv : V1 n r) (ho : okE lab r = true) : plE (plL n lab) r < (n : Int) + lab.length := by
  cases r with
  | inl i => exact pl_lt (r := .inl i) hv ho
  | inr l => exact pl_lt (r := .inr l) trivial ho
theorem in_step {n : Nat} {t : Tr} {lab : List Nat} {rs : List (Int × Int)} {sd us pc : List (Key × D)} {a1 a4 a7 : Option D} {q : Nat × El × El} (s : Sm n t lab rs pc) (hq : q ∈ kid3 t) (h1 : 1 ≤ q.1) (h2 : q.1 < n) (va : V1 n q.2.1) (vb : V1 n q.2.2) (hs : Pair (dfn sd) (plN n q.1) (plE (plN n) q.2.1) (plE (plN n) q.2.2)) (hn : n ≤ 12) (hb : lab.length < 500) :
    ∃ lab' rs' pc', inB [some (.int n), a1, some (.ref 0), some (.ref 2), a4, some (.ref 3), some (.int (plN n q.1)), a7] [.fdct sd, .dct us, .dct pc, .lst (rs.map rowD)] =
      .nx [some (.int n), a1, some (.ref 0), some (.ref 2), a4, some (.ref 3), some (.int (plN n q.1)), a7] [.fdct sd, .dct us, .dct pc', .lst (rs'.map rowD)] ∧ Sm n t lab' rs' pc' ∧
      (lab' = lab ∧ (q.1 ∉ lab → okE lab q.2.1 = true → okE lab q.2.2 = true → False) ∨ lab' = lab ++ [q.1] ∧ q.1 ∉ lab) := by
  have len := s.j.len
  have hs2 : ∃ x y, valP sd (.inl (plN n q.1)) = some (.lst [.int (plE (plN n) x), .int (plE (plN n) y)]) ∧ ((x = q.2.1 ∧ y = q.2.2) ∨ (x = q.2.2 ∧ y = q.2.1)) := by
    rcases hs with h | h
    · exact ⟨_, _, h, .inl ⟨rfl, rfl⟩⟩
    · exact ⟨_, _, h, .inr ⟨rfl, rfl⟩⟩
  have test := in_test (us := us) (rows := rs.map rowD) (a1 := a1) (a4 := a4) (a7 := a7) s.p h1 h2 hs2 va vb
  obtain ⟨x, y, hg, hxy⟩ := hs2
  by_cases c : (decide (q.1 ∉ lab) && (okE lab q.2.1 && okE lab q.2.2)) = true
  · rw [c] at test
    simp only [Bool.and_eq_true, decide_eq_true_eq] at c
    obtain ⟨c1, c2, c3⟩ := c
    have vx : V1 n x := by rcases hxy with ⟨rfl, rfl⟩ | ⟨rfl, rfl⟩ <;> assumption
    have vy : V1 n y := by rcases hxy with ⟨rfl, rfl⟩ | ⟨rfl, rfl⟩ <;> assumption
    have ox : okE lab x = true := by rcases hxy with ⟨rfl, rfl⟩ | ⟨rfl, rfl⟩ <;> assumption
    have oy : okE lab y = true := by rcases hxy with ⟨rfl, rfl⟩ | ⟨rfl, rfl⟩ <;> assumption
    have lp := s.lp
    have b1 := len_put pc (.inl (plN n q.1)) (.int ((n + lab.length : Nat) : Int))
    refine ⟨lab ++ [q.1], rs ++ [(plE (plL n lab) x, plE (plL n lab) y)], _, w_ifT test (in_put s.p hg vx vy ox oy len (by omega) (by omega)), ⟨s.j.snoc hq c1 c2 c3 ?_, OPlt.snoc (lab := lab) s.lt (by rw [len]; exact v1_lt vx ox) (by rw [len]; exact v1_lt vy oy), s.p.put h1 h2 c1, Nat.le_trans (len_put _ _ _) (by rw [List.length_append]; show pc.length + 1 ≤ n + (lab.length + 1); omega)⟩, .inr ⟨rfl, c1⟩⟩
    rcases hxy with ⟨rfl, rfl⟩ | ⟨rfl, rfl⟩
    · exact .inl ⟨rfl, rfl⟩
    · exact .inr ⟨rfl, rfl⟩
  · have c' : (decide (q.1 ∉ lab) && (okE lab q.2.1 && okE lab q.2.2)) = false := by simpa using c
    rw [c'] at test
    exact ⟨lab, rs, pc, w_ifF test rfl, s, .inl ⟨rfl, fun k1 k2 k3 => c (by simp [k1, k2, k3])⟩⟩
end K65

namespace Mo
open PySem PySem.Spec L2 PyProof.Rows
theorem x_lenD {S : List O} {n : Nat} {l : List (Key × D)} (h : S[n]? = some (.dct l)) : gLenD S [.ref n] = some (.int l.length) := by
  unfold gLenD
  simp only [h]
end Mo
namespace K65
open PySem PySem.Spec L2 PyProof.Rows Mo K64
theorem holds_kid {pl : Nat → Int} {sd us : Int → Option D} : ∀ {t : Tr}, Holds pl sd us t → ∀ q ∈ kid3 t, Pair sd (pl q.1) (plE pl q.2.1) (plE pl q.2.2)
  | .lf _, _, q, hq => by simp [kid3] at hq
  | .nd l a b, ⟨h1, _, _, h4, h5⟩, q, hq => by
    simp only [kid3, List.mem_append, List.mem_singleton] at hq
    rcases hq with (hq | hq) | hq
    · exact holds_kid h4 q hq
    · exact holds_kid h5 q hq
    · subst hq; exact h1
theorem okE_app {lab ex : List Nat} {r : El} (h : okE lab r = true) : okE (lab ++ ex) r = true := by
  cases r with
  | inl i => rfl
  | inr m => rw [okE_inr] at h ⊢; have := of_decide_eq_true h; simp [this]
/-- one round over keys -/
theorem round_loop {n : Nat} {t : Tr} {sd us : List (Key × D)} {a1 a4 a7 : Option D} (nd : t.els.Nodup) (hv : ∀ q ∈ kid3 t, (1 ≤ q.1 ∧ q.1 < n) ∧ V1 n q.2.1 ∧ V1 n q.2.2) (hh : ∀ q ∈ kid3 t, Pair (dfn sd) (plN n q.1) (plE (plN n) q.2.1) (plE (plN n) q.2.2)) (hn : n ≤ 12) :
    ∀ (ls : List Nat) (lab : List Nat) (rs : List (Int × Int)) (pc : List (Key × D)) (a6 : Option D), (∀ l ∈ ls, ∃ q ∈ kid3 t, q.1 = l) → Sm n t lab rs pc → lab.length + ls.length < 500 →
      ∃ ex rs' pc' b6, loopL (hasF 0 sd) (tgN 6) inB (ls.map fun l => D.int (plN n l)) [some (.int n), a1, some (.ref 0), some (.ref 2), a4, some (.ref 3), a6, a7] [.fdct sd, .dct us, .dct pc, .lst (rs.map rowD)] =
        .nx [some (.int n), a1, some (.ref 0), some (.ref 2), a4, some (.ref 3), b6, a7] [.fdct sd, .dct us, .dct pc', .lst (rs'.map rowD)] ∧ Sm n t (lab ++ ex) rs' pc' ∧
        ∀ q ∈ kid3 t, q.1 ∈ ls → okE lab q.2.1 = true → okE lab q.2.2 = true → q.1 ∈ lab ++ ex
  | [], lab, rs, pc, a6, _, s, _ => ⟨[], rs, pc, a6, loopL_nil (by unfold hasF; simp), by rw [List.append_nil]; exact s, fun q _ h => by cases h⟩
  | l :: ls, lab, rs, pc, a6, hl, s, hb => by
    rw [List.length_cons] at hb
    obtain ⟨q, hq, rfl⟩ := hl l List.mem_cons_self
    obtain ⟨⟨h1, h2⟩, va, vb⟩ := hv q hq
    obtain ⟨lab', rs', pc', hr, s', hc⟩ := in_step (us := us) (a1 := a1) (a4 := a4) (a7 := a7) s hq h1 h2 va vb (hh q hq) hn (by omega)
    have hl' : ∀ m ∈ ls, ∃ q ∈ kid3 t, q.1 = m := fun m hm => hl m (List.mem_cons_of_mem _ hm)
    have st := (loopL_step (chk := hasF 0 sd) (t := tgN 6) (b := inB) (l := ls.map fun l => D.int (plN n l)) (d := .int (plN n q.1)) (e := [some (.int n), a1, some (.ref 0), some (.ref 2), a4, some (.ref 3), a6, a7]) (S := [.fdct sd, .dct us, .dct pc, .lst (rs.map rowD)]) (by unfold hasF; simp) rfl hr)
    rcases hc with ⟨e, no⟩ | ⟨e, new⟩
    · subst e
      obtain ⟨ex, rs2, pc2, b6, g1, g2, g3⟩ := round_loop (a1 := a1) (a4 := a4) (a7 := a7) (us := us) nd hv hh hn ls lab' rs' pc' (some (.int (plN n q.1))) hl' s' (by omega)
      refine ⟨ex, rs2, pc2, b6, st.trans g1, g2, fun q' hq' hm o1 o2 => ?_⟩
      rcases List.mem_cons.mp hm with z | z
      · have := kid_lab nd hq' hq z
        subst this
        by_cases h : q'.1 ∈ lab'
        · simp [h]
        · exact (no h o1 o2).elim
      · exact g3 q' hq' z o1 o2
    · subst e
      obtain ⟨ex, rs2, pc2, b6, g1, g2, g3⟩ := round_loop (a1 := a1) (a4 := a4) (a7 := a7) (us := us) nd hv hh hn ls (lab ++ [q.1]) rs' pc' (some (.int (plN n q.1))) hl' s' (by rw [List.length_append]; simp; omega)
      refine ⟨q.1 :: ex, rs2, pc2, b6, st.trans g1, by rw [List.append_assoc] at g2; exact g2, fun q' hq' hm o1 o2 => ?_⟩
      rcases List.mem_cons.mp hm with z | z
      · rw [z]; simp
      · have := g3 q' hq' z (okE_app o1) (okE_app o2)
        rw [List.append_assoc] at this
        exact this
theorem els_len {c : Nat → Nat} {n : Nat} (hc : CodesOk c n) : ∀ k, k < n → (bt c k).els.length = 2 * k + 1
  | 0, _ => rfl
  | k + 1, h => by
    have ih := els_len hc k (by omega)
    obtain ⟨X, p, hit⟩ := bt_hit hc h
    have pe := put_els hit (bt_sep hc (by omega))
    show ((bt c k).put (k + 1) (c (k + 1))).els.length = _
    rw [pe.length_eq, List.length_cons, List.length_cons, ih]
    omega
theorem kid3_two : ∀ t : Tr, 2 * (kid3 t).length + 1 = t.els.length
  | .lf i => by simp [kid3, Tr.els]
  | .nd l a b => by
    have h1 := kid3_two a
    have h2 := kid3_two b
    simp [kid3, Tr.els]
    omega
/-- no more labels than there are -/
theorem lab_le {n : Nat} {c : Nat → Nat} {lab : List Nat} {rs : List (Int × Int)} (hc : CodesOk c n) (h1 : 1 ≤ n) (j : J n (bt c (n - 1)) lab rs) : lab.length ≤ n - 1 ∧ (ws (bt c (n - 1)) lab ≠ [] → lab.length < n - 1) := by
  obtain ⟨e1, e2, e3⟩ := bt_els hc (n - 1) (by omega)
  have mem : ∀ l ∈ lab, 1 ≤ l ∧ l ≤ n - 1 := fun l h => by
    obtain ⟨i, hi⟩ := List.mem_iff_getElem?.mp h
    have hlt : i < rs.length := by rw [j.len]; exact (List.getElem?_eq_some_iff.mp hi).1
    obtain ⟨q, q1, q2, _⟩ := j.row i rs[i].1 rs[i].2 (List.getElem?_eq_getElem hlt)
    rw [hi] at q2
    rw [Option.some.inj q2]
    exact (e3 _).mp (kid_mem q1).1
  have perm : lab.Perm ((List.range' 1 (n - 1)).filter fun l => decide (l ∈ lab)) := (List.perm_ext_iff_of_nodup j.nd (List.Pairwise.filter _ List.nodup_range')).mpr fun l => by
    rw [List.mem_filter, List.mem_range'_1]
    constructor
    · intro h; have := mem l h; exact ⟨by omega, decide_eq_true h⟩
    · intro h; exact of_decide_eq_true h.2
  have len := perm.length_eq
  have le := List.length_filter_le (fun l => decide (l ∈ lab)) (List.range' 1 (n - 1))
  rw [List.length_range'] at le
  refine ⟨by omega, fun hw => ?_⟩
  refine Nat.lt_of_le_of_ne (by omega) fun z => hw ?_
  have all := List.length_filter_eq_length_iff.mp (show ((List.range' 1 (n - 1)).filter fun l => decide (l ∈ lab)).length = (List.range' 1 (n - 1)).length by rw [List.length_range']; omega)
  rw [List.eq_nil_iff_forall_not_mem]
  intro q hq
  have hq := List.mem_filter.mp hq
  have k := (e3 _).mp (kid_mem hq.1).1
  have := all q.1 (List.mem_range'_1.mpr (by omega))
  exact of_decide_eq_true hq.2 (of_decide_eq_true this)
def roundB : MS := sLock 2 (sFor (miKeys (mVar 2)) (tgN 6) inB)
def roundT : MT := mTB (mBin gLt (mCB gLen (mCons (mVar 5) mNil)) (mCB gLenD (mCons (mVar 2) mNil)))
theorem rounds {n : Nat} {c : Nat → Nat} {sd us : List (Key × D)} {a1 a4 a7 : Option D} (hc : CodesOk c n) (h1 : 1 ≤ n) (hn : n ≤ 12) (v : Sb n c (n - 1) sd us) :
    ∀ (fuel : Nat) (lab : List Nat) (rs : List (Int × Int)) (pc : List (Key × D)) (a6 : Option D), (ws (bt c (n - 1)) lab).length < fuel → Sm n (bt c (n - 1)) lab rs pc →
      ∃ lab' rs' pc' b6, loopW roundT roundB fuel [some (.int n), a1, some (.ref 0), some (.ref 2), a4, some (.ref 3), a6, a7] [.dct sd, .dct us, .dct pc, .lst (rs.map rowD)] =
        .nx [some (.int n), a1, some (.ref 0), some (.ref 2), a4, some (.ref 3), b6, a7] [.dct sd, .dct us, .dct pc', .lst (rs'.map rowD)] ∧ Sm n (bt c (n - 1)) lab' rs' pc' ∧ ws (bt c (n - 1)) lab' = []
  | 0, lab, rs, pc, a6, h, _ => by omega
  | fuel + 1, lab, rs, pc, a6, h, s => by
    obtain ⟨e1, e2, e3⟩ := bt_els hc (n - 1) (by omega)
    have sl : sd.length = n - 1 := by have := congrArg List.length v.ks; simpa [keysP, ksN] using this
    have test : roundT [some (.int n), a1, some (.ref 0), some (.ref 2), a4, some (.ref 3), a6, a7] [.dct sd, .dct us, .dct pc, .lst (rs.map rowD)] = .ok (decide (lab.length < n - 1)) [.dct sd, .dct us, .dct pc, .lst (rs.map rowD)] := by
      refine v_tb (v_bin (v_cb (v_cons (v_var rfl) v_nil) (x_len (j := 3) rfl)) (v_cb (v_cons (v_var rfl) v_nil) (x_lenD (n := 0) rfl)) ?_)
      rw [x_lt, List.length_map, s.j.len, sl]
      congr 2
      simp only [decide_eq_decide]
      omega
    obtain ⟨le, lt⟩ := lab_le hc h1 s.j
    by_cases hw : ws (bt c (n - 1)) lab = []
    · refine ⟨lab, rs, pc, a6, ?_, s, hw⟩
      have := (prog_of hc h1 s.j hw).2
      rw [s.j.len] at this
      rw [decide_eq_false (by omega)] at test
      exact w_whileF test
    · rw [decide_eq_true (lt hw)] at test
      have hv : ∀ q ∈ kid3 (bt c (n - 1)), (1 ≤ q.1 ∧ q.1 < n) ∧ V1 n q.2.1 ∧ V1 n q.2.2 := fun q hq => by
        obtain ⟨k1, k2, k3⟩ := kid_mem hq
        have w : ∀ r ∈ (bt c (n - 1)).els, V1 n r := fun r hr => by
          cases r with
          | inl i => have := (e2 i).mp hr; show i < n; omega
          | inr l => have := (e3 l).mp hr; show 1 ≤ l ∧ l < n; omega
        exact ⟨w (.inr q.1) k1, w _ (sub_els k2), w _ (sub_els k3)⟩
      let ls : List Nat := (List.range (n - 1)).map (· + 1)
      have hls : ∀ l ∈ ls, ∃ q ∈ kid3 (bt c (n - 1)), q.1 = l := fun l hl => by
        obtain ⟨i, hi, rfl⟩ := List.mem_map.mp hl
        have := List.mem_range.mp hi
        exact lab_kid ((e3 _).mpr (by omega))
      have hkeys : keysD sd = ls.map fun l => D.int (plN n l) := by
        have : keysD sd = (keysP sd).map kD := by unfold keysD keysP; rw [List.map_map]; rfl
        rw [this, v.ks]
        unfold ksN
        simp only [ls, List.map_map]
        rfl
      obtain ⟨ex, rs', pc', b6, g1, s', g3⟩ := round_loop (us := us) (a1 := a1) (a4 := a4) (a7 := a7) e1 hv (holds_kid v.H) hn ls lab rs pc a6 hls s (by simp [ls]; omega)
      have body : roundB [some (.int n), a1, some (.ref 0), some (.ref 2), a4, some (.ref 3), a6, a7] [.dct sd, .dct us, .dct pc, .lst (rs.map rowD)] =
          .nx [some (.int n), a1, some (.ref 0), some (.ref 2), a4, some (.ref 3), b6, a7] [.dct sd, .dct us, .dct pc', .lst (rs'.map rowD)] := by
        refine (w_lock (n := 0) (l := sd) (e' := [some (.int n), a1, some (.ref 0), some (.ref 2), a4, some (.ref 3), b6, a7]) (S' := [.fdct sd, .dct us, .dct pc', .lst (rs'.map rowD)]) rfl rfl ((w_for (l := keysD sd) (chk := hasF 0 sd) (S1 := [.fdct sd, .dct us, .dct pc, .lst (rs.map rowD)]) rfl).trans ?_) rfl).trans rfl
        rw [hkeys]
        exact g1
      have dec : (ws (bt c (n - 1)) (lab ++ ex)).length < (ws (bt c (n - 1)) lab).length := by
        have e : ws (bt c (n - 1)) (lab ++ ex) = (ws (bt c (n - 1)) lab).filter fun q => decide (q.1 ∉ ex) := by
          unfold ws
          rw [List.filter_filter]
          apply List.filter_congr
          intro q _
          simp only [List.mem_append, not_or]
          by_cases z1 : q.1 ∈ lab <;> by_cases z2 : q.1 ∈ ex <;> simp [z1, z2]
        rcases ready_ex (lab := lab) (bt c (n - 1)) with z | ⟨q, q1, q2, q3, q4⟩
        · refine absurd ?_ hw
          rw [List.eq_nil_iff_forall_not_mem]
          intro q hq
          have hq := List.mem_filter.mp hq
          exact of_decide_eq_true hq.2 (z _ (kid_mem hq.1).1)
        · have hin := g3 q q1 (by have := (hv q q1).1; simp only [ls, List.mem_map, List.mem_range]; exact ⟨q.1 - 1, by omega, by omega⟩) q3 q4
          have hex : q.1 ∈ ex := by
            rcases List.mem_append.mp hin with z | z
            · exact absurd z q2
            · exact z
          rw [e]
          refine Nat.lt_of_le_of_ne (List.length_filter_le _ _) fun z => ?_
          have := List.length_filter_eq_length_iff.mp z q (List.mem_filter.mpr ⟨q1, decide_eq_true q2⟩)
          exact of_decide_eq_true this hex
      obtain ⟨lab', rs2, pc2, b6', k1, k2, k3⟩ := rounds (a1 := a1) (a4 := a4) (a7 := a7) hc h1 hn v fuel (lab ++ ex) rs' pc' b6 (by omega) s'
      exact ⟨lab', rs2, pc2, b6', (w_while test body).trans k1, k2, k3⟩
/-- the letters' own places -/
def lfs (n : Nat) : List (Key × D) := (List.range n).map fun i => (.inl ((i : Nat) : Int), .int (i : Nat))
theorem lfs_succ (n : Nat) : lfs (n + 1) = lfs n ++ [(.inl ((n : Nat) : Int), .int (n : Nat))] := by unfold lfs; rw [List.range_succ, List.map_append]; rfl
theorem lfs_get : ∀ (n : Nat) (k : Int), valP (lfs n) (.inl k) = if 0 ≤ k ∧ k < n then some (.int k) else none
  | 0, k => by rw [if_neg (by omega)]; rfl
  | n + 1, k => by
    rw [lfs_succ, valP_snoc _ _ _ _ ((lfs_get n n).trans (if_neg (by omega)))]
    by_cases e : k = (n : Nat)
    · rw [if_pos (by rw [e]), if_pos (by omega), e]
    · rw [if_neg (by simpa using e), lfs_get n k]
      by_cases g : 0 ≤ k ∧ k < n
      · rw [if_pos g, if_pos (by omega)]
      · rw [if_neg g, if_neg (by omega)]
theorem lfs_len (n : Nat) : (lfs n).length = n := by simp [lfs]
theorem lfs_loop {e : Mo.Env} {S : List O} (he : 4 < e.length) : ∀ (k m : Nat), m + k < 1000 → compDL anyS (tgN 4) mYes (mVar 4) (mVar 4) e (lfs m) ((List.range' m k).map fun i => D.int (i : Nat)) S = .ok (lfs (m + k)) S
  | 0, m, _ => by rw [List.range'_zero, List.map_nil, compDL, if_pos (show anyS S = true from rfl)]; rfl
  | k + 1, m, h => by
    have g : (e.set 4 (some (.int (m : Nat))))[4]? = some (some (.int (m : Nat))) := List.getElem?_set_self he
    rw [List.range'_succ, List.map_cons, compDL_step (S1 := S) (S2 := S) (S3 := S) (kd := .int (m : Nat)) (k := .inl ((m : Nat) : Int)) (y := .int (m : Nat)) (e' := e.set 4 (some (.int (m : Nat)))) rfl rfl rfl (v_var g) (v_var g) rfl (by rw [lfs_len]; exact Nat.lt_trans (show m < 1000 by omega) (by decide)),
      put_new ((lfs_get m m).trans (if_neg (by omega))), ← lfs_succ, lfs_loop he k (m + 1) (by omega)]
    congr 2
    omega
theorem sum_of_ok {n : Nat} {t : Int} (h1 : 1 ≤ n) (hn : n ≤ 12) : ∃ lab rs S, m_sum_of [.int n, .int t] [] = .ok (progD n rs ((n : Int) + rs.length - 1)) S ∧ OP n (bt (dg n t) (n - 1)) lab rs ∧ rs.length = n - 1 := by
  have hc := dg_ok n t
  obtain ⟨sd, us, e1, v⟩ := sides_by_ok (t := t) h1 hn
  have s0 : Sm n (bt (dg n t) (n - 1)) [] [] (lfs n) := ⟨⟨List.nodup_nil, rfl, fun j x y h => by simp at h⟩, fun i a b h => by simp at h, ⟨fun i hi => by rw [lfs_get, if_pos (by omega)], fun l l1 l2 => by rw [lfs_get, if_neg (by unfold plN; omega), if_neg (by simp)]⟩, by rw [lfs_len]; exact Nat.le_add_right _ _⟩
  have k3 := kid3_two (bt (dg n t) (n - 1))
  rw [els_len hc (n - 1) (by omega)] at k3
  have hf : (ws (bt (dg n t) (n - 1)) []).length < 14 := Nat.lt_of_le_of_lt (List.length_filter_le _ _) (by omega)
  obtain ⟨lab, rs, pc, b6, hl, s, full⟩ := rounds (a1 := some (.int t)) (a4 := none) (a7 := none) hc h1 hn v 14 [] [] (lfs n) none hf s0
  have hlen := (prog_of hc h1 s.j full).2
  refine ⟨lab, rs, _, nb_ok (fn_rt (S' := [.dct sd, .dct us, .dct pc, .lst (rs.map rowD)]) (d := progD n rs ((n : Int) + rs.length - 1)) rfl ?_), ⟨s.j, s.lt, full⟩, hlen⟩
  refine w_seq (w_asg (v_call (v_cons (v_var rfl) (v_cons (v_var rfl) v_nil)) e1)) ?_
  refine w_seq (w_asg (S1 := [.dct sd, .dct us, .dct (lfs n)]) (d := .ref 2) ?_) ?_
  · unfold mDCompN
    rw [v_mir (v_cons (v_var rfl) v_nil) (range1_at (n := n) (by omega))]
    show (compDL anyS (tgN 4) mYes (mVar 4) (mVar 4) _ (lfs 0) (rangeD 0 1 n) _).bind _ = _
    have er : rangeD 0 1 n = (List.range' 0 n).map fun i => D.int (i : Nat) := by
      unfold rangeD
      rw [List.range_eq_range']
      apply List.map_congr_left
      intro i _
      congr 1
      omega
    rw [er]
    refine (congrArg (fun r => R.bind r _) (lfs_loop ?_ n 0 (by omega))).trans ?_
    · show 4 < 8; decide
    · rw [Nat.zero_add]; rfl
  refine w_seq (w_asg (v_new v_nil (show 0 ≤ 16777216 by decide))) ?_
  refine w_seq hl ?_
  refine w_ret (v_tup (v_cons (v_var rfl) (v_cons (v_cb (d := .tup (rs.map rowD)) (v_cons (v_var rfl) v_nil) rfl) (v_cons (v_tup (v_cons (v_bin (v_bin (v_var rfl) (v_cb (v_cons (v_var rfl) v_nil) (x_len (j := 3) rfl)) x_addI) v_C (x_subI)) v_nil) (show 1 ≤ 16777216 by decide)) v_nil))) (show 3 ≤ 16777216 by decide)) |>.trans ?_
  rw [List.length_map]
  rfl
end K65

namespace K65
open PySem PySem.Spec L2 PyProof.Rows Mo
/-! ### the told shapes, at every number of inputs -/
def tail : MS :=
  sFor (miSeq (mLst (mCons (mCallP m_left_tree (mCons (mVar 3) mNil)) (mCons (mCallP m_pairs_tree (mCons (mVar 3) mNil)) mNil)))) (tgN 8) (
  sSeq (sAsg 9 (mCallP m_sum_of (mCons (mVar 3) (mCons (mCallP m_tree_number (mCons (mVar 8) mNil)) mNil)))) (
  sIf (mTB (mBin gNe (mCallP m__law_shape (mCons (mVar 9) (mCons (mVar 3) mNil))) (mCallP m__law_shape (mCons (mVar 8) (mCons (mVar 3) mNil))))) (
  sRet (mC (.bl false))) (
  sNil)))
def pick : RS → Option (Option D × List O)
  | .nx [_, a, _, _, _, _, _, _, _, _] S => some (a, S)
  | _ => none
theorem tail1 (x0 x2 x4 x5 x6 x7 x8 x9 : Option D) (S : List O) : pick (tail [x0, some (.ref 0), x2, some (.int 1), x4, x5, x6, x7, x8, x9] S) = some (some (.ref 0), S) := by kernel_rfl
theorem tail2 (x0 x2 x4 x5 x6 x7 x8 x9 : Option D) (S : List O) : pick (tail [x0, some (.ref 0), x2, some (.int 2), x4, x5, x6, x7, x8, x9] S) = some (some (.ref 0), S) := by kernel_rfl
theorem tail3 (x0 x2 x4 x5 x6 x7 x8 x9 : Option D) (S : List O) : pick (tail [x0, some (.ref 0), x2, some (.int 3), x4, x5, x6, x7, x8, x9] S) = some (some (.ref 0), S) := by kernel_rfl
theorem tail4 (x0 x2 x4 x5 x6 x7 x8 x9 : Option D) (S : List O) : pick (tail [x0, some (.ref 0), x2, some (.int 4), x4, x5, x6, x7, x8, x9] S) = some (some (.ref 0), S) := by kernel_rfl
theorem tail5 (x0 x2 x4 x5 x6 x7 x8 x9 : Option D) (S : List O) : pick (tail [x0, some (.ref 0), x2, some (.int 5), x4, x5, x6, x7, x8, x9] S) = some (some (.ref 0), S) := by kernel_rfl
theorem tail6 (x0 x2 x4 x5 x6 x7 x8 x9 : Option D) (S : List O) : pick (tail [x0, some (.ref 0), x2, some (.int 6), x4, x5, x6, x7, x8, x9] S) = some (some (.ref 0), S) := by kernel_rfl
theorem tail7 (x0 x2 x4 x5 x6 x7 x8 x9 : Option D) (S : List O) : pick (tail [x0, some (.ref 0), x2, some (.int 7), x4, x5, x6, x7, x8, x9] S) = some (some (.ref 0), S) := by kernel_rfl
theorem tail8 (x0 x2 x4 x5 x6 x7 x8 x9 : Option D) (S : List O) : pick (tail [x0, some (.ref 0), x2, some (.int 8), x4, x5, x6, x7, x8, x9] S) = some (some (.ref 0), S) := by kernel_rfl
theorem tail9 (x0 x2 x4 x5 x6 x7 x8 x9 : Option D) (S : List O) : pick (tail [x0, some (.ref 0), x2, some (.int 9), x4, x5, x6, x7, x8, x9] S) = some (some (.ref 0), S) := by kernel_rfl
theorem tail10 (x0 x2 x4 x5 x6 x7 x8 x9 : Option D) (S : List O) : pick (tail [x0, some (.ref 0), x2, some (.int 10), x4, x5, x6, x7, x8, x9] S) = some (some (.ref 0), S) := by kernel_rfl
theorem tail11 (x0 x2 x4 x5 x6 x7 x8 x9 : Option D) (S : List O) : pick (tail [x0, some (.ref 0), x2, some (.int 11), x4, x5, x6, x7, x8, x9] S) = some (some (.ref 0), S) := by kernel_rfl
theorem tail12 (x0 x2 x4 x5 x6 x7 x8 x9 : Option D) (S : List O) : pick (tail [x0, some (.ref 0), x2, some (.int 12), x4, x5, x6, x7, x8, x9] S) = some (some (.ref 0), S) := by kernel_rfl
theorem tail_at {n : Nat} (h1 : 1 ≤ n) (h2 : n ≤ 12) (x0 x2 x4 x5 x6 x7 x8 x9 : Option D) (S : List O) : ∃ a0 a2 a3 a4 a5 a6 a7 a8 a9, tail [x0, some (.ref 0), x2, some (.int n), x4, x5, x6, x7, x8, x9] S = .nx [a0, some (.ref 0), a2, a3, a4, a5, a6, a7, a8, a9] S := by
  have key : pick (tail [x0, some (.ref 0), x2, some (.int n), x4, x5, x6, x7, x8, x9] S) = some (some (.ref 0), S) := by
    have c : n = 1 ∨ n = 2 ∨ n = 3 ∨ n = 4 ∨ n = 5 ∨ n = 6 ∨ n = 7 ∨ n = 8 ∨ n = 9 ∨ n = 10 ∨ n = 11 ∨ n = 12 := by omega
    rcases c with rfl | rfl | rfl | rfl | rfl | rfl | rfl | rfl | rfl | rfl | rfl | rfl
    · exact tail1 x0 x2 x4 x5 x6 x7 x8 x9 S
    · exact tail2 x0 x2 x4 x5 x6 x7 x8 x9 S
    · exact tail3 x0 x2 x4 x5 x6 x7 x8 x9 S
    · exact tail4 x0 x2 x4 x5 x6 x7 x8 x9 S
    · exact tail5 x0 x2 x4 x5 x6 x7 x8 x9 S
    · exact tail6 x0 x2 x4 x5 x6 x7 x8 x9 S
    · exact tail7 x0 x2 x4 x5 x6 x7 x8 x9 S
    · exact tail8 x0 x2 x4 x5 x6 x7 x8 x9 S
    · exact tail9 x0 x2 x4 x5 x6 x7 x8 x9 S
    · exact tail10 x0 x2 x4 x5 x6 x7 x8 x9 S
    · exact tail11 x0 x2 x4 x5 x6 x7 x8 x9 S
    · exact tail12 x0 x2 x4 x5 x6 x7 x8 x9 S
  unfold pick at key
  split at key
  · rename_i h
    cases key
    exact ⟨_, _, _, _, _, _, _, _, _, h⟩
  · cases key
end K65

namespace K65
open PySem PySem.Spec L2 PyProof.Rows Mo K64
/-! ### texts tell trees apart -/
abbrev cl (x : Str) : List Nat := x.cps.toList
theorem cl_ext {a b : Str} (h : cl a = cl b) : a = b := by
  cases a with | mk x => cases b with | mk y => cases x with | mk x => cases y with | mk y => simp at h; rw [h]
theorem cl_join (a b : Str) : cl (Txt.join "," [a, b]) = cl a ++ 44 :: cl b := by
  unfold Txt.join
  rw [StrLaws.glued_eq_join]
  show cl (a ++ ("," : Str) ++ b) = _
  rw [← apS_eq, ← apS_eq]
  show (cl a ++ cl (",")) ++ cl b = _
  rw [List.append_assoc]
  rfl
theorem cl_jn (a b : Str) : ∃ p q, ((p = a ∧ q = b) ∨ (p = b ∧ q = a)) ∧ cl (jn a b) = 40 :: (cl p ++ 44 :: (cl q ++ [41])) := by
  have key : ∀ p q, sortS [a, b] = [p, q] → cl (jn a b) = 40 :: (cl p ++ 44 :: (cl q ++ [41])) := fun p q h => by
    unfold jn
    rw [h]
    show (cl "(" ++ cl (Txt.join "," [p, q])) ++ cl ")" = _
    rw [cl_join]
    show (40 :: (cl p ++ 44 :: cl q)) ++ [41] = _
    simp
  rcases sort2_cases a b with h | h
  · exact ⟨a, b, .inl ⟨rfl, rfl⟩, key _ _ h⟩
  · exact ⟨b, a, .inr ⟨rfl, rfl⟩, key _ _ h⟩
def dz (i : Nat) : List Nat := cl ((toString (i : Int) : String))
theorem dz_dig : ∀ i, i < 12 → (dz i).all (fun c => decide (48 ≤ c ∧ c < 58)) = true := by decide +kernel
theorem dz_inj : ∀ i, i < 12 → ∀ j, j < 12 → dz i = dz j → i = j := by decide +kernel
theorem dz_ne : ∀ i, i < 12 → dz i ≠ [] := by decide +kernel
def Le12 (t : Tr) : Prop := ∀ i, .inl i ∈ t.els → i < 12
theorem Le12.l {l : Nat} {a b : Tr} (h : Le12 (.nd l a b)) : Le12 a := fun i hi => h i (by simp [Tr.els, hi])
theorem Le12.r {l : Nat} {a b : Tr} (h : Le12 (.nd l a b)) : Le12 b := fun i hi => h i (by simp [Tr.els, hi])
theorem txt_chars : ∀ t : Tr, Le12 t → ∀ c ∈ cl (txt t), c < 1114112
  | .lf i, h, c, hc => by
    have := List.all_eq_true.mp (dz_dig i (h i (by simp [Tr.els]))) c hc
    have := of_decide_eq_true this
    omega
  | .nd l a b, h, c, hc => by
    obtain ⟨p, q, hpq, e⟩ := cl_jn (txt a) (txt b)
    rw [show cl (txt (.nd l a b)) = _ from e] at hc
    have pa := txt_chars a h.l
    have pb := txt_chars b h.r
    have pp : ∀ c ∈ cl p, c < 1114112 := by rcases hpq with ⟨rfl, rfl⟩ | ⟨rfl, rfl⟩ <;> assumption
    have pq : ∀ c ∈ cl q, c < 1114112 := by rcases hpq with ⟨rfl, rfl⟩ | ⟨rfl, rfl⟩ <;> assumption
    simp only [List.mem_cons, List.mem_append, List.not_mem_nil, or_false] at hc
    rcases hc with rfl | hc | rfl | hc | rfl
    · decide
    · exact pp c hc
    · decide
    · exact pq c hc
    · decide
theorem txt_strOk {t : Tr} (h : Le12 t) : PyData.strOk (txt t) = true := by
  unfold PyData.strOk
  rw [← Array.all_toList]
  exact List.all_eq_true.mpr fun c hc => decide_eq_true (txt_chars t h c hc)
/-- what may stand behind a text -/
def Stop (r : List Nat) : Prop := ∀ c ∈ r.head?, ¬ (48 ≤ c ∧ c < 58)
theorem dig_split : ∀ (d d' r r' : List Nat), d.all (fun c => decide (48 ≤ c ∧ c < 58)) = true → d'.all (fun c => decide (48 ≤ c ∧ c < 58)) = true → Stop r → Stop r' → d ++ r = d' ++ r' → d = d' ∧ r = r'
  | [], [], r, r', _, _, _, _, e => ⟨rfl, e⟩
  | [], c :: d', r, r', _, h, s, _, e => by
    simp at e
    subst e
    simp at h
    exact absurd h.1 (s c (by simp))
  | c :: d, [], r, r', h, _, _, s, e => by
    simp at e
    subst e
    simp at h
    exact absurd h.1 (s c (by simp))
  | c :: d, c' :: d', r, r', h, h', s, s', e => by
    rw [List.cons_append, List.cons_append] at e
    injection e with e1 e2
    simp only [List.all_cons, Bool.and_eq_true] at h h'
    obtain ⟨k1, k2⟩ := dig_split d d' r r' h.2 h'.2 s s' e2
    exact ⟨by rw [e1, k1], k2⟩
theorem txt_pre : ∀ (t t' : Tr) (r r' : List Nat), Le12 t → Le12 t' → Stop r → Stop r' → cl (txt t) ++ r = cl (txt t') ++ r' → cl (txt t) = cl (txt t') ∧ r = r'
  | .lf i, .lf j, r, r', h, h', s, s', e => dig_split _ _ r r' (dz_dig i (h i (by simp [Tr.els]))) (dz_dig j (h' j (by simp [Tr.els]))) s s' e
  | .lf i, .nd l a b, r, r', h, h', s, s', e => by
    obtain ⟨p, q, _, e2⟩ := cl_jn (txt a) (txt b)
    have hi := h i (by simp [Tr.els])
    rw [show cl (txt (.nd l a b)) = _ from e2] at e
    have e : dz i ++ r = 40 :: _ := e
    have d := dz_dig i hi
    cases hz : dz i with
    | nil => exact absurd hz (dz_ne i hi)
    | cons c d' =>
      rw [hz] at e d
      injection e with e1 _
      simp at d
      omega
  | .nd l a b, .lf i, r, r', h, h', s, s', e => by
    obtain ⟨p, q, _, e2⟩ := cl_jn (txt a) (txt b)
    have hi := h' i (by simp [Tr.els])
    rw [show cl (txt (.nd l a b)) = _ from e2] at e
    have e : 40 :: _ = dz i ++ r' := e
    have d := dz_dig i hi
    cases hz : dz i with
    | nil => exact absurd hz (dz_ne i hi)
    | cons c d' =>
      rw [hz] at e d
      injection e with e1 _
      simp at d
      omega
  | .nd l a b, .nd m c d, r, r', h, h', s, s', e => by
    obtain ⟨p, q, hpq, e1⟩ := cl_jn (txt a) (txt b)
    obtain ⟨u, v, huv, e2⟩ := cl_jn (txt c) (txt d)
    rw [show cl (txt (.nd l a b)) = _ from e1, show cl (txt (.nd m c d)) = _ from e2] at e ⊢
    simp only [List.cons_append, List.append_assoc, List.nil_append] at e
    injection e with _ e
    have IH : ∀ (t' : Tr) (r r' : List Nat), Le12 t' → Stop r → Stop r' → (cl (txt a) ++ r = cl (txt t') ++ r' → cl (txt a) = cl (txt t') ∧ r = r') ∧ (cl (txt b) ++ r = cl (txt t') ++ r' → cl (txt b) = cl (txt t') ∧ r = r') := fun t' r r' k1 k2 k3 =>
      ⟨fun e => txt_pre a t' r r' h.l k1 k2 k3 e, fun e => txt_pre b t' r r' h.r k1 k2 k3 e⟩
    have s44 : ∀ x : List Nat, Stop (44 :: x) := fun x c hc => by simp at hc; omega
    have s41 : ∀ x : List Nat, Stop (41 :: x) := fun x c hc => by simp at hc; omega
    have st : cl p = cl u ∧ 44 :: (cl q ++ 41 :: r) = 44 :: (cl v ++ 41 :: r') := by
      rcases hpq with ⟨rfl, rfl⟩ | ⟨rfl, rfl⟩ <;> rcases huv with ⟨rfl, rfl⟩ | ⟨rfl, rfl⟩
      · exact (IH c _ _ h'.l (s44 _) (s44 _)).1 e
      · exact (IH d _ _ h'.r (s44 _) (s44 _)).1 e
      · exact (IH c _ _ h'.l (s44 _) (s44 _)).2 e
      · exact (IH d _ _ h'.r (s44 _) (s44 _)).2 e
    obtain ⟨k1, k2⟩ := st
    injection k2 with _ k2
    have st : cl q = cl v ∧ 41 :: r = 41 :: r' := by
      rcases hpq with ⟨rfl, rfl⟩ | ⟨rfl, rfl⟩ <;> rcases huv with ⟨rfl, rfl⟩ | ⟨rfl, rfl⟩
      · exact (IH d _ _ h'.r (s41 _) (s41 _)).2 k2
      · exact (IH c _ _ h'.l (s41 _) (s41 _)).2 k2
      · exact (IH d _ _ h'.r (s41 _) (s41 _)).1 k2
      · exact (IH c _ _ h'.l (s41 _) (s41 _)).1 k2
    obtain ⟨k3, k4⟩ := st
    injection k4 with _ k4
    exact ⟨by rw [k1, k3], k4⟩
/-- equal up to the order of sides, the rows' labels aside -/
inductive Eqv : Tr → Tr → Prop where
  | lf (i : Nat) : Eqv (.lf i) (.lf i)
  | st {l m : Nat} {a b c d : Tr} : Eqv a c → Eqv b d → Eqv (.nd l a b) (.nd m c d)
  | sw {l m : Nat} {a b c d : Tr} : Eqv a d → Eqv b c → Eqv (.nd l a b) (.nd m c d)
theorem txt_eqv : ∀ (t t' : Tr), Le12 t → Le12 t' → cl (txt t) = cl (txt t') → Eqv t t'
  | .lf i, .lf j, h, h', e => by
    have := dz_inj i (h i (by simp [Tr.els])) j (h' j (by simp [Tr.els])) e
    subst this
    exact .lf i
  | .lf i, .nd l a b, h, h', e => by
    obtain ⟨p, q, _, e2⟩ := cl_jn (txt a) (txt b)
    have hi := h i (by simp [Tr.els])
    rw [show cl (txt (.nd l a b)) = _ from e2] at e
    have e : dz i = 40 :: _ := e
    have d := dz_dig i hi
    rw [e] at d
    simp at d
  | .nd l a b, .lf i, h, h', e => by
    obtain ⟨p, q, _, e2⟩ := cl_jn (txt a) (txt b)
    have hi := h' i (by simp [Tr.els])
    rw [show cl (txt (.nd l a b)) = _ from e2] at e
    have e : 40 :: _ = dz i := e
    have d := dz_dig i hi
    rw [← e] at d
    simp at d
  | .nd l a b, .nd m c d, h, h', e => by
    obtain ⟨p, q, hpq, e1⟩ := cl_jn (txt a) (txt b)
    obtain ⟨u, v, huv, e2⟩ := cl_jn (txt c) (txt d)
    rw [show cl (txt (.nd l a b)) = _ from e1, show cl (txt (.nd m c d)) = _ from e2] at e
    injection e with _ e
    have s44 : ∀ x : List Nat, Stop (44 :: x) := fun x c hc => by simp at hc; omega
    have st : cl p = cl u ∧ 44 :: (cl q ++ [41]) = 44 :: (cl v ++ [41]) := by
      rcases hpq with ⟨rfl, rfl⟩ | ⟨rfl, rfl⟩ <;> rcases huv with ⟨rfl, rfl⟩ | ⟨rfl, rfl⟩
      · exact txt_pre a c _ _ h.l h'.l (s44 _) (s44 _) e
      · exact txt_pre a d _ _ h.l h'.r (s44 _) (s44 _) e
      · exact txt_pre b c _ _ h.r h'.l (s44 _) (s44 _) e
      · exact txt_pre b d _ _ h.r h'.r (s44 _) (s44 _) e
    obtain ⟨k1, k2⟩ := st
    injection k2 with _ k2
    have k3 := List.append_cancel_right k2
    rcases hpq with ⟨rfl, rfl⟩ | ⟨rfl, rfl⟩ <;> rcases huv with ⟨rfl, rfl⟩ | ⟨rfl, rfl⟩
    · exact .st (txt_eqv a c h.l h'.l k1) (txt_eqv b d h.r h'.r k3)
    · exact .sw (txt_eqv a d h.l h'.r k1) (txt_eqv b c h.r h'.l k3)
    · exact .sw (txt_eqv a d h.l h'.r k3) (txt_eqv b c h.r h'.l k1)
    · exact .st (txt_eqv a c h.l h'.l k3) (txt_eqv b d h.r h'.r k1)
theorem eqv_txt {t t' : Tr} (h : Eqv t t') : txt t = txt t' := by
  induction h with
  | lf i => rfl
  | st _ _ i1 i2 => show jn _ _ = jn _ _; rw [i1, i2]
  | sw _ _ i1 i2 => show jn _ _ = jn _ _; rw [i1, i2, jn_comm]
end K65

namespace Mo
open PySem PySem.Spec L2 PyProof.Rows
theorem x_neStr2 {S : List O} {X : Str} (hX : PyData.strOk X = true) : gNe S (.lst [.str X, .str X]) (.lst [.str X, .str X]) = some (.bl false) := by
  unfold gNe eqB
  rw [show scD (.lst [.str X, .str X]) (.lst [.str X, .str X]) = none by rfl]
  dsimp only
  rw [show toPyS S (.lst [.str X, .str X]) = some (.list [.str X, .str X]) by rfl]
  dsimp only
  have sh : SeqAt.shaped (.list [.str X, .str X]) = true := by simp [SeqAt.shaped, PyData.canLay0, PyData.canLayAll0, PyData.depth, PyData.depthAll, hX]
  rw [if_pos ⟨sh, sh⟩]
  simp [PyData.eqv, PyData.eqvAll]
theorem v_callKP2 {f : List D → List O → R D} {m : MA} {e : Mo.Env} {S S1 S2 : List O} {a b d : D} (h1 : m e S = .ok [a, b] S1) (h2 : D.los 0 [a, b] = true) (h3 : f [a, b] [] = .ok d S2) (h4 : D.lo 0 d = true) : mCallKP 0 2 [0, 1] f mNil m e S = .ok d S1 := by
  unfold mCallKP
  show (m e S).bind _ = _
  rw [h1]
  show (if ([] : List D).length = 0 ∧ [a, b].length = 2 ∧ D.los 0 (permL [0, 1] ([] ++ [a, b])) = true then pureR (f (permL [0, 1] ([] ++ [a, b])) []) S1 else .bad) = _
  rw [if_pos ⟨rfl, rfl, h2⟩]
  show pureR (f [a, b] []) S1 = _
  rw [h3]
  show (if D.lo 0 d = true then R.ok d S1 else .bad) = _
  rw [if_pos h4]
end Mo
namespace K65
open PySem PySem.Spec L2 PyProof.Rows Mo K64
theorem many_ok {n : Nat} (h1 : 1 ≤ n) (hn : n ≤ 12) : ∃ v : Int, m__law_many [.int n] [] = .ok (.int v) [] ∧ 1 ≤ v ∧ v < 100000000000000000000 := by
  have c : n = 1 ∨ n = 2 ∨ n = 3 ∨ n = 4 ∨ n = 5 ∨ n = 6 ∨ n = 7 ∨ n = 8 ∨ n = 9 ∨ n = 10 ∨ n = 11 ∨ n = 12 := by omega
  rcases c with rfl | rfl | rfl | rfl | rfl | rfl | rfl | rfl | rfl | rfl | rfl | rfl
  · exact ⟨1, by kernel_rfl, by decide, by decide⟩
  · exact ⟨1, by kernel_rfl, by decide, by decide⟩
  · exact ⟨3, by kernel_rfl, by decide, by decide⟩
  · exact ⟨15, by kernel_rfl, by decide, by decide⟩
  · exact ⟨105, by kernel_rfl, by decide, by decide⟩
  · exact ⟨945, by kernel_rfl, by decide, by decide⟩
  · exact ⟨10395, by kernel_rfl, by decide, by decide⟩
  · exact ⟨135135, by kernel_rfl, by decide, by decide⟩
  · exact ⟨2027025, by kernel_rfl, by decide, by decide⟩
  · exact ⟨34459425, by kernel_rfl, by decide, by decide⟩
  · exact ⟨654729075, by kernel_rfl, by decide, by decide⟩
  · exact ⟨13749310575, by kernel_rfl, by decide, by decide⟩
theorem enc_lo (k : Nat) : ∀ t : Tr, D.lo k (enc t) = true
  | .lf i => rfl
  | .nd l a b => by
    have h1 := enc_lo k a
    have h2 := enc_lo k b
    show D.los k [.int l, enc a, enc b] = true
    simp [D.los, D.lo, h1, h2]
theorem los1 {k : Nat} {a : D} (h : D.lo k a = true) : D.los k [a] = true := by simp [D.los, h]
theorem los2 {k : Nat} {a b : D} (h : D.lo k a = true) (g : D.lo k b = true) : D.los k [a, b] = true := by simp [D.los, h, g]
def lBody : MS := sSeq (sAsg 3 (mBin gAdd (mC (.int 1)) (mCall m__law_draw (mCons (mVar 1) (mCons (mC (.int 12)) mNil))))) (
  sSeq (sAsg 4 (mCallP m__law_many (mCons (mVar 3) mNil))) (
  sSeq (sAsg 5 (mCall m__law_one (mCons (mVar 1) (mCons (mLst (mCons (mC (.int 0)) (mCons (mBin gSub (mVar 4) (mC (.int 1))) (mCons (mCall m__law_draw (mCons (mVar 1) (mCons (mVar 4) mNil))) (mCons (mCall m__law_code (mCons (mCall m__law_codes (mCons (mVar 1) (mCons (mVar 3) mNil))) mNil)) mNil))))) mNil)))) (
  sSeq (sAsg 6 (mCallP (m__law_text 14) (mCons (mCallP m__law_tree (mCons (mCallP m__law_split (mCons (mVar 3) (mCons (mVar 5) mNil))) mNil)) mNil))) (
  sSeq (sAsg 7 (mLst (mCons (mCallP m__law_shape (mCons (mCallP m_sum_of (mCons (mVar 3) (mCons (mVar 5) mNil))) (mCons (mVar 3) mNil))) (mCons (mCallP m__law_shape (mCons (mCallKP 0 2 [0, 1] m_sum_of mNil (mCons (mVar 3) (mCons (mVar 5) mNil))) (mCons (mVar 3) mNil))) mNil)))) (
  sSeq (sIf (mTB (mBin gNe (mVar 7) (mLst (mCons (mVar 6) (mCons (mVar 6) mNil))))) (
  sRet (mC (.bl false))) (
  sNil)) tail)))))
def Iv (i : Nat) (e : Mo.Env) (S : List O) : Prop := ∃ a0 a2 a3 a4 a5 a6 a7 a8 a9, e = [a0, some (.ref 0), a2, a3, a4, a5, a6, a7, a8, a9] ∧ Fd S (100 * i)
theorem turn (i : Nat) (hi : i < 8) (d : D) (e : Mo.Env) (S : List O) (h : Iv i e S) : ∃ e' e1 S1, (tgN 2).f d e = some e' ∧ lBody e' S = .nx e1 S1 ∧ Iv (i + 1) e1 S1 := by
  obtain ⟨a0, a2, a3, a4, a5, a6, a7, a8, a9, rfl, F⟩ := h
  obtain ⟨nn, S1, r1, n0, n1, F1, A1⟩ := draw_fd (many := 12) F (by omega) (by decide) (by decide)
  obtain ⟨n, rfl⟩ : ∃ n : Nat, nn = (n : Int) - 1 := ⟨(nn + 1).toNat, by omega⟩
  have h1 : 1 ≤ n := by omega
  have hn : n ≤ 12 := by omega
  obtain ⟨v, m1, m2, m3⟩ := many_ok h1 hn
  obtain ⟨dd, S2, r2, _, _, F2, A2⟩ := draw_fd (many := v) F1 (by omega) (by omega) m3
  obtain ⟨c, S3, r3, hc, g3, l3, s3, F3⟩ := codes_fd F2 (by omega) h1 hn
  obtain ⟨td, htd, S4, r4, F4, A4⟩ := one_fd (items := [.int 0, .int (v - 1), .int dd, .int (num c (n - 1))]) F3 (by omega) (by simp) (by simp)
  obtain ⟨t, rfl⟩ : ∃ t, td = .int t := by
    simp at htd
    rcases htd with h | h | h | h <;> exact ⟨_, h⟩
  let T := bt (dg n t) (n - 1)
  have hd := dg_ok n t
  obtain ⟨e1, e2, e3⟩ := bt_els hd (n - 1) (by omega)
  have few : T.els.length < 50 := kids_few hd h1 hn
  have sm : small T := fun i hi => by have := (e2 i).mp hi; omega
  have dp : dep T ≤ n - 1 + 1 := dep_bt (c := dg n t) (n - 1)
  obtain ⟨lab, rs, Sx, r5, P, hl⟩ := sum_of_ok (t := t) h1 hn
  obtain ⟨Sy, r6⟩ := shape_ok (out := (n : Int) + rs.length - 1) P hd h1 hn (by omega)
  have loP := prog_lo 0 n rs ((n : Int) + rs.length - 1)
  obtain ⟨b0, b2, b3, b4, b5, b6, b7, b8, b9, tl⟩ := tail_at h1 hn a0 (some d) (some (.int v)) (some (.int t)) (some (.str (txt T))) (some (.lst [.str (txt T), .str (txt T)])) a8 a9 S4
  refine ⟨_, _, S4, rfl, ?_, b0, b2, b3, b4, b5, b6, b7, b8, b9, rfl, F4.mono (by omega)⟩
  refine w_seq (w_asg (d := .int (n : Int)) (v_bin v_C (v_call (v_cons (v_var rfl) (v_cons v_C v_nil)) r1) ?_)) ?_
  · rw [x_addI]; congr 2; omega
  refine w_seq (w_asg (v_callP (v_cons (v_var rfl) v_nil) rfl m1 rfl)) ?_
  refine w_seq (w_asg (v_call (v_cons (v_var rfl) (v_cons (v_lst (v_cons v_C (v_cons (v_bin (v_var rfl) v_C x_subI) (v_cons (v_call (v_cons (v_var rfl) (v_cons (v_var rfl) v_nil)) r2) (v_cons (v_call (v_cons (v_call (v_cons (v_var rfl) (v_cons (v_var rfl) v_nil)) r3) v_nil) (code_ok (by omega) g3)) v_nil)))) (show 4 ≤ 16777216 by decide)) v_nil)) r4)) ?_
  refine w_seq (w_asg (v_callP (v_cons (v_callP (v_cons (v_callP (v_cons (v_var rfl) (v_cons (v_var rfl) v_nil)) rfl (split_ok h1 hn) (ints_los 0 _ _)) v_nil) (los1 (ints_los 0 _ _)) (tree_okL (by omega)) (enc_lo 0 _)) v_nil) (los1 (enc_lo 0 _)) (text_ok 14 T (by omega) sm (by omega) []) rfl)) ?_
  refine w_seq (w_asg (v_lst (v_cons (v_callP (v_cons (v_callP (v_cons (v_var rfl) (v_cons (v_var rfl) v_nil)) rfl r5 loP) (v_cons (v_var rfl) v_nil)) (los2 loP rfl) r6 rfl) (v_cons (v_callP (v_cons (v_callKP2 (v_cons (v_var rfl) (v_cons (v_var rfl) v_nil)) rfl r5 loP) (v_cons (v_var rfl) v_nil)) (los2 loP rfl) r6 rfl) v_nil)) (show 2 ≤ 16777216 by decide))) ?_
  refine w_seq (w_ifF (v_tb (v_bin (v_var rfl) (v_lst (v_cons (v_var rfl) (v_cons (v_var rfl) v_nil)) (show 2 ≤ 16777216 by decide)) (x_neStr2 (txt_strOk fun i hi => by have := (e2 i).mp hi; omega)))) rfl) ?_
  exact tl
theorem law_true : ∀ ns : List Int, ns.length ≤ 63 → ∃ S, fnM 1 10 b_law [.kl (ns.map D.int)] [] = .ok (.bl true) S := by
  intro ns _
  obtain ⟨cs, hf, F⟩ := feed_call ns
  obtain ⟨e1, S1, hl, _⟩ := loop_inv (t := tgN 2) (b := lBody) (I := Iv) (n := 8) turn (i := 0) (l := rangeD 0 1 8) rfl (e := [some (.kl (ns.map .int)), some (.ref 0), none, none, none, none, none, none, none, none]) (S := [feedO 0 cs 0 0]) ⟨_, _, _, _, _, _, _, _, _, rfl, 0, cs, 0, 0, F, by decide⟩
  refine ⟨_, fn_rt (S' := S1) (d := .bl true) rfl ?_⟩
  refine w_seq (w_asg (v_call (v_cons (v_var rfl) v_nil) hf)) ?_
  refine w_seq (e1 := e1) (S1 := S1) ?_ (w_ret v_C)
  exact (w_for (l := rangeD 0 1 8) (S1 := [feedO 0 cs 0 0]) rfl).trans hl
end K65

namespace K65
open PySem PySem.Spec L2 PyProof.Rows Mo K64
/-! ### numbers and codes -/
def hm : Nat → Int
  | 0 => 1
  | k + 1 => hm k * (2 * ((k + 1 : Nat) : Int) - 1)
theorem num_lt {c : Nat → Nat} {n : Nat} (hc : CodesOk c n) : ∀ k, k < n → 0 ≤ num c k ∧ num c k < hm k
  | 0, _ => ⟨Int.le_refl _, by show (0 : Int) < 1; decide⟩
  | k + 1, h => by
    obtain ⟨a, b⟩ := num_lt hc k (by omega)
    have ck := hc (k + 1) (by omega) h
    rw [num, hm]
    have p0 : 0 ≤ (2 * ((k + 1 : Nat) : Int) - 1) := by omega
    have h1 : 0 ≤ num c k * (2 * ((k + 1 : Nat) : Int) - 1) := Int.mul_nonneg a p0
    have h3 : (num c k + 1) * (2 * ((k + 1 : Nat) : Int) - 1) ≤ hm k * (2 * ((k + 1 : Nat) : Int) - 1) := Int.mul_le_mul_of_nonneg_right (by omega) p0
    rw [Int.add_mul, Int.one_mul] at h3
    omega
theorem num_div {c : Nat → Nat} {n k : Nat} (hc : CodesOk c n) (h : k + 1 < n) : num c (k + 1) / (2 * ((k + 1 : Nat) : Int) - 1) = num c k ∧ num c (k + 1) % (2 * ((k + 1 : Nat) : Int) - 1) = (c (k + 1) : Nat) := by
  have ck := hc (k + 1) (by omega) h
  refine (Int.ediv_emod_unique (by omega)).mpr ⟨?_, by omega, by omega⟩
  rw [num, Int.mul_comm (2 * ((k + 1 : Nat) : Int) - 1)]
  omega
theorem tl_num {c : Nat → Nat} {n : Nat} (hc : CodesOk c n) : ∀ i, i ≤ n - 1 → tl n (num c (n - 1)) i = num c (n - 1 - i)
  | 0, _ => rfl
  | i + 1, h => by
    rw [tl, tl_num hc i (by omega)]
    have e : n - 1 - i = (n - 1 - (i + 1)) + 1 := by omega
    rw [e]
    exact (num_div hc (by omega)).1
theorem dg_num {c : Nat → Nat} {n L : Nat} (hc : CodesOk c n) (h1 : 1 ≤ L) (h2 : L < n) : dg n (num c (n - 1)) L = c L := by
  unfold dg
  rw [tl_num hc _ (by omega), show n - 1 - (n - 1 - L) = (L - 1) + 1 by omega]
  have := (num_div (k := L - 1) hc (by omega)).2
  rw [show ((L - 1 + 1 : Nat) : Int) = (L : Int) by omega] at this
  rw [this, show L - 1 + 1 = L by omega]
  rfl
theorem bt_congr {c c' : Nat → Nat} : ∀ k, (∀ L, 1 ≤ L → L ≤ k → c L = c' L) → bt c k = bt c' k
  | 0, _ => rfl
  | k + 1, h => by rw [bt, bt, bt_congr k (fun L h1 h2 => h L h1 (by omega)), h (k + 1) (by omega) (Nat.le_refl _)]
theorem num_congr {c c' : Nat → Nat} : ∀ k, (∀ L, 1 ≤ L → L ≤ k → c L = c' L) → num c k = num c' k
  | 0, _ => rfl
  | k + 1, h => by rw [num, num, num_congr k (fun L h1 h2 => h L h1 (by omega)), h (k + 1) (by omega) (Nat.le_refl _)]
theorem bt_num {c : Nat → Nat} {n : Nat} (hc : CodesOk c n) (h1 : 1 ≤ n) : bt (dg n (num c (n - 1))) (n - 1) = bt c (n - 1) := bt_congr _ fun L l1 l2 => dg_num hc l1 (by omega)
/-! ### trees equal up to the order of sides -/
def mapE (f : Nat → Nat) : El → El
  | .inl i => .inl i
  | .inr l => .inr (f l)
structure Mt (t t' : Tr) (f : Nat → Nat) : Prop where
  root : mapE f t'.root = t.root
  lab : ∀ l, .inr l ∈ t'.els → .inr (f l) ∈ t.els
  inj : ∀ l m, .inr l ∈ t'.els → .inr m ∈ t'.els → f l = f m → l = m
  kid : ∀ q' ∈ kid3 t', ∃ q ∈ kid3 t, q.1 = f q'.1 ∧ ((mapE f q'.2.1 = q.2.1 ∧ mapE f q'.2.2 = q.2.2) ∨ (mapE f q'.2.1 = q.2.2 ∧ mapE f q'.2.2 = q.2.1))
  all : ∀ q ∈ kid3 t, ∃ q' ∈ kid3 t', f q'.1 = q.1
theorem mapE_congr {f g : Nat → Nat} {r : El} (h : ∀ l, r = .inr l → f l = g l) : mapE f r = mapE g r := by
  cases r with
  | inl i => rfl
  | inr l => show Sum.inr (f l) = Sum.inr (g l); rw [h l rfl]
theorem Mt.congr {t t' : Tr} {f g : Nat → Nat} (x : Mt t t' f) (h : ∀ l, .inr l ∈ t'.els → f l = g l) : Mt t t' g := by
  have me : ∀ r ∈ t'.els, mapE g r = mapE f r := fun r hr => mapE_congr fun l e => (h l (e ▸ hr)).symm
  refine ⟨(me _ (root_mem _)).trans x.root, fun l hl => h l hl ▸ x.lab l hl, fun l m hl hm e => x.inj l m hl hm (by rw [h l hl, h m hm, e]), fun q' hq' => ?_, fun q hq => ?_⟩
  · obtain ⟨k1, k2, k3⟩ := kid_mem hq'
    obtain ⟨q, h1, h2, h3⟩ := x.kid q' hq'
    refine ⟨q, h1, h2.trans (h _ k1), ?_⟩
    rw [me _ (sub_els k2), me _ (sub_els k3)]
    exact h3
  · obtain ⟨q', h1, h2⟩ := x.all q hq
    exact ⟨q', h1, (h _ (kid_mem h1).1).symm.trans h2⟩
theorem mt_nd {l m : Nat} {a b c d : Tr} {f g : Nat → Nat} (nd : (Tr.nd l a b).els.Nodup) (nd' : (Tr.nd m c d).els.Nodup) (x : Mt a c f) (y : Mt b d g) : ∃ h, Mt (.nd l a b) (.nd m c d) h := by
  classical
  obtain ⟨n1, n2, n3, n4⟩ := els_nd nd
  obtain ⟨u1, u2, u3, u4⟩ := els_nd nd'
  let h : Nat → Nat := fun k => if k = m then l else if (Sum.inr k : El) ∈ c.els then f k else g k
  have h0 : h m = l := if_pos rfl
  have hc : ∀ k, .inr k ∈ c.els → f k = h k := fun k hk => by
    have : k ≠ m := fun z => u4 _ (List.mem_append_left _ hk) (by rw [z])
    show _ = (if k = m then l else if (Sum.inr k : El) ∈ c.els then f k else g k)
    rw [if_neg this, if_pos hk]
  have hd : ∀ k, .inr k ∈ d.els → g k = h k := fun k hk => by
    have : k ≠ m := fun z => u4 _ (List.mem_append_right _ hk) (by rw [z])
    have n : (Sum.inr k : El) ∉ c.els := fun z => u3 _ z _ hk rfl
    show _ = (if k = m then l else if (Sum.inr k : El) ∈ c.els then f k else g k)
    rw [if_neg this, if_neg n]
  have X := x.congr hc
  have Y := y.congr hd
  have mem : ∀ k, .inr k ∈ (Tr.nd m c d).els → k = m ∨ .inr k ∈ c.els ∨ .inr k ∈ d.els := fun k hk => by simpa [Tr.els] using hk
  refine ⟨h, by show Sum.inr (h m) = Sum.inr l; rw [h0], fun k hk => ?_, fun k j hk hj e => ?_, fun q' hq' => ?_, fun q hq => ?_⟩
  · rcases mem k hk with z | z | z
    · rw [z, h0]; simp [Tr.els]
    · have := X.lab k z; simp [Tr.els, this]
    · have := Y.lab k z; simp [Tr.els, this]
  · rcases mem k hk with z | z | z <;> rcases mem j hj with w | w | w
    · rw [z, w]
    · have := X.lab j w; rw [← e, z, h0] at this; exact absurd rfl (n4 _ (List.mem_append_left _ this))
    · have := Y.lab j w; rw [← e, z, h0] at this; exact absurd rfl (n4 _ (List.mem_append_right _ this))
    · have := X.lab k z; rw [e, w, h0] at this; exact absurd rfl (n4 _ (List.mem_append_left _ this))
    · exact X.inj k j z w e
    · exact absurd (by rw [e]) (n3 _ (X.lab k z) _ (Y.lab j w))
    · have := Y.lab k z; rw [e, w, h0] at this; exact absurd rfl (n4 _ (List.mem_append_right _ this))
    · exact absurd (by rw [e]) (n3 _ (X.lab j w) _ (Y.lab k z))
    · exact Y.inj k j z w e
  · simp only [kid3, List.mem_append, List.mem_singleton] at hq'
    rcases hq' with (z | z) | z
    · obtain ⟨q, k1, k2⟩ := X.kid q' z; exact ⟨q, by simp [kid3, k1], k2⟩
    · obtain ⟨q, k1, k2⟩ := Y.kid q' z; exact ⟨q, by simp [kid3, k1], k2⟩
    · subst z
      exact ⟨(l, a.root, b.root), by simp [kid3], h0.symm, .inl ⟨X.root, Y.root⟩⟩
  · simp only [kid3, List.mem_append, List.mem_singleton] at hq
    rcases hq with (z | z) | z
    · obtain ⟨q', k1, k2⟩ := X.all q z; exact ⟨q', by simp [kid3, k1], k2⟩
    · obtain ⟨q', k1, k2⟩ := Y.all q z; exact ⟨q', by simp [kid3, k1], k2⟩
    · subst z
      exact ⟨(m, c.root, d.root), by simp [kid3], h0⟩
theorem mt_swap {l : Nat} {a b T : Tr} {h : Nat → Nat} (x : Mt (.nd l b a) T h) : Mt (.nd l a b) T h := by
  refine ⟨x.root, fun k hk => ?_, x.inj, fun q' hq' => ?_, fun q hq => ?_⟩
  · have := x.lab k hk
    simp [Tr.els] at this ⊢
    rcases this with z | z | z <;> simp [z]
  · obtain ⟨q, k1, k2, k3⟩ := x.kid q' hq'
    simp only [kid3, List.mem_append, List.mem_singleton] at k1
    rcases k1 with (z | z) | z
    · exact ⟨q, by simp [kid3, z], k2, k3⟩
    · exact ⟨q, by simp [kid3, z], k2, k3⟩
    · subst z
      exact ⟨(l, a.root, b.root), by simp [kid3], k2, k3.elim .inr .inl⟩
  · simp only [kid3, List.mem_append, List.mem_singleton] at hq
    rcases hq with (z | z) | z
    · exact x.all q (by simp [kid3, z])
    · exact x.all q (by simp [kid3, z])
    · subst z
      exact x.all (l, b.root, a.root) (by simp [kid3])
theorem eqv_mt {t t' : Tr} (e : Eqv t t') : t.els.Nodup → t'.els.Nodup → ∃ f, Mt t t' f := by
  induction e with
  | lf i => exact fun _ _ => ⟨id, rfl, fun l hl => by simp [Tr.els] at hl, fun l m hl => by simp [Tr.els] at hl, fun q hq => by simp [kid3] at hq, fun q hq => by simp [kid3] at hq⟩
  | st _ _ i1 i2 =>
    intro nd nd'
    obtain ⟨n1, n2, _, _⟩ := els_nd nd
    obtain ⟨u1, u2, _, _⟩ := els_nd nd'
    obtain ⟨f, x⟩ := i1 n1 u1
    obtain ⟨g, y⟩ := i2 n2 u2
    exact mt_nd nd nd' x y
  | @sw l m a b c d _ _ i1 i2 =>
    intro nd nd'
    obtain ⟨n1, n2, _, _⟩ := els_nd nd
    obtain ⟨u1, u2, _, _⟩ := els_nd nd'
    obtain ⟨f, x⟩ := i1 n1 u2
    obtain ⟨g, y⟩ := i2 n2 u1
    have nds : (Tr.nd l b a).els.Nodup := by
      refine (List.Perm.nodup_iff ?_).mp nd
      exact List.Perm.cons _ List.perm_append_comm
    obtain ⟨h, z⟩ := mt_nd nds nd' y x
    exact ⟨h, mt_swap z⟩
theorem prog_eqv {pl : Nat → Int} {n : Nat} {c c' : Nat → Nat} {rs : List (Int × Int)} (P : ProgOk pl n (bt c (n - 1)) rs) (hc : CodesOk c n) (hc' : CodesOk c' n) (h1 : 1 ≤ n) (e : Eqv (bt c (n - 1)) (bt c' (n - 1))) : ∃ pl', ProgOk pl' n (bt c' (n - 1)) rs := by
  obtain ⟨e1, e2, e3⟩ := bt_els hc (n - 1) (by omega)
  obtain ⟨d1, d2, d3⟩ := bt_els hc' (n - 1) (by omega)
  obtain ⟨f, x⟩ := eqv_mt e e1 d1
  have rg : ∀ l, 1 ≤ l → l < n → .inr l ∈ (bt c' (n - 1)).els ∧ 1 ≤ f l ∧ f l < n := fun l l1 l2 => by
    have k := (d3 l).mpr (by omega)
    have := (e3 _).mp (x.lab l k)
    exact ⟨k, by omega, by omega⟩
  have pe : ∀ r, plE (fun l => pl (f l)) r = plE pl (mapE f r) := fun r => by cases r <;> rfl
  refine ⟨fun l => pl (f l), ⟨fun l l1 l2 => P.pk.ge _ (rg l l1 l2).2.1 (rg l l1 l2).2.2, fun l m l1 l2 m1 m2 z => x.inj l m (rg l l1 l2).1 (rg m m1 m2).1 (P.pk.inj _ _ (rg l l1 l2).2.1 (rg l l1 l2).2.2 (rg m m1 m2).2.1 (rg m m1 m2).2.2 z)⟩, fun q' hq' => ?_, fun j u v hj => ?_⟩
  · obtain ⟨q, k1, k2, k3⟩ := x.kid q' hq'
    obtain ⟨j, u, v, g1, g2, g3⟩ := P.row q k1
    refine ⟨j, u, v, by rw [← k2]; exact g1, g2, ?_⟩
    rw [pe, pe]
    rcases k3 with ⟨z1, z2⟩ | ⟨z1, z2⟩
    · rw [z1, z2]; exact g3
    · rw [z1, z2]; exact g3.elim .inr .inl
  · obtain ⟨q, k1, k2⟩ := P.lab j u v hj
    obtain ⟨q', k3, k4⟩ := x.all q k1
    exact ⟨q', k3, by show pl (f q'.1) = _; rw [k4]; exact k2⟩
theorem num_eqv {n : Nat} {c c' : Nat → Nat} (hc : CodesOk c n) (hc' : CodesOk c' n) (h1 : 1 ≤ n) (hn : n ≤ 12) (e : Eqv (bt c (n - 1)) (bt c' (n - 1))) : num c (n - 1) = num c' (n - 1) := by
  obtain ⟨lab, rs, _, _, P, hl⟩ := sum_of_ok (t := num c (n - 1)) h1 hn
  rw [bt_num hc h1] at P
  have p := (prog_of hc h1 P.j P.full).1
  obtain ⟨pl', p'⟩ := prog_eqv p hc hc' h1 e
  obtain ⟨S, r⟩ := number_ok p hc h1 hn hl 0
  obtain ⟨S', r'⟩ := number_ok p' hc' h1 hn hl 0
  rw [r] at r'
  injection r' with z _
  injection z
theorem le12 {c : Nat → Nat} {n : Nat} (hc : CodesOk c n) (h1 : 1 ≤ n) (hn : n ≤ 12) : Le12 (bt c (n - 1)) := fun i hi => by
  have := ((bt_els hc (n - 1) (by omega)).2.1 i).mp hi
  omega
/-- equal numbers, equal texts -/
theorem num_txt {n : Nat} {c c' : Nat → Nat} (hc : CodesOk c n) (hc' : CodesOk c' n) (h1 : 1 ≤ n) (hn : n ≤ 12) : num c (n - 1) = num c' (n - 1) ↔ txt (bt c (n - 1)) = txt (bt c' (n - 1)) := by
  constructor
  · intro e
    rw [← bt_num hc h1, ← bt_num hc' h1, e]
  · intro e
    exact num_eqv hc hc' h1 hn (txt_eqv _ _ (le12 hc h1 hn) (le12 hc' h1 hn) (by rw [e]))
end K65

namespace K66
open PySem PySem.Spec L2 PyProof.Rows Mo
def b__law_feed : MS :=
  sRet (mNew (mCons (mC (.int 0)) (mCons (mComp (miSeq (mSl (mVar 0) moN (moS (mC (.int 63))))) (tgN 1) mYes (mCB gAbs (mCons (mVar 1) mNil)) [1]) (mCons (mC (.int 0)) (mCons (mC (.int 0)) mNil)))))
abbrev m__law_feed : List D → List O → R D := nbF (fnM 1 2 b__law_feed)
def b__law_draw : MS :=
  sSeq (sSet (mBin gAdd (mBin gIx (mVar 0) (mC (.int 3))) (mC (.int 1))) (mVar 0) (mC (.int 3))) (
  sSeq (sIf (mTB (mBin gGt (mBin gIx (mVar 0) (mC (.int 0))) (mC (.int 0)))) (
  sSeq (sAsg 2 (mBin gMod (mCB gInt (mCons (mBin gIx (mVar 0) (mC (.int 0))) mNil)) (mVar 1))) (
  sSeq (sSet (mBin gDiv (mBin gIx (mVar 0) (mC (.int 0))) (mVar 1)) (mVar 0) (mC (.int 0))) (
  sRet (mVar 2)))) (
  sNil)) (
  sSeq (sAsg 3 (mBin gAdd (mBin gIx (mVar 0) (mC (.int 1))) (mBin gMul (mLst (mCons (mC (.int 7)) mNil)) (mCB gInt (mCons (mBin gEq (mBin gIx (mVar 0) (mC (.int 1))) (mLst mNil)) mNil))))) (
  sSeq (sAsg 4 (mBin gIx (mVar 3) (mBin gMod (mCB gInt (mCons (mBin gIx (mVar 0) (mC (.int 2))) mNil)) (mCB gLen (mCons (mVar 3) mNil))))) (
  sSeq (sSet (mBin gAdd (mBin gIx (mVar 0) (mC (.int 2))) (mC (.int 1))) (mVar 0) (mC (.int 2))) (
  sSeq (sIf (mAnd (mTB (mBin gGe (mVar 4) (mBin gPow (mC (.int 10)) (mC (.int 18))))) (mTB (mBin gLe (mBin gIx (mVar 0) (mC (.int 2))) (mCB gLen (mCons (mVar 3) mNil))))) (
  sSeq (sSet (mBin gDiv (mVar 4) (mVar 1)) (mVar 0) (mC (.int 0))) (
  sRet (mBin gMod (mCB gInt (mCons (mVar 4) mNil)) (mVar 1)))) (
  sNil)) (
  sSeq (sAsg 5 (mBin gMod (mCB gInt (mCons (mBin gPow (mBin gAdd (mBin gMod (mCB gInt (mCons (mVar 4) mNil)) (mC (.int 2147483629))) (mBin gMul (mC (.int 99991)) (mBin gIx (mVar 0) (mC (.int 3))))) (mC (.int 5))) mNil)) (mC (.int 2305843009213693951)))) (
  sSeq (sAsg 5 (mBin gMod (mCB gInt (mCons (mBin gPow (mBin gAdd (mBin gAdd (mVar 5) (mBin gMul (mC (.int 7)) (mBin gIx (mVar 0) (mC (.int 3))))) (mC (.int 1))) (mC (.int 3))) mNil)) (mC (.int 2305843009213693921)))) (
  sRet (mBin gMod (mCB gInt (mCons (mBin gDiv (mVar 5) (mC (.int 1024))) mNil)) (mVar 1))))))))))
abbrev m__law_draw : List D → List O → R D := nbF (fnM 2 6 b__law_draw)
def b__law_one : MS :=
  sRet (mBin gIx (mVar 1) (mCall m__law_draw (mCons (mVar 0) (mCons (mCB gLen (mCons (mVar 1) mNil)) mNil))))
abbrev m__law_one : List D → List O → R D := nbF (fnM 2 2 b__law_one)
def b__law_codes : MS :=
  sSeq (sAsg 2 (mCall m__law_draw (mCons (mVar 0) (mCons (mC (.int 5)) mNil)))) (
  sSeq (sAsg 3 (mNew mNil)) (
  sSeq (sFor (miRange rangeA2 (mCons (mC (.int 1)) (mCons (mVar 1) mNil))) (tgN 4) (
  sSeq (sAsg 5 (mLst (mCons (mC (.int 0)) (mCons (mBin gSub (mBin gMul (mC (.int 2)) (mVar 4)) (mC (.int 2))) (mCons (mCB gMax2 (mCons (mC (.int 0)) (mCons (mBin gSub (mBin gMul (mC (.int 2)) (mVar 4)) (mC (.int 2))) mNil))) (mCons (mBin gSub (mVar 4) (mC (.int 1))) mNil)))))) (
  sExpr (mMt isL gAppend (mVar 3) (mCons (mIf (mTB (mBin gLt (mVar 2) (mC (.int 2)))) (mCall m__law_draw (mCons (mVar 0) (mCons (mBin gSub (mBin gMul (mC (.int 2)) (mVar 4)) (mC (.int 1))) mNil))) (mIf (mTB (mBin gLt (mVar 2) (mC (.int 4)))) (mBin gIx (mVar 5) (mBin gSub (mVar 2) (mC (.int 2)))) (mCall m__law_one (mCons (mVar 0) (mCons (mVar 5) mNil))))) mNil))))) (
  sRet (mVar 3))))
abbrev m__law_codes : List D → List O → R D := nbF (fnM 2 6 b__law_codes)
def b__law_name : MS :=
  sRet (mIf (mTB (mCB gIsi (mCons (mVar 0) (mCons (mC (.ty "int")) mNil)))) (mVar 0) (mBin gAdd (mVar 1) (mBin gIx (mVar 0) (mC (.int 0)))))
abbrev m__law_name : List D → List O → R D := nbF (fnM 2 2 b__law_name)
def b__law_nodes : Nat → MS
  | 0 => fun _ _ => .bad
  | d + 1 => sSeq (sIf (mTB (mCB gIsi (mCons (mVar 0) (mCons (mC (.ty "int")) mNil)))) (
  sRet (mLst mNil)) (
  sNil)) (
  sSeq (sAsg 2 (mLst (mCons (mTup (mCons (mBin gAdd (mVar 1) (mBin gIx (mVar 0) (mC (.int 0)))) (mCons (mCall m__law_name (mCons (mBin gIx (mVar 0) (mC (.int 1))) (mCons (mVar 1) mNil))) (mCons (mCall m__law_name (mCons (mBin gIx (mVar 0) (mC (.int 2))) (mCons (mVar 1) mNil))) mNil)))) mNil))) (
  sRet (mBin gAdd (mBin gAdd (mCall (nbF (fnM 2 3 (b__law_nodes d))) (mCons (mBin gIx (mVar 0) (mC (.int 1))) (mCons (mVar 1) mNil))) (mCall (nbF (fnM 2 3 (b__law_nodes d))) (mCons (mBin gIx (mVar 0) (mC (.int 2))) (mCons (mVar 1) mNil)))) (mVar 2))))
abbrev m__law_nodes (d : Nat) : List D → List O → R D := nbF (fnM 2 3 (b__law_nodes d))
def b__law_program : MS :=
  sSeq (sUnp (tgT 3 (tgsC (tgN 3) (tgsC (tgN 4) (tgsC (tgN 5) tgsN)))) (mTup (mCons (mCall (m__law_nodes 14) (mCons (mVar 2) (mCons (mVar 1) mNil))) (mCons (mBinN nAdd (mListR rangeA1 (mCons (mVar 1) mNil)) (mBin gMul (mLst (mCons (mUn gNeg (mC (.int 1))) mNil)) (mVar 1))) (mCons (mNew mNil) mNil))))) (
  sSeq (loopW (mTB (mBin gNe (mVar 3) (mLst mNil))) (
  sSeq (sAsg 6 (mComp (miSeq (mVar 3)) (tgN 7) (mAnd (mTB (mBin gGe (mBin gIx (mVar 4) (mBin gIx (mVar 7) (mC (.int 1)))) (mC (.int 0)))) (mTB (mBin gGe (mBin gIx (mVar 4) (mBin gIx (mVar 7) (mC (.int 2)))) (mC (.int 0))))) (mVar 7) [7])) (
  sSeq (sAsg 7 (mCall m__law_one (mCons (mVar 0) (mCons (mVar 6) mNil)))) (
  sSeq (sAsg 8 (mLst (mCons (mBin gIx (mVar 4) (mBin gIx (mVar 7) (mC (.int 1)))) (mCons (mBin gIx (mVar 4) (mBin gIx (mVar 7) (mC (.int 2)))) mNil)))) (
  sSeq (sIf (mTB (mBin gEq (mCall m__law_draw (mCons (mVar 0) (mCons (mC (.int 2)) mNil))) (mC (.int 0)))) (
  sAsg 8 (mSl3 (mVar 8) moN moN (moS (mUn gNeg (mC (.int 1)))))) (
  sNil)) (
  sSeq (sExpr (mMt isL gAppend (mVar 5) (mCons (mTup (mCons (mC (.str "round")) (mCons (mTup (mCons (mTup (mCons (mC (.int 1)) (mCons (mTup (mCons (mBin gIx (mVar 8) (mC (.int 0))) mNil)) mNil))) (mCons (mTup (mCons (mC (.int 1)) (mCons (mTup (mCons (mBin gIx (mVar 8) (mC (.int 1))) mNil)) mNil))) mNil))) mNil))) mNil))) (
  sSeq (sSet (mBin gSub (mBin gAdd (mVar 1) (mCB gLen (mCons (mVar 5) mNil))) (mC (.int 1))) (mVar 4) (mBin gIx (mVar 7) (mC (.int 0)))) (
  sAsg 3 (mComp (miSeq (mVar 3)) (tgN 9) (mTB (mBin gNe (mVar 9) (mVar 7))) (mVar 9) [9])))))))) 14) (
  sRet (mTup (mCons (mVar 1) (mCons (mCB gTuple (mCons (mVar 5) mNil)) (mCons (mTup (mCons (mBin gSub (mBin gAdd (mVar 1) (mCB gLen (mCons (mVar 5) mNil))) (mC (.int 1))) mNil)) mNil))))))
abbrev m__law_program : List D → List O → R D := nbF (fnM 3 10 b__law_program)
def b_sides_of : MS :=
  sSeq (sUnp (tgT 3 (tgsC (tgN 1) (tgsC (tgN 2) (tgsC (tgN 3) tgsN)))) (mVar 0)) (
  sRet (mDCompN (miEnumT (mCons (mVar 2) mNil)) (tgT 2 (tgsC (tgN 4) (tgsC (tgT 2 (tgsC (tgN 5) (tgsC (tgN 6) tgsN))) tgsN))) mYes (mBin gAdd (mVar 1) (mVar 4)) (mLst (mCons (mBin gIx (mBin gIx (mBin gIx (mVar 6) (mC (.int 0))) (mC (.int 1))) (mC (.int 0))) (mCons (mBin gIx (mBin gIx (mBin gIx (mVar 6) (mC (.int 1))) (mC (.int 1))) (mC (.int 0))) mNil))) [4, 5, 6]))
abbrev m_sides_of : List D → List O → R D := nbF (fnM 1 7 b_sides_of)
def b_users_of : MS :=
  sSeq (sAsg 1 mDNew) (
  sSeq (sLock 0 (sFor (miKeys (mVar 0)) (tgN 2) (
  sFor (miSeq (mBin gDGet (mVar 0) (mVar 2))) (tgN 3) (
  sDSet (mVar 2) (mVar 1) (mVar 3))))) (
  sRet (mVar 1)))
abbrev m_users_of : List D → List O → R D := nbF (fnM 1 4 b_users_of)
def b_other_side : MS :=
  sRet (mIf (mTB (mBin gEq (mBin gIx (mVar 0) (mC (.int 0))) (mVar 1))) (mBin gIx (mVar 0) (mC (.int 1))) (mBin gIx (mVar 0) (mC (.int 0))))
abbrev m_other_side : List D → List O → R D := nbF (fnM 2 2 b_other_side)
def b_replace_side : MS :=
  sSeq (sDSet (mC .non) (mVar 1) (mVar 3)) (
  sIf (mTB (mBin gNotN (mDGet2 (mVar 1) (mVar 2) (mC .non)) (mC .non))) (
  sSeq (sAsg 4 (mBin gDGet (mVar 1) (mVar 2))) (
  sSeq (sDSet (mLst (mCons (mVar 3) (mCons (mCall m_other_side (mCons (mBin gDGet (mVar 0) (mVar 4)) (mCons (mVar 2) mNil))) mNil))) (mVar 0) (mVar 4)) (
  sDSet (mVar 4) (mVar 1) (mVar 3)))) (
  sNil))
abbrev m_replace_side : List D → List O → R D := nbF (fnM 4 5 b_replace_side)
def b_tree_number : MS :=
  sSeq (sAsg 1 (mBin gIx (mVar 0) (mC (.int 0)))) (
  sSeq (sAsg 2 (mCall m_sides_of (mCons (mVar 0) mNil))) (
  sSeq (sAsg 3 (mCall m_users_of (mCons (mVar 2) mNil))) (
  sSeq (sPar 4 5 (mCons mDNew (mCons (mBinN nMul (mLst (mCons (mC (.int 0)) mNil)) (mVar 1)) mNil))) (
  sSeq (sFor (miRange rangeA3 (mCons (mBin gSub (mVar 1) (mC (.int 1))) (mCons (mC (.int 0)) (mCons (mUn gNeg (mC (.int 1))) mNil)))) (tgN 6) (
  sSeq (sAsg 7 (mBin gDGet (mVar 3) (mVar 6))) (
  sSeq (sSet (mCall m_other_side (mCons (mBin gDGet (mVar 2) (mVar 7)) (mCons (mVar 6) mNil))) (mVar 5) (mVar 6)) (
  sSeq (sDSet (mVar 6) (mVar 4) (mVar 7)) (
  sExpr (mCall m_replace_side (mCons (mVar 2) (mCons (mVar 3) (mCons (mVar 7) (mCons (mBin gIx (mVar 5) (mVar 6)) mNil)))))))))) (
  sSeq (sAsg 8 (mC (.int 0))) (
  sSeq (sFor (miRange rangeA2 (mCons (mC (.int 1)) (mCons (mVar 1) mNil))) (tgN 6) (
  sSeq (sAsg 9 (mBin gIx (mVar 5) (mVar 6))) (
  sSeq (sAsg 10 (mIf (mTB (mBin gLt (mVar 9) (mVar 1))) (mVar 9) (mBin gAdd (mBin gSub (mVar 6) (mC (.int 1))) (mBin gDGet (mVar 4) (mVar 9))))) (
  sAsg 8 (mBin gAdd (mBin gMul (mVar 8) (mBin gSub (mBin gMul (mC (.int 2)) (mVar 6)) (mC (.int 1)))) (mVar 10)))))) (
  sRet (mVar 8))))))))
abbrev m_tree_number : List D → List O → R D := nbF (fnM 1 11 b_tree_number)
def b__law_sides : MS :=
  sSeq (sIf (mOr (mNot (mTB (mCB gIsi (mCons (mVar 0) (mCons (mC (.ty "tuple")) mNil))))) (mOr (mTB (mBin gNe (mCB gLen (mCons (mVar 0) mNil)) (mC (.int 2)))) (mOr (mNot (mTB (mCB gIsi (mCons (mBin gIx (mVar 0) (mC (.int 1))) (mCons (mC (.ty "tuple")) mNil))))) (mTB (mBin gNe (mCB gLen (mCons (mBin gIx (mVar 0) (mC (.int 1))) mNil)) (mC (.int 2))))))) (
  sRet (mC .non)) (
  sNil)) (
  sSeq (sAsg 2 (mNew mNil)) (
  sSeq (sFor (miSeq (mBin gIx (mVar 0) (mC (.int 1)))) (tgN 3) (
  sSeq (sIf (mOr (mNot (mTB (mCB gIsi (mCons (mVar 3) (mCons (mC (.ty "tuple")) mNil))))) (mOr (mTB (mBin gNe (mCB gLen (mCons (mVar 3) mNil)) (mC (.int 2)))) (mOr (mNot (mTB (mCB gIsi (mCons (mBin gIx (mVar 3) (mC (.int 1))) (mCons (mC (.ty "tuple")) mNil))))) (mTB (mBin gNe (mCB gLen (mCons (mBin gIx (mVar 3) (mC (.int 1))) mNil)) (mC (.int 1))))))) (
  sRet (mC .non)) (
  sNil)) (
  sExpr (mMt isL gAppend (mVar 2) (mCons (mBin gIx (mBin gIx (mVar 3) (mC (.int 1))) (mC (.int 0))) mNil))))) (
  sSeq (sIf (mTB (mBin gNe (mComp (miSeq (mVar 2)) (tgN 4) (mOr (mNot (mTB (mCB gIsi (mCons (mVar 4) (mCons (mC (.ty "int")) mNil))))) (mTB (mCB gIsi (mCons (mVar 4) (mCons (mC (.ty "bool")) mNil))))) (mVar 4) [4]) (mLst mNil))) (
  sRet (mC .non)) (
  sNil)) (
  sSeq (sIf (mTB (mBin gNe (mComp (miSeq (mVar 2)) (tgN 4) (mOr (mTB (mBin gLt (mVar 4) (mC (.int 0)))) (mTB (mBin gGe (mVar 4) (mVar 1)))) (mVar 4) [4]) (mLst mNil))) (
  sRet (mC .non)) (
  sNil)) (
  sSeq (sAsg 5 (mTup (mCons (mC (.str "round")) (mCons (mTup (mCons (mTup (mCons (mC (.int 1)) (mCons (mTup (mCons (mBin gIx (mVar 2) (mC (.int 0))) mNil)) mNil))) (mCons (mTup (mCons (mC (.int 1)) (mCons (mTup (mCons (mBin gIx (mVar 2) (mC (.int 1))) mNil)) mNil))) mNil))) mNil)))) (
  sRet (mIf (mTB (mReprEq gEq (mVar 0) (mVar 5))) (mVar 2) (mC .non))))))))
abbrev m__law_sides : List D → List O → R D := nbF (fnM 2 6 b__law_sides)
def b__law_join : MS :=
  sRet (mBin gAdd (mBin gAdd (mC (.str "(")) (mMt isS gJoin (mC (.str ",")) (mCons (mCB gSorted (mCons (mLst (mCons (mVar 0) (mCons (mVar 1) mNil))) mNil)) mNil))) (mC (.str ")")))
abbrev m__law_join : List D → List O → R D := nbF (fnM 2 2 b__law_join)
def b__law_shape : MS :=
  sSeq (sIf (mOr (mNot (mTB (mCB gIsi (mCons (mVar 0) (mCons (mC (.ty "tuple")) mNil))))) (mOr (mTB (mBin gNe (mCB gLen (mCons (mVar 0) mNil)) (mC (.int 3)))) (mNot (mTB (mCB gIsi (mCons (mBin gIx (mVar 0) (mC (.int 1))) (mCons (mC (.ty "tuple")) mNil))))))) (
  sRet (mC (.str ""))) (
  sNil)) (
  sSeq (sIf (mOr (mTB (mReprEq gNe (mBin gIx (mVar 0) (mC (.int 0))) (mVar 1))) (mOr (mTB (mBin gNe (mCB gLen (mCons (mBin gIx (mVar 0) (mC (.int 1))) mNil)) (mBin gSub (mVar 1) (mC (.int 1))))) (mTB (mReprEq gNe (mBin gIx (mVar 0) (mC (.int 2))) (mTup (mCons (mBin gSub (mBin gMul (mC (.int 2)) (mVar 1)) (mC (.int 2))) mNil)))))) (
  sRet (mC (.str ""))) (
  sNil)) (
  sSeq (sPar 2 3 (mCons (mCompN (miRange rangeA1 (mCons (mVar 1) mNil)) (tgN 4) mYes (mCB gStr (mCons (mVar 4) mNil)) [4]) (mCons (mLst mNil) mNil))) (
  sSeq (sFor (miSeq (mBin gIx (mVar 0) (mC (.int 1)))) (tgN 5) (
  sSeq (sAsg 6 (mCall m__law_sides (mCons (mVar 5) (mCons (mCB gLen (mCons (mVar 2) mNil)) mNil)))) (
  sSeq (sIf (mTB (mBin gIsN (mVar 6) (mC .non))) (
  sRet (mC (.str ""))) (
  sNil)) (
  sSeq (sAsg 3 (mBin gAdd (mVar 3) (mVar 6))) (
  sExpr (mMt isL gAppend (mVar 2) (mCons (mCallP m__law_join (mCons (mBin gIx (mVar 2) (mBin gIx (mVar 6) (mC (.int 0)))) (mCons (mBin gIx (mVar 2) (mBin gIx (mVar 6) (mC (.int 1)))) mNil))) mNil))))))) (
  sRet (mIf (mTB (mBin gEq (mCB gSorted (mCons (mVar 3) mNil)) (mListR rangeA1 (mCons (mBin gSub (mBin gMul (mC (.int 2)) (mVar 1)) (mC (.int 2))) mNil)))) (mBin gIx (mVar 2) (mUn gNeg (mC (.int 1)))) (mC (.str "")))))))
abbrev m__law_shape : List D → List O → R D := nbF (fnM 2 7 b__law_shape)
def b_codes_of : MS :=
  sSeq (sAsg 2 (mNew mNil)) (
  sSeq (sFor (miRange rangeA3 (mCons (mBin gSub (mVar 0) (mC (.int 1))) (mCons (mC (.int 0)) (mCons (mUn gNeg (mC (.int 1))) mNil)))) (tgN 3) (
  sSeq (sExpr (mMt isL gAppend (mVar 2) (mCons (mBin gMod (mVar 1) (mBin gSub (mBin gMul (mC (.int 2)) (mVar 3)) (mC (.int 1)))) mNil))) (
  sAsg 1 (mBin gDiv (mVar 1) (mBin gSub (mBin gMul (mC (.int 2)) (mVar 3)) (mC (.int 1))))))) (
  sRet (mSl3 (mVar 2) moN moN (moS (mUn gNeg (mC (.int 1)))))))
abbrev m_codes_of : List D → List O → R D := nbF (fnM 2 4 b_codes_of)
def b_sides_by : MS :=
  sSeq (sPar 2 3 (mCons mDNew (mCons (mDisp1 0) mNil))) (
  sSeq (sFor (miEnum (mCons (mCall m_codes_of (mCons (mVar 0) (mCons (mVar 1) mNil))) mNil)) (tgT 2 (tgsC (tgN 4) (tgsC (tgN 5) tgsN))) (
  sSeq (sAsg 6 (mBin gAdd (mVar 4) (mC (.int 1)))) (
  sSeq (sAsg 7 (mIf (mTB (mBin gLt (mVar 5) (mVar 6))) (mVar 5) (mBin gAdd (mBin gSub (mBin gAdd (mVar 0) (mVar 5)) (mVar 6)) (mC (.int 1))))) (
  sSeq (sAsg 8 (mBin gAdd (mVar 0) (mVar 6))) (
  sSeq (sIf (mTB (mBin gNotN (mBin gDGet (mVar 3) (mVar 7)) (mC .non))) (
  sSeq (sAsg 9 (mBin gDGet (mVar 3) (mVar 7))) (
  sDSet (mLst (mCons (mVar 8) (mCons (mCall m_other_side (mCons (mBin gDGet (mVar 2) (mVar 9)) (mCons (mVar 7) mNil))) mNil))) (mVar 2) (mVar 9))) (
  sNil)) (
  sSeq (sDSet (mBin gDGet (mVar 3) (mVar 7)) (mVar 3) (mVar 8)) (
  sSeq (sDSet (mLst (mCons (mVar 7) (mCons (mVar 6) mNil))) (mVar 2) (mVar 8)) (
  sSeq (sDSet (mVar 8) (mVar 3) (mVar 7)) (
  sDSet (mVar 8) (mVar 3) (mVar 6)))))))))) (
  sRet (mVar 2)))
abbrev m_sides_by : List D → List O → R D := nbF (fnM 2 10 b_sides_by)
def b_added : MS :=
  sRet (mTup (mCons (mC (.str "round")) (mCons (mTup (mCons (mTup (mCons (mC (.int 1)) (mCons (mTup (mCons (mVar 0) mNil)) mNil))) (mCons (mTup (mCons (mC (.int 1)) (mCons (mTup (mCons (mVar 1) mNil)) mNil))) mNil))) mNil)))
abbrev m_added : List D → List O → R D := nbF (fnM 2 2 b_added)
def b_sum_of : MS :=
  sSeq (sAsg 2 (mCall m_sides_by (mCons (mVar 0) (mCons (mVar 1) mNil)))) (
  sSeq (sAsg 3 (mDCompN (miRange rangeA1 (mCons (mVar 0) mNil)) (tgN 4) mYes (mVar 4) (mVar 4) [4])) (
  sSeq (sAsg 5 (mNew mNil)) (
  sSeq (loopW (mTB (mBin gLt (mCB gLen (mCons (mVar 5) mNil)) (mCB gLenD (mCons (mVar 2) mNil)))) (
  sLock 2 (sFor (miKeys (mVar 2)) (tgN 6) (
  sIf (mAnd (mTB (mBin gDNin (mVar 6) (mVar 3))) (mTB (mCB gAll (mCons (mComp (miSeq (mBin gDGet (mVar 2) (mVar 6))) (tgN 7) mYes (mBin gDIn (mVar 7) (mVar 3)) [7]) mNil)))) (
  sSeq (sExpr (mMt isL gAppend (mVar 5) (mCons (mCall m_added (mCons (mBin gDGet (mVar 3) (mBin gIx (mBin gDGet (mVar 2) (mVar 6)) (mC (.int 0)))) (mCons (mBin gDGet (mVar 3) (mBin gIx (mBin gDGet (mVar 2) (mVar 6)) (mC (.int 1)))) mNil))) mNil))) (
  sDSet (mBin gSub (mBin gAdd (mVar 0) (mCB gLen (mCons (mVar 5) mNil))) (mC (.int 1))) (mVar 3) (mVar 6))) (
  sNil)))) 14) (
  sRet (mTup (mCons (mVar 0) (mCons (mCB gTuple (mCons (mVar 5) mNil)) (mCons (mTup (mCons (mBin gSub (mBin gAdd (mVar 0) (mCB gLen (mCons (mVar 5) mNil))) (mC (.int 1))) mNil)) mNil))))))))
abbrev m_sum_of : List D → List O → R D := nbF (fnM 2 8 b_sum_of)
def b__law_put : Nat → MS
  | 0 => fun _ _ => .bad
  | d + 1 => sSeq (sAsg 3 (mIf (mTB (mCB gIsi (mCons (mVar 0) (mCons (mC (.ty "int")) mNil)))) (mVar 0) (mBin gAdd (mBin gSub (mVar 1) (mC (.int 1))) (mBin gIx (mVar 0) (mC (.int 0)))))) (
  sSeq (sIf (mTB (mBin gEq (mVar 3) (mVar 2))) (
  sRet (mTup (mCons (mVar 1) (mCons (mVar 0) (mCons (mVar 1) mNil))))) (
  sNil)) (
  sSeq (sIf (mTB (mCB gIsi (mCons (mVar 0) (mCons (mC (.ty "int")) mNil)))) (
  sRet (mVar 0)) (
  sNil)) (
  sRet (mTup (mCons (mBin gIx (mVar 0) (mC (.int 0))) (mCons (mCall (nbF (fnM 3 4 (b__law_put d))) (mCons (mBin gIx (mVar 0) (mC (.int 1))) (mCons (mVar 1) (mCons (mVar 2) mNil)))) (mCons (mCall (nbF (fnM 3 4 (b__law_put d))) (mCons (mBin gIx (mVar 0) (mC (.int 2))) (mCons (mVar 1) (mCons (mVar 2) mNil)))) mNil)))))))
abbrev m__law_put (d : Nat) : List D → List O → R D := nbF (fnM 3 4 (b__law_put d))
def b__law_tree : MS :=
  sSeq (sAsg 1 (mC (.int 0))) (
  sSeq (sFor (miRange rangeA1 (mCons (mCB gLen (mCons (mVar 0) mNil)) mNil)) (tgN 2) (
  sAsg 1 (mCall (m__law_put 14) (mCons (mVar 1) (mCons (mBin gAdd (mVar 2) (mC (.int 1))) (mCons (mBin gIx (mVar 0) (mVar 2)) mNil)))))) (
  sRet (mVar 1)))
abbrev m__law_tree : List D → List O → R D := nbF (fnM 1 3 b__law_tree)
def b__law_code : MS :=
  sSeq (sAsg 1 (mC (.int 0))) (
  sSeq (sFor (miRange rangeA1 (mCons (mCB gLen (mCons (mVar 0) mNil)) mNil)) (tgN 2) (
  sAsg 1 (mBin gAdd (mBin gMul (mVar 1) (mBin gAdd (mBin gMul (mC (.int 2)) (mVar 2)) (mC (.int 1)))) (mBin gIx (mVar 0) (mVar 2))))) (
  sRet (mVar 1)))
abbrev m__law_code : List D → List O → R D := nbF (fnM 1 3 b__law_code)
def b_how_many : MS :=
  sSeq (sAsg 1 (mC (.int 1))) (
  sSeq (sFor (miRange rangeA2 (mCons (mC (.int 1)) (mCons (mVar 0) mNil))) (tgN 2) (
  sAsg 1 (mBin gMul (mVar 1) (mBin gSub (mBin gMul (mC (.int 2)) (mVar 2)) (mC (.int 1)))))) (
  sRet (mVar 1)))
abbrev m_how_many : List D → List O → R D := nbF (fnM 1 3 b_how_many)
def b_law : MS :=
  sSeq (sAsg 1 (mCall m__law_feed (mCons (mVar 0) mNil))) (
  sSeq (sFor (miRange rangeA1 (mCons (mC (.int 6)) mNil)) (tgN 2) (
  sSeq (sAsg 3 (mBin gAdd (mC (.int 1)) (mCall m__law_draw (mCons (mVar 1) (mCons (mC (.int 12)) mNil))))) (
  sSeq (sAsg 4 (mNew (mCons (mCall m__law_codes (mCons (mVar 1) (mCons (mVar 3) mNil))) (mCons (mLst mNil) mNil)))) (
  sSeq (sSet (mCB gList (mCons (mBin gIx (mVar 4) (mC (.int 0))) mNil)) (mVar 4) (mC (.int 1))) (
  sSeq (sIf (mAnd (mTB (mBin gGt (mVar 3) (mC (.int 1)))) (mTB (mBin gGt (mCall m__law_draw (mCons (mVar 1) (mCons (mC (.int 3)) mNil))) (mC (.int 0))))) (
  sSeq (sAsg 5 (mCall m__law_draw (mCons (mVar 1) (mCons (mBin gSub (mVar 3) (mC (.int 1))) mNil)))) (
  sSet (mBin gAdd (mBin gAdd (mSl (mBin gIx (mVar 4) (mC (.int 1))) moN (moS (mVar 5))) (mLst (mCons (mCall m__law_draw (mCons (mVar 1) (mCons (mBin gAdd (mBin gMul (mC (.int 2)) (mVar 5)) (mC (.int 1))) mNil))) mNil))) (mSl (mBin gIx (mVar 4) (mC (.int 1))) (moS (mBin gAdd (mVar 5) (mC (.int 1)))) moN)) (mVar 4) (mC (.int 1)))) (
  sNil)) (
  sSeq (sAsg 6 (mComp (miSeq (mVar 4)) (tgN 7) mYes (mCall m__law_program (mCons (mVar 1) (mCons (mVar 3) (mCons (mCall m__law_tree (mCons (mVar 7) mNil)) mNil)))) [7])) (
  sSeq (sAsg 8 (mComp (miSeq (mVar 6)) (tgN 9) mYes (mCallP m_tree_number (mCons (mVar 9) mNil)) [9])) (
  sSeq (sAsg 10 (mComp (miSeq (mVar 6)) (tgN 9) mYes (mCallP m__law_shape (mCons (mVar 9) (mCons (mVar 3) mNil))) [9])) (
  sSeq (sIf (mOr (mTB (mBin gNe (mBin gEq (mBin gIx (mVar 8) (mC (.int 0))) (mBin gIx (mVar 8) (mC (.int 1)))) (mBin gEq (mBin gIx (mVar 10) (mC (.int 0))) (mBin gIx (mVar 10) (mC (.int 1)))))) (mTB (mBin gNe (mBin gIx (mVar 8) (mC (.int 0))) (mCall m__law_code (mCons (mBin gIx (mVar 4) (mC (.int 0))) mNil))))) (
  sRet (mC (.bl false))) (
  sNil)) (
  sFor (miRange rangeA1 (mCons (mC (.int 2)) mNil)) (tgN 11) (
  sSeq (sIf (mOr (mNot (mTB (mCB gIsi (mCons (mBin gIx (mVar 8) (mVar 11)) (mCons (mC (.ty "int")) mNil))))) (mTB (mCB gIsi (mCons (mBin gIx (mVar 8) (mVar 11)) (mCons (mC (.ty "bool")) mNil))))) (
  sRet (mC (.bl false))) (
  sNil)) (
  sSeq (sIf (mOr (mTB (mBin gLt (mBin gIx (mVar 8) (mVar 11)) (mC (.int 0)))) (mTB (mBin gGe (mBin gIx (mVar 8) (mVar 11)) (mCallP m_how_many (mCons (mVar 3) mNil))))) (
  sRet (mC (.bl false))) (
  sNil)) (
  sSeq (sAsg 12 (mCallP m_sum_of (mCons (mVar 3) (mCons (mBin gIx (mVar 8) (mVar 11)) mNil)))) (
  sIf (mOr (mTB (mBin gNe (mCallP m__law_shape (mCons (mVar 12) (mCons (mVar 3) mNil))) (mBin gIx (mVar 10) (mVar 11)))) (mTB (mBin gNe (mCallP m_tree_number (mCons (mVar 12) mNil)) (mBin gIx (mVar 8) (mVar 11))))) (
  sRet (mC (.bl false))) (
  sNil))))))))))))))) (
  sRet (mC (.bl true))))
abbrev m_law : List D → List O → R D := nbF (fnM 1 13 b_law)
end K66

namespace Mo
open PySem PySem.Spec L2 PyProof.Rows
theorem cut_lo {α : Type} {l : List α} {i : Nat} (h : i ≤ l.length) : cutD l none (some (i : Nat)) = l.take i := by
  unfold cutD HT.sIx
  have e : (if ((i : Nat) : Int) < 0 then (((i : Nat) : Int) + (l.length : Int)).toNat else min ((i : Nat) : Int).toNat l.length) = i := by rw [if_neg (by omega)]; omega
  simp only [e, List.drop_zero, Nat.sub_zero]
theorem cut_hi {α : Type} {l : List α} {i : Nat} (h : i ≤ l.length) : cutD l (some (i : Nat)) none = l.drop i := by
  unfold cutD HT.sIx
  have e : (if ((i : Nat) : Int) < 0 then (((i : Nat) : Int) + (l.length : Int)).toNat else min ((i : Nat) : Int).toNat l.length) = i := by rw [if_neg (by omega)]; omega
  simp only [e]
  rw [List.take_of_length_le (by rw [List.length_drop]; omega)]
theorem compL_nil {chk : List O → Bool} {t : Tg} {tt : MT} {te : ME} {e : Mo.Env} {S : List O} {acc : List D} (hc : chk S = true) : compL chk t tt te e acc [] S = .ok acc S := by
  rw [compL, if_pos hc]
theorem compL_one {chk : List O → Bool} {t : Tg} {te : ME} {e e' : Mo.Env} {S S2 : List O} {acc : List D} {d y : D} {l : List D} (hc : chk S = true) (h1 : t.f d e = some e') (h3 : te e' S = .ok y S2) (hs : acc.length < sz) :
    compL chk t mYes te e acc (d :: l) S = compL chk t mYes te e (acc ++ [y]) l S2 := by
  rw [compL, if_pos hc, h1]
  show R.bind (te e' S).nb _ = _
  rw [h3]
  show (if acc.length < sz then compL chk t mYes te e (acc ++ [y]) l S2 else .bad) = _
  rw [if_pos hs]
theorem v_srcC {m : ME} {e : Mo.Env} {S S1 : List O} {n : Nat} {l : List D} (h : m e S = .ok (.ref n) S1) (h2 : S1[n]? = some (.lst l)) : miSeq m e S = .ok (l, fun S => decide (S[n]? = some (.lst l))) S1 := by
  unfold miSeq
  rw [h]
  show (match srcD S1 (.ref n) with | some r => R.ok r S1 | none => .bad) = _
  unfold srcD
  simp only [h2]
theorem v_moS {m : ME} {e : Mo.Env} {S S1 : List O} {i : Int} (h : m e S = .ok (.int i) S1) : moS m e S = .ok (some i) S1 := by
  unfold moS
  rw [h]
  rfl
theorem v_sl {m : ME} {l h : MO} {e : Mo.Env} {S S1 S2 S3 : List O} {a d : D} {lo hi : Option Int} (h1 : m e S = .ok a S1) (h2 : l e S1 = .ok lo S2) (h3 : h e S2 = .ok hi S3) (h4 : gSl S3 a lo hi = some d) : mSl m l h e S = .ok d S3 := by
  unfold mSl
  rw [h1]
  show R.bind (l e S1) _ = _
  rw [h2]
  show R.bind (h e S2) _ = _
  rw [h3]
  show R.ofO S3 (gSl S3 a lo hi) = _
  rw [h4]
  rfl
theorem v_moN {e : Mo.Env} {S : List O} : moN e S = .ok none S := rfl
theorem x_eqS {S : List O} {x y : Str} : gEq S (.str x) (.str y) = some (.bl (decide (x.cps.toList = y.cps.toList))) := rfl
theorem x_neB {S : List O} {x y : Bool} : gNe S (.bl x) (.bl y) = some (.bl (!(x == y))) := rfl
theorem x_neS {S : List O} {x y : Str} : gNe S (.str x) (.str y) = some (.bl (!decide (x.cps.toList = y.cps.toList))) := rfl
end Mo
namespace K66
open PySem PySem.Spec L2 PyProof.Rows Mo K64 K65
theorem many_ok {n : Nat} (h1 : 1 ≤ n) (hn : n ≤ 12) : m_how_many [.int n] [] = .ok (.int (hm (n - 1))) [] := by
  have c : n = 1 ∨ n = 2 ∨ n = 3 ∨ n = 4 ∨ n = 5 ∨ n = 6 ∨ n = 7 ∨ n = 8 ∨ n = 9 ∨ n = 10 ∨ n = 11 ∨ n = 12 := by omega
  rcases c with rfl | rfl | rfl | rfl | rfl | rfl | rfl | rfl | rfl | rfl | rfl | rfl <;> kernel_rfl
theorem codesD_set {c : Nat → Nat} {m i v : Nat} (h : i < m) : (codesD c m).take i ++ [.int (v : Nat)] ++ (codesD c m).drop (i + 1) = codesD (ext c (i + 1) v) m := by
  have hl : i < (codesD c m).length := by rw [codesD_len]; exact h
  have e : (codesD c m).take i ++ [.int (v : Nat)] ++ (codesD c m).drop (i + 1) = (codesD c m).set i (.int (v : Nat)) := by
    rw [List.set_eq_take_append_cons_drop, if_pos hl]
    simp
  rw [e]
  apply List.ext_getElem
  · simp [codesD_len]
  · intro j h1 h2
    rw [List.getElem_set]
    simp only [codesD, List.getElem_map, List.getElem_range, ext]
    by_cases z : i = j
    · rw [if_pos z, if_pos (by omega)]
    · rw [if_neg z, if_neg (by omega)]
def brB : MS := sIf (mAnd (mTB (mBin gGt (mVar 3) (mC (.int 1)))) (mTB (mBin gGt (mCall m__law_draw (mCons (mVar 1) (mCons (mC (.int 3)) mNil))) (mC (.int 0))))) (
  sSeq (sAsg 5 (mCall m__law_draw (mCons (mVar 1) (mCons (mBin gSub (mVar 3) (mC (.int 1))) mNil)))) (
  sSet (mBin gAdd (mBin gAdd (mSl (mBin gIx (mVar 4) (mC (.int 1))) moN (moS (mVar 5))) (mLst (mCons (mCall m__law_draw (mCons (mVar 1) (mCons (mBin gAdd (mBin gMul (mC (.int 2)) (mVar 5)) (mC (.int 1))) mNil))) mNil))) (mSl (mBin gIx (mVar 4) (mC (.int 1))) (moS (mBin gAdd (mVar 5) (mC (.int 1)))) moN)) (mVar 4) (mC (.int 1)))) (
  sNil)
theorem x_addL {S : List O} {l m : List D} (h : l.length + m.length < 1000) : gAdd S (.lst l) (.lst m) = some (.lst (l ++ m)) := by
  show (if l.length + m.length ≤ sz then some (D.lst (l ++ m)) else none) = _
  rw [if_pos (show l.length + m.length ≤ sz from Nat.le_trans (Nat.le_of_lt h) (show 1000 ≤ 16777216 by decide))]
/-- the second codes: the first ones, or one of them changed -/
theorem br_ok {n m K : Nat} {c : Nat → Nat} {S : List O} {x : D} {a0 a2 a5 a6 a7 a8 a9 a10 a11 a12 : Option D} (hc : CodesOk c n) (h1 : 1 ≤ n) (hn : n ≤ 12) (F : Fd S m) (hm : m < 1000000) (hK : K ≠ 0) (hS : S[K]? = some (.lst [x, .lst (codesD c (n - 1))])) :
    ∃ c' b5 S', brB [a0, some (.ref 0), a2, some (.int n), some (.ref K), a5, a6, a7, a8, a9, a10, a11, a12] S = .nx [a0, some (.ref 0), a2, some (.int n), some (.ref K), b5, a6, a7, a8, a9, a10, a11, a12] S' ∧ CodesOk c' n ∧ S'[K]? = some (.lst [x, .lst (codesD c' (n - 1))]) ∧ Fd S' (m + 3) ∧ S'.length = S.length ∧ ∀ i, i ≠ 0 → i ≠ K → S'[i]? = S[i]? := by
  have t1 : ∀ T, mTB (mBin gGt (mVar 3) (mC (.int 1))) [a0, some (.ref 0), a2, some (.int n), some (.ref K), a5, a6, a7, a8, a9, a10, a11, a12] T = .ok (decide ((1 : Int) < n)) T := fun T => v_tb (v_bin (v_var rfl) v_C x_gt)
  by_cases h2 : 1 < n
  · obtain ⟨d, S1, r1, _, _, F1, A1⟩ := draw_fd (many := 3) F (by omega) (by decide) (by decide)
    have hS1 := (A1.2 K hK).trans hS
    by_cases h0 : 0 < d
    · obtain ⟨at_, S2, r2, p0, p1, F2, A2⟩ := draw_fd (many := (n : Int) - 1) F1 (by omega) (by omega) (by omega)
      have hS2 := (A2.2 K hK).trans hS1
      obtain ⟨i, rfl⟩ : ∃ i : Nat, at_ = i := ⟨at_.toNat, by omega⟩
      obtain ⟨v0, S3, r3, q0, q1, F3, A3⟩ := draw_fd (many := 2 * (i : Int) + 1) F2 (by omega) (by omega) (by omega)
      have hS3 := (A3.2 K hK).trans hS2
      obtain ⟨v, rfl⟩ : ∃ v : Nat, v0 = v := ⟨v0.toNat, by omega⟩
      have hi : i < n - 1 := by omega
      have hKl : K < S3.length := (List.getElem?_eq_some_iff.mp hS3).1
      have cl := codesD_len (c := c) (m := n - 1)
      refine ⟨ext c (i + 1) v, some (.int i), S3.set K (.lst [x, .lst (codesD (ext c (i + 1) v) (n - 1))]), ?_, fun k k1 k2 => ?_, List.getElem?_set_self hKl, (F3.of_get (List.getElem?_set_ne hK)).mono (by omega), by rw [List.length_set, A3.1, A2.1, A1.1], fun j j0 jK => by rw [List.getElem?_set_ne (Ne.symm jK), A3.2 j j0, A2.2 j j0, A1.2 j j0]⟩
      · refine w_ifT ((v_and (t1 _) (by rw [decide_eq_true (by omega), if_pos rfl]; exact v_tb (v_bin (v_call (v_cons (v_var rfl) (v_cons v_C v_nil)) r1) v_C (by rw [x_gt, decide_eq_true h0]))))) ?_
        refine w_seq (w_asg (v_call (v_cons (v_var rfl) (v_cons (v_bin (v_var rfl) v_C x_subI) v_nil)) r2)) ?_
        refine w_set (S3 := S3) (d := .lst (codesD (ext c (i + 1) v) (n - 1))) (v_bin (a := .lst ((codesD c (n - 1)).take i ++ [.int (v : Nat)])) (v_bin (a := .lst ((codesD c (n - 1)).take i)) (v_sl (v_bin (v_var rfl) v_C (x_ix hS2 rfl)) v_moN (v_moS (v_var rfl)) ?_) (v_lst (v_cons (v_call (v_cons (v_var rfl) (v_cons (v_bin (v_bin v_C (v_var rfl) (x_mul (by decide))) v_C x_addI) v_nil)) r3) v_nil) (show 1 ≤ 16777216 by decide)) (x_addL ?_)) (v_sl (d := .lst ((codesD c (n - 1)).drop (i + 1))) (v_bin (v_var rfl) v_C (x_ix hS3 rfl)) (v_moS (v_bin (v_var rfl) v_C x_addI)) v_moN ?_) ?_) (v_var rfl) v_C (x_set (q := 1) hS3 rfl)
        · show some (D.lst (cutD (codesD c (n - 1)) none (some ((i : Nat) : Int)))) = _
          rw [cut_lo (by omega)]
        · rw [List.length_take]; show _ + 1 < 1000; omega
        · show some (D.lst (cutD (codesD c (n - 1)) (some (((i : Nat) : Int) + 1)) none)) = _
          rw [show ((i : Nat) : Int) + 1 = ((i + 1 : Nat) : Int) by omega, cut_hi (by omega)]
        · rw [x_addL, codesD_set hi]
          rw [List.length_append, List.length_take, List.length_drop]
          show _ + 1 + _ < 1000
          omega
      · unfold ext
        by_cases z : k = i + 1
        · rw [if_pos z]; omega
        · rw [if_neg z]; exact hc k k1 k2
    · refine ⟨c, a5, S1, w_ifF ((v_and (t1 _) (by rw [decide_eq_true (by omega), if_pos rfl]; exact v_tb (v_bin (v_call (v_cons (v_var rfl) (v_cons v_C v_nil)) r1) v_C (by rw [x_gt, decide_eq_false h0]))))) rfl, hc, hS1, F1.mono (by omega), A1.1, fun i i0 _ => A1.2 i i0⟩
  · refine ⟨c, a5, S, w_ifF ((v_and (t1 _) (by rw [decide_eq_false (by omega)]; rfl))) rfl, hc, hS, F.mono (by omega), rfl, fun _ _ _ => rfl⟩
/-- what is asked of one of the two -/
def kB : MS := sSeq (sIf (mOr (mNot (mTB (mCB gIsi (mCons (mBin gIx (mVar 8) (mVar 11)) (mCons (mC (.ty "int")) mNil))))) (mTB (mCB gIsi (mCons (mBin gIx (mVar 8) (mVar 11)) (mCons (mC (.ty "bool")) mNil))))) (
  sRet (mC (.bl false))) (
  sNil)) (
  sSeq (sIf (mOr (mTB (mBin gLt (mBin gIx (mVar 8) (mVar 11)) (mC (.int 0)))) (mTB (mBin gGe (mBin gIx (mVar 8) (mVar 11)) (mCallP m_how_many (mCons (mVar 3) mNil))))) (
  sRet (mC (.bl false))) (
  sNil)) (
  sSeq (sAsg 12 (mCallP m_sum_of (mCons (mVar 3) (mCons (mBin gIx (mVar 8) (mVar 11)) mNil)))) (
  sIf (mOr (mTB (mBin gNe (mCallP m__law_shape (mCons (mVar 12) (mCons (mVar 3) mNil))) (mBin gIx (mVar 10) (mVar 11)))) (mTB (mBin gNe (mCallP m_tree_number (mCons (mVar 12) mNil)) (mBin gIx (mVar 8) (mVar 11))))) (
  sRet (mC (.bl false))) (
  sNil))))
theorem k_ok {n : Nat} {c : Nat → Nat} {k : Int} {l8 l10 : List D} {S : List O} {a0 a1 a2 a4 a5 a6 a7 a9 a12 : Option D} (hc : CodesOk c n) (h1 : 1 ≤ n) (hn : n ≤ 12) (g8 : atI l8 k = some (.int (num c (n - 1)))) (g10 : atI l10 k = some (.str (txt (bt c (n - 1))))) :
    ∃ b12, kB [a0, a1, a2, some (.int n), a4, a5, a6, a7, some (.lst l8), a9, some (.lst l10), some (.int k), a12] S = .nx [a0, a1, a2, some (.int n), a4, a5, a6, a7, some (.lst l8), a9, some (.lst l10), some (.int k), b12] S := by
  obtain ⟨lo, hi⟩ := num_lt hc (n - 1) (by omega)
  obtain ⟨lab, rs, Sx, r5, P, hl⟩ := sum_of_ok (t := num c (n - 1)) h1 hn
  rw [bt_num hc h1] at P
  obtain ⟨Sy, r6⟩ := shape_ok (out := (n : Int) + rs.length - 1) P hc h1 hn (by omega)
  have loP := prog_lo 0 n rs ((n : Int) + rs.length - 1)
  obtain ⟨Sz, r7⟩ := number_ok (prog_of hc h1 P.j P.full).1 hc h1 hn hl ((n : Int) + rs.length - 1)
  have e8 : ∀ a12 T, mBin gIx (mVar 8) (mVar 11) [a0, a1, a2, some (.int n), a4, a5, a6, a7, some (.lst l8), a9, some (.lst l10), some (.int k), a12] T = .ok (.int (num c (n - 1))) T := fun _ T => v_bin (v_var rfl) (v_var rfl) (x_ixl g8)
  refine ⟨some (progD n rs ((n : Int) + rs.length - 1)), ?_⟩
  refine w_seq (w_ifF ((v_or (k := false) (v_not (k := true) (v_tb (v_cb (v_cons (e8 _ _) (v_cons v_C v_nil)) rfl))) (by rw [if_neg (by simp)]; exact v_tb (v_cb (v_cons (e8 _ _) (v_cons v_C v_nil)) rfl)))) rfl) ?_
  refine w_seq (w_ifF ((v_or (k := false) (v_tb (v_bin (e8 _ _) v_C (by rw [x_lt, decide_eq_false (by omega)]))) (by rw [if_neg (by simp)]; exact v_tb (v_bin (e8 _ _) (v_callP (v_cons (v_var rfl) v_nil) rfl (many_ok h1 hn) rfl) (by rw [x_ge, decide_eq_false (by omega)]))))) rfl) ?_
  refine w_seq (w_asg (v_callP (v_cons (v_var rfl) (v_cons (e8 _ _) v_nil)) rfl r5 loP)) ?_
  refine w_ifF ((v_or (k := false) (v_tb (v_bin (v_callP (v_cons (v_var rfl) (v_cons (v_var rfl) v_nil)) (los2 loP rfl) r6 rfl) (v_bin (v_var rfl) (v_var rfl) (x_ixl g10)) ne_same)) (by rw [if_neg (by simp)]; exact v_tb (v_bin (v_callP (v_cons (v_var rfl) v_nil) (los1 loP) r7 rfl) (e8 _ _) (by rw [x_neI, decide_eq_true rfl]; rfl))))) rfl
def lBody : MS := sSeq (sAsg 3 (mBin gAdd (mC (.int 1)) (mCall m__law_draw (mCons (mVar 1) (mCons (mC (.int 12)) mNil))))) (
  sSeq (sAsg 4 (mNew (mCons (mCall m__law_codes (mCons (mVar 1) (mCons (mVar 3) mNil))) (mCons (mLst mNil) mNil)))) (
  sSeq (sSet (mCB gList (mCons (mBin gIx (mVar 4) (mC (.int 0))) mNil)) (mVar 4) (mC (.int 1))) (
  sSeq brB (
  sSeq (sAsg 6 (mComp (miSeq (mVar 4)) (tgN 7) mYes (mCall m__law_program (mCons (mVar 1) (mCons (mVar 3) (mCons (mCall m__law_tree (mCons (mVar 7) mNil)) mNil)))) [7])) (
  sSeq (sAsg 8 (mComp (miSeq (mVar 6)) (tgN 9) mYes (mCallP m_tree_number (mCons (mVar 9) mNil)) [9])) (
  sSeq (sAsg 10 (mComp (miSeq (mVar 6)) (tgN 9) mYes (mCallP m__law_shape (mCons (mVar 9) (mCons (mVar 3) mNil))) [9])) (
  sSeq (sIf (mOr (mTB (mBin gNe (mBin gEq (mBin gIx (mVar 8) (mC (.int 0))) (mBin gIx (mVar 8) (mC (.int 1)))) (mBin gEq (mBin gIx (mVar 10) (mC (.int 0))) (mBin gIx (mVar 10) (mC (.int 1)))))) (mTB (mBin gNe (mBin gIx (mVar 8) (mC (.int 0))) (mCall m__law_code (mCons (mBin gIx (mVar 4) (mC (.int 0))) mNil))))) (
  sRet (mC (.bl false))) (
  sNil)) (
  sFor (miRange rangeA1 (mCons (mC (.int 2)) mNil)) (tgN 11) kB))))))))
def Iv (i : Nat) (e : Mo.Env) (S : List O) : Prop := ∃ a0 a2 a3 a4 a5 a6 a7 a8 a9 a10 a11 a12, e = [a0, some (.ref 0), a2, a3, a4, a5, a6, a7, a8, a9, a10, a11, a12] ∧ Fd S (100 * i)
theorem turn (i : Nat) (hi : i < 6) (d : D) (e : Mo.Env) (S : List O) (h : Iv i e S) : ∃ e' e1 S1, (tgN 2).f d e = some e' ∧ lBody e' S = .nx e1 S1 ∧ Iv (i + 1) e1 S1 := by
  obtain ⟨a0, a2, a3, a4, a5, a6, a7, a8, a9, a10, a11, a12, rfl, F⟩ := h
  obtain ⟨nn, S1, r1, n0, n1, F1, A1⟩ := draw_fd (many := 12) F (by omega) (by decide) (by decide)
  obtain ⟨n, rfl⟩ : ∃ n : Nat, nn = (n : Int) - 1 := ⟨(nn + 1).toNat, by omega⟩
  have h1 : 1 ≤ n := by omega
  have hn : n ≤ 12 := by omega
  obtain ⟨c, S2, r2, hc, g2, l2, s2, F2⟩ := codes_fd F1 (by omega) h1 hn
  have p1 := F1.pos
  let J := S1.length
  let K := S2.length
  have hJK : J < K := by show S1.length < S2.length; omega
  let S3 : List O := S2 ++ [.lst [.ref J, .lst []]]
  have g3 : S3[K]? = some (.lst [.ref J, .lst []]) := by rw [List.getElem?_append_right (Nat.le_refl _), Nat.sub_self]; rfl
  have g3J : S3[J]? = some (.lst (codesD c (n - 1))) := by rw [List.getElem?_append_left hJK]; exact g2
  have F3 : Fd S3 (100 * i + 1 + 20) := F2.of_get (List.getElem?_append_left (by omega))
  let S4 : List O := S3.set K (.lst [.ref J, .lst (codesD c (n - 1))])
  have hK3 : K < S3.length := (List.getElem?_eq_some_iff.mp g3).1
  have g4 : S4[K]? = some (.lst [.ref J, .lst (codesD c (n - 1))]) := List.getElem?_set_self hK3
  have g4J : S4[J]? = some (.lst (codesD c (n - 1))) := (List.getElem?_set_ne (by omega)).trans g3J
  have F4 : Fd S4 (100 * i + 1 + 20) := F3.of_get (List.getElem?_set_ne (by omega))
  obtain ⟨c', b5, S5, r5, hc', g5, F5, l5, A5⟩ := br_ok (a0 := a0) (a2 := some d) (a5 := a5) (a6 := a6) (a7 := a7) (a8 := a8) (a9 := a9) (a10 := a10) (a11 := a11) (a12 := a12) hc h1 hn F4 (by omega) (by omega) g4
  have g5J : S5[J]? = some (.lst (codesD c (n - 1))) := (A5 J (by show S1.length ≠ 0; omega) (by omega)).trans g4J
  obtain ⟨rs, lab, S6, r6, pk, hl, bd, F6, A6, jj, lt, full⟩ := program_fd hc h1 hn F5 (by omega)
  have g6 : S6[K]? = some (.lst [.ref J, .lst (codesD c' (n - 1))]) := (A6.2 K (by omega)).trans g5
  have g6J : S6[J]? = some (.lst (codesD c (n - 1))) := (A6.2 J (by show S1.length ≠ 0; omega)).trans g5J
  obtain ⟨rs', lab', S7, r7, pk', hl', bd', F7, A7, jj', lt', full'⟩ := program_fd hc' h1 hn F6 (by omega)
  have g7 : S7[K]? = some (.lst [.ref J, .lst (codesD c' (n - 1))]) := (A7.2 K (by omega)).trans g6
  have g7J : S7[J]? = some (.lst (codesD c (n - 1))) := (A7.2 J (by show S1.length ≠ 0; omega)).trans g6J
  obtain ⟨Sx, t1⟩ := number_ok pk hc h1 hn hl ((n : Int) + rs.length - 1)
  obtain ⟨Sx', t1'⟩ := number_ok pk' hc' h1 hn hl' ((n : Int) + rs'.length - 1)
  obtain ⟨Sy, t2⟩ := shape_ok (out := (n : Int) + rs.length - 1) ⟨jj, lt, full⟩ hc h1 hn (by omega)
  obtain ⟨Sy', t2'⟩ := shape_ok (out := (n : Int) + rs'.length - 1) ⟨jj', lt', full'⟩ hc' h1 hn (by omega)
  have lo := prog_lo 0 n rs ((n : Int) + rs.length - 1)
  have lo' := prog_lo 0 n rs' ((n : Int) + rs'.length - 1)
  let p := progD n rs ((n : Int) + rs.length - 1)
  let p' := progD n rs' ((n : Int) + rs'.length - 1)
  obtain ⟨b12, k0⟩ := k_ok (k := 0) (l8 := [.int (num c (n - 1)), .int (num c' (n - 1))]) (l10 := [.str (txt (bt c (n - 1))), .str (txt (bt c' (n - 1)))]) (S := S7) (a0 := a0) (a1 := some (.ref 0)) (a2 := some d) (a4 := some (.ref K)) (a5 := b5) (a6 := some (.lst [p, p'])) (a7 := a7) (a9 := a9) (a12 := a12) hc h1 hn rfl rfl
  obtain ⟨c12, k1⟩ := k_ok (k := 1) (l8 := [.int (num c (n - 1)), .int (num c' (n - 1))]) (l10 := [.str (txt (bt c (n - 1))), .str (txt (bt c' (n - 1)))]) (S := S7) (a0 := a0) (a1 := some (.ref 0)) (a2 := some d) (a4 := some (.ref K)) (a5 := b5) (a6 := some (.lst [p, p'])) (a7 := a7) (a9 := a9) (a12 := b12) hc' h1 hn rfl rfl
  have one : (0 : Nat) < sz := show 0 < 16777216 by decide
  have two : (1 : Nat) < sz := show 1 < 16777216 by decide
  refine ⟨_, [a0, some (.ref 0), some d, some (.int n), some (.ref K), b5, some (.lst [p, p']), a7, some (.lst [.int (num c (n - 1)), .int (num c' (n - 1))]), a9, some (.lst [.str (txt (bt c (n - 1))), .str (txt (bt c' (n - 1)))]), some (.int 1), c12], S7, rfl, ?_, _, _, _, _, _, _, _, _, _, _, _, _, rfl, F7.mono (by omega)⟩
  refine w_seq (w_asg (d := .int (n : Int)) (v_bin v_C (v_call (v_cons (v_var rfl) (v_cons v_C v_nil)) r1) ?_)) ?_
  · rw [x_addI]; congr 2; omega
  refine w_seq (w_asg (v_new (v_cons (v_call (v_cons (v_var rfl) (v_cons (v_var rfl) v_nil)) r2) (v_cons (v_lst v_nil (show 0 ≤ 16777216 by decide)) v_nil)) (show 2 ≤ 16777216 by decide))) ?_
  refine w_seq (w_set (S3 := S3) (S4 := S4) (d := .lst (codesD c (n - 1))) (v_cb (v_cons (v_bin (v_var rfl) v_C (x_ix g3 rfl)) v_nil) ?_) (v_var rfl) v_C (x_set (q := 1) g3 rfl)) ?_
  · show (match seqR S3 (.ref J) with | some l => some (D.lst l) | none => none) = _
    unfold seqR
    simp only [g3J]
  refine w_seq r5 ?_
  refine w_seq (w_asg (v_comp (v_srcC (v_var rfl) g5) ((compL_one (acc := []) (decide_eq_true g5) rfl (v_call (v_cons (v_var rfl) (v_cons (v_var rfl) (v_cons (v_call (v_cons (v_var rfl) v_nil) (tree_ok (by omega) g5J)) v_nil))) r6) one).trans ((compL_one (acc := [p]) (decide_eq_true g6) rfl (v_call (v_cons (v_var rfl) (v_cons (v_var rfl) (v_cons (v_call (v_cons (v_var rfl) v_nil) (tree_okL (by omega))) v_nil))) r7) two).trans (compL_nil (decide_eq_true g7)))))) ?_
  refine w_seq (w_asg (v_comp (v_seqL (v_var rfl)) ((compL_one (acc := []) rfl rfl (v_callP (v_cons (v_var rfl) v_nil) (los1 lo) t1 rfl) one).trans ((compL_one (acc := [.int (num c (n - 1))]) rfl rfl (v_callP (v_cons (v_var rfl) v_nil) (los1 lo') t1' rfl) two).trans (compL_nil rfl))))) ?_
  refine w_seq (w_asg (v_comp (v_seqL (v_var rfl)) ((compL_one (acc := []) rfl rfl (v_callP (v_cons (v_var rfl) (v_cons (v_var rfl) v_nil)) (los2 lo rfl) t2 rfl) one).trans ((compL_one (acc := [.str (txt (bt c (n - 1)))]) rfl rfl (v_callP (v_cons (v_var rfl) (v_cons (v_var rfl) v_nil)) (los2 lo' rfl) t2' rfl) two).trans (compL_nil rfl))))) ?_
  refine w_seq (S1 := S7) (w_ifF (S1 := S7) ((v_or (k := false) (S1 := S7) (v_tb (v_bin (S1 := S7) (S2 := S7) (v_bin (v_bin (v_var rfl) v_C (x_ixl rfl)) (v_bin (v_var rfl) v_C (x_ixl rfl)) x_eqI) (v_bin (v_bin (v_var rfl) v_C (x_ixl rfl)) (v_bin (v_var rfl) v_C (x_ixl rfl)) x_eqS) ?_)) ?_)) rfl) ?_
  · rw [x_neB]
    congr 2
    have q := num_txt hc hc' h1 hn
    have e : decide (num c (n - 1) = num c' (n - 1)) = decide (cl (txt (bt c (n - 1))) = cl (txt (bt c' (n - 1)))) := by
      rw [decide_eq_decide]
      exact q.trans ⟨fun z => by rw [z], cl_ext⟩
    rw [e]
    simp
  · rw [if_neg (by simp)]
    refine v_tb (v_bin (v_bin (v_var rfl) v_C (x_ixl rfl)) (v_call (v_cons (v_bin (v_var rfl) v_C (x_ix g7 rfl)) v_nil) (code_ok (by omega) g7J)) ?_)
    rw [x_neI, decide_eq_true rfl]
    rfl
  · refine (w_for (l := [.int 0, .int 1]) (chk := anyS) (S1 := S7) rfl).trans ?_
    exact (loopL_step rfl rfl k0).trans ((loopL_step rfl rfl k1).trans (loopL_nil rfl))
theorem law_true : ∀ ns : List Int, ns.length ≤ 63 → ∃ S, fnM 1 13 b_law [.kl (ns.map D.int)] [] = .ok (.bl true) S := by
  intro ns _
  obtain ⟨cs, hf, F⟩ := feed_call ns
  obtain ⟨e1, S1, hl, _⟩ := loop_inv (t := tgN 2) (b := lBody) (I := Iv) (n := 6) turn (i := 0) (l := rangeD 0 1 6) rfl (e := [some (.kl (ns.map .int)), some (.ref 0), none, none, none, none, none, none, none, none, none, none, none]) (S := [feedO 0 cs 0 0]) ⟨_, _, _, _, _, _, _, _, _, _, _, _, rfl, 0, cs, 0, 0, F, by decide⟩
  refine ⟨_, fn_rt (S' := S1) (d := .bl true) rfl ?_⟩
  refine w_seq (w_asg (v_call (v_cons (v_var rfl) v_nil) hf)) ?_
  refine w_seq (e1 := e1) (S1 := S1) ?_ (w_ret v_C)
  exact (w_for (l := rangeD 0 1 6) (S1 := [feedO 0 cs 0 0]) rfl).trans hl
end K66

namespace K66
open PySem PySem.Spec L2 PyProof.Rows Mo
def top (i : Nat) : Stmt := PySem.Challenge.pw_everyround_k66_whole_numbers_of_sum_tree.main.body.getD i (.Pass ⟨0, 0, 0, 0⟩)
abbrev s__law_feed : Stmt := top 12
abbrev N__law_feed : List Str := ["_law_script", "_law_cell"]
abbrev P__law_feed : List Str := ["_law_script"]
theorem sc__law_feed : FnScope N__law_feed P__law_feed (defScope s__law_feed) := ⟨rfl, rfl, rfl, by decide +kernel, rfl, by decide +kernel, by decide +kernel⟩
abbrev s__law_draw : Stmt := top 13
abbrev N__law_draw : List Str := ["_law_feed_here", "_law_many_here", "_law_digit", "_law_cells", "_law_cell", "_law_mixed"]
abbrev P__law_draw : List Str := ["_law_feed_here", "_law_many_here"]
theorem sc__law_draw : FnScope N__law_draw P__law_draw (defScope s__law_draw) := ⟨rfl, rfl, rfl, by decide +kernel, rfl, by decide +kernel, by decide +kernel⟩
abbrev s__law_one : Stmt := top 14
abbrev N__law_one : List Str := ["_law_feed_here", "_law_items"]
abbrev P__law_one : List Str := ["_law_feed_here", "_law_items"]
theorem sc__law_one : FnScope N__law_one P__law_one (defScope s__law_one) := ⟨rfl, rfl, rfl, by decide +kernel, rfl, by decide +kernel, by decide +kernel⟩
abbrev s__law_codes : Stmt := top 22
abbrev N__law_codes : List Str := ["_law_feed_here", "_law_n", "_law_way", "_law_found", "_law_k", "_law_some"]
abbrev P__law_codes : List Str := ["_law_feed_here", "_law_n"]
theorem sc__law_codes : FnScope N__law_codes P__law_codes (defScope s__law_codes) := ⟨rfl, rfl, rfl, by decide +kernel, rfl, by decide +kernel, by decide +kernel⟩
abbrev s__law_name : Stmt := top 24
abbrev N__law_name : List Str := ["_law_tree_here", "_law_n"]
abbrev P__law_name : List Str := ["_law_tree_here", "_law_n"]
theorem sc__law_name : FnScope N__law_name P__law_name (defScope s__law_name) := ⟨rfl, rfl, rfl, by decide +kernel, rfl, by decide +kernel, by decide +kernel⟩
abbrev s__law_nodes : Stmt := top 25
abbrev N__law_nodes : List Str := ["_law_tree_here", "_law_n", "_law_here"]
abbrev P__law_nodes : List Str := ["_law_tree_here", "_law_n"]
theorem sc__law_nodes : FnScope N__law_nodes P__law_nodes (defScope s__law_nodes) := ⟨rfl, rfl, rfl, by decide +kernel, rfl, by decide +kernel, by decide +kernel⟩
abbrev s__law_program : Stmt := top 26
abbrev N__law_program : List Str := ["_law_feed_here", "_law_n", "_law_tree_here", "_law_waiting", "_law_places", "_law_rows", "_law_ready", "_law_node", "_law_sides_here", "_law_other"]
abbrev P__law_program : List Str := ["_law_feed_here", "_law_n", "_law_tree_here"]
theorem sc__law_program : FnScope N__law_program P__law_program (defScope s__law_program) := ⟨rfl, rfl, rfl, by decide +kernel, rfl, by decide +kernel, by decide +kernel⟩
abbrev s_sides_of : Stmt := top 3
abbrev N_sides_of : List Str := ["program", "inputs", "rows", "outs", "index", "word", "terms"]
abbrev P_sides_of : List Str := ["program"]
theorem sc_sides_of : FnScope N_sides_of P_sides_of (defScope s_sides_of) := ⟨rfl, rfl, rfl, by decide +kernel, rfl, by decide +kernel, by decide +kernel⟩
abbrev s_users_of : Stmt := top 4
abbrev N_users_of : List Str := ["sides", "found", "row", "side"]
abbrev P_users_of : List Str := ["sides"]
theorem sc_users_of : FnScope N_users_of P_users_of (defScope s_users_of) := ⟨rfl, rfl, rfl, by decide +kernel, rfl, by decide +kernel, by decide +kernel⟩
abbrev s_other_side : Stmt := top 5
abbrev N_other_side : List Str := ["pair", "side"]
abbrev P_other_side : List Str := ["pair", "side"]
theorem sc_other_side : FnScope N_other_side P_other_side (defScope s_other_side) := ⟨rfl, rfl, rfl, by decide +kernel, rfl, by decide +kernel, by decide +kernel⟩
abbrev s_replace_side : Stmt := top 6
abbrev N_replace_side : List Str := ["sides", "users", "row", "side", "upper"]
abbrev P_replace_side : List Str := ["sides", "users", "row", "side"]
theorem sc_replace_side : FnScope N_replace_side P_replace_side (defScope s_replace_side) := ⟨rfl, rfl, rfl, by decide +kernel, rfl, by decide +kernel, by decide +kernel⟩
abbrev s_tree_number : Stmt := top 7
abbrev N_tree_number : List Str := ["program", "inputs", "sides", "users", "came", "beside", "letter", "row", "found", "side", "code"]
abbrev P_tree_number : List Str := ["program"]
theorem sc_tree_number : FnScope N_tree_number P_tree_number (defScope s_tree_number) := ⟨rfl, rfl, rfl, by decide +kernel, rfl, by decide +kernel, by decide +kernel⟩
abbrev s__law_sides : Stmt := top 16
abbrev N__law_sides : List Str := ["_law_row", "_law_many_here", "_law_found", "_law_term", "_law_place", "_law_due"]
abbrev P__law_sides : List Str := ["_law_row", "_law_many_here"]
theorem sc__law_sides : FnScope N__law_sides P__law_sides (defScope s__law_sides) := ⟨rfl, rfl, rfl, by decide +kernel, rfl, by decide +kernel, by decide +kernel⟩
abbrev s__law_join : Stmt := top 15
abbrev N__law_join : List Str := ["_law_one_here", "_law_two"]
abbrev P__law_join : List Str := ["_law_one_here", "_law_two"]
theorem sc__law_join : FnScope N__law_join P__law_join (defScope s__law_join) := ⟨rfl, rfl, rfl, by decide +kernel, rfl, by decide +kernel, by decide +kernel⟩
abbrev s__law_shape : Stmt := top 17
abbrev N__law_shape : List Str := ["_law_program_here", "_law_n", "_law_texts", "_law_used", "_law_k", "_law_row", "_law_sides_here"]
abbrev P__law_shape : List Str := ["_law_program_here", "_law_n"]
theorem sc__law_shape : FnScope N__law_shape P__law_shape (defScope s__law_shape) := ⟨rfl, rfl, rfl, by decide +kernel, rfl, by decide +kernel, by decide +kernel⟩
abbrev s_codes_of : Stmt := top 8
abbrev N_codes_of : List Str := ["n", "told", "found", "letter"]
abbrev P_codes_of : List Str := ["n", "told"]
theorem sc_codes_of : FnScope N_codes_of P_codes_of (defScope s_codes_of) := ⟨rfl, rfl, rfl, by decide +kernel, rfl, by decide +kernel, by decide +kernel⟩
abbrev s_sides_by : Stmt := top 9
abbrev N_sides_by : List Str := ["n", "told", "sides", "users", "index", "code", "letter", "node", "row", "upper"]
abbrev P_sides_by : List Str := ["n", "told"]
theorem sc_sides_by : FnScope N_sides_by P_sides_by (defScope s_sides_by) := ⟨rfl, rfl, rfl, by decide +kernel, rfl, by decide +kernel, by decide +kernel⟩
abbrev s_added : Stmt := top 1
abbrev N_added : List Str := ["one", "other"]
abbrev P_added : List Str := ["one", "other"]
theorem sc_added : FnScope N_added P_added (defScope s_added) := ⟨rfl, rfl, rfl, by decide +kernel, rfl, by decide +kernel, by decide +kernel⟩
abbrev s_sum_of : Stmt := top 10
abbrev N_sum_of : List Str := ["n", "number", "sides", "places", "letter", "rows", "row", "side"]
abbrev P_sum_of : List Str := ["n", "number"]
theorem sc_sum_of : FnScope N_sum_of P_sum_of (defScope s_sum_of) := ⟨rfl, rfl, rfl, by decide +kernel, rfl, by decide +kernel, by decide +kernel⟩
abbrev s__law_put : Stmt := top 18
abbrev N__law_put : List Str := ["_law_tree_here", "_law_letter", "_law_code_here", "_law_name_here"]
abbrev P__law_put : List Str := ["_law_tree_here", "_law_letter", "_law_code_here"]
theorem sc__law_put : FnScope N__law_put P__law_put (defScope s__law_put) := ⟨rfl, rfl, rfl, by decide +kernel, rfl, by decide +kernel, by decide +kernel⟩
abbrev s__law_tree : Stmt := top 19
abbrev N__law_tree : List Str := ["_law_codes_here", "_law_tree_here", "_law_k"]
abbrev P__law_tree : List Str := ["_law_codes_here"]
theorem sc__law_tree : FnScope N__law_tree P__law_tree (defScope s__law_tree) := ⟨rfl, rfl, rfl, by decide +kernel, rfl, by decide +kernel, by decide +kernel⟩
abbrev s__law_code : Stmt := top 23
abbrev N__law_code : List Str := ["_law_codes_here", "_law_found", "_law_k"]
abbrev P__law_code : List Str := ["_law_codes_here"]
theorem sc__law_code : FnScope N__law_code P__law_code (defScope s__law_code) := ⟨rfl, rfl, rfl, by decide +kernel, rfl, by decide +kernel, by decide +kernel⟩
abbrev s_how_many : Stmt := top 2
abbrev N_how_many : List Str := ["n", "found", "letter"]
abbrev P_how_many : List Str := ["n"]
theorem sc_how_many : FnScope N_how_many P_how_many (defScope s_how_many) := ⟨rfl, rfl, rfl, by decide +kernel, rfl, by decide +kernel, by decide +kernel⟩
abbrev s_law : Stmt := top 27
abbrev N_law : List Str := ["_law_script", "_law_feed_here", "_law_turn", "_law_inputs", "_law_codes_here", "_law_at", "_law_trees", "_law_some", "_law_told", "_law_tree_here", "_law_shapes", "_law_k", "_law_again"]
abbrev P_law : List Str := ["_law_script"]
theorem sc_law : FnScope N_law P_law (defScope s_law) := ⟨rfl, rfl, rfl, by decide +kernel, rfl, by decide +kernel, by decide +kernel⟩
structure Fa (K : PySem.W.Frag) (mg : Str → Option Value) (x : Str) (st : Stmt) (ps : List Str) (f : Addr) (fd : FuncData) : Prop where
  F : Fun K x x st f fd
  mg : mg x = some (.ref f)
  kp : PySem.W.keepIn K (.ref f) = true
  bi : Binds K fd ps []
structure Ad where
  a__law_feed : Addr
  d__law_feed : FuncData
  a__law_draw : Addr
  d__law_draw : FuncData
  a__law_one : Addr
  d__law_one : FuncData
  a__law_codes : Addr
  d__law_codes : FuncData
  a__law_name : Addr
  d__law_name : FuncData
  a__law_nodes : Addr
  d__law_nodes : FuncData
  a__law_program : Addr
  d__law_program : FuncData
  a_sides_of : Addr
  d_sides_of : FuncData
  a_users_of : Addr
  d_users_of : FuncData
  a_other_side : Addr
  d_other_side : FuncData
  a_replace_side : Addr
  d_replace_side : FuncData
  a_tree_number : Addr
  d_tree_number : FuncData
  a__law_sides : Addr
  d__law_sides : FuncData
  a__law_join : Addr
  d__law_join : FuncData
  a__law_shape : Addr
  d__law_shape : FuncData
  a_codes_of : Addr
  d_codes_of : FuncData
  a_sides_by : Addr
  d_sides_by : FuncData
  a_added : Addr
  d_added : FuncData
  a_sum_of : Addr
  d_sum_of : FuncData
  a__law_put : Addr
  d__law_put : FuncData
  a__law_tree : Addr
  d__law_tree : FuncData
  a__law_code : Addr
  d__law_code : FuncData
  a_how_many : Addr
  d_how_many : FuncData
  a_law : Addr
  d_law : FuncData
structure Txt (K : PySem.W.Frag) (mg : Str → Option Value) (A : Ad) : Prop where
  F__law_feed : Fa K mg "_law_feed" s__law_feed P__law_feed A.a__law_feed A.d__law_feed
  F__law_draw : Fa K mg "_law_draw" s__law_draw P__law_draw A.a__law_draw A.d__law_draw
  F__law_one : Fa K mg "_law_one" s__law_one P__law_one A.a__law_one A.d__law_one
  F__law_codes : Fa K mg "_law_codes" s__law_codes P__law_codes A.a__law_codes A.d__law_codes
  F__law_name : Fa K mg "_law_name" s__law_name P__law_name A.a__law_name A.d__law_name
  F__law_nodes : Fa K mg "_law_nodes" s__law_nodes P__law_nodes A.a__law_nodes A.d__law_nodes
  F__law_program : Fa K mg "_law_program" s__law_program P__law_program A.a__law_program A.d__law_program
  F_sides_of : Fa K mg "sides_of" s_sides_of P_sides_of A.a_sides_of A.d_sides_of
  F_users_of : Fa K mg "users_of" s_users_of P_users_of A.a_users_of A.d_users_of
  F_other_side : Fa K mg "other_side" s_other_side P_other_side A.a_other_side A.d_other_side
  F_replace_side : Fa K mg "replace_side" s_replace_side P_replace_side A.a_replace_side A.d_replace_side
  F_tree_number : Fa K mg "tree_number" s_tree_number P_tree_number A.a_tree_number A.d_tree_number
  F__law_sides : Fa K mg "_law_sides" s__law_sides P__law_sides A.a__law_sides A.d__law_sides
  F__law_join : Fa K mg "_law_join" s__law_join P__law_join A.a__law_join A.d__law_join
  F__law_shape : Fa K mg "_law_shape" s__law_shape P__law_shape A.a__law_shape A.d__law_shape
  F_codes_of : Fa K mg "codes_of" s_codes_of P_codes_of A.a_codes_of A.d_codes_of
  F_sides_by : Fa K mg "sides_by" s_sides_by P_sides_by A.a_sides_by A.d_sides_by
  F_added : Fa K mg "added" s_added P_added A.a_added A.d_added
  F_sum_of : Fa K mg "sum_of" s_sum_of P_sum_of A.a_sum_of A.d_sum_of
  F__law_put : Fa K mg "_law_put" s__law_put P__law_put A.a__law_put A.d__law_put
  F__law_tree : Fa K mg "_law_tree" s__law_tree P__law_tree A.a__law_tree A.d__law_tree
  F__law_code : Fa K mg "_law_code" s__law_code P__law_code A.a__law_code A.d__law_code
  F_how_many : Fa K mg "how_many" s_how_many P_how_many A.a_how_many A.d_how_many
  F_law : Fa K mg "law" s_law P_law A.a_law A.d_law
  n_abs : mg "abs" = none
  n_all : mg "all" = none
  n_bool : mg "bool" = none
  n_enumerate : mg "enumerate" = none
  n_int : mg "int" = none
  n_isinstance : mg "isinstance" = none
  n_len : mg "len" = none
  n_list : mg "list" = none
  n_max : mg "max" = none
  n_range : mg "range" = none
  n_repr : mg "repr" = none
  n_sorted : mg "sorted" = none
  n_str : mg "str" = none
  n_tuple : mg "tuple" = none
section
variable {P : Program} {w : World} {K : PySem.W.Frag} {mg : Str → Option Value} {base : Heap} {A : Ad}
theorem ok__law_feed (T : Txt K mg A) : FnG P w K mg base CX0 1 A.a__law_feed A.d__law_feed P__law_feed fun vs H Q _ => spM K 1 (fnM 1 2 b__law_feed) vs H Q E0 :=
  fn_m T.F__law_feed.F sc__law_feed rfl rfl fun cdv A outer s H E hr => 
  sm_one (sm_ret (pm_new (am_cons pm_int (am_cons (pm_comp (own := [("_law_cell", 1)]) rfl sc__law_feed.nd (im_seq (pm_sl (pm_var 0) po_n (po_s pm_int))) (blkOk_by (N := N__law_feed) (sc := defScope s__law_feed) (by decide +kernel)) (fun _ _ _ _ _ => gm_name sc__law_feed.nd rfl (.inl rfl)) (fun _ _ _ _ _ => qms_nil) (fun _ _ _ _ _ => pm_cb c_abs (by rfl) T.n_abs (by first | exact PySem.boot_abs | exact PyProof.Rows.boot_abs | exact boot_abs | decide +kernel) (am_cons (pm_var 1) am_nil))) (am_cons pm_int (am_cons pm_int am_nil))))))
theorem ok__law_draw (T : Txt K mg A) : FnG P w K mg base CX0 1 A.a__law_draw A.d__law_draw P__law_draw fun vs H Q _ => spM K 2 (fnM 2 6 b__law_draw) vs H Q E0 :=
  fn_m T.F__law_draw.F sc__law_draw rfl rfl fun cdv A outer s H E hr => 
  sm_cons (sm_item (pm_bin o_add (pm_ix (pm_var 0) pm_int) pm_int) (pm_var 0) pm_int) (
  sm_cons (sm_if (qm_cmp o_gt (pm_ix (pm_var 0) pm_int) pm_int) (
  sm_cons (sm_set sc__law_draw.nd rfl (.inl rfl) (pm_bin o_mod (pm_cty c_int (by rfl) T.n_int (by first | exact PySem.boot_int | exact PyProof.Rows.boot_int | exact boot_int | decide +kernel) (am_cons (pm_ix (pm_var 0) pm_int) am_nil)) (pm_var 1))) (
  sm_cons (sm_item (pm_bin o_div (pm_ix (pm_var 0) pm_int) (pm_var 1)) (pm_var 0) pm_int) (
  sm_one (sm_ret (pm_var 2))))) (
  sm_nil)) (
  sm_cons (sm_set sc__law_draw.nd rfl (.inl rfl) (pm_bin o_add (pm_ix (pm_var 0) pm_int) (pm_bin o_mul (pm_lst (am_cons pm_int am_nil)) (pm_cty c_int (by rfl) T.n_int (by first | exact PySem.boot_int | exact PyProof.Rows.boot_int | exact boot_int | decide +kernel) (am_cons (pm_cmp (o_eq hr.u64) (pm_ix (pm_var 0) pm_int) (pm_lst am_nil)) am_nil))))) (
  sm_cons (sm_set sc__law_draw.nd rfl (.inl rfl) (pm_ix (pm_var 3) (pm_bin o_mod (pm_cty c_int (by rfl) T.n_int (by first | exact PySem.boot_int | exact PyProof.Rows.boot_int | exact boot_int | decide +kernel) (am_cons (pm_ix (pm_var 0) pm_int) am_nil)) (pm_cb c_len (by rfl) T.n_len (by first | exact PySem.boot_len | exact PyProof.Rows.boot_len | exact boot_len | decide +kernel) (am_cons (pm_var 3) am_nil))))) (
  sm_cons (sm_item (pm_bin o_add (pm_ix (pm_var 0) pm_int) pm_int) (pm_var 0) pm_int) (
  sm_cons (sm_if (qm_w (qm_and (qm_cmp o_ge (pm_var 4) (pm_bin o_pow pm_int pm_int)) (qm_and1 (qm_cmp o_le (pm_ix (pm_var 0) pm_int) (pm_cb c_len (by rfl) T.n_len (by first | exact PySem.boot_len | exact PyProof.Rows.boot_len | exact boot_len | decide +kernel) (am_cons (pm_var 3) am_nil)))))) (
  sm_cons (sm_item (pm_bin o_div (pm_var 4) (pm_var 1)) (pm_var 0) pm_int) (
  sm_one (sm_ret (pm_bin o_mod (pm_cty c_int (by rfl) T.n_int (by first | exact PySem.boot_int | exact PyProof.Rows.boot_int | exact boot_int | decide +kernel) (am_cons (pm_var 4) am_nil)) (pm_var 1))))) (
  sm_nil)) (
  sm_cons (sm_set sc__law_draw.nd rfl (.inl rfl) (pm_bin o_mod (pm_cty c_int (by rfl) T.n_int (by first | exact PySem.boot_int | exact PyProof.Rows.boot_int | exact boot_int | decide +kernel) (am_cons (pm_bin o_pow (pm_bin o_add (pm_bin o_mod (pm_cty c_int (by rfl) T.n_int (by first | exact PySem.boot_int | exact PyProof.Rows.boot_int | exact boot_int | decide +kernel) (am_cons (pm_var 4) am_nil)) pm_int) (pm_bin o_mul pm_int (pm_ix (pm_var 0) pm_int))) pm_int) am_nil)) pm_int)) (
  sm_cons (sm_set sc__law_draw.nd rfl (.inl rfl) (pm_bin o_mod (pm_cty c_int (by rfl) T.n_int (by first | exact PySem.boot_int | exact PyProof.Rows.boot_int | exact boot_int | decide +kernel) (am_cons (pm_bin o_pow (pm_bin o_add (pm_bin o_add (pm_var 5) (pm_bin o_mul pm_int (pm_ix (pm_var 0) pm_int))) pm_int) pm_int) am_nil)) pm_int)) (
  sm_one (sm_ret (pm_bin o_mod (pm_cty c_int (by rfl) T.n_int (by first | exact PySem.boot_int | exact PyProof.Rows.boot_int | exact boot_int | decide +kernel) (am_cons (pm_bin o_div (pm_var 5) pm_int) am_nil)) (pm_var 1)))))))))))
theorem ok__law_one (T : Txt K mg A) : FnG P w K mg base CX0 2 A.a__law_one A.d__law_one P__law_one fun vs H Q _ => spM K 2 (fnM 2 2 b__law_one) vs H Q E0 :=
  fn_m T.F__law_one.F sc__law_one rfl rfl fun cdv A outer s H E hr => 
  sm_one (sm_ret (pm_ix (pm_var 1) (pm_call (ok__law_draw T) hr (by rfl) T.F__law_draw.mg T.F__law_draw.kp T.F__law_draw.bi (am_cons (pm_var 0) (am_cons (pm_cb c_len (by rfl) T.n_len (by first | exact PySem.boot_len | exact PyProof.Rows.boot_len | exact boot_len | decide +kernel) (am_cons (pm_var 1) am_nil)) am_nil)))))
theorem ok__law_codes (T : Txt K mg A) : FnG P w K mg base CX0 3 A.a__law_codes A.d__law_codes P__law_codes fun vs H Q _ => spM K 2 (fnM 2 6 b__law_codes) vs H Q E0 :=
  fn_m T.F__law_codes.F sc__law_codes rfl rfl fun cdv A outer s H E hr => 
  sm_cons (sm_set sc__law_codes.nd rfl (.inl rfl) (pm_call (ok__law_draw T) (hr.mono (by decide)) (by rfl) T.F__law_draw.mg T.F__law_draw.kp T.F__law_draw.bi (am_cons (pm_var 0) (am_cons pm_int am_nil)))) (
  sm_cons (sm_set sc__law_codes.nd rfl (.inl rfl) (pm_new am_nil)) (
  sm_cons (sm_for PassesOwn.never rfl (im_range2 (by rfl) T.n_range (am_cons pm_int (am_cons (pm_var 1) am_nil))) (gm_name sc__law_codes.nd rfl (.inl rfl)) (
  sm_cons (sm_set sc__law_codes.nd rfl (.inl rfl) (pm_lst (am_cons pm_int (am_cons (pm_bin o_sub (pm_bin o_mul pm_int (pm_var 4)) pm_int) (am_cons (pm_cb (c_max2 rfl) (by rfl) T.n_max (by first | exact PySem.boot_max | exact PyProof.Rows.boot_max | exact boot_max | decide +kernel) (am_cons pm_int (am_cons (pm_bin o_sub (pm_bin o_mul pm_int (pm_var 4)) pm_int) am_nil))) (am_cons (pm_bin o_sub (pm_var 4) pm_int) am_nil)))))) (
  sm_one (sm_expr (pm_mt PySem.F.plainAttrs_list PySem.F.slot_list_append PySem.F.type_list_append t_append isL_ok (pm_var 3) (am_cons (pm_if (qm_cmp o_lt (pm_var 2) pm_int) (pm_call (ok__law_draw T) (hr.mono (by decide)) (by rfl) T.F__law_draw.mg T.F__law_draw.kp T.F__law_draw.bi (am_cons (pm_var 0) (am_cons (pm_bin o_sub (pm_bin o_mul pm_int (pm_var 4)) pm_int) am_nil))) (pm_if (qm_cmp o_lt (pm_var 2) pm_int) (pm_ix (pm_var 5) (pm_bin o_sub (pm_var 2) pm_int)) (pm_call (ok__law_one T) hr (by rfl) T.F__law_one.mg T.F__law_one.kp T.F__law_one.bi (am_cons (pm_var 0) (am_cons (pm_var 5) am_nil))))) am_nil)))))) (
  sm_one (sm_ret (pm_var 3)))))
theorem ok__law_name (T : Txt K mg A) : FnG P w K mg base CX0 1 A.a__law_name A.d__law_name P__law_name fun vs H Q _ => spM K 2 (fnM 2 2 b__law_name) vs H Q E0 :=
  fn_m T.F__law_name.F sc__law_name rfl rfl fun cdv A outer s H E hr => 
  sm_one (sm_ret (pm_if (qm_val (pm_cb c_isi (by rfl) T.n_isinstance (by first | exact PySem.boot_isinstance | exact PyProof.Rows.boot_isinstance | exact boot_isinstance | decide +kernel) (am_cons (pm_var 0) (am_cons (pm_bltn (by rfl) T.n_int (by first | exact PySem.boot_int | exact PyProof.Rows.boot_int | exact boot_int | decide +kernel)) am_nil)))) (pm_var 0) (pm_bin o_add (pm_var 1) (pm_ix (pm_var 0) pm_int))))
theorem ok__law_nodes (T : Txt K mg A) : ∀ d : Nat, FnG P w K mg base CX0 (2 + d) A.a__law_nodes A.d__law_nodes P__law_nodes fun vs H Q _ => spM K 2 (fnM 2 3 (b__law_nodes d)) vs H Q E0
  | 0 => fnG_bad rfl
  | d + 1 => fn_m T.F__law_nodes.F sc__law_nodes rfl rfl fun cdv A outer s H E hr => 
  sm_cons (sm_if (qm_val (pm_cb c_isi (by rfl) T.n_isinstance (by first | exact PySem.boot_isinstance | exact PyProof.Rows.boot_isinstance | exact boot_isinstance | decide +kernel) (am_cons (pm_var 0) (am_cons (pm_bltn (by rfl) T.n_int (by first | exact PySem.boot_int | exact PyProof.Rows.boot_int | exact boot_int | decide +kernel)) am_nil)))) (
  sm_one (sm_ret (pm_lst am_nil))) (
  sm_nil)) (
  sm_cons (sm_set sc__law_nodes.nd rfl (.inl rfl) (pm_lst (am_cons (pm_tup (am_cons (pm_bin o_add (pm_var 1) (pm_ix (pm_var 0) pm_int)) (am_cons (pm_call (ok__law_name T) (hr.mono (Nat.le_trans (show 1 ≤ 2 by decide) (Nat.le_add_right 2 d))) (by rfl) T.F__law_name.mg T.F__law_name.kp T.F__law_name.bi (am_cons (pm_ix (pm_var 0) pm_int) (am_cons (pm_var 1) am_nil))) (am_cons (pm_call (ok__law_name T) (hr.mono (Nat.le_trans (show 1 ≤ 2 by decide) (Nat.le_add_right 2 d))) (by rfl) T.F__law_name.mg T.F__law_name.kp T.F__law_name.bi (am_cons (pm_ix (pm_var 0) pm_int) (am_cons (pm_var 1) am_nil))) am_nil)))) am_nil))) (
  sm_one (sm_ret (pm_bin o_add (pm_bin o_add (pm_call (ok__law_nodes T d) hr (by rfl) T.F__law_nodes.mg T.F__law_nodes.kp T.F__law_nodes.bi (am_cons (pm_ix (pm_var 0) pm_int) (am_cons (pm_var 1) am_nil))) (pm_call (ok__law_nodes T d) hr (by rfl) T.F__law_nodes.mg T.F__law_nodes.kp T.F__law_nodes.bi (am_cons (pm_ix (pm_var 0) pm_int) (am_cons (pm_var 1) am_nil)))) (pm_var 2)))))
theorem ok__law_program (T : Txt K mg A) : FnG P w K mg base CX0 17 A.a__law_program A.d__law_program P__law_program fun vs H Q _ => spM K 3 (fnM 3 10 b__law_program) vs H Q E0 :=
  fn_m T.F__law_program.F sc__law_program rfl rfl fun cdv A outer s H E hr => 
  sm_cons (sm_unp (pm_tup (am_cons (pm_call (ok__law_nodes T 14) hr (by rfl) T.F__law_nodes.mg T.F__law_nodes.kp T.F__law_nodes.bi (am_cons (pm_var 2) (am_cons (pm_var 1) am_nil))) (am_cons (pm_binN o_addN (pm_listR1 rfl (by rfl) T.n_list (by rfl) T.n_range (am_cons (pm_var 1) am_nil)) (pm_bin o_mul (pm_lst (am_cons (pm_un o_neg pm_int) am_nil)) (pm_var 1))) (am_cons (pm_new am_nil) am_nil)))) (gm_tup rfl (gms_cons (gm_name sc__law_program.nd rfl (.inl rfl)) (gms_cons (gm_name sc__law_program.nd rfl (.inr rfl)) (gms_cons (gm_name sc__law_program.nd rfl (.inl rfl)) gms_nil))))) (
  sm_cons (sm_while 14 PassesOwn.never (qm_cmp (o_ne hr.u64) (pm_var 3) (pm_lst am_nil)) (
  sm_cons (sm_comp (own := [("_law_node", 7)]) rfl sc__law_program.nd rfl rfl (sw_true rfl rfl rfl (by decide +kernel)) (im_seq (pm_var 3)) (blkOk_by (N := N__law_program) (sc := defScope s__law_program) (by decide +kernel)) (fun _ _ _ _ _ => gm_name sc__law_program.nd rfl (.inl rfl)) (fun _ _ _ _ _ => qms_one (qm_w (qm_and (qm_cmp o_ge (pm_ix (pm_var 4) (pm_ix (pm_var 7) pm_int)) pm_int) (qm_and1 (qm_cmp o_ge (pm_ix (pm_var 4) (pm_ix (pm_var 7) pm_int)) pm_int))))) (fun _ _ _ _ _ => pm_var 7)) (
  sm_cons (sm_set sc__law_program.nd rfl (.inr rfl) (pm_call (ok__law_one T) (hr.mono (by decide)) (by rfl) T.F__law_one.mg T.F__law_one.kp T.F__law_one.bi (am_cons (pm_var 0) (am_cons (pm_var 6) am_nil)))) (
  sm_cons (sm_set sc__law_program.nd rfl (.inl rfl) (pm_lst (am_cons (pm_ix (pm_var 4) (pm_ix (pm_var 7) pm_int)) (am_cons (pm_ix (pm_var 4) (pm_ix (pm_var 7) pm_int)) am_nil)))) (
  sm_cons (sm_if (qm_cmp (o_eq hr.u64) (pm_call (ok__law_draw T) (hr.mono (by decide)) (by rfl) T.F__law_draw.mg T.F__law_draw.kp T.F__law_draw.bi (am_cons (pm_var 0) (am_cons pm_int am_nil))) pm_int) (
  sm_one (sm_set sc__law_program.nd rfl (.inl rfl) (pm_sl3 (pm_var 8) po_n po_n (po_s (pm_un o_neg pm_int))))) (
  sm_nil)) (
  sm_cons (sm_expr (pm_mt PySem.F.plainAttrs_list PySem.F.slot_list_append PySem.F.type_list_append t_append isL_ok (pm_var 5) (am_cons (pm_tup (am_cons pm_str (am_cons (pm_tup (am_cons (pm_tup (am_cons pm_int (am_cons (pm_tup (am_cons (pm_ix (pm_var 8) pm_int) am_nil)) am_nil))) (am_cons (pm_tup (am_cons pm_int (am_cons (pm_tup (am_cons (pm_ix (pm_var 8) pm_int) am_nil)) am_nil))) am_nil))) am_nil))) am_nil))) (
  sm_cons (sm_item (pm_bin o_sub (pm_bin o_add (pm_var 1) (pm_cb c_len (by rfl) T.n_len (by first | exact PySem.boot_len | exact PyProof.Rows.boot_len | exact boot_len | decide +kernel) (am_cons (pm_var 5) am_nil))) pm_int) (pm_var 4) (pm_ix (pm_var 7) pm_int)) (
  sm_one (sm_comp (own := [("_law_other", 9)]) rfl sc__law_program.nd rfl rfl (sw_true rfl rfl rfl (by decide +kernel)) (im_seq (pm_var 3)) (blkOk_by (N := N__law_program) (sc := defScope s__law_program) (by decide +kernel)) (fun _ _ _ _ _ => gm_name sc__law_program.nd rfl (.inl rfl)) (fun _ _ _ _ _ => qms_one (qm_cmp (o_ne hr.u64) (pm_var 9) (pm_var 7))) (fun _ _ _ _ _ => pm_var 9)))))))))) (
  sm_one (sm_ret (pm_tup (am_cons (pm_var 1) (am_cons (pm_cty c_tuple (by rfl) T.n_tuple (by first | exact PySem.boot_tuple | exact PyProof.Rows.boot_tuple | exact boot_tuple | decide +kernel) (am_cons (pm_var 5) am_nil)) (am_cons (pm_tup (am_cons (pm_bin o_sub (pm_bin o_add (pm_var 1) (pm_cb c_len (by rfl) T.n_len (by first | exact PySem.boot_len | exact PyProof.Rows.boot_len | exact boot_len | decide +kernel) (am_cons (pm_var 5) am_nil))) pm_int) am_nil)) am_nil)))))))
theorem ok_sides_of (T : Txt K mg A) : FnG P w K mg base CX0 1 A.a_sides_of A.d_sides_of P_sides_of fun vs H Q _ => spM K 1 (fnM 1 7 b_sides_of) vs H Q E0 :=
  fn_m T.F_sides_of.F sc_sides_of rfl rfl fun cdv A outer s H E hr => 
  sm_cons (sm_unp (pm_var 0) (gm_tup rfl (gms_cons (gm_name sc_sides_of.nd rfl (.inr rfl)) (gms_cons (gm_name sc_sides_of.nd rfl (.inl rfl)) (gms_cons (gm_name sc_sides_of.nd rfl (.inl rfl)) gms_nil))))) (
  sm_one (sm_ret (pm_dcompN (own := [("index", 4), ("word", 5), ("terms", 6)]) rfl sc_sides_of.nd (im_enumT (by rfl) T.n_enumerate (am_cons (pm_var 2) am_nil)) (blkOk_by (N := N_sides_of) (sc := defScope s_sides_of) (by decide +kernel)) (fun _ _ _ _ _ => gm_tup rfl (gms_cons (gm_name sc_sides_of.nd rfl (.inl rfl)) (gms_cons (gm_tup rfl (gms_cons (gm_name sc_sides_of.nd rfl (.inl rfl)) (gms_cons (gm_name sc_sides_of.nd rfl (.inl rfl)) gms_nil))) gms_nil))) (fun _ _ _ _ _ => qms_nil) (fun _ _ _ _ _ => pm_bin o_add (pm_var 1) (pm_var 4)) (fun _ _ _ _ _ => pm_lst (am_cons (pm_ix (pm_ix (pm_ix (pm_var 6) pm_int) pm_int) pm_int) (am_cons (pm_ix (pm_ix (pm_ix (pm_var 6) pm_int) pm_int) pm_int) am_nil))))))
theorem ok_users_of (T : Txt K mg A) : FnG P w K mg base CX0 1 A.a_users_of A.d_users_of P_users_of fun vs H Q _ => spM K 1 (fnM 1 4 b_users_of) vs H Q E0 :=
  fn_m T.F_users_of.F sc_users_of rfl rfl fun cdv A outer s H E hr => 
  sm_cons (sm_set sc_users_of.nd rfl (.inl rfl) pm_dnew) (
  sm_cons (sm_lock (j := 0) (sm_for PassesOwn.never rfl (im_keys (pm_var 0)) (gm_name sc_users_of.nd rfl (.inl rfl)) (
  sm_one (sm_for PassesOwn.never rfl (im_seq (pm_dget hr.u64 (pm_var 0) (pm_var 2))) (gm_name sc_users_of.nd rfl (.inl rfl)) (
  sm_one (sm_dset hr.u64 (pm_var 2) (pm_var 1) (pm_var 3))))))) (
  sm_one (sm_ret (pm_var 1))))
theorem ok_other_side (T : Txt K mg A) : FnG P w K mg base CX0 1 A.a_other_side A.d_other_side P_other_side fun vs H Q _ => spM K 2 (fnM 2 2 b_other_side) vs H Q E0 :=
  fn_m T.F_other_side.F sc_other_side rfl rfl fun cdv A outer s H E hr => 
  sm_one (sm_ret (pm_if (qm_cmp (o_eq hr.u64) (pm_ix (pm_var 0) pm_int) (pm_var 1)) (pm_ix (pm_var 0) pm_int) (pm_ix (pm_var 0) pm_int)))
theorem ok_replace_side (T : Txt K mg A) : FnG P w K mg base CX0 2 A.a_replace_side A.d_replace_side P_replace_side fun vs H Q _ => spM K 4 (fnM 4 5 b_replace_side) vs H Q E0 :=
  fn_m T.F_replace_side.F sc_replace_side rfl rfl fun cdv A outer s H E hr => 
  sm_cons (sm_dset hr.u64 pm_non (pm_var 1) (pm_var 3)) (
  sm_one (sm_if (qm_cmp o_notN (pm_dget2 hr.u64 (pm_var 1) (pm_var 2) pm_non) pm_non) (
  sm_cons (sm_set sc_replace_side.nd rfl (.inl rfl) (pm_dget hr.u64 (pm_var 1) (pm_var 2))) (
  sm_cons (sm_dset hr.u64 (pm_lst (am_cons (pm_var 3) (am_cons (pm_call (ok_other_side T) hr (by rfl) T.F_other_side.mg T.F_other_side.kp T.F_other_side.bi (am_cons (pm_dget hr.u64 (pm_var 0) (pm_var 4)) (am_cons (pm_var 2) am_nil))) am_nil))) (pm_var 0) (pm_var 4)) (
  sm_one (sm_dset hr.u64 (pm_var 4) (pm_var 1) (pm_var 3))))) (
  sm_nil)))
theorem ok_tree_number (T : Txt K mg A) : FnG P w K mg base CX0 3 A.a_tree_number A.d_tree_number P_tree_number fun vs H Q _ => spM K 1 (fnM 1 11 b_tree_number) vs H Q E0 :=
  fn_m T.F_tree_number.F sc_tree_number rfl rfl fun cdv A outer s H E hr => 
  sm_cons (sm_set sc_tree_number.nd rfl (.inl rfl) (pm_ix (pm_var 0) pm_int)) (
  sm_cons (sm_set sc_tree_number.nd rfl (.inl rfl) (pm_call (ok_sides_of T) (hr.mono (by decide)) (by rfl) T.F_sides_of.mg T.F_sides_of.kp T.F_sides_of.bi (am_cons (pm_var 0) am_nil))) (
  sm_cons (sm_set sc_tree_number.nd rfl (.inl rfl) (pm_call (ok_users_of T) (hr.mono (by decide)) (by rfl) T.F_users_of.mg T.F_users_of.kp T.F_users_of.bi (am_cons (pm_var 2) am_nil))) (
  sm_cons (sm_par rfl sc_tree_number.nd rfl rfl (by decide) rfl rfl (am_cons pm_dnew (am_cons (pm_binN o_mulN (pm_lst (am_cons pm_int am_nil)) (pm_var 1)) am_nil)) (by rfl)) (
  sm_cons (sm_for PassesOwn.never rfl (im_range3 (by rfl) T.n_range (am_cons (pm_bin o_sub (pm_var 1) pm_int) (am_cons pm_int (am_cons (pm_un o_neg pm_int) am_nil)))) (gm_name sc_tree_number.nd rfl (.inl rfl)) (
  sm_cons (sm_set sc_tree_number.nd rfl (.inl rfl) (pm_dget hr.u64 (pm_var 3) (pm_var 6))) (
  sm_cons (sm_item (pm_call (ok_other_side T) (hr.mono (by decide)) (by rfl) T.F_other_side.mg T.F_other_side.kp T.F_other_side.bi (am_cons (pm_dget hr.u64 (pm_var 2) (pm_var 7)) (am_cons (pm_var 6) am_nil))) (pm_var 5) (pm_var 6)) (
  sm_cons (sm_dset hr.u64 (pm_var 6) (pm_var 4) (pm_var 7)) (
  sm_one (sm_expr (pm_call (ok_replace_side T) hr (by rfl) T.F_replace_side.mg T.F_replace_side.kp T.F_replace_side.bi (am_cons (pm_var 2) (am_cons (pm_var 3) (am_cons (pm_var 7) (am_cons (pm_ix (pm_var 5) (pm_var 6)) am_nil))))))))))) (
  sm_cons (sm_set sc_tree_number.nd rfl (.inl rfl) pm_int) (
  sm_cons (sm_for PassesOwn.never rfl (im_range2 (by rfl) T.n_range (am_cons pm_int (am_cons (pm_var 1) am_nil))) (gm_name sc_tree_number.nd rfl (.inl rfl)) (
  sm_cons (sm_set sc_tree_number.nd rfl (.inl rfl) (pm_ix (pm_var 5) (pm_var 6))) (
  sm_cons (sm_set sc_tree_number.nd rfl (.inl rfl) (pm_if (qm_cmp o_lt (pm_var 9) (pm_var 1)) (pm_var 9) (pm_bin o_add (pm_bin o_sub (pm_var 6) pm_int) (pm_dget hr.u64 (pm_var 4) (pm_var 9))))) (
  sm_one (sm_set sc_tree_number.nd rfl (.inl rfl) (pm_bin o_add (pm_bin o_mul (pm_var 8) (pm_bin o_sub (pm_bin o_mul pm_int (pm_var 6)) pm_int)) (pm_var 10))))))) (
  sm_one (sm_ret (pm_var 8)))))))))
theorem ok__law_sides (T : Txt K mg A) : FnG P w K mg base CX0 1 A.a__law_sides A.d__law_sides P__law_sides fun vs H Q _ => spM K 2 (fnM 2 6 b__law_sides) vs H Q E0 :=
  fn_m T.F__law_sides.F sc__law_sides rfl rfl fun cdv A outer s H E hr => 
  sm_cons (sm_if (qm_w (qm_or (qm_not (qm_val (pm_cb c_isi (by rfl) T.n_isinstance (by first | exact PySem.boot_isinstance | exact PyProof.Rows.boot_isinstance | exact boot_isinstance | decide +kernel) (am_cons (pm_var 0) (am_cons (pm_bltn (by rfl) T.n_tuple (by first | exact PySem.boot_tuple | exact PyProof.Rows.boot_tuple | exact boot_tuple | decide +kernel)) am_nil))))) (qm_or (qm_cmp (o_ne hr.u64) (pm_cb c_len (by rfl) T.n_len (by first | exact PySem.boot_len | exact PyProof.Rows.boot_len | exact boot_len | decide +kernel) (am_cons (pm_var 0) am_nil)) pm_int) (qm_or (qm_not (qm_val (pm_cb c_isi (by rfl) T.n_isinstance (by first | exact PySem.boot_isinstance | exact PyProof.Rows.boot_isinstance | exact boot_isinstance | decide +kernel) (am_cons (pm_ix (pm_var 0) pm_int) (am_cons (pm_bltn (by rfl) T.n_tuple (by first | exact PySem.boot_tuple | exact PyProof.Rows.boot_tuple | exact boot_tuple | decide +kernel)) am_nil))))) (qm_or1 (qm_cmp (o_ne hr.u64) (pm_cb c_len (by rfl) T.n_len (by first | exact PySem.boot_len | exact PyProof.Rows.boot_len | exact boot_len | decide +kernel) (am_cons (pm_ix (pm_var 0) pm_int) am_nil)) pm_int)))))) (
  sm_one (sm_ret pm_non)) (
  sm_nil)) (
  sm_cons (sm_set sc__law_sides.nd rfl (.inl rfl) (pm_new am_nil)) (
  sm_cons (sm_for PassesOwn.never rfl (im_seq (pm_ix (pm_var 0) pm_int)) (gm_name sc__law_sides.nd rfl (.inl rfl)) (
  sm_cons (sm_if (qm_w (qm_or (qm_not (qm_val (pm_cb c_isi (by rfl) T.n_isinstance (by first | exact PySem.boot_isinstance | exact PyProof.Rows.boot_isinstance | exact boot_isinstance | decide +kernel) (am_cons (pm_var 3) (am_cons (pm_bltn (by rfl) T.n_tuple (by first | exact PySem.boot_tuple | exact PyProof.Rows.boot_tuple | exact boot_tuple | decide +kernel)) am_nil))))) (qm_or (qm_cmp (o_ne hr.u64) (pm_cb c_len (by rfl) T.n_len (by first | exact PySem.boot_len | exact PyProof.Rows.boot_len | exact boot_len | decide +kernel) (am_cons (pm_var 3) am_nil)) pm_int) (qm_or (qm_not (qm_val (pm_cb c_isi (by rfl) T.n_isinstance (by first | exact PySem.boot_isinstance | exact PyProof.Rows.boot_isinstance | exact boot_isinstance | decide +kernel) (am_cons (pm_ix (pm_var 3) pm_int) (am_cons (pm_bltn (by rfl) T.n_tuple (by first | exact PySem.boot_tuple | exact PyProof.Rows.boot_tuple | exact boot_tuple | decide +kernel)) am_nil))))) (qm_or1 (qm_cmp (o_ne hr.u64) (pm_cb c_len (by rfl) T.n_len (by first | exact PySem.boot_len | exact PyProof.Rows.boot_len | exact boot_len | decide +kernel) (am_cons (pm_ix (pm_var 3) pm_int) am_nil)) pm_int)))))) (
  sm_one (sm_ret pm_non)) (
  sm_nil)) (
  sm_one (sm_expr (pm_mt PySem.F.plainAttrs_list PySem.F.slot_list_append PySem.F.type_list_append t_append isL_ok (pm_var 2) (am_cons (pm_ix (pm_ix (pm_var 3) pm_int) pm_int) am_nil)))))) (
  sm_cons (sm_if (qm_cmp (o_ne hr.u64) (pm_comp (own := [("_law_place", 4)]) rfl sc__law_sides.nd (im_seq (pm_var 2)) (blkOk_by (N := N__law_sides) (sc := defScope s__law_sides) (by decide +kernel)) (fun _ _ _ _ _ => gm_name sc__law_sides.nd rfl (.inl rfl)) (fun _ _ _ _ _ => qms_one (qm_w (qm_or (qm_not (qm_val (pm_cb c_isi (by rfl) T.n_isinstance (by first | exact PySem.boot_isinstance | exact PyProof.Rows.boot_isinstance | exact boot_isinstance | decide +kernel) (am_cons (pm_var 4) (am_cons (pm_bltn (by rfl) T.n_int (by first | exact PySem.boot_int | exact PyProof.Rows.boot_int | exact boot_int | decide +kernel)) am_nil))))) (qm_or1 (qm_val (pm_cb c_isi (by rfl) T.n_isinstance (by first | exact PySem.boot_isinstance | exact PyProof.Rows.boot_isinstance | exact boot_isinstance | decide +kernel) (am_cons (pm_var 4) (am_cons (pm_bltn (by rfl) T.n_bool (by first | exact PySem.boot_bool | exact PyProof.Rows.boot_bool | exact boot_bool | decide +kernel)) am_nil)))))))) (fun _ _ _ _ _ => pm_var 4)) (pm_lst am_nil)) (
  sm_one (sm_ret pm_non)) (
  sm_nil)) (
  sm_cons (sm_if (qm_cmp (o_ne hr.u64) (pm_comp (own := [("_law_place", 4)]) rfl sc__law_sides.nd (im_seq (pm_var 2)) (blkOk_by (N := N__law_sides) (sc := defScope s__law_sides) (by decide +kernel)) (fun _ _ _ _ _ => gm_name sc__law_sides.nd rfl (.inl rfl)) (fun _ _ _ _ _ => qms_one (qm_w (qm_or (qm_cmp o_lt (pm_var 4) pm_int) (qm_or1 (qm_cmp o_ge (pm_var 4) (pm_var 1)))))) (fun _ _ _ _ _ => pm_var 4)) (pm_lst am_nil)) (
  sm_one (sm_ret pm_non)) (
  sm_nil)) (
  sm_cons (sm_set sc__law_sides.nd rfl (.inl rfl) (pm_tup (am_cons pm_str (am_cons (pm_tup (am_cons (pm_tup (am_cons pm_int (am_cons (pm_tup (am_cons (pm_ix (pm_var 2) pm_int) am_nil)) am_nil))) (am_cons (pm_tup (am_cons pm_int (am_cons (pm_tup (am_cons (pm_ix (pm_var 2) pm_int) am_nil)) am_nil))) am_nil))) am_nil)))) (
  sm_one (sm_ret (pm_if (qm_reprEq (qm_cmp (o_eq hr.u64) (pm_cb (c_repr hr.g hr.u100) (by rfl) T.n_repr (by first | exact PySem.boot_repr | exact PyProof.Rows.boot_repr | exact boot_repr | decide +kernel) (am_cons (pm_var 0) am_nil)) (pm_cb (c_repr hr.g hr.u100) (by rfl) T.n_repr (by first | exact PySem.boot_repr | exact PyProof.Rows.boot_repr | exact boot_repr | decide +kernel) (am_cons (pm_var 5) am_nil)))) (pm_var 2) pm_non))))))))
theorem ok__law_join (T : Txt K mg A) : FnG P w K mg base CX0 1 A.a__law_join A.d__law_join P__law_join fun vs H Q _ => spM K 2 (fnM 2 2 b__law_join) vs H Q E0 :=
  fn_m T.F__law_join.F sc__law_join rfl rfl fun cdv A outer s H E hr => 
  sm_one (sm_ret (pm_bin o_add (pm_bin o_add pm_str (pm_mt PySem.F.plainAttrs_str PySem.F.slot_str_join PySem.F.type_str_join t_join isS_ok pm_str (am_cons (pm_cb c_sorted (by rfl) T.n_sorted (by first | exact PySem.boot_sorted | exact PyProof.Rows.boot_sorted | exact boot_sorted | decide +kernel) (am_cons (pm_lst (am_cons (pm_var 0) (am_cons (pm_var 1) am_nil))) am_nil)) am_nil))) pm_str))
theorem ok__law_shape (T : Txt K mg A) : FnG P w K mg base CX0 2 A.a__law_shape A.d__law_shape P__law_shape fun vs H Q _ => spM K 2 (fnM 2 7 b__law_shape) vs H Q E0 :=
  fn_m T.F__law_shape.F sc__law_shape rfl rfl fun cdv A outer s H E hr => 
  sm_cons (sm_if (qm_w (qm_or (qm_not (qm_val (pm_cb c_isi (by rfl) T.n_isinstance (by first | exact PySem.boot_isinstance | exact PyProof.Rows.boot_isinstance | exact boot_isinstance | decide +kernel) (am_cons (pm_var 0) (am_cons (pm_bltn (by rfl) T.n_tuple (by first | exact PySem.boot_tuple | exact PyProof.Rows.boot_tuple | exact boot_tuple | decide +kernel)) am_nil))))) (qm_or (qm_cmp (o_ne hr.u64) (pm_cb c_len (by rfl) T.n_len (by first | exact PySem.boot_len | exact PyProof.Rows.boot_len | exact boot_len | decide +kernel) (am_cons (pm_var 0) am_nil)) pm_int) (qm_or1 (qm_not (qm_val (pm_cb c_isi (by rfl) T.n_isinstance (by first | exact PySem.boot_isinstance | exact PyProof.Rows.boot_isinstance | exact boot_isinstance | decide +kernel) (am_cons (pm_ix (pm_var 0) pm_int) (am_cons (pm_bltn (by rfl) T.n_tuple (by first | exact PySem.boot_tuple | exact PyProof.Rows.boot_tuple | exact boot_tuple | decide +kernel)) am_nil))))))))) (
  sm_one (sm_ret pm_str)) (
  sm_nil)) (
  sm_cons (sm_if (qm_w (qm_or (qm_reprNe (qm_cmp (o_ne hr.u64) (pm_cb (c_repr hr.g hr.u100) (by rfl) T.n_repr (by first | exact PySem.boot_repr | exact PyProof.Rows.boot_repr | exact boot_repr | decide +kernel) (am_cons (pm_ix (pm_var 0) pm_int) am_nil)) (pm_cb (c_repr hr.g hr.u100) (by rfl) T.n_repr (by first | exact PySem.boot_repr | exact PyProof.Rows.boot_repr | exact boot_repr | decide +kernel) (am_cons (pm_var 1) am_nil)))) (qm_or (qm_cmp (o_ne hr.u64) (pm_cb c_len (by rfl) T.n_len (by first | exact PySem.boot_len | exact PyProof.Rows.boot_len | exact boot_len | decide +kernel) (am_cons (pm_ix (pm_var 0) pm_int) am_nil)) (pm_bin o_sub (pm_var 1) pm_int)) (qm_or1 (qm_reprNe (qm_cmp (o_ne hr.u64) (pm_cb (c_repr hr.g hr.u100) (by rfl) T.n_repr (by first | exact PySem.boot_repr | exact PyProof.Rows.boot_repr | exact boot_repr | decide +kernel) (am_cons (pm_ix (pm_var 0) pm_int) am_nil)) (pm_cb (c_repr hr.g hr.u100) (by rfl) T.n_repr (by first | exact PySem.boot_repr | exact PyProof.Rows.boot_repr | exact boot_repr | decide +kernel) (am_cons (pm_tup (am_cons (pm_bin o_sub (pm_bin o_mul pm_int (pm_var 1)) pm_int) am_nil)) am_nil)))))))) (
  sm_one (sm_ret pm_str)) (
  sm_nil)) (
  sm_cons (sm_par rfl sc__law_shape.nd rfl rfl (by decide) rfl rfl (am_cons (pm_compN (own := [("_law_k", 4)]) rfl sc__law_shape.nd (im_range1 (by rfl) T.n_range (am_cons (pm_var 1) am_nil)) (blkOk_by (N := N__law_shape) (sc := defScope s__law_shape) (by decide +kernel)) (fun _ _ _ _ _ => gm_name sc__law_shape.nd rfl (.inl rfl)) (fun _ _ _ _ _ => qms_nil) (fun _ _ _ _ _ => pm_cty c_str (by rfl) T.n_str (by first | exact PySem.boot_str | exact PyProof.Rows.boot_str | exact boot_str | decide +kernel) (am_cons (pm_var 4) am_nil))) (am_cons (pm_lst am_nil) am_nil)) (by rfl)) (
  sm_cons (sm_for PassesOwn.never rfl (im_seq (pm_ix (pm_var 0) pm_int)) (gm_name sc__law_shape.nd rfl (.inl rfl)) (
  sm_cons (sm_set sc__law_shape.nd rfl (.inl rfl) (pm_call (ok__law_sides T) hr (by rfl) T.F__law_sides.mg T.F__law_sides.kp T.F__law_sides.bi (am_cons (pm_var 5) (am_cons (pm_cb c_len (by rfl) T.n_len (by first | exact PySem.boot_len | exact PyProof.Rows.boot_len | exact boot_len | decide +kernel) (am_cons (pm_var 2) am_nil)) am_nil)))) (
  sm_cons (sm_if (qm_cmp o_isN (pm_var 6) pm_non) (
  sm_one (sm_ret pm_str)) (
  sm_nil)) (
  sm_cons (sm_set sc__law_shape.nd rfl (.inl rfl) (pm_bin o_add (pm_var 3) (pm_var 6))) (
  sm_one (sm_expr (pm_mt PySem.F.plainAttrs_list PySem.F.slot_list_append PySem.F.type_list_append t_append isL_ok (pm_var 2) (am_cons (pm_callP (ok__law_join T) hr (by rfl) T.F__law_join.mg T.F__law_join.kp T.F__law_join.bi (am_cons (pm_ix (pm_var 2) (pm_ix (pm_var 6) pm_int)) (am_cons (pm_ix (pm_var 2) (pm_ix (pm_var 6) pm_int)) am_nil))) am_nil)))))))) (
  sm_one (sm_ret (pm_if (qm_cmp (o_eq hr.u64) (pm_cb c_sorted (by rfl) T.n_sorted (by first | exact PySem.boot_sorted | exact PyProof.Rows.boot_sorted | exact boot_sorted | decide +kernel) (am_cons (pm_var 3) am_nil)) (pm_listR1 rfl (by rfl) T.n_list (by rfl) T.n_range (am_cons (pm_bin o_sub (pm_bin o_mul pm_int (pm_var 1)) pm_int) am_nil))) (pm_ix (pm_var 2) (pm_un o_neg pm_int)) pm_str))))))
theorem ok_codes_of (T : Txt K mg A) : FnG P w K mg base CX0 1 A.a_codes_of A.d_codes_of P_codes_of fun vs H Q _ => spM K 2 (fnM 2 4 b_codes_of) vs H Q E0 :=
  fn_m T.F_codes_of.F sc_codes_of rfl rfl fun cdv A outer s H E hr => 
  sm_cons (sm_set sc_codes_of.nd rfl (.inl rfl) (pm_new am_nil)) (
  sm_cons (sm_for PassesOwn.never rfl (im_range3 (by rfl) T.n_range (am_cons (pm_bin o_sub (pm_var 0) pm_int) (am_cons pm_int (am_cons (pm_un o_neg pm_int) am_nil)))) (gm_name sc_codes_of.nd rfl (.inl rfl)) (
  sm_cons (sm_expr (pm_mt PySem.F.plainAttrs_list PySem.F.slot_list_append PySem.F.type_list_append t_append isL_ok (pm_var 2) (am_cons (pm_bin o_mod (pm_var 1) (pm_bin o_sub (pm_bin o_mul pm_int (pm_var 3)) pm_int)) am_nil))) (
  sm_one (sm_set sc_codes_of.nd rfl (.inl rfl) (pm_bin o_div (pm_var 1) (pm_bin o_sub (pm_bin o_mul pm_int (pm_var 3)) pm_int)))))) (
  sm_one (sm_ret (pm_sl3 (pm_var 2) po_n po_n (po_s (pm_un o_neg pm_int))))))
theorem ok_sides_by (T : Txt K mg A) : FnG P w K mg base CX0 2 A.a_sides_by A.d_sides_by P_sides_by fun vs H Q _ => spM K 2 (fnM 2 10 b_sides_by) vs H Q E0 :=
  fn_m T.F_sides_by.F sc_sides_by rfl rfl fun cdv A outer s H E hr => 
  sm_cons (sm_par rfl sc_sides_by.nd rfl rfl (by decide) rfl rfl (am_cons pm_dnew (am_cons pm_disp1 am_nil)) (by rfl)) (
  sm_cons (sm_for PassesOwn.never rfl (im_enum (by rfl) T.n_enumerate (am_cons (pm_call (ok_codes_of T) hr (by rfl) T.F_codes_of.mg T.F_codes_of.kp T.F_codes_of.bi (am_cons (pm_var 0) (am_cons (pm_var 1) am_nil))) am_nil)) (gm_tup rfl (gms_cons (gm_name sc_sides_by.nd rfl (.inl rfl)) (gms_cons (gm_name sc_sides_by.nd rfl (.inl rfl)) gms_nil))) (
  sm_cons (sm_set sc_sides_by.nd rfl (.inl rfl) (pm_bin o_add (pm_var 4) pm_int)) (
  sm_cons (sm_set sc_sides_by.nd rfl (.inl rfl) (pm_if (qm_cmp o_lt (pm_var 5) (pm_var 6)) (pm_var 5) (pm_bin o_add (pm_bin o_sub (pm_bin o_add (pm_var 0) (pm_var 5)) (pm_var 6)) pm_int))) (
  sm_cons (sm_set sc_sides_by.nd rfl (.inl rfl) (pm_bin o_add (pm_var 0) (pm_var 6))) (
  sm_cons (sm_if (qm_cmp o_notN (pm_dget hr.u64 (pm_var 3) (pm_var 7)) pm_non) (
  sm_cons (sm_set sc_sides_by.nd rfl (.inl rfl) (pm_dget hr.u64 (pm_var 3) (pm_var 7))) (
  sm_one (sm_dset hr.u64 (pm_lst (am_cons (pm_var 8) (am_cons (pm_call (ok_other_side T) hr (by rfl) T.F_other_side.mg T.F_other_side.kp T.F_other_side.bi (am_cons (pm_dget hr.u64 (pm_var 2) (pm_var 9)) (am_cons (pm_var 7) am_nil))) am_nil))) (pm_var 2) (pm_var 9)))) (
  sm_nil)) (
  sm_cons (sm_dset hr.u64 (pm_dget hr.u64 (pm_var 3) (pm_var 7)) (pm_var 3) (pm_var 8)) (
  sm_cons (sm_dset hr.u64 (pm_lst (am_cons (pm_var 7) (am_cons (pm_var 6) am_nil))) (pm_var 2) (pm_var 8)) (
  sm_cons (sm_dset hr.u64 (pm_var 8) (pm_var 3) (pm_var 7)) (
  sm_one (sm_dset hr.u64 (pm_var 8) (pm_var 3) (pm_var 6))))))))))) (
  sm_one (sm_ret (pm_var 2))))
theorem ok_added (T : Txt K mg A) : FnG P w K mg base CX0 1 A.a_added A.d_added P_added fun vs H Q _ => spM K 2 (fnM 2 2 b_added) vs H Q E0 :=
  fn_m T.F_added.F sc_added rfl rfl fun cdv A outer s H E hr => 
  sm_one (sm_ret (pm_tup (am_cons pm_str (am_cons (pm_tup (am_cons (pm_tup (am_cons pm_int (am_cons (pm_tup (am_cons (pm_var 0) am_nil)) am_nil))) (am_cons (pm_tup (am_cons pm_int (am_cons (pm_tup (am_cons (pm_var 1) am_nil)) am_nil))) am_nil))) am_nil))))
theorem ok_sum_of (T : Txt K mg A) : FnG P w K mg base CX0 3 A.a_sum_of A.d_sum_of P_sum_of fun vs H Q _ => spM K 2 (fnM 2 8 b_sum_of) vs H Q E0 :=
  fn_m T.F_sum_of.F sc_sum_of rfl rfl fun cdv A outer s H E hr => 
  sm_cons (sm_set sc_sum_of.nd rfl (.inl rfl) (pm_call (ok_sides_by T) hr (by rfl) T.F_sides_by.mg T.F_sides_by.kp T.F_sides_by.bi (am_cons (pm_var 0) (am_cons (pm_var 1) am_nil)))) (
  sm_cons (sm_set sc_sum_of.nd rfl (.inr rfl) (pm_dcompN (own := [("letter", 4)]) rfl sc_sum_of.nd (im_range1 (by rfl) T.n_range (am_cons (pm_var 0) am_nil)) (blkOk_by (N := N_sum_of) (sc := defScope s_sum_of) (by decide +kernel)) (fun _ _ _ _ _ => gm_name sc_sum_of.nd rfl (.inl rfl)) (fun _ _ _ _ _ => qms_nil) (fun _ _ _ _ _ => pm_var 4) (fun _ _ _ _ _ => pm_var 4))) (
  sm_cons (sm_set sc_sum_of.nd rfl (.inl rfl) (pm_new am_nil)) (
  sm_cons (sm_while 14 PassesOwn.never (qm_cmp o_lt (pm_cb c_len (by rfl) T.n_len (by first | exact PySem.boot_len | exact PyProof.Rows.boot_len | exact boot_len | decide +kernel) (am_cons (pm_var 5) am_nil)) (pm_cb c_lenD (by rfl) T.n_len (by first | exact PySem.boot_len | exact PyProof.Rows.boot_len | exact boot_len | decide +kernel) (am_cons (pm_var 2) am_nil))) (
  sm_one (sm_lock (j := 2) (sm_for PassesOwn.never rfl (im_keys (pm_var 2)) (gm_name sc_sum_of.nd rfl (.inl rfl)) (
  sm_one (sm_if (qm_w (qm_and (qm_dnin hr.u64 (pm_var 6) (pm_var 3)) (qm_and1 (qm_val (pm_cb (c_all rfl) (by rfl) T.n_all (by first | exact PySem.boot_all | exact PyProof.Rows.boot_all | exact boot_all | decide +kernel) (am_cons (pm_comp (own := [("side", 7)]) rfl sc_sum_of.nd (im_seq (pm_dget hr.u64 (pm_var 2) (pm_var 6))) (blkOk_by (N := N_sum_of) (sc := defScope s_sum_of) (by decide +kernel)) (fun _ _ _ _ _ => gm_name sc_sum_of.nd rfl (.inl rfl)) (fun _ _ _ _ _ => qms_nil) (fun _ _ _ _ _ => pm_din hr.u64 (pm_var 7) (pm_var 3))) am_nil)))))) (
  sm_cons (sm_expr (pm_mt PySem.F.plainAttrs_list PySem.F.slot_list_append PySem.F.type_list_append t_append isL_ok (pm_var 5) (am_cons (pm_call (ok_added T) (hr.mono (by decide)) (by rfl) T.F_added.mg T.F_added.kp T.F_added.bi (am_cons (pm_dget hr.u64 (pm_var 3) (pm_ix (pm_dget hr.u64 (pm_var 2) (pm_var 6)) pm_int)) (am_cons (pm_dget hr.u64 (pm_var 3) (pm_ix (pm_dget hr.u64 (pm_var 2) (pm_var 6)) pm_int)) am_nil))) am_nil))) (
  sm_one (sm_dset hr.u64 (pm_bin o_sub (pm_bin o_add (pm_var 0) (pm_cb c_len (by rfl) T.n_len (by first | exact PySem.boot_len | exact PyProof.Rows.boot_len | exact boot_len | decide +kernel) (am_cons (pm_var 5) am_nil))) pm_int) (pm_var 3) (pm_var 6)))) (
  sm_nil))))))) (
  sm_one (sm_ret (pm_tup (am_cons (pm_var 0) (am_cons (pm_cty c_tuple (by rfl) T.n_tuple (by first | exact PySem.boot_tuple | exact PyProof.Rows.boot_tuple | exact boot_tuple | decide +kernel) (am_cons (pm_var 5) am_nil)) (am_cons (pm_tup (am_cons (pm_bin o_sub (pm_bin o_add (pm_var 0) (pm_cb c_len (by rfl) T.n_len (by first | exact PySem.boot_len | exact PyProof.Rows.boot_len | exact boot_len | decide +kernel) (am_cons (pm_var 5) am_nil))) pm_int) am_nil)) am_nil)))))))))
theorem ok__law_put (T : Txt K mg A) : ∀ d : Nat, FnG P w K mg base CX0 (1 + d) A.a__law_put A.d__law_put P__law_put fun vs H Q _ => spM K 3 (fnM 3 4 (b__law_put d)) vs H Q E0
  | 0 => fnG_bad rfl
  | d + 1 => fn_m T.F__law_put.F sc__law_put rfl rfl fun cdv A outer s H E hr => 
  sm_cons (sm_set sc__law_put.nd rfl (.inl rfl) (pm_if (qm_val (pm_cb c_isi (by rfl) T.n_isinstance (by first | exact PySem.boot_isinstance | exact PyProof.Rows.boot_isinstance | exact boot_isinstance | decide +kernel) (am_cons (pm_var 0) (am_cons (pm_bltn (by rfl) T.n_int (by first | exact PySem.boot_int | exact PyProof.Rows.boot_int | exact boot_int | decide +kernel)) am_nil)))) (pm_var 0) (pm_bin o_add (pm_bin o_sub (pm_var 1) pm_int) (pm_ix (pm_var 0) pm_int)))) (
  sm_cons (sm_if (qm_cmp (o_eq hr.u64) (pm_var 3) (pm_var 2)) (
  sm_one (sm_ret (pm_tup (am_cons (pm_var 1) (am_cons (pm_var 0) (am_cons (pm_var 1) am_nil)))))) (
  sm_nil)) (
  sm_cons (sm_if (qm_val (pm_cb c_isi (by rfl) T.n_isinstance (by first | exact PySem.boot_isinstance | exact PyProof.Rows.boot_isinstance | exact boot_isinstance | decide +kernel) (am_cons (pm_var 0) (am_cons (pm_bltn (by rfl) T.n_int (by first | exact PySem.boot_int | exact PyProof.Rows.boot_int | exact boot_int | decide +kernel)) am_nil)))) (
  sm_one (sm_ret (pm_var 0))) (
  sm_nil)) (
  sm_one (sm_ret (pm_tup (am_cons (pm_ix (pm_var 0) pm_int) (am_cons (pm_call (ok__law_put T d) hr (by rfl) T.F__law_put.mg T.F__law_put.kp T.F__law_put.bi (am_cons (pm_ix (pm_var 0) pm_int) (am_cons (pm_var 1) (am_cons (pm_var 2) am_nil)))) (am_cons (pm_call (ok__law_put T d) hr (by rfl) T.F__law_put.mg T.F__law_put.kp T.F__law_put.bi (am_cons (pm_ix (pm_var 0) pm_int) (am_cons (pm_var 1) (am_cons (pm_var 2) am_nil)))) am_nil))))))))
theorem ok__law_tree (T : Txt K mg A) : FnG P w K mg base CX0 16 A.a__law_tree A.d__law_tree P__law_tree fun vs H Q _ => spM K 1 (fnM 1 3 b__law_tree) vs H Q E0 :=
  fn_m T.F__law_tree.F sc__law_tree rfl rfl fun cdv A outer s H E hr => 
  sm_cons (sm_set sc__law_tree.nd rfl (.inl rfl) pm_int) (
  sm_cons (sm_for PassesOwn.never rfl (im_range1 (by rfl) T.n_range (am_cons (pm_cb c_len (by rfl) T.n_len (by first | exact PySem.boot_len | exact PyProof.Rows.boot_len | exact boot_len | decide +kernel) (am_cons (pm_var 0) am_nil)) am_nil)) (gm_name sc__law_tree.nd rfl (.inl rfl)) (
  sm_one (sm_set sc__law_tree.nd rfl (.inl rfl) (pm_call (ok__law_put T 14) hr (by rfl) T.F__law_put.mg T.F__law_put.kp T.F__law_put.bi (am_cons (pm_var 1) (am_cons (pm_bin o_add (pm_var 2) pm_int) (am_cons (pm_ix (pm_var 0) (pm_var 2)) am_nil))))))) (
  sm_one (sm_ret (pm_var 1))))
theorem ok__law_code (T : Txt K mg A) : FnG P w K mg base CX0 1 A.a__law_code A.d__law_code P__law_code fun vs H Q _ => spM K 1 (fnM 1 3 b__law_code) vs H Q E0 :=
  fn_m T.F__law_code.F sc__law_code rfl rfl fun cdv A outer s H E hr => 
  sm_cons (sm_set sc__law_code.nd rfl (.inl rfl) pm_int) (
  sm_cons (sm_for PassesOwn.never rfl (im_range1 (by rfl) T.n_range (am_cons (pm_cb c_len (by rfl) T.n_len (by first | exact PySem.boot_len | exact PyProof.Rows.boot_len | exact boot_len | decide +kernel) (am_cons (pm_var 0) am_nil)) am_nil)) (gm_name sc__law_code.nd rfl (.inl rfl)) (
  sm_one (sm_set sc__law_code.nd rfl (.inl rfl) (pm_bin o_add (pm_bin o_mul (pm_var 1) (pm_bin o_add (pm_bin o_mul pm_int (pm_var 2)) pm_int)) (pm_ix (pm_var 0) (pm_var 2)))))) (
  sm_one (sm_ret (pm_var 1))))
theorem ok_how_many (T : Txt K mg A) : FnG P w K mg base CX0 1 A.a_how_many A.d_how_many P_how_many fun vs H Q _ => spM K 1 (fnM 1 3 b_how_many) vs H Q E0 :=
  fn_m T.F_how_many.F sc_how_many rfl rfl fun cdv A outer s H E hr => 
  sm_cons (sm_set sc_how_many.nd rfl (.inl rfl) pm_int) (
  sm_cons (sm_for PassesOwn.never rfl (im_range2 (by rfl) T.n_range (am_cons pm_int (am_cons (pm_var 0) am_nil))) (gm_name sc_how_many.nd rfl (.inl rfl)) (
  sm_one (sm_set sc_how_many.nd rfl (.inl rfl) (pm_bin o_mul (pm_var 1) (pm_bin o_sub (pm_bin o_mul pm_int (pm_var 2)) pm_int))))) (
  sm_one (sm_ret (pm_var 1))))
theorem ok_law (T : Txt K mg A) : FnG P w K mg base CX0 18 A.a_law A.d_law P_law fun vs H Q _ => spM K 1 (fnM 1 13 b_law) vs H Q E0 :=
  fn_m T.F_law.F sc_law rfl rfl fun cdv A outer s H E hr => 
  sm_cons (sm_set sc_law.nd rfl (.inr rfl) (pm_call (ok__law_feed T) (hr.mono (by decide)) (by rfl) T.F__law_feed.mg T.F__law_feed.kp T.F__law_feed.bi (am_cons (pm_var 0) am_nil))) (
  sm_cons (sm_for PassesOwn.never rfl (im_range1 (by rfl) T.n_range (am_cons pm_int am_nil)) (gm_name sc_law.nd rfl (.inl rfl)) (
  sm_cons (sm_set sc_law.nd rfl (.inr rfl) (pm_bin o_add pm_int (pm_call (ok__law_draw T) (hr.mono (by decide)) (by rfl) T.F__law_draw.mg T.F__law_draw.kp T.F__law_draw.bi (am_cons (pm_var 1) (am_cons pm_int am_nil))))) (
  sm_cons (sm_set sc_law.nd rfl (.inl rfl) (pm_new (am_cons (pm_call (ok__law_codes T) (hr.mono (by decide)) (by rfl) T.F__law_codes.mg T.F__law_codes.kp T.F__law_codes.bi (am_cons (pm_var 1) (am_cons (pm_var 3) am_nil))) (am_cons (pm_lst am_nil) am_nil)))) (
  sm_cons (sm_item (pm_cty c_list (by rfl) T.n_list (by first | exact PySem.boot_list | exact PyProof.Rows.boot_list | exact boot_list | decide +kernel) (am_cons (pm_ix (pm_var 4) pm_int) am_nil)) (pm_var 4) pm_int) (
  sm_cons (sm_if (qm_w (qm_and (qm_cmp o_gt (pm_var 3) pm_int) (qm_and1 (qm_cmp o_gt (pm_call (ok__law_draw T) (hr.mono (by decide)) (by rfl) T.F__law_draw.mg T.F__law_draw.kp T.F__law_draw.bi (am_cons (pm_var 1) (am_cons pm_int am_nil))) pm_int)))) (
  sm_cons (sm_set sc_law.nd rfl (.inl rfl) (pm_call (ok__law_draw T) (hr.mono (by decide)) (by rfl) T.F__law_draw.mg T.F__law_draw.kp T.F__law_draw.bi (am_cons (pm_var 1) (am_cons (pm_bin o_sub (pm_var 3) pm_int) am_nil)))) (
  sm_one (sm_item (pm_bin o_add (pm_bin o_add (pm_sl (pm_ix (pm_var 4) pm_int) po_n (po_s (pm_var 5))) (pm_lst (am_cons (pm_call (ok__law_draw T) (hr.mono (by decide)) (by rfl) T.F__law_draw.mg T.F__law_draw.kp T.F__law_draw.bi (am_cons (pm_var 1) (am_cons (pm_bin o_add (pm_bin o_mul pm_int (pm_var 5)) pm_int) am_nil))) am_nil))) (pm_sl (pm_ix (pm_var 4) pm_int) (po_s (pm_bin o_add (pm_var 5) pm_int)) po_n)) (pm_var 4) pm_int))) (
  sm_nil)) (
  sm_cons (sm_comp (own := [("_law_some", 7)]) rfl sc_law.nd rfl rfl (sw_true rfl rfl rfl (by decide +kernel)) (im_seq (pm_var 4)) (blkOk_by (N := N_law) (sc := defScope s_law) (by decide +kernel)) (fun _ _ _ _ _ => gm_name sc_law.nd rfl (.inl rfl)) (fun _ _ _ _ _ => qms_nil) (fun _ _ _ _ _ => pm_call (ok__law_program T) hr (by rfl) T.F__law_program.mg T.F__law_program.kp T.F__law_program.bi (am_cons (pm_var 1) (am_cons (pm_var 3) (am_cons (pm_call (ok__law_tree T) (hr.mono (by decide)) (by rfl) T.F__law_tree.mg T.F__law_tree.kp T.F__law_tree.bi (am_cons (pm_var 7) am_nil)) am_nil))))) (
  sm_cons (sm_comp (own := [("_law_tree_here", 9)]) rfl sc_law.nd rfl rfl (sw_true rfl rfl rfl (by decide +kernel)) (im_seq (pm_var 6)) (blkOk_by (N := N_law) (sc := defScope s_law) (by decide +kernel)) (fun _ _ _ _ _ => gm_name sc_law.nd rfl (.inl rfl)) (fun _ _ _ _ _ => qms_nil) (fun _ _ _ _ _ => pm_callP (ok_tree_number T) (hr.mono (by decide)) (by rfl) T.F_tree_number.mg T.F_tree_number.kp T.F_tree_number.bi (am_cons (pm_var 9) am_nil))) (
  sm_cons (sm_comp (own := [("_law_tree_here", 9)]) rfl sc_law.nd rfl rfl (sw_true rfl rfl rfl (by decide +kernel)) (im_seq (pm_var 6)) (blkOk_by (N := N_law) (sc := defScope s_law) (by decide +kernel)) (fun _ _ _ _ _ => gm_name sc_law.nd rfl (.inl rfl)) (fun _ _ _ _ _ => qms_nil) (fun _ _ _ _ _ => pm_callP (ok__law_shape T) (hr.mono (by decide)) (by rfl) T.F__law_shape.mg T.F__law_shape.kp T.F__law_shape.bi (am_cons (pm_var 9) (am_cons (pm_var 3) am_nil)))) (
  sm_cons (sm_if (qm_w (qm_or (qm_cmp (o_ne hr.u64) (pm_cmp (o_eq hr.u64) (pm_ix (pm_var 8) pm_int) (pm_ix (pm_var 8) pm_int)) (pm_cmp (o_eq hr.u64) (pm_ix (pm_var 10) pm_int) (pm_ix (pm_var 10) pm_int))) (qm_or1 (qm_cmp (o_ne hr.u64) (pm_ix (pm_var 8) pm_int) (pm_call (ok__law_code T) (hr.mono (by decide)) (by rfl) T.F__law_code.mg T.F__law_code.kp T.F__law_code.bi (am_cons (pm_ix (pm_var 4) pm_int) am_nil)))))) (
  sm_one (sm_ret pm_bl)) (
  sm_nil)) (
  sm_one (sm_for PassesOwn.never rfl (im_range1 (by rfl) T.n_range (am_cons pm_int am_nil)) (gm_name sc_law.nd rfl (.inl rfl)) (
  sm_cons (sm_if (qm_w (qm_or (qm_not (qm_val (pm_cb c_isi (by rfl) T.n_isinstance (by first | exact PySem.boot_isinstance | exact PyProof.Rows.boot_isinstance | exact boot_isinstance | decide +kernel) (am_cons (pm_ix (pm_var 8) (pm_var 11)) (am_cons (pm_bltn (by rfl) T.n_int (by first | exact PySem.boot_int | exact PyProof.Rows.boot_int | exact boot_int | decide +kernel)) am_nil))))) (qm_or1 (qm_val (pm_cb c_isi (by rfl) T.n_isinstance (by first | exact PySem.boot_isinstance | exact PyProof.Rows.boot_isinstance | exact boot_isinstance | decide +kernel) (am_cons (pm_ix (pm_var 8) (pm_var 11)) (am_cons (pm_bltn (by rfl) T.n_bool (by first | exact PySem.boot_bool | exact PyProof.Rows.boot_bool | exact boot_bool | decide +kernel)) am_nil))))))) (
  sm_one (sm_ret pm_bl)) (
  sm_nil)) (
  sm_cons (sm_if (qm_w (qm_or (qm_cmp o_lt (pm_ix (pm_var 8) (pm_var 11)) pm_int) (qm_or1 (qm_cmp o_ge (pm_ix (pm_var 8) (pm_var 11)) (pm_callP (ok_how_many T) (hr.mono (by decide)) (by rfl) T.F_how_many.mg T.F_how_many.kp T.F_how_many.bi (am_cons (pm_var 3) am_nil)))))) (
  sm_one (sm_ret pm_bl)) (
  sm_nil)) (
  sm_cons (sm_set sc_law.nd rfl (.inl rfl) (pm_callP (ok_sum_of T) (hr.mono (by decide)) (by rfl) T.F_sum_of.mg T.F_sum_of.kp T.F_sum_of.bi (am_cons (pm_var 3) (am_cons (pm_ix (pm_var 8) (pm_var 11)) am_nil)))) (
  sm_one (sm_if (qm_w (qm_or (qm_cmp (o_ne hr.u64) (pm_callP (ok__law_shape T) (hr.mono (by decide)) (by rfl) T.F__law_shape.mg T.F__law_shape.kp T.F__law_shape.bi (am_cons (pm_var 12) (am_cons (pm_var 3) am_nil))) (pm_ix (pm_var 10) (pm_var 11))) (qm_or1 (qm_cmp (o_ne hr.u64) (pm_callP (ok_tree_number T) (hr.mono (by decide)) (by rfl) T.F_tree_number.mg T.F_tree_number.kp T.F_tree_number.bi (am_cons (pm_var 12) am_nil)) (pm_ix (pm_var 8) (pm_var 11)))))) (
  sm_one (sm_ret pm_bl)) (
  sm_nil))))))))))))))))) (
  sm_one (sm_ret pm_bl)))
end
theorem all_mk {l : PySem.W.OpenLaw} {w : World} {K : PySem.W.Frag} {h : Heap} {mg : Str → Option Value} {fa : Addr} (X : K.In h) (G : h.Ns mainGlobals mg) (hfa : mg "law" = some (.ref fa))
    {f0 : Addr} {od0 an0 : Option Addr} {sl0 : Array (Option Value)} {oc0 kV0 dc0 pm0 cd0 ct0 : Value}
    (a0 : PySem.W.nsIn K mainGlobals "_law_feed" = some (some (.ref f0))) (l0 : K.lookup f0 = some ⟨oc0, od0, .func (PySem.W.fnOf "_law_feed" "_law_feed" (defArgs s__law_feed) (defBody s__law_feed) (defScope s__law_feed) .none kV0 dc0 pm0 an0 cd0 ct0), sl0⟩) (c0 : PySem.W.codeIn K cd0 "_law_feed" = true) (k0 : PySem.W.keepIn K (.ref f0) = true)
    {f1 : Addr} {od1 an1 : Option Addr} {sl1 : Array (Option Value)} {oc1 kV1 dc1 pm1 cd1 ct1 : Value}
    (a1 : PySem.W.nsIn K mainGlobals "_law_draw" = some (some (.ref f1))) (l1 : K.lookup f1 = some ⟨oc1, od1, .func (PySem.W.fnOf "_law_draw" "_law_draw" (defArgs s__law_draw) (defBody s__law_draw) (defScope s__law_draw) .none kV1 dc1 pm1 an1 cd1 ct1), sl1⟩) (c1 : PySem.W.codeIn K cd1 "_law_draw" = true) (k1 : PySem.W.keepIn K (.ref f1) = true)
    {f2 : Addr} {od2 an2 : Option Addr} {sl2 : Array (Option Value)} {oc2 kV2 dc2 pm2 cd2 ct2 : Value}
    (a2 : PySem.W.nsIn K mainGlobals "_law_one" = some (some (.ref f2))) (l2 : K.lookup f2 = some ⟨oc2, od2, .func (PySem.W.fnOf "_law_one" "_law_one" (defArgs s__law_one) (defBody s__law_one) (defScope s__law_one) .none kV2 dc2 pm2 an2 cd2 ct2), sl2⟩) (c2 : PySem.W.codeIn K cd2 "_law_one" = true) (k2 : PySem.W.keepIn K (.ref f2) = true)
    {f3 : Addr} {od3 an3 : Option Addr} {sl3 : Array (Option Value)} {oc3 kV3 dc3 pm3 cd3 ct3 : Value}
    (a3 : PySem.W.nsIn K mainGlobals "_law_codes" = some (some (.ref f3))) (l3 : K.lookup f3 = some ⟨oc3, od3, .func (PySem.W.fnOf "_law_codes" "_law_codes" (defArgs s__law_codes) (defBody s__law_codes) (defScope s__law_codes) .none kV3 dc3 pm3 an3 cd3 ct3), sl3⟩) (c3 : PySem.W.codeIn K cd3 "_law_codes" = true) (k3 : PySem.W.keepIn K (.ref f3) = true)
    {f4 : Addr} {od4 an4 : Option Addr} {sl4 : Array (Option Value)} {oc4 kV4 dc4 pm4 cd4 ct4 : Value}
    (a4 : PySem.W.nsIn K mainGlobals "_law_name" = some (some (.ref f4))) (l4 : K.lookup f4 = some ⟨oc4, od4, .func (PySem.W.fnOf "_law_name" "_law_name" (defArgs s__law_name) (defBody s__law_name) (defScope s__law_name) .none kV4 dc4 pm4 an4 cd4 ct4), sl4⟩) (c4 : PySem.W.codeIn K cd4 "_law_name" = true) (k4 : PySem.W.keepIn K (.ref f4) = true)
    {f5 : Addr} {od5 an5 : Option Addr} {sl5 : Array (Option Value)} {oc5 kV5 dc5 pm5 cd5 ct5 : Value}
    (a5 : PySem.W.nsIn K mainGlobals "_law_nodes" = some (some (.ref f5))) (l5 : K.lookup f5 = some ⟨oc5, od5, .func (PySem.W.fnOf "_law_nodes" "_law_nodes" (defArgs s__law_nodes) (defBody s__law_nodes) (defScope s__law_nodes) .none kV5 dc5 pm5 an5 cd5 ct5), sl5⟩) (c5 : PySem.W.codeIn K cd5 "_law_nodes" = true) (k5 : PySem.W.keepIn K (.ref f5) = true)
    {f6 : Addr} {od6 an6 : Option Addr} {sl6 : Array (Option Value)} {oc6 kV6 dc6 pm6 cd6 ct6 : Value}
    (a6 : PySem.W.nsIn K mainGlobals "_law_program" = some (some (.ref f6))) (l6 : K.lookup f6 = some ⟨oc6, od6, .func (PySem.W.fnOf "_law_program" "_law_program" (defArgs s__law_program) (defBody s__law_program) (defScope s__law_program) .none kV6 dc6 pm6 an6 cd6 ct6), sl6⟩) (c6 : PySem.W.codeIn K cd6 "_law_program" = true) (k6 : PySem.W.keepIn K (.ref f6) = true)
    {f7 : Addr} {od7 an7 : Option Addr} {sl7 : Array (Option Value)} {oc7 kV7 dc7 pm7 cd7 ct7 : Value}
    (a7 : PySem.W.nsIn K mainGlobals "sides_of" = some (some (.ref f7))) (l7 : K.lookup f7 = some ⟨oc7, od7, .func (PySem.W.fnOf "sides_of" "sides_of" (defArgs s_sides_of) (defBody s_sides_of) (defScope s_sides_of) .none kV7 dc7 pm7 an7 cd7 ct7), sl7⟩) (c7 : PySem.W.codeIn K cd7 "sides_of" = true) (k7 : PySem.W.keepIn K (.ref f7) = true)
    {f8 : Addr} {od8 an8 : Option Addr} {sl8 : Array (Option Value)} {oc8 kV8 dc8 pm8 cd8 ct8 : Value}
    (a8 : PySem.W.nsIn K mainGlobals "users_of" = some (some (.ref f8))) (l8 : K.lookup f8 = some ⟨oc8, od8, .func (PySem.W.fnOf "users_of" "users_of" (defArgs s_users_of) (defBody s_users_of) (defScope s_users_of) .none kV8 dc8 pm8 an8 cd8 ct8), sl8⟩) (c8 : PySem.W.codeIn K cd8 "users_of" = true) (k8 : PySem.W.keepIn K (.ref f8) = true)
    {f9 : Addr} {od9 an9 : Option Addr} {sl9 : Array (Option Value)} {oc9 kV9 dc9 pm9 cd9 ct9 : Value}
    (a9 : PySem.W.nsIn K mainGlobals "other_side" = some (some (.ref f9))) (l9 : K.lookup f9 = some ⟨oc9, od9, .func (PySem.W.fnOf "other_side" "other_side" (defArgs s_other_side) (defBody s_other_side) (defScope s_other_side) .none kV9 dc9 pm9 an9 cd9 ct9), sl9⟩) (c9 : PySem.W.codeIn K cd9 "other_side" = true) (k9 : PySem.W.keepIn K (.ref f9) = true)
    {f10 : Addr} {od10 an10 : Option Addr} {sl10 : Array (Option Value)} {oc10 kV10 dc10 pm10 cd10 ct10 : Value}
    (a10 : PySem.W.nsIn K mainGlobals "replace_side" = some (some (.ref f10))) (l10 : K.lookup f10 = some ⟨oc10, od10, .func (PySem.W.fnOf "replace_side" "replace_side" (defArgs s_replace_side) (defBody s_replace_side) (defScope s_replace_side) .none kV10 dc10 pm10 an10 cd10 ct10), sl10⟩) (c10 : PySem.W.codeIn K cd10 "replace_side" = true) (k10 : PySem.W.keepIn K (.ref f10) = true)
    {f11 : Addr} {od11 an11 : Option Addr} {sl11 : Array (Option Value)} {oc11 kV11 dc11 pm11 cd11 ct11 : Value}
    (a11 : PySem.W.nsIn K mainGlobals "tree_number" = some (some (.ref f11))) (l11 : K.lookup f11 = some ⟨oc11, od11, .func (PySem.W.fnOf "tree_number" "tree_number" (defArgs s_tree_number) (defBody s_tree_number) (defScope s_tree_number) .none kV11 dc11 pm11 an11 cd11 ct11), sl11⟩) (c11 : PySem.W.codeIn K cd11 "tree_number" = true) (k11 : PySem.W.keepIn K (.ref f11) = true)
    {f12 : Addr} {od12 an12 : Option Addr} {sl12 : Array (Option Value)} {oc12 kV12 dc12 pm12 cd12 ct12 : Value}
    (a12 : PySem.W.nsIn K mainGlobals "_law_sides" = some (some (.ref f12))) (l12 : K.lookup f12 = some ⟨oc12, od12, .func (PySem.W.fnOf "_law_sides" "_law_sides" (defArgs s__law_sides) (defBody s__law_sides) (defScope s__law_sides) .none kV12 dc12 pm12 an12 cd12 ct12), sl12⟩) (c12 : PySem.W.codeIn K cd12 "_law_sides" = true) (k12 : PySem.W.keepIn K (.ref f12) = true)
    {f13 : Addr} {od13 an13 : Option Addr} {sl13 : Array (Option Value)} {oc13 kV13 dc13 pm13 cd13 ct13 : Value}
    (a13 : PySem.W.nsIn K mainGlobals "_law_join" = some (some (.ref f13))) (l13 : K.lookup f13 = some ⟨oc13, od13, .func (PySem.W.fnOf "_law_join" "_law_join" (defArgs s__law_join) (defBody s__law_join) (defScope s__law_join) .none kV13 dc13 pm13 an13 cd13 ct13), sl13⟩) (c13 : PySem.W.codeIn K cd13 "_law_join" = true) (k13 : PySem.W.keepIn K (.ref f13) = true)
    {f14 : Addr} {od14 an14 : Option Addr} {sl14 : Array (Option Value)} {oc14 kV14 dc14 pm14 cd14 ct14 : Value}
    (a14 : PySem.W.nsIn K mainGlobals "_law_shape" = some (some (.ref f14))) (l14 : K.lookup f14 = some ⟨oc14, od14, .func (PySem.W.fnOf "_law_shape" "_law_shape" (defArgs s__law_shape) (defBody s__law_shape) (defScope s__law_shape) .none kV14 dc14 pm14 an14 cd14 ct14), sl14⟩) (c14 : PySem.W.codeIn K cd14 "_law_shape" = true) (k14 : PySem.W.keepIn K (.ref f14) = true)
    {f15 : Addr} {od15 an15 : Option Addr} {sl15 : Array (Option Value)} {oc15 kV15 dc15 pm15 cd15 ct15 : Value}
    (a15 : PySem.W.nsIn K mainGlobals "codes_of" = some (some (.ref f15))) (l15 : K.lookup f15 = some ⟨oc15, od15, .func (PySem.W.fnOf "codes_of" "codes_of" (defArgs s_codes_of) (defBody s_codes_of) (defScope s_codes_of) .none kV15 dc15 pm15 an15 cd15 ct15), sl15⟩) (c15 : PySem.W.codeIn K cd15 "codes_of" = true) (k15 : PySem.W.keepIn K (.ref f15) = true)
    {f16 : Addr} {od16 an16 : Option Addr} {sl16 : Array (Option Value)} {oc16 kV16 dc16 pm16 cd16 ct16 : Value}
    (a16 : PySem.W.nsIn K mainGlobals "sides_by" = some (some (.ref f16))) (l16 : K.lookup f16 = some ⟨oc16, od16, .func (PySem.W.fnOf "sides_by" "sides_by" (defArgs s_sides_by) (defBody s_sides_by) (defScope s_sides_by) .none kV16 dc16 pm16 an16 cd16 ct16), sl16⟩) (c16 : PySem.W.codeIn K cd16 "sides_by" = true) (k16 : PySem.W.keepIn K (.ref f16) = true)
    {f17 : Addr} {od17 an17 : Option Addr} {sl17 : Array (Option Value)} {oc17 kV17 dc17 pm17 cd17 ct17 : Value}
    (a17 : PySem.W.nsIn K mainGlobals "added" = some (some (.ref f17))) (l17 : K.lookup f17 = some ⟨oc17, od17, .func (PySem.W.fnOf "added" "added" (defArgs s_added) (defBody s_added) (defScope s_added) .none kV17 dc17 pm17 an17 cd17 ct17), sl17⟩) (c17 : PySem.W.codeIn K cd17 "added" = true) (k17 : PySem.W.keepIn K (.ref f17) = true)
    {f18 : Addr} {od18 an18 : Option Addr} {sl18 : Array (Option Value)} {oc18 kV18 dc18 pm18 cd18 ct18 : Value}
    (a18 : PySem.W.nsIn K mainGlobals "sum_of" = some (some (.ref f18))) (l18 : K.lookup f18 = some ⟨oc18, od18, .func (PySem.W.fnOf "sum_of" "sum_of" (defArgs s_sum_of) (defBody s_sum_of) (defScope s_sum_of) .none kV18 dc18 pm18 an18 cd18 ct18), sl18⟩) (c18 : PySem.W.codeIn K cd18 "sum_of" = true) (k18 : PySem.W.keepIn K (.ref f18) = true)
    {f19 : Addr} {od19 an19 : Option Addr} {sl19 : Array (Option Value)} {oc19 kV19 dc19 pm19 cd19 ct19 : Value}
    (a19 : PySem.W.nsIn K mainGlobals "_law_put" = some (some (.ref f19))) (l19 : K.lookup f19 = some ⟨oc19, od19, .func (PySem.W.fnOf "_law_put" "_law_put" (defArgs s__law_put) (defBody s__law_put) (defScope s__law_put) .none kV19 dc19 pm19 an19 cd19 ct19), sl19⟩) (c19 : PySem.W.codeIn K cd19 "_law_put" = true) (k19 : PySem.W.keepIn K (.ref f19) = true)
    {f20 : Addr} {od20 an20 : Option Addr} {sl20 : Array (Option Value)} {oc20 kV20 dc20 pm20 cd20 ct20 : Value}
    (a20 : PySem.W.nsIn K mainGlobals "_law_tree" = some (some (.ref f20))) (l20 : K.lookup f20 = some ⟨oc20, od20, .func (PySem.W.fnOf "_law_tree" "_law_tree" (defArgs s__law_tree) (defBody s__law_tree) (defScope s__law_tree) .none kV20 dc20 pm20 an20 cd20 ct20), sl20⟩) (c20 : PySem.W.codeIn K cd20 "_law_tree" = true) (k20 : PySem.W.keepIn K (.ref f20) = true)
    {f21 : Addr} {od21 an21 : Option Addr} {sl21 : Array (Option Value)} {oc21 kV21 dc21 pm21 cd21 ct21 : Value}
    (a21 : PySem.W.nsIn K mainGlobals "_law_code" = some (some (.ref f21))) (l21 : K.lookup f21 = some ⟨oc21, od21, .func (PySem.W.fnOf "_law_code" "_law_code" (defArgs s__law_code) (defBody s__law_code) (defScope s__law_code) .none kV21 dc21 pm21 an21 cd21 ct21), sl21⟩) (c21 : PySem.W.codeIn K cd21 "_law_code" = true) (k21 : PySem.W.keepIn K (.ref f21) = true)
    {f22 : Addr} {od22 an22 : Option Addr} {sl22 : Array (Option Value)} {oc22 kV22 dc22 pm22 cd22 ct22 : Value}
    (a22 : PySem.W.nsIn K mainGlobals "how_many" = some (some (.ref f22))) (l22 : K.lookup f22 = some ⟨oc22, od22, .func (PySem.W.fnOf "how_many" "how_many" (defArgs s_how_many) (defBody s_how_many) (defScope s_how_many) .none kV22 dc22 pm22 an22 cd22 ct22), sl22⟩) (c22 : PySem.W.codeIn K cd22 "how_many" = true) (k22 : PySem.W.keepIn K (.ref f22) = true)
    {f23 : Addr} {od23 an23 : Option Addr} {sl23 : Array (Option Value)} {oc23 kV23 dc23 pm23 cd23 ct23 : Value}
    (a23 : PySem.W.nsIn K mainGlobals "law" = some (some (.ref f23))) (l23 : K.lookup f23 = some ⟨oc23, od23, .func (PySem.W.fnOf "law" "law" (defArgs s_law) (defBody s_law) (defScope s_law) .none kV23 dc23 pm23 an23 cd23 ct23), sl23⟩) (c23 : PySem.W.codeIn K cd23 "law" = true) (k23 : PySem.W.keepIn K (.ref f23) = true)
    (z_abs : PySem.W.nsIn K mainGlobals "abs" = some none)
    (z_all : PySem.W.nsIn K mainGlobals "all" = some none)
    (z_bool : PySem.W.nsIn K mainGlobals "bool" = some none)
    (z_enumerate : PySem.W.nsIn K mainGlobals "enumerate" = some none)
    (z_int : PySem.W.nsIn K mainGlobals "int" = some none)
    (z_isinstance : PySem.W.nsIn K mainGlobals "isinstance" = some none)
    (z_len : PySem.W.nsIn K mainGlobals "len" = some none)
    (z_list : PySem.W.nsIn K mainGlobals "list" = some none)
    (z_max : PySem.W.nsIn K mainGlobals "max" = some none)
    (z_range : PySem.W.nsIn K mainGlobals "range" = some none)
    (z_repr : PySem.W.nsIn K mainGlobals "repr" = some none)
    (z_sorted : PySem.W.nsIn K mainGlobals "sorted" = some none)
    (z_str : PySem.W.nsIn K mainGlobals "str" = some none)
    (z_tuple : PySem.W.nsIn K mainGlobals "tuple" = some none)
    : ∃ fd : FuncData, (∀ (s : Shared) (u : Value), BindsTo s fd ⟨[u], []⟩ [("_law_script", u)]) ∧ ∀ base : Heap, K.In base → base.Ns mainGlobals mg → FnG l.prog w K mg base CX0 18 fa fd ["_law_script"] fun vs H Q _ => spM K 1 (fnM 1 13 b_law) vs H Q E0 := by
  have e := hfa.symm.trans (PySem.W.mg_of X G a23)
  cases e
  have F0 := fun_mk (st := s__law_feed) l0 c0 k0
  have b0 := F0.binds (ps := P__law_feed) fun _ _ _ _ _ _ us hl => match us, hl with | [_], _ => rfl
  have F1 := fun_mk (st := s__law_draw) l1 c1 k1
  have b1 := F1.binds (ps := P__law_draw) fun _ _ _ _ _ _ us hl => match us, hl with | [_, _], _ => rfl
  have F2 := fun_mk (st := s__law_one) l2 c2 k2
  have b2 := F2.binds (ps := P__law_one) fun _ _ _ _ _ _ us hl => match us, hl with | [_, _], _ => rfl
  have F3 := fun_mk (st := s__law_codes) l3 c3 k3
  have b3 := F3.binds (ps := P__law_codes) fun _ _ _ _ _ _ us hl => match us, hl with | [_, _], _ => rfl
  have F4 := fun_mk (st := s__law_name) l4 c4 k4
  have b4 := F4.binds (ps := P__law_name) fun _ _ _ _ _ _ us hl => match us, hl with | [_, _], _ => rfl
  have F5 := fun_mk (st := s__law_nodes) l5 c5 k5
  have b5 := F5.binds (ps := P__law_nodes) fun _ _ _ _ _ _ us hl => match us, hl with | [_, _], _ => rfl
  have F6 := fun_mk (st := s__law_program) l6 c6 k6
  have b6 := F6.binds (ps := P__law_program) fun _ _ _ _ _ _ us hl => match us, hl with | [_, _, _], _ => rfl
  have F7 := fun_mk (st := s_sides_of) l7 c7 k7
  have b7 := F7.binds (ps := P_sides_of) fun _ _ _ _ _ _ us hl => match us, hl with | [_], _ => rfl
  have F8 := fun_mk (st := s_users_of) l8 c8 k8
  have b8 := F8.binds (ps := P_users_of) fun _ _ _ _ _ _ us hl => match us, hl with | [_], _ => rfl
  have F9 := fun_mk (st := s_other_side) l9 c9 k9
  have b9 := F9.binds (ps := P_other_side) fun _ _ _ _ _ _ us hl => match us, hl with | [_, _], _ => rfl
  have F10 := fun_mk (st := s_replace_side) l10 c10 k10
  have b10 := F10.binds (ps := P_replace_side) fun _ _ _ _ _ _ us hl => match us, hl with | [_, _, _, _], _ => rfl
  have F11 := fun_mk (st := s_tree_number) l11 c11 k11
  have b11 := F11.binds (ps := P_tree_number) fun _ _ _ _ _ _ us hl => match us, hl with | [_], _ => rfl
  have F12 := fun_mk (st := s__law_sides) l12 c12 k12
  have b12 := F12.binds (ps := P__law_sides) fun _ _ _ _ _ _ us hl => match us, hl with | [_, _], _ => rfl
  have F13 := fun_mk (st := s__law_join) l13 c13 k13
  have b13 := F13.binds (ps := P__law_join) fun _ _ _ _ _ _ us hl => match us, hl with | [_, _], _ => rfl
  have F14 := fun_mk (st := s__law_shape) l14 c14 k14
  have b14 := F14.binds (ps := P__law_shape) fun _ _ _ _ _ _ us hl => match us, hl with | [_, _], _ => rfl
  have F15 := fun_mk (st := s_codes_of) l15 c15 k15
  have b15 := F15.binds (ps := P_codes_of) fun _ _ _ _ _ _ us hl => match us, hl with | [_, _], _ => rfl
  have F16 := fun_mk (st := s_sides_by) l16 c16 k16
  have b16 := F16.binds (ps := P_sides_by) fun _ _ _ _ _ _ us hl => match us, hl with | [_, _], _ => rfl
  have F17 := fun_mk (st := s_added) l17 c17 k17
  have b17 := F17.binds (ps := P_added) fun _ _ _ _ _ _ us hl => match us, hl with | [_, _], _ => rfl
  have F18 := fun_mk (st := s_sum_of) l18 c18 k18
  have b18 := F18.binds (ps := P_sum_of) fun _ _ _ _ _ _ us hl => match us, hl with | [_, _], _ => rfl
  have F19 := fun_mk (st := s__law_put) l19 c19 k19
  have b19 := F19.binds (ps := P__law_put) fun _ _ _ _ _ _ us hl => match us, hl with | [_, _, _], _ => rfl
  have F20 := fun_mk (st := s__law_tree) l20 c20 k20
  have b20 := F20.binds (ps := P__law_tree) fun _ _ _ _ _ _ us hl => match us, hl with | [_], _ => rfl
  have F21 := fun_mk (st := s__law_code) l21 c21 k21
  have b21 := F21.binds (ps := P__law_code) fun _ _ _ _ _ _ us hl => match us, hl with | [_], _ => rfl
  have F22 := fun_mk (st := s_how_many) l22 c22 k22
  have b22 := F22.binds (ps := P_how_many) fun _ _ _ _ _ _ us hl => match us, hl with | [_], _ => rfl
  have F23 := fun_mk (st := s_law) l23 c23 k23
  have b23 := F23.binds (ps := P_law) fun _ _ _ _ _ _ us hl => match us, hl with | [_], _ => rfl
  let A : Ad := ⟨f0, PySem.W.fnOf "_law_feed" "_law_feed" (defArgs s__law_feed) (defBody s__law_feed) (defScope s__law_feed) .none kV0 dc0 pm0 an0 cd0 ct0, f1, PySem.W.fnOf "_law_draw" "_law_draw" (defArgs s__law_draw) (defBody s__law_draw) (defScope s__law_draw) .none kV1 dc1 pm1 an1 cd1 ct1, f2, PySem.W.fnOf "_law_one" "_law_one" (defArgs s__law_one) (defBody s__law_one) (defScope s__law_one) .none kV2 dc2 pm2 an2 cd2 ct2, f3, PySem.W.fnOf "_law_codes" "_law_codes" (defArgs s__law_codes) (defBody s__law_codes) (defScope s__law_codes) .none kV3 dc3 pm3 an3 cd3 ct3, f4, PySem.W.fnOf "_law_name" "_law_name" (defArgs s__law_name) (defBody s__law_name) (defScope s__law_name) .none kV4 dc4 pm4 an4 cd4 ct4, f5, PySem.W.fnOf "_law_nodes" "_law_nodes" (defArgs s__law_nodes) (defBody s__law_nodes) (defScope s__law_nodes) .none kV5 dc5 pm5 an5 cd5 ct5, f6, PySem.W.fnOf "_law_program" "_law_program" (defArgs s__law_program) (defBody s__law_program) (defScope s__law_program) .none kV6 dc6 pm6 an6 cd6 ct6, f7, PySem.W.fnOf "sides_of" "sides_of" (defArgs s_sides_of) (defBody s_sides_of) (defScope s_sides_of) .none kV7 dc7 pm7 an7 cd7 ct7, f8, PySem.W.fnOf "users_of" "users_of" (defArgs s_users_of) (defBody s_users_of) (defScope s_users_of) .none kV8 dc8 pm8 an8 cd8 ct8, f9, PySem.W.fnOf "other_side" "other_side" (defArgs s_other_side) (defBody s_other_side) (defScope s_other_side) .none kV9 dc9 pm9 an9 cd9 ct9, f10, PySem.W.fnOf "replace_side" "replace_side" (defArgs s_replace_side) (defBody s_replace_side) (defScope s_replace_side) .none kV10 dc10 pm10 an10 cd10 ct10, f11, PySem.W.fnOf "tree_number" "tree_number" (defArgs s_tree_number) (defBody s_tree_number) (defScope s_tree_number) .none kV11 dc11 pm11 an11 cd11 ct11, f12, PySem.W.fnOf "_law_sides" "_law_sides" (defArgs s__law_sides) (defBody s__law_sides) (defScope s__law_sides) .none kV12 dc12 pm12 an12 cd12 ct12, f13, PySem.W.fnOf "_law_join" "_law_join" (defArgs s__law_join) (defBody s__law_join) (defScope s__law_join) .none kV13 dc13 pm13 an13 cd13 ct13, f14, PySem.W.fnOf "_law_shape" "_law_shape" (defArgs s__law_shape) (defBody s__law_shape) (defScope s__law_shape) .none kV14 dc14 pm14 an14 cd14 ct14, f15, PySem.W.fnOf "codes_of" "codes_of" (defArgs s_codes_of) (defBody s_codes_of) (defScope s_codes_of) .none kV15 dc15 pm15 an15 cd15 ct15, f16, PySem.W.fnOf "sides_by" "sides_by" (defArgs s_sides_by) (defBody s_sides_by) (defScope s_sides_by) .none kV16 dc16 pm16 an16 cd16 ct16, f17, PySem.W.fnOf "added" "added" (defArgs s_added) (defBody s_added) (defScope s_added) .none kV17 dc17 pm17 an17 cd17 ct17, f18, PySem.W.fnOf "sum_of" "sum_of" (defArgs s_sum_of) (defBody s_sum_of) (defScope s_sum_of) .none kV18 dc18 pm18 an18 cd18 ct18, f19, PySem.W.fnOf "_law_put" "_law_put" (defArgs s__law_put) (defBody s__law_put) (defScope s__law_put) .none kV19 dc19 pm19 an19 cd19 ct19, f20, PySem.W.fnOf "_law_tree" "_law_tree" (defArgs s__law_tree) (defBody s__law_tree) (defScope s__law_tree) .none kV20 dc20 pm20 an20 cd20 ct20, f21, PySem.W.fnOf "_law_code" "_law_code" (defArgs s__law_code) (defBody s__law_code) (defScope s__law_code) .none kV21 dc21 pm21 an21 cd21 ct21, f22, PySem.W.fnOf "how_many" "how_many" (defArgs s_how_many) (defBody s_how_many) (defScope s_how_many) .none kV22 dc22 pm22 an22 cd22 ct22, fa, PySem.W.fnOf "law" "law" (defArgs s_law) (defBody s_law) (defScope s_law) .none kV23 dc23 pm23 an23 cd23 ct23⟩
  have T : Txt K mg A := ⟨⟨F0, PySem.W.mg_of X G a0, k0, b0⟩, ⟨F1, PySem.W.mg_of X G a1, k1, b1⟩, ⟨F2, PySem.W.mg_of X G a2, k2, b2⟩, ⟨F3, PySem.W.mg_of X G a3, k3, b3⟩, ⟨F4, PySem.W.mg_of X G a4, k4, b4⟩, ⟨F5, PySem.W.mg_of X G a5, k5, b5⟩, ⟨F6, PySem.W.mg_of X G a6, k6, b6⟩, ⟨F7, PySem.W.mg_of X G a7, k7, b7⟩, ⟨F8, PySem.W.mg_of X G a8, k8, b8⟩, ⟨F9, PySem.W.mg_of X G a9, k9, b9⟩, ⟨F10, PySem.W.mg_of X G a10, k10, b10⟩, ⟨F11, PySem.W.mg_of X G a11, k11, b11⟩, ⟨F12, PySem.W.mg_of X G a12, k12, b12⟩, ⟨F13, PySem.W.mg_of X G a13, k13, b13⟩, ⟨F14, PySem.W.mg_of X G a14, k14, b14⟩, ⟨F15, PySem.W.mg_of X G a15, k15, b15⟩, ⟨F16, PySem.W.mg_of X G a16, k16, b16⟩, ⟨F17, PySem.W.mg_of X G a17, k17, b17⟩, ⟨F18, PySem.W.mg_of X G a18, k18, b18⟩, ⟨F19, PySem.W.mg_of X G a19, k19, b19⟩, ⟨F20, PySem.W.mg_of X G a20, k20, b20⟩, ⟨F21, PySem.W.mg_of X G a21, k21, b21⟩, ⟨F22, PySem.W.mg_of X G a22, k22, b22⟩, ⟨F23, PySem.W.mg_of X G a23, k23, b23⟩, PySem.W.mg_none_of X G z_abs, PySem.W.mg_none_of X G z_all, PySem.W.mg_none_of X G z_bool, PySem.W.mg_none_of X G z_enumerate, PySem.W.mg_none_of X G z_int, PySem.W.mg_none_of X G z_isinstance, PySem.W.mg_none_of X G z_len, PySem.W.mg_none_of X G z_list, PySem.W.mg_none_of X G z_max, PySem.W.mg_none_of X G z_range, PySem.W.mg_none_of X G z_repr, PySem.W.mg_none_of X G z_sorted, PySem.W.mg_none_of X G z_str, PySem.W.mg_none_of X G z_tuple⟩
  exact ⟨A.d_law, fun s v => .of_eq rfl, fun base _ _ => ok_law T⟩
theorem fin {l : PySem.W.OpenLaw} {w : World} {K : PySem.W.Frag} {mg : Str → Option Value} {fa : Addr} (hlaw : ∀ ns : List Int, ns.length ≤ 63 → ∃ S, fnM 1 13 b_law [.kl (ns.map D.int)] [] = .ok (.bl true) S)
    (hh : ∃ fd : FuncData, (∀ (s : Shared) (u : Value), BindsTo s fd ⟨[u], []⟩ [("_law_script", u)]) ∧ ∀ base : Heap, K.In base → base.Ns mainGlobals mg → FnG l.prog w K mg base CX0 18 fa fd ["_law_script"] fun vs H Q _ => spM K 1 (fnM 1 13 b_law) vs H Q E0) :
    ∃ fd : FuncData, (∀ (s : Shared) (u : Value), BindsTo s fd ⟨[u], []⟩ [("_law_script", u)]) ∧ ∃ b : MS, (∀ ns : List Int, ns.length ≤ 63 → ∃ S, fnM 1 13 b [.kl (ns.map D.int)] [] = .ok (.bl true) S) ∧
        ∀ base : Heap, K.In base → base.Ns mainGlobals mg → FnG l.prog w K mg base CX0 18 fa fd ["_law_script"] fun vs H Q _ => spM K 1 (fnM 1 13 b) vs H Q E0 :=
  let ⟨fd, h1, h2⟩ := hh
  ⟨fd, h1, b_law, hlaw, h2⟩
end K66

open PySem PySem.W PyProof.Rows
set_option maxRecDepth 100000 in
set_option maxHeartbeats 0 in
theorem PySem.Challenge.cw_everyround_k66_whole_numbers_of_sum_tree_holds : PySem.Challenge.rw_everyround_k66_whole_numbers_of_sum_tree.Holds := by
  w_on; o_law; k_head; (case hw => w_witness2)
  k_fill
  refine Mo.walk_G (l := PySem.Challenge.rw_everyround_k66_whole_numbers_of_sum_tree) (k := 18) (np := 1) (nn := 13) (x := "_law_script") rfl rfl ⟨rfl, by decide, by decide⟩ (fun w h Y => PySem.W.kIn_of Y) ?F
  case F =>
    intro w mg fa h KX G hmg
    refine K66.fin (l := PySem.Challenge.rw_everyround_k66_whole_numbers_of_sum_tree) (w := w) K66.law_true ?_
    refine' K66.all_mk KX G hmg ?a0 ?l0 ?c0 ?k0 ?a1 ?l1 ?c1 ?k1 ?a2 ?l2 ?c2 ?k2 ?a3 ?l3 ?c3 ?k3 ?a4 ?l4 ?c4 ?k4 ?a5 ?l5 ?c5 ?k5 ?a6 ?l6 ?c6 ?k6 ?a7 ?l7 ?c7 ?k7 ?a8 ?l8 ?c8 ?k8 ?a9 ?l9 ?c9 ?k9 ?a10 ?l10 ?c10 ?k10 ?a11 ?l11 ?c11 ?k11 ?a12 ?l12 ?c12 ?k12 ?a13 ?l13 ?c13 ?k13 ?a14 ?l14 ?c14 ?k14 ?a15 ?l15 ?c15 ?k15 ?a16 ?l16 ?c16 ?k16 ?a17 ?l17 ?c17 ?k17 ?a18 ?l18 ?c18 ?k18 ?a19 ?l19 ?c19 ?k19 ?a20 ?l20 ?c20 ?k20 ?a21 ?l21 ?c21 ?k21 ?a22 ?l22 ?c22 ?k22 ?a23 ?l23 ?c23 ?k23 ?z_abs ?z_all ?z_bool ?z_enumerate ?z_int ?z_isinstance ?z_len ?z_list ?z_max ?z_range ?z_repr ?z_sorted ?z_str ?z_tuple
    (case a0 => k_is)
    (case l0 => k_is)
    (case c0 => k_is)
    (case k0 => k_is)
    (case a1 => k_is)
    (case l1 => k_is)
    (case c1 => k_is)
    (case k1 => k_is)
    (case a2 => k_is)
    (case l2 => k_is)
    (case c2 => k_is)
    (case k2 => k_is)
    (case a3 => k_is)
    (case l3 => k_is)
    (case c3 => k_is)
    (case k3 => k_is)
    (case a4 => k_is)
    (case l4 => k_is)
    (case c4 => k_is)
    (case k4 => k_is)
    (case a5 => k_is)
    (case l5 => k_is)
    (case c5 => k_is)
    (case k5 => k_is)
    (case a6 => k_is)
    (case l6 => k_is)
    (case c6 => k_is)
    (case k6 => k_is)
    (case a7 => k_is)
    (case l7 => k_is)
    (case c7 => k_is)
    (case k7 => k_is)
    (case a8 => k_is)
    (case l8 => k_is)
    (case c8 => k_is)
    (case k8 => k_is)
    (case a9 => k_is)
    (case l9 => k_is)
    (case c9 => k_is)
    (case k9 => k_is)
    (case a10 => k_is)
    (case l10 => k_is)
    (case c10 => k_is)
    (case k10 => k_is)
    (case a11 => k_is)
    (case l11 => k_is)
    (case c11 => k_is)
    (case k11 => k_is)
    (case a12 => k_is)
    (case l12 => k_is)
    (case c12 => k_is)
    (case k12 => k_is)
    (case a13 => k_is)
    (case l13 => k_is)
    (case c13 => k_is)
    (case k13 => k_is)
    (case a14 => k_is)
    (case l14 => k_is)
    (case c14 => k_is)
    (case k14 => k_is)
    (case a15 => k_is)
    (case l15 => k_is)
    (case c15 => k_is)
    (case k15 => k_is)
    (case a16 => k_is)
    (case l16 => k_is)
    (case c16 => k_is)
    (case k16 => k_is)
    (case a17 => k_is)
    (case l17 => k_is)
    (case c17 => k_is)
    (case k17 => k_is)
    (case a18 => k_is)
    (case l18 => k_is)
    (case c18 => k_is)
    (case k18 => k_is)
    (case a19 => k_is)
    (case l19 => k_is)
    (case c19 => k_is)
    (case k19 => k_is)
    (case a20 => k_is)
    (case l20 => k_is)
    (case c20 => k_is)
    (case k20 => k_is)
    (case a21 => k_is)
    (case l21 => k_is)
    (case c21 => k_is)
    (case k21 => k_is)
    (case a22 => k_is)
    (case l22 => k_is)
    (case c22 => k_is)
    (case k22 => k_is)
    (case a23 => k_is)
    (case l23 => k_is)
    (case c23 => k_is)
    (case k23 => k_is)
    (case z_abs => k_is)
    (case z_all => k_is)
    (case z_bool => k_is)
    (case z_enumerate => k_is)
    (case z_int => k_is)
    (case z_isinstance => k_is)
    (case z_len => k_is)
    (case z_list => k_is)
    (case z_max => k_is)
    (case z_range => k_is)
    (case z_repr => k_is)
    (case z_sorted => k_is)
    (case z_str => k_is)
    (case z_tuple => k_is)

